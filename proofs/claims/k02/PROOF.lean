import PyProof.Rows.All
import Wide.All
import OpenK.AllK
import Wide.FinOn
import HandS.ForMost
import HandS.ForExc
import HandS.Comp
import HandS.Wide
import HandS.SortInts
import HandS.IsInst
import HandS.TryOnly
import HandS.ExcIs
import HandS.ExcField
import HandS.Deep
import HandS.SetFor
import HandS.Small
import HandS.EndBits
import PySem.Challenge.RW_stillheap_k02_values_as_data
set_option Elab.async false
set_option linter.all false
set_option maxRecDepth 100000
set_option maxHeartbeats 4000000
set_option autoImplicit false
/-! Mi: programs as plain functions over a store of numbered objects; each rule says that the text does what the function tells. -/
namespace Mi
open PySem PySem.Spec L2

/-- an object of the store; a reference in it is a place of the store -/
inductive Ob where
  | lst (xs : List V) | tup (xs : List V) | dK (kvs : List (Key × V)) | dT (kvs : List (List Key × V))
  | ins (c : Nat) (fs : List (Option V)) | exc (c : Nat) (d : Option V) | lck (o : Ob)
  deriving DecidableEq
abbrev Sto := List Ob
/-- how an expression ends -/
inductive R (α : Type) where
  | ok (a : α) (S : Sto) | exc (c : Nat) (d : Option V) (S : Sto) | bad
/-- how a statement ends -/
inductive RS where
  | nx (σ : St) (S : Sto) | rt (v : V) (S : Sto) | bk (σ : St) (S : Sto) | ct (σ : St) (S : Sto) | exc (c : Nat) (d : Option V) (σ : St) (S : Sto) | bad
abbrev ME := St → Sto → R V
abbrev MT := St → Sto → R Bool
abbrev MA := St → Sto → R (List V)
abbrev MS := St → Sto → RS

/-! ### the store and the heap -/
def VR (ρ : List Addr) : V → V → Prop
  | .ref i, w => ∃ a, ρ[i]? = some a ∧ w = .ref a
  | v, w => w = v
def OR (ρ : List Addr) : Option V → Option V → Prop
  | none, _ => True
  | some v, some w => VR ρ v w
  | some _, none => False
abbrev VsR (ρ : List Addr) : List V → List V → Prop := Paired (VR ρ)
abbrev LR (ρ : List Addr) : St → St → Prop := Paired (OR ρ)
abbrev FR {κ : Type} (ρ : List Addr) : List (κ × V) → List (κ × V) → Prop := Paired fun p q => p.1 = q.1 ∧ VR ρ p.2 q.2
/-- what is fixed: the written part, the module's names; the classes with their attributes' names in order; the classes of exceptions -/
structure Gm where
  K : PySem.W.Frag
  mg : Str → Option Value
  cs : List (Str × List Str)
  xs : List Str
def Gm.cls (G : Gm) (c : Nat) (C : Addr) : Prop := ∃ x L, G.cs[c]? = some (x, L) ∧ G.mg x = some (.ref C)
def Gm.xcls (G : Gm) (c : Nat) (C : Addr) : Prop := ∃ x, G.xs[c]? = some x ∧ G.mg x = some (.ref C)
/-- the attributes of an instance, in the class's order -/
structure AR (ρ : List Addr) (L : List Str) (fs : List (Option V)) (gs : List (Str × V)) : Prop where
  len : fs.length = L.length
  at_ : ∀ (j : Nat) (x : Str) (v : V), L[j]? = some x → fs[j]? = some (some v) → ∃ w, gs.lookup x = some w ∧ VR ρ v w
  nd : (gs.map (·.1)).Nodup
  sub : ∀ x ∈ gs.map (·.1), x ∈ L
/-- what is told of an exception object -/
def ExK (C : Addr) (d : Option Addr) (a : Addr) : HO := .ext fun h => ∃ (oe : Obj) (vs : Array Value), h.get? a = some oe ∧ oe.cls = .ref C ∧ oe.dict = d ∧ oe.data = .fields vs
/-- an exception's own dict: none, or its one field "row" -/
def DR (ρ : List Addr) (H : Hp) : Option V → Option Addr → Prop
  | none, d => d = none
  | some v, d => ∃ a w, d = some a ∧ VR ρ v w ∧ H a = some (.xd [(("row" : Str), w)])
def ObU (G : Gm) (ρ : List Addr) (H : Hp) (a : Addr) : Ob → HO → Prop
  | .lst xs, u => ∃ ys, u = .lst ys ∧ VsR ρ xs ys
  | .tup xs, u => ∃ ys, u = .tup ys ∧ VsR ρ xs ys
  | .dK kvs, u => ∃ vs, u = .dK vs ∧ FR ρ kvs vs
  | .dT kvs, u => ∃ vs, u = .dT vs ∧ FR ρ kvs vs
  | .ins c fs, u => ∃ x L C dx gs, G.cs[c]? = some (x, L) ∧ G.mg x = some (.ref C) ∧ u = .ins C dx gs ∧ AR ρ L fs gs
  | .exc c d, u => ∃ C dd, G.xcls c C ∧ u = ExK C dd a ∧ DR ρ H d dd
  | .lck o, u => ∃ ob u', u = .frz ob u' ∧ ObU G ρ H a o u'
structure Rep (G : Gm) (ρ : List Addr) (S : Sto) (H : Hp) : Prop where
  nd : ρ.Nodup
  len : ρ.length = S.length
  at_ : ∀ (i : Nat) (o : Ob) (a : Addr), S[i]? = some o → ρ[i]? = some a → ∃ u, H a = some u ∧ ObU G ρ H a o u

section
variable {G : Gm} {ρ ρ' : List Addr} {S S' : Sto} {H H' : Hp} {v w : V} {a : Addr} {o : Ob} {u : HO} {i : Nat}
theorem VR.mono (h : VR ρ v w) (p : ρ <+: ρ') : VR ρ' v w := by
  cases v with
  | ref i =>
    obtain ⟨a, e, r⟩ := h
    exact ⟨a, (List.prefix_iff_getElem?.mp p i (List.getElem?_eq_some_iff.mp e).1).trans (by rw [List.getElem?_eq_getElem (List.getElem?_eq_some_iff.mp e).1] at e; exact e), r⟩
  | _ => exact h
theorem OR.mono {x y : Option V} (h : OR ρ x y) (p : ρ <+: ρ') : OR ρ' x y := by
  cases x with
  | none => trivial
  | some v =>
    cases y with
    | none => exact h
    | some w => exact VR.mono (v := v) (w := w) h p
theorem VsR.mono {xs ys : List V} (h : VsR ρ xs ys) (p : ρ <+: ρ') : VsR ρ' xs ys := Paired.mapP h fun _ _ r => r.mono p
theorem LR.mono {xs ys : St} (h : LR ρ xs ys) (p : ρ <+: ρ') : LR ρ' xs ys := Paired.mapP h fun _ _ r => r.mono p
theorem FR.mono {κ : Type} {xs ys : List (κ × V)} (h : FR ρ xs ys) (p : ρ <+: ρ') : FR ρ' xs ys := Paired.mapP h fun _ _ r => ⟨r.1, r.2.mono p⟩
theorem DR.mono {d : Option V} {dd : Option Addr} (h : DR ρ H d dd) (p : ρ <+: ρ') (k : ∀ b fs, H b = some (.xd fs) → H' b = some (.xd fs)) : DR ρ' H' d dd := by
  cases d with
  | none => exact h
  | some v =>
    obtain ⟨b, w, e, r, q⟩ := h
    exact ⟨b, w, e, r.mono p, k _ _ q⟩
theorem AR.mono {L : List Str} {fs : List (Option V)} {gs : List (Str × V)} (h : AR ρ L fs gs) (p : ρ <+: ρ') : AR ρ' L fs gs :=
  ⟨h.len, fun j x v e1 e2 => let ⟨w, e, r⟩ := h.at_ j x v e1 e2; ⟨w, e, r.mono p⟩, h.nd, h.sub⟩
theorem ObU.mono (p : ρ <+: ρ') (k : ∀ b fs, H b = some (.xd fs) → H' b = some (.xd fs)) : ∀ {o : Ob} {u : HO}, ObU G ρ H a o u → ObU G ρ' H' a o u
  | .lst _, _, ⟨ys, e, r⟩ => ⟨ys, e, VsR.mono r p⟩
  | .tup _, _, ⟨ys, e, r⟩ => ⟨ys, e, VsR.mono r p⟩
  | .dK _, _, ⟨ys, e, r⟩ => ⟨ys, e, FR.mono r p⟩
  | .dT _, _, ⟨ys, e, r⟩ => ⟨ys, e, FR.mono r p⟩
  | .ins _ _, _, ⟨x, L, C, dx, gs, m, n, e, r⟩ => ⟨x, L, C, dx, gs, m, n, e, r.mono p⟩
  | .exc _ _, _, ⟨C, dd, m, e, r⟩ => ⟨C, dd, m, e, DR.mono r p k⟩
  | .lck _, _, ⟨ob, u', e, r⟩ => ⟨ob, u', e, ObU.mono p k r⟩
theorem pre_get (p : ρ <+: ρ') (e : ρ[i]? = some a) : ρ'[i]? = some a := by
  have h := (VR.mono (v := .ref i) (w := .ref a) ⟨a, e, rfl⟩ p)
  obtain ⟨b, e', r⟩ := h
  cases r
  exact e'
theorem Rep.addr (r : Rep G ρ S H) (h : S[i]? = some o) : ∃ a, ρ[i]? = some a := by
  have := (List.getElem?_eq_some_iff.mp h).1
  exact ⟨_, List.getElem?_eq_getElem (by rw [r.len]; exact this)⟩
theorem Rep.obj (r : Rep G ρ S H) (e : ρ[i]? = some a) : ∃ o, S[i]? = some o := by
  have := (List.getElem?_eq_some_iff.mp e).1
  exact ⟨_, List.getElem?_eq_getElem (by rw [← r.len]; exact this)⟩
theorem Rep.tracked (r : Rep G ρ S H) (e : a ∈ ρ) : ∃ u, H a = some u := by
  obtain ⟨i, hi, e⟩ := List.mem_iff_getElem.mp e
  have e' : ρ[i]? = some a := by rw [List.getElem?_eq_getElem hi, e]
  obtain ⟨o, ho⟩ := r.obj e'
  obtain ⟨u, h, _⟩ := r.at_ i o a ho e'
  exact ⟨u, h⟩
theorem Rep.fresh (r : Rep G ρ S H) (n : H a = none) : a ∉ ρ := fun h => by
  obtain ⟨u, e⟩ := r.tracked h
  rw [n] at e
  cases e
/-- what is in the store stands in another heap -/
theorem Rep.heap (r : Rep G ρ S H) (k : ∀ b u, H b = some u → H' b = some u) : Rep G ρ S H' :=
  ⟨r.nd, r.len, fun i o a h e => by
    obtain ⟨u, q, x⟩ := r.at_ i o a h e
    exact ⟨u, k _ _ q, x.mono (List.prefix_refl _) fun b fs z => k _ _ z⟩⟩
/-- something new beside the store -/
theorem Rep.beside (r : Rep G ρ S H) (n : H a = none) : Rep G ρ S (upd H a u) := r.heap fun b u q => by rw [upd_ne (ne_of_none q n)]; exact q
/-- a new object -/
theorem Rep.alloc (r : Rep G ρ S H) (n : H a = none) (x : ObU G (ρ ++ [a]) (upd H a u) a o u) : Rep G (ρ ++ [a]) (S ++ [o]) (upd H a u) := by
  refine ⟨?_, by simp [r.len], fun i o' a' h e => ?_⟩
  · rw [List.nodup_append]
    exact ⟨r.nd, by simp, fun b hb c hc => by
      rw [List.mem_singleton] at hc
      subst hc
      exact fun z => r.fresh n (z ▸ hb)⟩
  · by_cases hi : i < S.length
    · rw [List.getElem?_append_left hi] at h
      rw [List.getElem?_append_left (by rw [r.len]; exact hi)] at e
      obtain ⟨u', q, y⟩ := r.at_ i o' a' h e
      refine ⟨u', by rw [upd_ne (ne_of_none q n)]; exact q, y.mono (List.prefix_append _ _) fun b fs z => by rw [upd_ne (ne_of_none z n)]; exact z⟩
    · rw [List.getElem?_append_right (by omega)] at h
      rw [List.getElem?_append_right (by rw [r.len]; omega)] at e
      have e0 : i - S.length = 0 := by
        have := (List.getElem?_eq_some_iff.mp h).1
        simp at this
        omega
      rw [e0] at h
      rw [r.len, e0] at e
      cases h
      cases e
      exact ⟨u, upd_same, x⟩
/-- an object written -/
theorem Rep.write (r : Rep G ρ S H) (h : S[i]? = some o) (e : ρ[i]? = some a) (nx : ∀ fs, H a ≠ some (.xd fs)) {o' : Ob} {u' : HO} (x : ObU G ρ (upd H a u') a o' u') : Rep G ρ (S.set i o') (upd H a u') := by
  refine ⟨r.nd, by rw [List.length_set]; exact r.len, fun j oj b hj ej => ?_⟩
  by_cases z : j = i
  · subst z
    rw [List.getElem?_set_self (List.getElem?_eq_some_iff.mp h).1] at hj
    cases hj
    rw [e] at ej
    cases ej
    exact ⟨u', upd_same, x⟩
  · rw [List.getElem?_set_ne (Ne.symm z)] at hj
    have ne : b ≠ a := fun q => z (by
      subst q
      have h1 := List.getElem?_eq_some_iff.mp ej
      have h2 := List.getElem?_eq_some_iff.mp e
      exact (List.getElem_inj r.nd).mp (h1.2.trans h2.2.symm))
    obtain ⟨u, q, y⟩ := r.at_ j oj b hj ej
    exact ⟨u, by rw [upd_ne ne]; exact q, y.mono (List.prefix_refl _) fun c fs z' => by rw [upd_ne (fun q => nx fs (by rw [← q]; exact z'))]; exact z'⟩
theorem Rep.ref (r : Rep G ρ S H) (h : S[i]? = some o) (x : VR ρ (.ref i) w) : ∃ a u, w = .ref a ∧ ρ[i]? = some a ∧ H a = some u ∧ ObU G ρ H a o u := by
  obtain ⟨a, e, q⟩ := x
  obtain ⟨u, hu, y⟩ := r.at_ i o a h e
  exact ⟨a, u, q, e, hu, y⟩
end
/-- Paired's parts -/
theorem prd_get {α β : Type} {F : α → β → Prop} : ∀ {xs : List α} {ys : List β} {i : Nat} {x : α}, Paired F xs ys → xs[i]? = some x → ∃ y, ys[i]? = some y ∧ F x y
  | _, _, _, _, .nil, e => by simp at e
  | _, _, 0, _, .cons r _, e => by simp at e; subst e; exact ⟨_, rfl, r⟩
  | _, _, i + 1, x, .cons _ t, e => by
    obtain ⟨u, h1, h2⟩ := prd_get (i := i) (x := x) t (by simpa using e)
    exact ⟨u, by simpa using h1, h2⟩
theorem prd_len {α β : Type} {F : α → β → Prop} : ∀ {xs : List α} {ys : List β}, Paired F xs ys → xs.length = ys.length
  | _, _, .nil => rfl
  | _, _, .cons _ t => by rw [List.length_cons, List.length_cons, prd_len t]
theorem prd_set {α β : Type} {F : α → β → Prop} {x : α} {y : β} (r : F x y) : ∀ {xs : List α} {ys : List β} (i : Nat), Paired F xs ys → Paired F (xs.set i x) (ys.set i y)
  | _, _, _, .nil => .nil
  | _, _, 0, .cons _ t => .cons r t
  | _, _, i + 1, .cons q t => .cons q (prd_set r i t)
theorem prd_app {α β : Type} {F : α → β → Prop} : ∀ {xs xs' : List α} {ys ys' : List β}, Paired F xs ys → Paired F xs' ys' → Paired F (xs ++ xs') (ys ++ ys')
  | _, _, _, _, .nil, s => s
  | _, _, _, _, .cons r t, s => .cons r (prd_app t s)
theorem prd_take {α β : Type} {F : α → β → Prop} : ∀ {xs : List α} {ys : List β} (n : Nat), Paired F xs ys → Paired F (xs.take n) (ys.take n)
  | _, _, 0, _ => .nil
  | _, _, _ + 1, .nil => .nil
  | _, _, n + 1, .cons r t => .cons r (prd_take n t)
theorem prd_drop {α β : Type} {F : α → β → Prop} : ∀ {xs : List α} {ys : List β} (n : Nat), Paired F xs ys → Paired F (xs.drop n) (ys.drop n)
  | _, _, 0, r => r
  | _, _, _ + 1, .nil => .nil
  | _, _, n + 1, .cons _ t => prd_drop n t
theorem prd_rev {α β : Type} {F : α → β → Prop} {xs : List α} {ys : List β} (r : Paired F xs ys) : Paired F xs.reverse ys.reverse := by
  induction r with
  | nil => exact .nil
  | cons r t ih => rw [List.reverse_cons, List.reverse_cons]; exact prd_app ih (.cons r .nil)
theorem prd_rep {α β : Type} {F : α → β → Prop} {x : α} {y : β} (r : F x y) : ∀ n, Paired F (List.replicate n x) (List.replicate n y)
  | 0 => .nil
  | n + 1 => .cons r (prd_rep r n)

/-! ### what a function tells, as a reading -/
def R.bind {α β : Type} : R α → (α → Sto → R β) → R β
  | .ok a S, f => f a S
  | .exc c d S, _ => .exc c d S
  | .bad, _ => .bad
/-- a later moment: more objects; what was locked is locked as it was -/
structure Ext (ρ : List Addr) (H : Hp) (ρ' : List Addr) (H' : Hp) : Prop where
  pre : ρ <+: ρ'
  kp : ∀ b o u, H b = some (.frz o u) → H' b = some (.frz o u)
theorem Ext.refl {ρ : List Addr} {H : Hp} : Ext ρ H ρ H := ⟨List.prefix_refl _, fun _ _ _ h => h⟩
theorem Ext.trans {ρ ρ1 ρ2 : List Addr} {H H1 H2 : Hp} (a : Ext ρ H ρ1 H1) (b : Ext ρ1 H1 ρ2 H2) : Ext ρ H ρ2 H2 := ⟨a.pre.trans b.pre, fun c o u h => b.kp c o u (a.kp c o u h)⟩
theorem Ext.new {ρ : List Addr} {H : Hp} {p : Addr} {u : HO} (n : H p = none) : Ext ρ H (ρ ++ [p]) (upd H p u) := ⟨List.prefix_append _ _, fun b o u h => by rw [upd_ne (ne_of_none h n)]; exact h⟩
theorem Ext.aside {ρ : List Addr} {H : Hp} {p : Addr} {u : HO} (n : H p = none) : Ext ρ H ρ (upd H p u) := ⟨List.prefix_refl _, fun b o u h => by rw [upd_ne (ne_of_none h n)]; exact h⟩
theorem Ext.put {ρ : List Addr} {H : Hp} {p : Addr} {u u' : HO} (n : H p = some u) (k : ∀ o u', u ≠ .frz o u') : Ext ρ H ρ (upd H p u') := ⟨List.prefix_refl _, fun b o u h => by
  rw [upd_ne (fun q => by rw [q, n] at h; cases h; exact k _ _ rfl)]; exact h⟩
/-- what is wanted behind an end -/
def Post {α β : Type} (G : Gm) (W : WX) (rel : List Addr → α → β → Prop) (ρ : List Addr) (H : Hp) (σ : St) (Q : β → Hp → Prop) : R α → Prop
  | .ok v S2 => ∀ (ρ2 : List Addr) (H2 : Hp) (w : β), Ext ρ H ρ2 H2 → Rep G ρ2 S2 H2 → rel ρ2 v w → Q w H2
  | .exc c d S2 => ∀ (ρ2 : List Addr) (H2 : Hp) (C : Addr) (dd : Option Addr), Ext ρ H ρ2 H2 → Rep G ρ2 S2 H2 → G.xcls c C → DR ρ2 H2 d dd → W (.ref C) dd σ H2
  | .bad => False
def den {α β : Type} (G : Gm) (W : WX) (rel : List Addr → α → β → Prop) (m : St → Sto → R α) : St → Hp → (β → Hp → Prop) → Prop := fun σ H Q => ∃ ρ S τ, Rep G ρ S H ∧ LR ρ τ σ ∧ Post G W rel ρ H σ Q (m τ S)
abbrev BR : List Addr → Bool → Bool → Prop := fun _ a b => b = a
def PostS (G : Gm) (W : WX) (ρ : List Addr) (H : Hp) (D : Ends) : RS → Prop
  | .nx τ2 S2 => ∀ (ρ2 : List Addr) (H2 : Hp) (σ2 : St), Ext ρ H ρ2 H2 → Rep G ρ2 S2 H2 → LR ρ2 τ2 σ2 → D.nx σ2 H2
  | .rt v S2 => ∀ (ρ2 : List Addr) (H2 : Hp) (w : V), Ext ρ H ρ2 H2 → Rep G ρ2 S2 H2 → VR ρ2 v w → D.rt w H2
  | .bk τ2 S2 => ∀ (ρ2 : List Addr) (H2 : Hp) (σ2 : St), Ext ρ H ρ2 H2 → Rep G ρ2 S2 H2 → LR ρ2 τ2 σ2 → D.bk σ2 H2
  | .ct τ2 S2 => ∀ (ρ2 : List Addr) (H2 : Hp) (σ2 : St), Ext ρ H ρ2 H2 → Rep G ρ2 S2 H2 → LR ρ2 τ2 σ2 → D.ct σ2 H2
  | .exc c d τ2 S2 => ∀ (ρ2 : List Addr) (H2 : Hp) (σ2 : St) (C : Addr) (dd : Option Addr), Ext ρ H ρ2 H2 → Rep G ρ2 S2 H2 → LR ρ2 τ2 σ2 → G.xcls c C → DR ρ2 H2 d dd → W (.ref C) dd σ2 H2
  | .bad => False
def denS (G : Gm) (W : WX) (m : MS) : TS := fun D σ H => ∃ ρ S τ, Rep G ρ S H ∧ LR ρ τ σ ∧ PostS G W ρ H D (m τ S)
/-- the tables of a program: its classes, its exceptions -/
structure Tab where
  cs : List (Str × List Str)
  xs : List Str
abbrev gm (T : Tab) (X : Cx) : Gm := ⟨X.K, X.mg, T.cs, T.xs⟩
abbrev DE (T : Tab) (X : Cx) (W : WX) (e : Expr) (m : ME) : Prop := PE X e (den (gm T X) W VR m)
abbrev DT (T : Tab) (X : Cx) (W : WX) (e : Expr) (m : MT) : Prop := PT X e (den (gm T X) W BR m)
abbrev DA (T : Tab) (X : Cx) (W : WX) (es : List Expr) (m : MA) : Prop := PA X es (den (gm T X) W VsR m)
abbrev DS (T : Tab) (X : Cx) (W : WX) (st : Stmt) (m : MS) : Prop := PS X st (denS (gm T X) W m)
abbrev DSs (T : Tab) (X : Cx) (W : WX) (st : List Stmt) (m : MS) : Prop := PSs X st (denS (gm T X) W m)

theorem _root_.L2.PE.imp {X : Cx} {e : Expr} {t t' : TE} (h : PE X e t) (k : ∀ σ H Q, t' σ H Q → t σ H Q) : PE X e t' := ⟨fun pins s σ H Q I q => h.run pins s σ H Q I (k _ _ _ q)⟩
theorem _root_.L2.PT.imp {X : Cx} {e : Expr} {t t' : TT} (h : PT X e t) (k : ∀ σ H Q, t' σ H Q → t σ H Q) : PT X e t' := ⟨fun pins s σ H Q I q => h.run pins s σ H Q I (k _ _ _ q)⟩
theorem _root_.L2.PA.imp {X : Cx} {e : List Expr} {t t' : TA} (h : PA X e t) (k : ∀ σ H Q, t' σ H Q → t σ H Q) : PA X e t' := ⟨fun pos pins s σ H Q I q => h.run pos pins s σ H Q I (k _ _ _ q)⟩
theorem _root_.L2.PS.imp {X : Cx} {e : Stmt} {t t' : TS} (h : PS X e t) (k : ∀ D σ H, t' D σ H → t D σ H) : PS X e t' := ⟨fun pins s σ H D I q => h.run pins s σ H D I (k _ _ _ q)⟩
theorem _root_.L2.PSs.imp {X : Cx} {e : List Stmt} {t t' : TS} (h : PSs X e t) (k : ∀ D σ H, t' D σ H → t D σ H) : PSs X e t' := ⟨fun pins s σ H D I q => h.run pins s σ H D I (k _ _ _ q)⟩

section
variable {G : Gm} {W : WX} {α β γ δ : Type} {rel1 : List Addr → α → β → Prop} {rel2 : List Addr → γ → δ → Prop} {ρ ρ' : List Addr} {H H' : Hp} {σ : St}
theorem Post.mono {Q : δ → Hp → Prop} {r : R γ} (h : Post G W rel2 ρ H σ Q r) (p : Ext ρ H ρ' H') : Post G W rel2 ρ' H' σ Q r := by
  cases r with
  | ok v S2 => exact fun ρ2 H2 w p2 => h ρ2 H2 w (p.trans p2)
  | exc c d S2 => exact fun ρ2 H2 C dd p2 => h ρ2 H2 C dd (p.trans p2)
  | bad => exact h
theorem Post.imp {Q Q' : δ → Hp → Prop} {r : R γ} (h : Post G W rel2 ρ H σ Q r) (k : ∀ w H, Q w H → Q' w H) : Post G W rel2 ρ H σ Q' r := by
  cases r with
  | ok v S2 => exact fun ρ2 H2 w p2 r2 x => k _ _ (h ρ2 H2 w p2 r2 x)
  | exc c d S2 => exact h
  | bad => exact h
/-- one part, then another -/
theorem Post.bind {Q : δ → Hp → Prop} {T : β → Hp → Prop} {r : R α} {f : α → Sto → R γ} (h : Post G W rel2 ρ H σ Q (r.bind f))
    (hf : ∀ (ρ1 : List Addr) (S1 : Sto) (H1 : Hp) (a : α) (b : β), Ext ρ H ρ1 H1 → Rep G ρ1 S1 H1 → rel1 ρ1 a b → Post G W rel2 ρ1 H1 σ Q (f a S1) → T b H1) : Post G W rel1 ρ H σ T r := by
  cases r with
  | ok v S2 => exact fun ρ2 H2 w p2 r2 x => hf ρ2 S2 H2 v w p2 r2 x (Post.mono (show Post G W rel2 ρ H σ Q (f v S2) from h) p2)
  | exc c d S2 => exact h
  | bad => exact h
end
theorem PostS.mono {G : Gm} {W : WX} {ρ ρ' : List Addr} {H H' : Hp} {D : Ends} {r : RS} (h : PostS G W ρ H D r) (p : Ext ρ H ρ' H') : PostS G W ρ' H' D r := by
  cases r with
  | nx τ S2 => exact fun ρ2 H2 w p2 => h ρ2 H2 w (p.trans p2)
  | rt v S2 => exact fun ρ2 H2 w p2 => h ρ2 H2 w (p.trans p2)
  | bk τ S2 => exact fun ρ2 H2 w p2 => h ρ2 H2 w (p.trans p2)
  | ct τ S2 => exact fun ρ2 H2 w p2 => h ρ2 H2 w (p.trans p2)
  | exc c d τ S2 => exact fun ρ2 H2 w C dd p2 => h ρ2 H2 w C dd (p.trans p2)
  | bad => exact h

/-! ### expressions -/
def mVar (i : Nat) : ME := fun σ S => match σ[i]? with
  | some (some v) => .ok v S
  | _ => .bad
def mC (v : V) : ME := fun _ S => .ok v S
def mUn (o : V → Sto → R V) (a : ME) : ME := fun σ S => (a σ S).bind o
def mBin (o : V → V → Sto → R V) (a b : ME) : ME := fun σ S => (a σ S).bind fun x S1 => (b σ S1).bind fun y S2 => o x y S2
def mNil : MA := fun _ S => .ok [] S
def mCons (a : ME) (r : MA) : MA := fun σ S => (a σ S).bind fun x S1 => (r σ S1).bind fun xs S2 => .ok (x :: xs) S2
/-- a call by values -/
def mCall (f : List V → Sto → R V) (a : MA) : ME := fun σ S => (a σ S).bind f
/-- a value as a test: a bool -/
def mB (a : ME) : MT := fun σ S => (a σ S).bind fun x S1 => match x with
  | .bl b => .ok b S1
  | _ => .bad
def mNot (a : MT) : MT := fun σ S => (a σ S).bind fun b S1 => .ok (!b) S1
def mAnd (a b : MT) : MT := fun σ S => (a σ S).bind fun x S1 => if x = true then b σ S1 else .ok false S1
def mOr (a b : MT) : MT := fun σ S => (a σ S).bind fun x S1 => if x = true then .ok true S1 else b σ S1
/-- a test as a value -/
def mV (a : MT) : ME := fun σ S => (a σ S).bind fun b S1 => .ok (.bl b) S1
def mIf (c : MT) (a b : ME) : ME := fun σ S => (c σ S).bind fun x S1 => if x = true then a σ S1 else b σ S1

section
variable {T : Tab} {W : WX} {X : Cx} {a b c : Expr} {ma mb : ME} {mt mu : MT} {pos : Pos} {rest : List Expr}
theorem de_var (i : Nat) {x : Str} (hN : X.N[i]? = some x := by rfl) (hv : Vis X.env.scope x := by first | exact Or.inl rfl | exact Or.inr (Or.inl rfl) | exact Or.inr (Or.inr rfl)) (hd : (x == ("__debug__" : Str)) = false := by decide)
    (hcd : (x == ("__classdict__" : Str)) = false := by decide) : DE T X W (.Name x pos) (mVar i) := by
  refine (pe_var hN hv hd hcd).imp fun σ H Q h => ?_
  obtain ⟨ρ, S, τ, r, l, h⟩ := h
  unfold mVar at h
  cases e : τ[i]? with
  | none => rw [e] at h; exact h.elim
  | some o =>
    rw [e] at h
    cases o with
    | none => exact h.elim
    | some v =>
      obtain ⟨y, ey, ry⟩ := prd_get l e
      cases y with
      | none => exact ry.elim
      | some w => exact ⟨w, ey, h ρ H w (Ext.refl) r ry⟩
theorem de_c {v : V} (h : PE X a (tC v)) (hv : ∀ i, v ≠ .ref i) : DE T X W a (mC v) := by
  refine h.imp fun σ H Q h => ?_
  obtain ⟨ρ, S, τ, r, l, h⟩ := h
  refine h ρ H v (Ext.refl) r ?_
  cases v with
  | ref i => exact absurd rfl (hv i)
  | _ => rfl
theorem de_int {i : Int} {j} : DE T X W (.Constant (.int i) j pos) (mC (.int i)) := de_c pe_int (fun _ h => by cases h)
theorem de_bl {i : Bool} {j} : DE T X W (.Constant (.bool i) j pos) (mC (.bl i)) := de_c pe_bl (fun _ h => by cases h)
theorem de_non {j} : DE T X W (.Constant .none j pos) (mC .non) := de_c pe_non (fun _ h => by cases h)
theorem de_str {x : Str} {j} : DE T X W (.Constant (.str x) j pos) (mC (.str x)) := de_c pe_str (fun _ h => by cases h)
theorem de_glob {x : Str} {v : V} {u : Value} (hg : Gl X x) (hm : X.mg x = some u) (r : RelV v u) (hv : ∀ i, v ≠ .ref i := by exact fun _ h => nomatch h) (hd : (x == ("__debug__" : Str)) = false := by decide) : DE T X W (.Name x pos) (mC v) := de_c (pe_glob hg hm r hd) hv

/-- an operation of two values in the store: what its function tells is what the machine does -/
def denR (G : Gm) (o : V → V → Sto → R V) : R2 := fun x y H Q => ∃ ρ S v u σ, Rep G ρ S H ∧ VR ρ v x ∧ VR ρ u y ∧ Post G (fun _ _ _ _ => False) VR ρ H σ Q (o v u S)
def denU (G : Gm) (o : V → Sto → R V) : V → Hp → VK → Prop := fun x H Q => ∃ ρ S v σ, Rep G ρ S H ∧ VR ρ v x ∧ Post G (fun _ _ _ _ => False) VR ρ H σ Q (o v S)
def denC (G : Gm) (o : List V → Sto → R V) : List V → Hp → VK → Prop := fun xs H Q => ∃ ρ S vs σ, Rep G ρ S H ∧ VsR ρ vs xs ∧ Post G (fun _ _ _ _ => False) VR ρ H σ Q (o vs S)
/-- an operation that lets no exception out -/
def R.quiet {α : Type} : R α → Prop
  | .exc _ _ _ => False
  | _ => True
theorem Post.still {α β : Type} {G : Gm} {W W' : WX} {rel : List Addr → α → β → Prop} {ρ : List Addr} {H : Hp} {σ σ' : St} {Q : β → Hp → Prop} {r : R α} (h : Post G W rel ρ H σ Q r) (k : r.quiet) : Post G W' rel ρ H σ' Q r := by
  cases r with
  | ok v S2 => exact h
  | exc c d S2 => exact k.elim
  | bad => exact h
abbrev Op2 (T : Tab) (X : Cx) (f : Value → Value → Sem Value) (o : V → V → Sto → R V) : Prop := OpR X f (denR (gm T X) o) ∧ ∀ x y S, (o x y S).quiet
theorem den_bin {G : Gm} {o : V → V → Sto → R V} {σ : St} {H : Hp} {Q : VK} (ho : ∀ x y S, (o x y S).quiet) (h : den G W VR (mBin o ma mb) σ H Q) : tOp (denR G o) (den G W VR ma) (den G W VR mb) σ H Q := by
  obtain ⟨ρ, S, τ, r, l, h⟩ := h
  refine ⟨ρ, S, τ, r, l, Post.bind h fun ρ1 S1 H1 x w p1 r1 x1 h1 => ?_⟩
  refine ⟨ρ1, S1, τ, r1, l.mono p1.pre, Post.bind h1 fun ρ2 S2 H2 y u p2 r2 y2 h2 => ?_⟩
  exact ⟨ρ2, S2, x, y, σ, r2, x1.mono p2.pre, y2, h2.still (ho _ _ _)⟩
theorem de_bin {op : Operator} {o : V → V → Sto → R V} (ho : Op2 T X (binaryOp op) o) (ha : DE T X W a ma) (hb : DE T X W b mb) : DE T X W (.BinOp a op b pos) (mBin o ma mb) := (pe_op ho.1 ha hb).imp fun _ _ _ h => den_bin ho.2 h
theorem de_cmp {op : CmpOp} {o : V → V → Sto → R V} (ho : Op2 T X (compareOp op) o) (ha : DE T X W a ma) (hb : DE T X W b mb) (hm : behindInMarks op b = false) : DE T X W (.Compare a [op] [b] pos) (mBin o ma mb) := (pe_cmpR ho.1 ha hb hm).imp fun _ _ _ h => den_bin ho.2 h
theorem Post.toB {G : Gm} {ρ : List Addr} {H : Hp} {σ : St} {Q : Bool → Hp → Prop} {r : R V} (h : Post G W BR ρ H σ Q (r.bind fun x S1 => match x with
  | .bl b => .ok b S1
  | _ => .bad)) : Post G W VR ρ H σ (fun x H' => ∃ k, x = .bl k ∧ Q k H') r := Post.bind h fun ρ1 S1 H1 x w p1 r1 x1 h1 => by
  cases x with
  | bl b =>
    cases x1
    exact ⟨b, rfl, h1 ρ1 H1 b (Ext.refl) r1 rfl⟩
  | _ => exact h1.elim
theorem Post.toB' {G : Gm} {ρ : List Addr} {H : Hp} {σ : St} {Q : Bool → Hp → Prop} {r : R V} (h : Post G W VR ρ H σ (fun x H' => ∃ k, x = .bl k ∧ Q k H') r) : Post G W VR ρ H σ (fun x H' => ∃ k, x = .bl k ∧ Q k H') r := h
theorem R.bind_bind {α β γ : Type} (r : R α) (f : α → Sto → R β) (g : β → Sto → R γ) : (r.bind f).bind g = r.bind fun a S => (f a S).bind g := by cases r <;> rfl
theorem den_toB {G : Gm} {m : ME} {σ : St} {H : Hp} {Q : Bool → Hp → Prop} (h : den G W BR (mB m) σ H Q) : den G W VR m σ H (fun x H' => ∃ k, x = .bl k ∧ Q k H') := by
  obtain ⟨ρ, S, τ, r, l, h⟩ := h
  exact ⟨ρ, S, τ, r, l, Post.toB h⟩
theorem dt_cmp {op : CmpOp} {o : V → V → Sto → R V} (ho : Op2 T X (compareOp op) o) (ha : DE T X W a ma) (hb : DE T X W b mb) (hm : behindInMarks op b = false) : DT T X W (.Compare a [op] [b] pos) (mB (mBin o ma mb)) :=
  (pt_cmpR ho.1 ha hb hm).imp fun σ H Q h => den_bin ho.2 (den_toB h)
theorem dt_val (h : DE T X W a ma) (he : ∀ whole, isTrue a X.env whole = (do let v ← whole; standAt a.pos; holding [v] (truthy v)) := by intro _; rfl) : DT T X W a (mB ma) := (pt_val h he).imp fun _ _ _ h => den_toB h
theorem dt_not (ha : DT T X W a mt) : DT T X W (.UnaryOp .Not a pos) (mNot mt) := (pt_not ha).imp fun σ H Q h => by
  obtain ⟨ρ, S, τ, r, l, h⟩ := h
  refine ⟨ρ, S, τ, r, l, Post.bind h fun ρ1 S1 H1 x w p1 r1 x1 h1 => ?_⟩
  cases x1
  exact h1 ρ1 H1 _ (Ext.refl) r1 rfl
abbrev DW (T : Tab) (X : Cx) (W : WX) (e : Expr) (m : MT) : Prop := PW X e (den (gm T X) W BR m)
theorem _root_.L2.PW.imp {e : Expr} {t t' : TT} (h : PW X e t) (k : ∀ σ H Q, t' σ H Q → t σ H Q) : PW X e t' := ⟨fun wh pins s σ H Q I q => h.run wh pins s σ H Q I (k _ _ _ q)⟩
theorem dw_and1 (ha : DT T X W a mt) : DW T X W (.BoolOp .And [a] pos) mt := pw_and1 ha
theorem dw_or1 (ha : DT T X W a mt) : DW T X W (.BoolOp .Or [a] pos) mt := pw_or1 ha
theorem dw_and (ha : DT T X W a mt) (hb : DW T X W (.BoolOp .And (b :: rest) pos) mu) : DW T X W (.BoolOp .And (a :: b :: rest) pos) (mAnd mt mu) := (pw_and ha hb).imp fun σ H Q h => by
  obtain ⟨ρ, S, τ, r, l, h⟩ := h
  refine ⟨ρ, S, τ, r, l, Post.bind h fun ρ1 S1 H1 x w p1 r1 x1 h1 => ?_⟩
  cases x1
  cases x with
  | true => exact ⟨ρ1, S1, τ, r1, l.mono p1.pre, h1⟩
  | false => exact h1 ρ1 H1 _ (Ext.refl) r1 rfl
theorem dw_or (ha : DT T X W a mt) (hb : DW T X W (.BoolOp .Or (b :: rest) pos) mu) : DW T X W (.BoolOp .Or (a :: b :: rest) pos) (mOr mt mu) := (pw_or ha hb).imp fun σ H Q h => by
  obtain ⟨ρ, S, τ, r, l, h⟩ := h
  refine ⟨ρ, S, τ, r, l, Post.bind h fun ρ1 S1 H1 x w p1 r1 x1 h1 => ?_⟩
  cases x1
  cases x with
  | true => exact h1 ρ1 H1 _ (Ext.refl) r1 rfl
  | false => exact ⟨ρ1, S1, τ, r1, l.mono p1.pre, h1⟩
theorem dt_w (h : DW T X W a mt) : DT T X W a mt := h.pt
end
end Mi

namespace Mi
open PySem PySem.Spec L2
open PyProof.Rows hiding St

/-! ### values by and, or, not, if; displays -/
def mAndV (a b : ME) : ME := fun σ S => (a σ S).bind fun x S1 => match x with
  | .bl true => b σ S1
  | .bl false => .ok (.bl false) S1
  | _ => .bad
def mOrV (a b : ME) : ME := fun σ S => (a σ S).bind fun x S1 => match x with
  | .bl true => .ok (.bl true) S1
  | .bl false => b σ S1
  | _ => .bad
def mNotV (a : ME) : ME := fun σ S => (a σ S).bind fun x S1 => match x with
  | .bl b => .ok (.bl (!b)) S1
  | _ => .bad
def mTup (a : MA) : ME := fun σ S => (a σ S).bind fun xs S1 => if xs.length ≤ sizeLine then .ok (.ref S1.length) (S1 ++ [.tup xs]) else .bad
def mLst (a : MA) : ME := fun σ S => (a σ S).bind fun xs S1 => if xs.length ≤ sizeLine then .ok (.ref S1.length) (S1 ++ [.lst xs]) else .bad

section
variable {T : Tab} {W : WX} {X : Cx} {a b c : Expr} {ma mb : ME} {mt mu : MT} {ms : MA} {pos : Pos} {rest es : List Expr}
theorem de_one {op : BoolOp} (ha : DE T X W a ma) : DE T X W (.BoolOp op [a] pos) ma := pe_one ha
theorem de_and (ha : DE T X W a ma) (hb : DE T X W (.BoolOp .And (b :: rest) pos) mb) : DE T X W (.BoolOp .And (a :: b :: rest) pos) (mAndV ma mb) := (pe_and ha hb).imp fun σ H Q h => by
  obtain ⟨ρ, S, τ, r, l, h⟩ := h
  refine ⟨ρ, S, τ, r, l, Post.bind h fun ρ1 S1 H1 x w p1 r1 x1 h1 => ?_⟩
  cases x with
  | bl k =>
    cases x1
    refine ⟨k, rfl, ?_⟩
    cases k with
    | true => exact ⟨ρ1, S1, τ, r1, l.mono p1.pre, h1⟩
    | false => exact h1 ρ1 H1 _ (Ext.refl) r1 rfl
  | _ => exact h1.elim
theorem de_or (ha : DE T X W a ma) (hb : DE T X W (.BoolOp .Or (b :: rest) pos) mb) : DE T X W (.BoolOp .Or (a :: b :: rest) pos) (mOrV ma mb) := (pe_or ha hb).imp fun σ H Q h => by
  obtain ⟨ρ, S, τ, r, l, h⟩ := h
  refine ⟨ρ, S, τ, r, l, Post.bind h fun ρ1 S1 H1 x w p1 r1 x1 h1 => ?_⟩
  cases x with
  | bl k =>
    cases x1
    refine ⟨k, rfl, ?_⟩
    cases k with
    | true => exact h1 ρ1 H1 _ (Ext.refl) r1 rfl
    | false => exact ⟨ρ1, S1, τ, r1, l.mono p1.pre, h1⟩
  | _ => exact h1.elim
theorem de_not (ha : DE T X W a ma) : DE T X W (.UnaryOp .Not a pos) (mNotV ma) := (pe_not ha).imp fun σ H Q h => by
  obtain ⟨ρ, S, τ, r, l, h⟩ := h
  refine ⟨ρ, S, τ, r, l, Post.bind h fun ρ1 S1 H1 x w p1 r1 x1 h1 => ?_⟩
  cases x with
  | bl k =>
    cases x1
    exact ⟨k, rfl, h1 ρ1 H1 _ (Ext.refl) r1 rfl⟩
  | _ => exact h1.elim
theorem de_if (hc : DT T X W c mt) (ha : DE T X W a ma) (hb : DE T X W b mb) : DE T X W (.IfExp c a b pos) (mIf mt ma mb) := (pe_ifExp hc ha hb).imp fun σ H Q h => by
  obtain ⟨ρ, S, τ, r, l, h⟩ := h
  refine ⟨ρ, S, τ, r, l, Post.bind h fun ρ1 S1 H1 x w p1 r1 x1 h1 => ?_⟩
  cases x1
  cases x with
  | true => exact ⟨ρ1, S1, τ, r1, l.mono p1.pre, h1⟩
  | false => exact ⟨ρ1, S1, τ, r1, l.mono p1.pre, h1⟩
theorem da_nil : DA T X W [] mNil := pa_nil.imp fun σ H Q h => by
  obtain ⟨ρ, S, τ, r, l, h⟩ := h
  exact h ρ H [] (Ext.refl) r .nil
theorem da_cons (ha : DE T X W a ma) (hr : DA T X W es ms) (hs : starEach (a :: es) X.env = (false, eval a X.env) :: starEach es X.env := by rfl) : DA T X W (a :: es) (mCons ma ms) := (pa_cons ha hr hs).imp fun σ H Q h => by
  obtain ⟨ρ, S, τ, r, l, h⟩ := h
  refine ⟨ρ, S, τ, r, l, Post.bind h fun ρ1 S1 H1 x w p1 r1 x1 h1 => ?_⟩
  refine ⟨ρ1, S1, τ, r1, l.mono p1.pre, Post.bind h1 fun ρ2 S2 H2 xs ws p2 r2 x2 h2 => ?_⟩
  exact h2 ρ2 H2 _ (Ext.refl) r2 (.cons (x1.mono p2.pre) x2)
theorem new_ref {ρ : List Addr} {S : Sto} {p : Addr} (h : ρ.length = S.length) : VR (ρ ++ [p]) (.ref S.length) (.ref p) := ⟨p, by rw [← h, List.getElem?_append_right (Nat.le_refl _), Nat.sub_self]; rfl, rfl⟩
theorem de_tup {k} (h : DA T X W es ms) : DE T X W (.Tuple es k pos) (mTup ms) := (pe_tup h).imp fun σ H Q h => by
  obtain ⟨ρ, S, τ, r, l, h⟩ := h
  refine ⟨ρ, S, τ, r, l, Post.bind h fun ρ1 S1 H1 xs ws p1 r1 x1 h1 => ?_⟩
  by_cases z : xs.length ≤ sizeLine
  · rw [if_pos z] at h1
    refine ⟨by rw [← prd_len x1]; exact z, fun p np => h1 (ρ1 ++ [p]) _ _ (Ext.new np) (r1.alloc np ⟨ws, rfl, VsR.mono x1 (List.prefix_append _ _)⟩) (new_ref r1.len)⟩
  · rw [if_neg z] at h1
    exact h1.elim
theorem de_lst (h : DA T X W es ms) : DE T X W (.List es pos) (mLst ms) := (pe_lst h).imp fun σ H Q h => by
  obtain ⟨ρ, S, τ, r, l, h⟩ := h
  refine ⟨ρ, S, τ, r, l, Post.bind h fun ρ1 S1 H1 xs ws p1 r1 x1 h1 => ?_⟩
  by_cases z : xs.length ≤ sizeLine
  · rw [if_pos z] at h1
    refine ⟨by rw [← prd_len x1]; exact z, fun p np => h1 (ρ1 ++ [p]) _ _ (Ext.new np) (r1.alloc np ⟨ws, rfl, VsR.mono x1 (List.prefix_append _ _)⟩) (new_ref r1.len)⟩
  · rw [if_neg z] at h1
    exact h1.elim
end

/-! ### the context -/
structure Ctx (X : Cx) (W : WX) (k : Nat) : Prop where
  calm : X.calm = true
  nd : X.N.Nodup
  room : Room k X.A
  tk : Takes X W ∨ ∀ c d σ H, ¬ W c d σ H
  own : PassesOwn (model X.prog X.w) X.A X.env X.xe
theorem Ctx.pass {X : Cx} {W : WX} {k : Nat} (C : Ctx X W k) : ∀ σ, PassesAt (L2.CX X.prog X.w) X σ (WE W σ) := fun σ => by
  rcases C.tk with h | h
  · exact passAt h σ
  · intro _ _ _ _ _ _ c
    obtain ⟨_, _, _, _, _, _, _, _, _, _, _, _, z⟩ := c
    exact (h _ _ _ _ z).elim
/-- .. of a statement: what is raised is taken -/
structure CtS (X : Cx) (W : WX) (k : Nat) : Prop extends Ctx X W k where
  takes : Takes X W
  stk : X.stack = X.env :: X.outer
  frm : X.env.frame = some X.env.locals
  ex : X.ex = []

/-! ### defs -/
abbrev Fn := List V → Sto → R V
/-- a def keeps to its function -/
def spOf (G : Gm) (n : Nat) (f : Fn) : Sp := fun vs H Q E => vs.length = n ∧ ∃ ρ S args σ, Rep G ρ S H ∧ VsR ρ args vs ∧ Post G (fun cls d _ H => E cls d H) VR ρ H σ Q (f args S)
/-- the module's def x is the function f -/
def FnF (T : Tab) (P : Program) (w : World) (K : PySem.W.Frag) (mg : Str → Option Value) (base : Heap) (x : Str) (n k : Nat) (f : Fn) : Prop :=
  ∃ (a : Addr) (fd : FuncData) (ps : List Str), mg x = some (.ref a) ∧ PySem.W.keepIn K (.ref a) = true ∧ Binds K fd ps [] ∧ FnOk P w K mg base (L2.CX P w) k a fd ps (spOf ⟨K, mg, T.cs, T.xs⟩ n f)
abbrev FnX (T : Tab) (X : Cx) (x : Str) (n k : Nat) (f : Fn) : Prop := FnF T X.prog X.w X.K X.mg X.base x n k f
/-- the method m of the class c is the function f -/
def MeF (T : Tab) (P : Program) (w : World) (K : PySem.W.Frag) (mg : Str → Option Value) (base : Heap) (c : Nat) (m : Str) (n k : Nat) (f : Fn) : Prop :=
  ∃ (x : Str) (L : List Str) (C a : Addr) (fd : FuncData) (ps : List Str), T.cs[c]? = some (x, L) ∧ mg x = some (.ref C) ∧ Cls K C ∧ Meth K C m a ∧ m ∉ L ∧ Binds K fd ps [] ∧ FnOk P w K mg base (L2.CX P w) k a fd ps (spOf ⟨K, mg, T.cs, T.xs⟩ n f)
abbrev MeX (T : Tab) (X : Cx) (c : Nat) (m : Str) (n k : Nat) (f : Fn) : Prop := MeF T X.prog X.w X.K X.mg X.base c m n k f
section
variable {T : Tab} {W : WX} {X : Cx} {e o : Expr} {ma : ME} {ms : MA} {x m : Str} {p pos apos : Pos} {es : List Expr} {n j k : Nat} {f : Fn}
theorem run_f {a : Addr} {fd : FuncData} {ps : List Str} {pins : List (Addr × Obj)} {σ : St} {H : Hp} {s : Shared} {Q : VK} {us : List Value} {vs : List V} {S : Sto} {ρ : List Addr} {args : List V} (C : Ctx X W k)
    (F : FnOk X.prog X.w X.K X.mg X.base (L2.CX X.prog X.w) j a fd ps (spOf (gm T X) n f)) (hj : j ≤ k) (hb : Binds X.K fd ps []) (I : Inv X pins σ H s) (r : Vals vs us) (hn : vs.length = n)
    (rp : Rep (gm T X) ρ S H) (ra : VsR ρ args vs) (h : Post (gm T X) W VR ρ H σ Q (f args S)) : wpAny (model X.prog X.w) X.A (call (.ref a) us) (EP X pins σ Q) X.xe s := by
  refine run_fnS (E := WE W) (F.mono hj) C.room hb (C.pass σ) I r ⟨hn, ρ, S, args, σ, rp, ra, ?_⟩
  cases e : f args S with
  | ok v S2 => rw [e] at h; exact h
  | exc c d S2 => rw [e] at h; exact h
  | bad => rw [e] at h; exact h.elim
theorem args_len {xs ws : List V} {ρ : List Addr} (h : VsR ρ xs ws) : ws.length = xs.length := (prd_len h).symm
/-- f(..): the number of arguments is looked at -/
def mApp (n : Nat) (f : Fn) (a : MA) : ME := fun σ S => (a σ S).bind fun xs S1 => if xs.length = n then f xs S1 else .bad
theorem de_call (C : Ctx X W k) (F : FnX T X x n j f) (hj : j ≤ k) (ha : DA T X W (e :: es) ms) (hg : Gl X x := by rfl) (hdb : (x == ("__debug__" : Str)) = false := by decide)
    (he : starEach (e :: es) X.env = (false, eval e X.env) :: starEach es X.env := by rfl) (hpl : (backTo pos (starEach es X.env)).any (·.1) = false := by rfl) : DE T X W (.Call (.Name x p) (e :: es) [] pos) (mApp n f ms) := by
  obtain ⟨a, fd, ps, hm, hk, hb, F⟩ := F
  refine ⟨fun pins s σ H Q I h => ?_⟩
  obtain ⟨ρ, S, τ, r, l, h⟩ := h
  refine wpAny_Call_Name_kw (ld_glob I hg hm ?_ hdb)
  have h' : den (gm T X) W VsR ms σ H (fun vs H1 => vs.length = n ∧ ∃ ρ1 S1 args, Rep (gm T X) ρ1 S1 H1 ∧ VsR ρ1 args vs ∧ Post (gm T X) W VR ρ1 H1 σ Q (f args S1)) := by
    refine ⟨ρ, S, τ, r, l, Post.bind h fun ρ1 S1 H1 xs ws p1 r1 x1 h1 => ?_⟩
    by_cases z : xs.length = n
    · rw [if_pos z] at h1
      exact ⟨(args_len x1).trans z, ρ1, S1, xs, r1, x1, h1⟩
    · rw [if_neg z] at h1
      exact h1.elim
  refine PySem.W.callWith_K (h₀ := X.base) I.ok.mod.kin hk (thn (ha.run pos pins s σ H _ I h') fun us s1 ⟨vs, H1, I1, r, q⟩ => ⟨I1.kIn, ?_⟩) he hpl
  obtain ⟨hn, ρ1, S1, args, r1, x1, h1⟩ := q
  exact run_f C F hj hb I1 r hn r1 x1 h1
theorem de_call0 (C : Ctx X W k) (F : FnX T X x 0 j f) (hj : j ≤ k) (hg : Gl X x := by rfl) (hdb : (x == ("__debug__" : Str)) = false := by decide) : DE T X W (.Call (.Name x p) [] [] pos) (mApp 0 f mNil) := by
  obtain ⟨a, fd, ps, hm, hk, hb, F⟩ := F
  refine ⟨fun pins s σ H Q I h => ?_⟩
  obtain ⟨ρ, S, τ, r, l, h⟩ := h
  refine wpAny_Call_Name_kw (ld_glob I hg hm ?_ hdb)
  exact PySem.W.callWith_K0 I.kIn hk (run_f (us := []) C F hj hb I .nil rfl r .nil h)

/-! ### methods: by the class of the object -/
def look {α : Type} : List (Nat × α) → Nat → Option α
  | [], _ => none
  | (c, f) :: r, d => if c = d then some f else look r d
def mMeth (n : Nat) (tab : List (Nat × Fn)) (o : ME) (a : MA) : ME := fun σ S => (o σ S).bind fun x S1 => match x with
  | .ref i => match S1[i]? with
    | some (.ins c _) => match look tab c with
      | some f => (a σ S1).bind fun xs S2 => if xs.length + 1 = n then f (.ref i :: xs) S2 else .bad
      | none => .bad
    | _ => .bad
  | _ => .bad
def MTabF (T : Tab) (P : Program) (w : World) (K : PySem.W.Frag) (mg : Str → Option Value) (base : Heap) (m : Str) (n k : Nat) : List (Nat × Fn) → Prop
  | [] => True
  | (c, f) :: r => MeF T P w K mg base c m n k f ∧ MTabF T P w K mg base m n k r
abbrev MTab (T : Tab) (X : Cx) (m : Str) (n k : Nat) (tab : List (Nat × Fn)) : Prop := MTabF T X.prog X.w X.K X.mg X.base m n k tab
theorem MTab.get {tab : List (Nat × Fn)} : ∀ {tab : List (Nat × Fn)} {c : Nat}, MTab T X m n k tab → look tab c = some f → MeX T X c m n k f
  | [], _, _, e => by cases e
  | (d, g) :: r, c, h, e => by
    unfold look at e
    by_cases z : d = c
    · rw [if_pos z] at e
      cases e
      rw [← z]
      exact h.1
    · rw [if_neg z] at e
      exact MTab.get (tab := tab) h.2 e
theorem AR.no {ρ : List Addr} {L : List Str} {fs : List (Option V)} {gs : List (Str × V)} (h : AR ρ L fs gs) (n : m ∉ L) : gs.lookup m = none := by
  cases e : gs.lookup m with
  | none => rfl
  | some v =>
    have := PySem.mem_of_lookup e
    exact absurd (h.sub m (List.mem_map_of_mem (f := (·.1)) this)) n
theorem de_meth {pl : Sem Bool} {tab : List (Nat × Fn)} (C : Ctx X W k) (M : MTab T X m n j tab) (hj : j ≤ k) (ho : DE T X W o ma) (ha : DA T X W (e :: es) ms)
    (hst : starEach (e :: es) X.env = (false, eval e X.env) :: starEach es X.env := by rfl) (hpl : (backTo pos (starEach es X.env)).any (·.1) = false := by rfl)
    (ht : eval (.Call (.Attribute o m apos) (e :: es) [] pos) X.env = (do
      let ov ← eval o X.env
      standAt apos.atName
      let (f, first) ← holding [ov] (getMethod ov m pl)
      callWith pos f first (backTo pos (starEach (e :: es) X.env)) (backToKw pos (keywordEach [] X.env))) := by rfl) :
    DE T X W (.Call (.Attribute o m apos) (e :: es) [] pos) (mMeth n tab ma ms) := by
  refine ⟨fun pins s σ H Q I h => ?_⟩
  obtain ⟨ρ, S, τ, r, l, h⟩ := h
  have h' : den (gm T X) W VR ma σ H (fun w H1 => ∃ ρ1 S1 i c fs f, Rep (gm T X) ρ1 S1 H1 ∧ LR ρ1 τ σ ∧ VR ρ1 (.ref i) w ∧ S1[i]? = some (.ins c fs) ∧ look tab c = some f ∧
      Post (gm T X) W VR ρ1 H1 σ Q ((ms τ S1).bind fun xs S2 => if xs.length + 1 = n then f (.ref i :: xs) S2 else .bad)) := by
    refine ⟨ρ, S, τ, r, l, Post.bind h fun ρ1 S1 H1 x w p1 r1 x1 h1 => ?_⟩
    split at h1
    · split at h1
      · split at h1
        · rename_i i _ c fs es _ f ef
          exact ⟨ρ1, S1, i, c, fs, f, r1, l.mono p1.pre, x1, es, ef, h1⟩
        · exact h1.elim
      · exact h1.elim
    · exact h1.elim
  refine PySem.W.methodCall_KW (pl := pl) (thn (ho.run pins s σ H _ I h') fun u s1 ⟨w, H1, I1, rx, ρ1, S1, i, c, fs, f, r1, l1, x1, es1, ef, h1⟩ => ?_) ht
  obtain ⟨ad, u', ew, er, eh, ob⟩ := r1.ref es1 x1
  subst ew
  obtain rfl : u = Value.ref ad := rx
  obtain ⟨x', L', C', a, fd, ps, hc, hm, hcl, hme, hnl, hb, F⟩ := M.get (tab := tab) ef
  obtain ⟨x2, L2, C2, dx, gs, hc2, hm2, e2, ar⟩ := ob
  subst e2
  have q1 : some (x', L') = some (x2, L2) := hc.symm.trans hc2
  cases q1
  have q2 : some (Value.ref C') = some (Value.ref C2) := hm.symm.trans hm2
  cases q2
  refine getmeth_ok I1 eh hcl hme (ar.no hnl) ?_
  have h2 : den (gm T X) W VsR ms σ H1 (fun vs H2 => vs.length + 1 = n ∧ ∃ ρ2 S2 args, Ext ρ1 H1 ρ2 H2 ∧ Rep (gm T X) ρ2 S2 H2 ∧ VsR ρ2 args vs ∧ Post (gm T X) W VR ρ2 H2 σ Q (f (.ref i :: args) S2)) := by
    refine ⟨ρ1, S1, τ, r1, l1, Post.bind h1 fun ρ2 S2 H2 xs ws p2 r2 x2 h2 => ?_⟩
    by_cases z : xs.length + 1 = n
    · rw [if_pos z] at h2
      exact ⟨by rw [args_len x2]; exact z, ρ2, S2, xs, p2, r2, x2, h2⟩
    · rw [if_neg z] at h2
      exact h2.elim
  refine PySem.W.callWith_K (first := [.ref ad]) (h₀ := X.base) I.ok.mod.kin hme.kp (thn (ha.run pos pins s1 σ H1 _ I1 h2) fun us s2 ⟨vs, H2, I2, rv, q⟩ => ⟨I2.kIn, ?_⟩) hst hpl
  obtain ⟨hn, ρ2, S2, args, p2, r2, xa, h3⟩ := q
  exact run_f (us := .ref ad :: us) (vs := .ref ad :: vs) C F hj hb I2 (.cons rfl rv) hn r2 (.cons (x1.mono p2.pre) xa) h3
theorem de_meth0 {pl : Sem Bool} {tab : List (Nat × Fn)} (C : Ctx X W k) (M : MTab T X m 1 j tab) (hj : j ≤ k) (ho : DE T X W o ma)
    (ht : eval (.Call (.Attribute o m apos) [] [] pos) X.env = (do
      let ov ← eval o X.env
      standAt apos.atName
      let (f, first) ← holding [ov] (getMethod ov m pl)
      callWith pos f first (backTo pos (starEach [] X.env)) (backToKw pos (keywordEach [] X.env))) := by rfl) :
    DE T X W (.Call (.Attribute o m apos) [] [] pos) (mMeth 1 tab ma mNil) := by
  refine ⟨fun pins s σ H Q I h => ?_⟩
  obtain ⟨ρ, S, τ, r, l, h⟩ := h
  have h' : den (gm T X) W VR ma σ H (fun w H1 => ∃ ρ1 S1 i c fs f, Rep (gm T X) ρ1 S1 H1 ∧ LR ρ1 τ σ ∧ VR ρ1 (.ref i) w ∧ S1[i]? = some (.ins c fs) ∧ look tab c = some f ∧
      Post (gm T X) W VR ρ1 H1 σ Q (f [.ref i] S1)) := by
    refine ⟨ρ, S, τ, r, l, Post.bind h fun ρ1 S1 H1 x w p1 r1 x1 h1 => ?_⟩
    split at h1
    · split at h1
      · split at h1
        · rename_i i _ c fs es _ f ef
          exact ⟨ρ1, S1, i, c, fs, f, r1, l.mono p1.pre, x1, es, ef, h1⟩
        · exact h1.elim
      · exact h1.elim
    · exact h1.elim
  refine PySem.W.methodCall_KW (pl := pl) (thn (ho.run pins s σ H _ I h') fun u s1 ⟨w, H1, I1, rx, ρ1, S1, i, c, fs, f, r1, l1, x1, es1, ef, h1⟩ => ?_) ht
  obtain ⟨ad, u', ew, er, eh, ob⟩ := r1.ref es1 x1
  subst ew
  obtain rfl : u = Value.ref ad := rx
  obtain ⟨x', L', C', a, fd, ps, hc, hm, hcl, hme, hnl, hb, F⟩ := M.get (tab := tab) ef
  obtain ⟨x2, L2, C2, dx, gs, hc2, hm2, e2, ar⟩ := ob
  subst e2
  have q1 : some (x', L') = some (x2, L2) := hc.symm.trans hc2
  cases q1
  have q2 : some (Value.ref C') = some (Value.ref C2) := hm.symm.trans hm2
  cases q2
  refine getmeth_ok I1 eh hcl hme (ar.no hnl) ?_
  exact PySem.W.callWith_K0 (first := [.ref ad]) I1.kIn hme.kp (run_f (us := [.ref ad]) (vs := [.ref ad]) C F hj hb I1 (.cons rfl .nil) rfl r1 (.cons x1 .nil) h1)

/-! ### instances: made, read, written -/
/-- the class x is made by f, its number c, its attributes' names L -/
def MkF (T : Tab) (P : Program) (w : World) (K : PySem.W.Frag) (mg : Str → Option Value) (base : Heap) (x : Str) (c n k l : Nat) (f : Fn) : Prop :=
  ∃ (L : List Str) (C a : Addr) (fd : FuncData) (ps : List Str), T.cs[c]? = some (x, L) ∧ L.length = l ∧ mg x = some (.ref C) ∧ Mk K C a ∧ Binds K fd ps [] ∧ FnOk P w K mg base (L2.CX P w) k a fd ps (spOf ⟨K, mg, T.cs, T.xs⟩ n f)
abbrev MkX (T : Tab) (X : Cx) (x : Str) (c n k l : Nat) (f : Fn) : Prop := MkF T X.prog X.w X.K X.mg X.base x c n k l f
def mMake (c n l : Nat) (f : Fn) (a : MA) : ME := fun σ S => (a σ S).bind fun xs S1 => if xs.length + 1 = n then (f (.ref S1.length :: xs) (S1 ++ [.ins c (List.replicate l none)])).bind fun v S2 => match v with
    | .non => .ok (.ref S1.length) S2
    | _ => .bad
  else .bad
theorem run_mk {pins : List (Addr × Obj)} {σ : St} {H : Hp} {s : Shared} {Q : VK} {us : List Value} {vs args : List V} {S : Sto} {ρ : List Addr} {L : List Str} {c l : Nat} {C a : Addr} {fd : FuncData} {ps : List Str} (Cx : Ctx X W k) (hL : L.length = l) (hc : T.cs[c]? = some (x, L)) (hm : X.mg x = some (.ref C))
    (M : Mk X.K C a) (F : FnOk X.prog X.w X.K X.mg X.base (L2.CX X.prog X.w) j a fd ps (spOf (gm T X) n f)) (hj : j + 1 ≤ k) (hb : Binds X.K fd ps []) (I : Inv X pins σ H s) (r : Vals vs us) (hn : vs.length + 1 = n) (rp : Rep (gm T X) ρ S H) (ra : VsR ρ args vs)
    (h : Post (gm T X) W VR ρ H σ Q ((f (.ref S.length :: args) (S ++ [.ins c (List.replicate l none)])).bind fun v S2 => match v with
    | .non => .ok (.ref S.length) S2
    | _ => .bad)) : wpAny (model X.prog X.w) X.A (call (.ref C) us) (EP X pins σ Q) X.xe s := by
  have np : H (s.heap.objs.size + 1) = none := I.hok.fresh (Nat.le_succ _)
  have nd : H s.heap.objs.size = none := I.hok.fresh (Nat.le_refl _)
  have ne : s.heap.objs.size ≠ s.heap.objs.size + 1 := Nat.ne_of_lt (Nat.lt_succ_self _)
  have I2 := Inv.made (C := C) I
  have r2 : Vals (V.ref (s.heap.objs.size + 1) :: vs) (Value.ref (s.heap.objs.size + 1) :: us) := .cons rfl r
  have rp1 : Rep (gm T X) ρ S (upd H s.heap.objs.size (.own (s.heap.objs.size + 1))) := rp.beside nd
  have np1 : upd H s.heap.objs.size (.own (s.heap.objs.size + 1)) (s.heap.objs.size + 1) = none := by rw [upd_ne (Ne.symm ne)]; exact np
  have rp2 : Rep (gm T X) (ρ ++ [s.heap.objs.size + 1]) (S ++ [.ins c (List.replicate l none)]) (upd (upd H s.heap.objs.size (.own (s.heap.objs.size + 1))) (s.heap.objs.size + 1) (.ins C s.heap.objs.size [])) := by
    refine rp1.alloc np1 ⟨x, L, C, _, [], hc, hm, rfl, ⟨by rw [List.length_replicate, hL], fun i y v _ e2 => ?_, List.nodup_nil, fun y hy => by cases hy⟩⟩
    rw [List.getElem?_replicate] at e2
    split at e2 <;> cases e2
  have hq : spOf (gm T X) n f (V.ref (s.heap.objs.size + 1) :: vs) (upd (upd H s.heap.objs.size (.own (s.heap.objs.size + 1))) (s.heap.objs.size + 1) (.ins C s.heap.objs.size [])) (fun v H2 => v = .non ∧ Q (.ref (s.heap.objs.size + 1)) H2) (WE W σ) := by
    refine ⟨hn, _, _, .ref S.length :: args, σ, rp2, .cons (new_ref rp.len) (VsR.mono ra (List.prefix_append _ _)), ?_⟩
    have h := Post.mono h ((Ext.aside (u := .own (s.heap.objs.size + 1)) nd).trans (Ext.new (u := .ins C s.heap.objs.size []) np1))
    cases e : f (.ref S.length :: args) (S ++ [.ins c (List.replicate l none)]) with
    | ok v S2 =>
      rw [e] at h
      intro ρ2 H2 w p2 r2 x2
      cases v with
      | non =>
        refine ⟨x2, h ρ2 H2 _ p2 r2 ?_⟩
        exact VR.mono (new_ref rp.len) p2.pre
      | _ => exact h.elim
    | exc c d S2 => rw [e] at h; exact h
    | bad => rw [e] at h; exact h.elim
  have hl : (Value.ref (s.heap.objs.size + 1) :: us).length = ps.length := by
    have e := r2.length
    rw [F.len _ _ _ _ hq] at e
    exact e.symm
  refine wpAny_call (make_map (f := a) I.kIn M.makes M.init (beq_iff_eq.mp M.fn) (codeAny_mono ((F.mono (Nat.le_refl _)).run _ X.stack _ _ ⟨Value.ref (s.heap.objs.size + 1) :: us, []⟩ (Value.ref (s.heap.objs.size + 1) :: us) _ _ (WE W σ) ((Cx.room.mono hj).make C us [])
    (I2.env0.make C us []) ?_ r2 hq) fun r s' hq' => ?_))
  · have b := hb { s with heap := (s.heap.push PySem.W.emptyDict).push (PySem.W.instObj C s.heap.objs.size) } (Value.ref (s.heap.objs.size + 1) :: us) I2.kIn (by rw [List.append_nil]; exact hl)
    rw [List.append_nil] at b
    exact b
  · cases r with
    | error e => exact (Ctx.pass Cx) σ pins _ _ e s' I2 hq'
    | ok fl =>
      cases fl with
      | ret u =>
        obtain ⟨v, H', I3, rv, ev, q3⟩ := I2.after hq'
        subst ev
        exact ⟨rv, ⟨V.ref (s.heap.objs.size + 1), H', I3, rfl, q3⟩⟩
      | next => exact False.elim hq'
      | brk => exact False.elim hq'
      | cont => exact False.elim hq'
theorem de_make {c l : Nat} (C : Ctx X W k) (F : MkX T X x c n j l f) (hj : j + 1 ≤ k) (ha : DA T X W (e :: es) ms) (hg : Gl X x := by rfl) (hdb : (x == ("__debug__" : Str)) = false := by decide)
    (he : starEach (e :: es) X.env = (false, eval e X.env) :: starEach es X.env := by rfl) (hpl : (backTo pos (starEach es X.env)).any (·.1) = false := by rfl) : DE T X W (.Call (.Name x p) (e :: es) [] pos) (mMake c n l f ms) := by
  obtain ⟨L, Ca, a, fd, ps, hc, hL, hm, M, hb, F⟩ := F
  refine ⟨fun pins s σ H Q I h => ?_⟩
  obtain ⟨ρ, S, τ, r, l', h⟩ := h
  refine wpAny_Call_Name_kw (ld_glob I hg hm ?_ hdb)
  have h' : den (gm T X) W VsR ms σ H (fun vs H1 => vs.length + 1 = n ∧ ∃ ρ1 S1 args, Rep (gm T X) ρ1 S1 H1 ∧ VsR ρ1 args vs ∧ Post (gm T X) W VR ρ1 H1 σ Q ((f (.ref S1.length :: args) (S1 ++ [.ins c (List.replicate l none)])).bind fun v S2 => match v with
    | .non => .ok (.ref S1.length) S2
    | _ => .bad)) := by
    refine ⟨ρ, S, τ, r, l', Post.bind h fun ρ1 S1 H1 xs ws p1 r1 x1 h1 => ?_⟩
    by_cases z : xs.length + 1 = n
    · rw [if_pos z] at h1
      exact ⟨by rw [args_len x1]; exact z, ρ1, S1, xs, r1, x1, h1⟩
    · rw [if_neg z] at h1
      exact h1.elim
  refine PySem.W.callWith_K (h₀ := X.base) I.ok.mod.kin M.kp (thn (ha.run pos pins s σ H _ I h') fun us s1 ⟨vs, H1, I1, r, q⟩ => ⟨I1.kIn, ?_⟩) he hpl
  obtain ⟨hn, ρ1, S1, args, r1, x1, h1⟩ := q
  exact run_mk C hL hc hm M F hj hb I1 r hn r1 x1 h1
theorem de_make0 {c l : Nat} (C : Ctx X W k) (F : MkX T X x c 1 j l f) (hj : j + 1 ≤ k) (hg : Gl X x := by rfl) (hdb : (x == ("__debug__" : Str)) = false := by decide) : DE T X W (.Call (.Name x p) [] [] pos) (mMake c 1 l f mNil) := by
  obtain ⟨L, Ca, a, fd, ps, hc, hL, hm, M, hb, F⟩ := F
  refine ⟨fun pins s σ H Q I h => ?_⟩
  obtain ⟨ρ, S, τ, r, l', h⟩ := h
  refine wpAny_Call_Name_kw (ld_glob I hg hm ?_ hdb)
  exact PySem.W.callWith_K0 I.kIn M.kp (run_mk (us := []) C hL hc hm M F hj hb I .nil rfl r .nil h)

/-- e.f: the classes that have it, each with its place -/
def mFld (tab : List (Nat × Nat)) (a : ME) : ME := fun σ S => (a σ S).bind fun x S1 => match x with
  | .ref i => match S1[i]? with
    | some (.ins c fs) => match look tab c with
      | some j => match fs[j]? with
        | some (some v) => .ok v S1
        | _ => .bad
      | none => .bad
    | _ => .bad
  | _ => .bad
/-- the classes of the table have the attribute at its place -/
def FTabF (T : Tab) (K : PySem.W.Frag) (mg : Str → Option Value) (f : Str) : List (Nat × Nat) → Prop
  | [] => True
  | (c, j) :: r => (∃ x L C, T.cs[c]? = some (x, L) ∧ L[j]? = some f ∧ L.Nodup ∧ L.length < 1000 ∧ mg x = some (.ref C) ∧ Cls K C ∧ NoAttr K C f) ∧ FTabF T K mg f r
abbrev FTab (T : Tab) (X : Cx) (f : Str) (tab : List (Nat × Nat)) : Prop := FTabF T X.K X.mg f tab
theorem FTab.get : ∀ {tab : List (Nat × Nat)} {c i : Nat}, FTab T X m tab → look tab c = some i → ∃ x L C, T.cs[c]? = some (x, L) ∧ L[i]? = some m ∧ L.Nodup ∧ L.length < 1000 ∧ X.mg x = some (.ref C) ∧ Cls X.K C ∧ NoAttr X.K C m
  | [], _, _, _, e => by cases e
  | (d, g) :: r, c, i, h, e => by
    unfold look at e
    by_cases z : d = c
    · rw [if_pos z] at e
      cases e
      rw [← z]
      exact h.1
    · rw [if_neg z] at e
      exact FTab.get h.2 e
theorem de_fld {tab : List (Nat × Nat)} (F : FTab T X m tab) (ho : DE T X W o ma) (hb : attributeBase o m X.env (eval o X.env) = eval o X.env := by rfl) : DE T X W (.Attribute o m pos) (mFld tab ma) := (pe_fld ho hb).imp fun σ H Q h => by
  obtain ⟨ρ, S, τ, r, l, h⟩ := h
  refine ⟨ρ, S, τ, r, l, Post.bind h fun ρ1 S1 H1 x w p1 r1 x1 h1 => ?_⟩
  split at h1
  · split at h1
    · split at h1
      · split at h1
        · rename_i i _ c fs es _ j ej _ v ev
          obtain ⟨ad, u, ew, er, eh, ob⟩ := r1.ref es x1
          obtain ⟨y, L, C, hc, hL, hnd, hlen, hm, hcl, hna⟩ := F.get ej
          obtain ⟨x2, L2, C2, dx, gs, hc2, hm2, e2, ar⟩ := ob
          subst e2
          have q1 : some (y, L) = some (x2, L2) := hc.symm.trans hc2
          cases q1
          have q2 : some (Value.ref C) = some (Value.ref C2) := hm.symm.trans hm2
          cases q2
          obtain ⟨w', lw, rw'⟩ := ar.at_ j m v hL ev
          exact ⟨ad, C, dx, gs, w', ew, eh, hcl, hna, lw, h1 ρ1 H1 w' (Ext.refl) r1 rw'⟩
        · exact h1.elim
      · exact h1.elim
    · exact h1.elim
  · exact h1.elim
end
end Mi

namespace Mi
open PySem PySem.Spec L2
open PyProof.Rows hiding St

/-! ### statements -/
def R.lift {α : Type} : R α → St → (α → Sto → RS) → RS
  | .ok a S, _, f => f a S
  | .exc c d S, σ, _ => .exc c d σ S
  | .bad, _, _ => .bad
def RS.seq : RS → (St → Sto → RS) → RS
  | .nx σ S, f => f σ S
  | r, _ => r
def mSkip : MS := fun σ S => .nx σ S
def mSeq (a b : MS) : MS := fun σ S => (a σ S).seq b
def mExpr (a : ME) : MS := fun σ S => (a σ S).lift σ fun _ S1 => .nx σ S1
def mSet (i : Nat) (a : ME) : MS := fun σ S => (a σ S).lift σ fun v S1 => .nx (σ.set i (some v)) S1
def mRet (a : ME) : MS := fun σ S => (a σ S).lift σ fun v S1 => .rt v S1
def mRetN : MS := fun _ S => .rt .non S
def mBrk : MS := fun σ S => .bk σ S
def mCnt : MS := fun σ S => .ct σ S
def mIfS (c : MT) (a b : MS) : MS := fun σ S => (c σ S).lift σ fun x S1 => if x = true then a σ S1 else b σ S1
def mAug (i : Nat) (o : V → V → Sto → R V) (a : ME) : MS := fun σ S => (mVar i σ S).lift σ fun x S0 => (a σ S0).lift σ fun y S1 => (o x y S1).lift σ fun z S2 => .nx (σ.set i (some z)) S2
/-- o.f = e: the value first -/
def mSetF (tab : List (Nat × Nat)) (o a : ME) : MS := fun σ S => (a σ S).lift σ fun v S1 => (o σ S1).lift σ fun x S2 => match x with
  | .ref i => match S2[i]? with
    | some (.ins c fs) => match look tab c with
      | some j => .nx σ (S2.set i (.ins c (fs.set j (some v))))
      | none => .bad
    | _ => .bad
  | _ => .bad
def mAugF (tab : List (Nat × Nat)) (op : V → V → Sto → R V) (o a : ME) : MS := fun σ S => (o σ S).lift σ fun x S1 => match x with
  | .ref i => match S1[i]? with
    | some (.ins c fs) => match look tab c with
      | some j => match fs[j]? with
        | some (some v) => (a σ S1).lift σ fun y S2 => (op v y S2).lift σ fun z S3 => match S3[i]? with
          | some (.ins c' fs') => if c' = c then .nx σ (S3.set i (.ins c (fs'.set j (some z)))) else .bad
          | _ => .bad
        | _ => .bad
      | none => .bad
    | _ => .bad
  | _ => .bad
/-- o[i] = e by a store's function -/
abbrev Op3 := V → V → V → Sto → R Unit
def mSetI (t : Op3) (o i a : ME) : MS := fun σ S => (a σ S).lift σ fun v S1 => (o σ S1).lift σ fun x S2 => (i σ S2).lift σ fun y S3 => (t x y v S3).lift σ fun _ S4 => .nx σ S4

section
variable {G : Gm} {W : WX} {α β : Type} {rel : List Addr → α → β → Prop} {ρ : List Addr} {H : Hp} {σ τ : St} {D : Ends}
theorem PostS.lift {T : β → Hp → Prop} {r : R α} {f : α → Sto → RS} (h : PostS G W ρ H D (r.lift τ f)) (l : LR ρ τ σ)
    (hf : ∀ (ρ1 : List Addr) (S1 : Sto) (H1 : Hp) (a : α) (b : β), Ext ρ H ρ1 H1 → Rep G ρ1 S1 H1 → rel ρ1 a b → LR ρ1 τ σ → PostS G W ρ1 H1 D (f a S1) → T b H1) : Post G W rel ρ H σ T r := by
  cases r with
  | ok v S2 => exact fun ρ2 H2 w p2 r2 x => hf ρ2 S2 H2 v w p2 r2 x (l.mono p2.pre) (PostS.mono (show PostS G W ρ H D (f v S2) from h) p2)
  | exc c d S2 => exact fun ρ2 H2 C dd p2 r2 => h ρ2 H2 σ C dd p2 r2 (l.mono p2.pre)
  | bad => exact h
end

section
variable {T : Tab} {W : WX} {X : Cx} {e o c i : Expr} {ma mb mo mi : ME} {mt : MT} {ms mu : MS} {x m : Str} {p pos pos' apos : Pos} {st : Stmt} {sts sts' : List Stmt} {n j k : Nat} {f : Fn}
theorem ds_nil : DSs T X W [] mSkip := pss_nil.imp fun D σ H h => by
  obtain ⟨ρ, S, τ, r, l, h⟩ := h
  exact h ρ H σ (Ext.refl) r l
theorem ds_one (h : DS T X W st ms) : DSs T X W [st] ms := pss_one h
theorem ds_cons (h : DS T X W st ms) (hr : DSs T X W sts mu) : DSs T X W (st :: sts) (mSeq ms mu) := (pss_cons h hr).imp fun D σ H h => by
  obtain ⟨ρ, S, τ, r, l, h⟩ := h
  refine ⟨ρ, S, τ, r, l, ?_⟩
  unfold mSeq at h
  cases e : ms τ S with
  | nx τ2 S2 =>
    rw [e] at h
    exact fun ρ2 H2 σ2 p2 r2 l2 => ⟨ρ2, S2, τ2, r2, l2, PostS.mono (show PostS _ W ρ H D (mu τ2 S2) from h) p2⟩
  | rt v S2 => rw [e] at h; exact h
  | bk τ2 S2 => rw [e] at h; exact h
  | ct τ2 S2 => rw [e] at h; exact h
  | exc c d τ2 S2 => rw [e] at h; exact h
  | bad => rw [e] at h; exact h.elim
theorem ds_pass : DS T X W (.Pass pos) mSkip := ps_pass.imp fun D σ H h => by
  obtain ⟨ρ, S, τ, r, l, h⟩ := h
  exact h ρ H σ (Ext.refl) r l
theorem ds_doc {z : Str} {j pos'} : DS T X W (.Expr (.Constant (.str z) j pos) pos') mSkip := ps_doc.imp fun D σ H h => by
  obtain ⟨ρ, S, τ, r, l, h⟩ := h
  exact h ρ H σ (Ext.refl) r l
theorem ds_brk : DS T X W (.Break pos) mBrk := ps_break.imp fun D σ H h => by
  obtain ⟨ρ, S, τ, r, l, h⟩ := h
  exact h ρ H σ (Ext.refl) r l
theorem ds_cnt : DS T X W (.Continue pos) mCnt := ps_continue.imp fun D σ H h => by
  obtain ⟨ρ, S, τ, r, l, h⟩ := h
  exact h ρ H σ (Ext.refl) r l
theorem ds_expr (he : DE T X W e ma) (hs : swapsWith e none pos.line X.env = pure false := by rfl) : DS T X W (.Expr e pos) (mExpr ma) := (ps_expr he hs).imp fun D σ H h => by
  obtain ⟨ρ, S, τ, r, l, h⟩ := h
  refine ⟨ρ, S, τ, r, l, PostS.lift h l fun ρ1 S1 H1 v w p1 r1 x1 l1 h1 => ?_⟩
  exact h1 ρ1 H1 σ (Ext.refl) r1 l1
theorem ds_ret (he : DE T X W e ma) : DS T X W (.Return (some e) pos) (mRet ma) := (ps_ret he).imp fun D σ H h => by
  obtain ⟨ρ, S, τ, r, l, h⟩ := h
  refine ⟨ρ, S, τ, r, l, PostS.lift h l fun ρ1 S1 H1 v w p1 r1 x1 l1 h1 => ?_⟩
  exact h1 ρ1 H1 w (Ext.refl) r1 x1
theorem ds_retN : DS T X W (.Return none pos) mRetN := ps_retN.imp fun D σ H h => by
  obtain ⟨ρ, S, τ, r, l, h⟩ := h
  exact h ρ H .non (Ext.refl) r rfl
theorem ds_if (hc : DT T X W c mt) (ha : DSs T X W sts ms) (hb : DSs T X W sts' mu) : DS T X W (.If c sts sts' pos) (mIfS mt ms mu) := (ps_if hc ha hb).imp fun D σ H h => by
  obtain ⟨ρ, S, τ, r, l, h⟩ := h
  refine ⟨ρ, S, τ, r, l, PostS.lift h l fun ρ1 S1 H1 v w p1 r1 x1 l1 h1 => ?_⟩
  cases x1
  cases v with
  | true => exact ⟨ρ1, S1, τ, r1, l1, h1⟩
  | false => exact ⟨ρ1, S1, τ, r1, l1, h1⟩
theorem lr_set {ρ : List Addr} {τ σ : St} {v w : V} (l : LR ρ τ σ) (h : VR ρ v w) (i : Nat) : LR ρ (τ.set i (some v)) (σ.set i (some w)) := prd_set (F := OR ρ) (x := some v) (y := some w) h i l
theorem ds_set {i : Nat} (C : X.N.Nodup) (he : DE T X W e ma) (hi : X.N[i]? = some x := by rfl) (hx : Loc X.env.scope x := by first | exact Or.inl rfl | exact Or.inr rfl) (hs : swapsWith e (some (.Name x pos')) pos.line X.env = pure false := by rfl)
    (hf : X.fn x = true ∨ X.env.scope.names.lookup x = some .local := by first | exact .inl rfl | exact .inr rfl) : DS T X W (.Assign [.Name x pos'] e pos) (mSet i ma) := (ps_set (i := i) C hi hx he hs hf).imp fun D σ H h => by
  obtain ⟨ρ, S, τ, r, l, h⟩ := h
  refine ⟨ρ, S, τ, r, l, PostS.lift h l fun ρ1 S1 H1 v w p1 r1 x1 l1 h1 => ?_⟩
  exact h1 ρ1 H1 _ (Ext.refl) r1 (lr_set l1 x1 i)
theorem ds_aug {i : Nat} {op : Operator} {oo : V → V → Sto → R V} (C : X.N.Nodup) (ho : Op2 T X (inplaceOp op) oo) (he : DE T X W e mb) (hi : X.N[i]? = some x := by rfl) (hx : Loc X.env.scope x := by first | exact Or.inl rfl | exact Or.inr rfl)
    (hf : X.fn x = true ∨ X.env.scope.names.lookup x = some .local := by first | exact .inl rfl | exact .inr rfl) : DS T X W (.AugAssign (.Name x pos') op e pos) (mAug i oo mb) := by
  refine (ps_aug (i := i) (op := op) (ti := denR (gm T X) oo) C hi hx he (fun pins s σ H x y v u Q I rx ry h => ho.1 pins s σ H x y v u Q I rx ry h) hf).imp fun D σ H h => ?_
  obtain ⟨ρ, S, τ, r, l, h⟩ := h
  unfold mAug mVar at h
  cases ev : τ[i]? with
  | none => rw [ev] at h; exact h.elim
  | some ov =>
    rw [ev] at h
    cases ov with
    | none => exact h.elim
    | some v =>
      obtain ⟨y, ey, ry⟩ := prd_get l ev
      cases y with
      | none => exact ry.elim
      | some w =>
        refine ⟨w, ey, ⟨ρ, S, τ, r, l, PostS.lift h l fun ρ1 S1 H1 u z p1 r1 x1 l1 h1 => ?_⟩⟩
        refine ⟨ρ1, S1, v, u, σ, r1, VR.mono (v := v) (w := w) ry p1.pre, x1, Post.still (PostS.lift (rel := VR) h1 l1 fun ρ2 S2 H2 a b p2 r2 x2 l2 h2 => ?_) (ho.2 _ _ _)⟩
        exact h2 ρ2 H2 _ (Ext.refl) r2 (lr_set l2 x2 i)
theorem AR.put {ρ : List Addr} {L : List Str} {fs : List (Option V)} {gs : List (Str × V)} {j : Nat} {v w : V} (h : AR ρ L fs gs) (hn : L.Nodup) (hj : L[j]? = some m) (r : VR ρ v w) : AR ρ L (fs.set j (some v)) (putF m w gs) := by
  have keys : ∀ gs : List (Str × V), (putF m w gs).map (·.1) = if m ∈ gs.map (·.1) then gs.map (·.1) else gs.map (·.1) ++ [m] := by
    intro gs
    induction gs with
    | nil => rfl
    | cons q gs ih =>
      obtain ⟨g, y⟩ := q
      show (if g = m then (g, w) :: gs else (g, y) :: putF m w gs).map (·.1) = _
      by_cases z : g = m
      · rw [if_pos z, if_pos (by rw [List.map_cons, ← z]; exact List.mem_cons_self)]
        rfl
      · rw [if_neg z, List.map_cons, ih, List.map_cons]
        by_cases z2 : m ∈ gs.map (·.1)
        · rw [if_pos z2, if_pos (List.mem_cons_of_mem _ z2)]
        · rw [if_neg z2, if_neg (fun q => by
            rcases List.mem_cons.mp q with e | e
            · exact z e.symm
            · exact z2 e)]
          rfl
  refine ⟨by rw [List.length_set]; exact h.len, fun i y u hi hu => ?_, ?_, fun y hy => ?_⟩
  · rw [lookup_putF]
    by_cases z : i = j
    · subst z
      rw [hj] at hi
      cases hi
      have hlt : i < fs.length := by rw [h.len]; exact (List.getElem?_eq_some_iff.mp hj).1
      rw [List.getElem?_set_self hlt] at hu
      cases hu
      rw [if_pos rfl]
      exact ⟨w, rfl, r⟩
    · rw [List.getElem?_set_ne (Ne.symm z)] at hu
      have ne : y ≠ m := fun q => z (by
        subst q
        have h1 := List.getElem?_eq_some_iff.mp hi
        have h2 := List.getElem?_eq_some_iff.mp hj
        exact (List.getElem_inj hn).mp (h1.2.trans h2.2.symm))
      rw [if_neg ne]
      exact h.at_ i y u hi hu
  · rw [keys]
    by_cases z : m ∈ gs.map (·.1)
    · rw [if_pos z]; exact h.nd
    · rw [if_neg z, List.nodup_append]
      exact ⟨h.nd, by simp, fun a ha b hb q => by
        rw [List.mem_singleton] at hb
        exact z (by rw [← hb, ← q]; exact ha)⟩
  · rw [keys] at hy
    by_cases z : m ∈ gs.map (·.1)
    · rw [if_pos z] at hy; exact h.sub y hy
    · rw [if_neg z] at hy
      rcases List.mem_append.mp hy with q | q
      · exact h.sub y q
      · rw [List.mem_singleton] at q
        rw [q]
        exact List.mem_iff_getElem?.mpr ⟨j, hj⟩
theorem nodup_sub_len : ∀ {l L : List Str}, l.Nodup → (∀ x ∈ l, x ∈ L) → l.length ≤ L.length
  | [], _, _, _ => Nat.zero_le _
  | a :: l, L, h, s => by
    have h1 := List.nodup_cons.mp h
    have h2 : ∀ x ∈ l, x ∈ L.erase a := fun x hx => (List.mem_erase_of_ne (fun e => h1.1 (by rw [← e]; exact hx))).mpr (s x (List.mem_cons_of_mem _ hx))
    have h3 := nodup_sub_len h1.2 h2
    have h4 : a ∈ L := s a List.mem_cons_self
    rw [List.length_erase_of_mem h4] at h3
    have h5 := List.length_pos_of_mem h4
    rw [List.length_cons]
    omega
theorem AR.small {ρ : List Addr} {L : List Str} {fs : List (Option V)} {gs : List (Str × V)} (h : AR ρ L fs gs) (hl : L.length < 1000) : gs.length < 1000 := by
  have := nodup_sub_len h.nd h.sub
  rw [List.length_map] at this
  omega
theorem ds_setF {tab : List (Nat × Nat)} (F : FTab T X m tab) (ho : DE T X W o mo) (he : DE T X W e ma) (hs : swapsWith e (some (.Attribute o m pos')) pos.line X.env = pure false := by rfl) : DS T X W (.Assign [.Attribute o m pos'] e pos) (mSetF tab mo ma) := (ps_fld ho he hs).imp fun D σ H h => by
  obtain ⟨ρ, S, τ, r, l, h⟩ := h
  refine ⟨ρ, S, τ, r, l, PostS.lift h l fun ρ1 S1 H1 v w p1 r1 x1 l1 h1 => ?_⟩
  refine ⟨ρ1, S1, τ, r1, l1, PostS.lift h1 l1 fun ρ2 S2 H2 y z p2 r2 x2 l2 h2 => ?_⟩
  split at h2
  · split at h2
    · split at h2
      · rename_i i _ c fs es _ j ej
        obtain ⟨ad, u, ew, er, eh, ob⟩ := r2.ref es x2
        obtain ⟨y, L, C, hc, hL, hnd, hlen, hm, hcl, hna⟩ := F.get ej
        obtain ⟨x3, L3, C3, dx, gs, hc3, hm3, e3, ar⟩ := ob
        subst e3
        have q1 : some (y, L) = some (x3, L3) := hc.symm.trans hc3
        cases q1
        have q2 : some (Value.ref C) = some (Value.ref C3) := hm.symm.trans hm3
        cases q2
        refine ⟨ad, C, dx, gs, ew, eh, hcl, hna, ar.small hlen, ?_⟩
        exact h2 ρ2 _ σ (Ext.put eh (fun _ _ q => nomatch q)) (r2.write es er (fun fs q => by rw [eh] at q; cases q) ⟨y, L, C, dx, _, hc, hm, rfl, ar.put hnd hL (x1.mono p2.pre)⟩) l2
      · exact h2.elim
    · exact h2.elim
  · exact h2.elim
theorem ds_augF {tab : List (Nat × Nat)} {op : Operator} {oo : V → V → Sto → R V} (F : FTab T X m tab) (hop : Op2 T X (inplaceOp op) oo) (ho : DE T X W o mo) (he : DE T X W e ma) : DS T X W (.AugAssign (.Attribute o m pos') op e pos) (mAugF tab oo mo ma) := by
  refine (ps_fldaug (rd := denR (gm T X) oo) ho he (fun pins s σ H x y u v Q I rx ry h => hop.1 pins s σ H x y u v Q I rx ry h)).imp fun D σ H h => ?_
  obtain ⟨ρ, S, τ, r, l, h⟩ := h
  refine ⟨ρ, S, τ, r, l, PostS.lift h l fun ρ1 S1 H1 y z p1 r1 x1 l1 h1 => ?_⟩
  split at h1
  · split at h1
    · split at h1
      · split at h1
        · rename_i i _ c fs es _ j ej _ v ev
          obtain ⟨ad, u, ew, er, eh, ob⟩ := r1.ref es x1
          obtain ⟨y, L, C, hc, hL, hnd, hlen, hm, hcl, hna⟩ := F.get ej
          obtain ⟨x3, L3, C3, dx, gs, hc3, hm3, e3, ar⟩ := ob
          subst e3
          have q1 : some (y, L) = some (x3, L3) := hc.symm.trans hc3
          cases q1
          have q2 : some (Value.ref C) = some (Value.ref C3) := hm.symm.trans hm3
          cases q2
          obtain ⟨w', lw, rw'⟩ := ar.at_ j m v hL ev
          refine ⟨ad, C, dx, gs, w', ew, eh, hcl, hna, lw, ?_⟩
          refine ⟨ρ1, S1, τ, r1, l1, PostS.lift h1 l1 fun ρ2 S2 H2 u' z' p2 r2 x2 l2 h2 => ?_⟩
          refine ⟨ρ2, S2, v, u', σ, r2, rw'.mono p2.pre, x2, Post.still (PostS.lift (rel := VR) h2 l2 fun ρ3 S3 H3 a b p3 r3 x3 l3 h3 => ?_) (hop.2 _ _ _)⟩
          split at h3
          · rename_i c' fs' es3
            split at h3
            · rename_i ecc
              subst ecc
              have x1' : VR ρ3 (.ref i) (.ref ad) := ⟨ad, pre_get (p2.trans p3).pre er, rfl⟩
              obtain ⟨ad', u3, ew3, er3, eh3, ob3⟩ := r3.ref es3 x1'
              cases ew3
              obtain ⟨x4, L4, C4, dx4, gs4, hc4, hm4, e4, ar4⟩ := ob3
              subst e4
              have q1 : some (y, L) = some (x4, L4) := hc.symm.trans hc4
              cases q1
              have q2 : some (Value.ref C) = some (Value.ref C4) := hm.symm.trans hm4
              cases q2
              refine ⟨dx4, gs4, eh3, ar4.small hlen, ?_⟩
              exact h3 ρ3 _ σ ((Ext.put eh3 (fun _ _ q => nomatch q))) (r3.write es3 er3 (fun fs q => by rw [eh3] at q; cases q) ⟨y, L, C, dx4, _, hc, hm, rfl, ar4.put hnd hL x3⟩) l3
            · exact h3.elim
          · exact h3.elim
        · exact h1.elim
      · exact h1.elim
    · exact h1.elim
  · exact h1.elim
/-- a store o[i] = v in the store, as its function tells -/
def denI3 (G : Gm) (t : Op3) : TSet := fun o i v H Q => ∃ ρ S x y z σ, Rep G ρ S H ∧ VR ρ x o ∧ VR ρ y i ∧ VR ρ z v ∧ Post G (fun _ _ _ _ => False) (fun _ (_ : Unit) (_ : Unit) => True) ρ H σ (fun _ H' => Q H') (t x y z S)
abbrev St3 (T : Tab) (X : Cx) (t : Op3) : Prop := PSet X (denI3 (gm T X) t) ∧ ∀ x y z S, (t x y z S).quiet
theorem ds_setI {t : Op3} (ht : St3 T X t) (ho : DE T X W o mo) (hi : DE T X W i mi) (he : DE T X W e ma)
    (ha : ∀ v, assign (.Subscript o i pos') X.env v = (do
      let ov ← holding [v] (eval o X.env)
      let iv ← holding [v, ov] (eval i X.env)
      standAt pos'
      holding [v, ov, iv] (setItem ov iv v)
      release [v, ov, iv] []) := by intro _; rfl)
    (hs : swapsWithSole [.Subscript o i pos'] e pos.line X.env = pure false := by rfl) (hw : swappedStores [.Subscript o i pos'] e X.env = pure none := by rfl)
    (h1 : (assignEach [.Subscript o i pos'] X.env).map (·.2) = [assign (.Subscript o i pos') X.env] := by rfl) : DS T X W (.Assign [.Subscript o i pos'] e pos) (mSetI t mo mi ma) :=
  (ps_asg he (pg_sub ho hi ht.1 ha) hs hw h1).imp fun D σ H h => by
    obtain ⟨ρ, S, τ, r, l, h⟩ := h
    refine ⟨ρ, S, τ, r, l, PostS.lift h l fun ρ1 S1 H1 v w p1 r1 x1 l1 h1 => ?_⟩
    refine ⟨ρ1, S1, τ, r1, l1, PostS.lift h1 l1 fun ρ2 S2 H2 ov ow p2 r2 x2 l2 h2 => ?_⟩
    refine ⟨ρ2, S2, τ, r2, l2, PostS.lift h2 l2 fun ρ3 S3 H3 iv iw p3 r3 x3 l3 h3 => ?_⟩
    refine ⟨ρ3, S3, ov, iv, v, σ, r3, x2.mono p3.pre, x3, x1.mono (p2.trans p3).pre, Post.still (PostS.lift (rel := fun _ _ _ => True) h3 l3 fun ρ4 S4 H4 a b p4 r4 x4 l4 h4 => ?_) (ht.2 _ _ _ _)⟩
    exact h4 ρ4 H4 σ (Ext.refl) r4 l4
end

/-! ### while -/
def mWhile (c : MT) (b : MS) : Nat → MS
  | 0 => fun _ _ => .bad
  | n + 1 => fun σ S => (c σ S).lift σ fun x S1 => if x = true then (match b σ S1 with
      | .nx σ2 S2 => mWhile c b n σ2 S2
      | .ct σ2 S2 => mWhile c b n σ2 S2
      | .bk σ2 S2 => .nx σ2 S2
      | r => r) else .nx σ S1
section
variable {T : Tab} {W : WX} {X : Cx} {c : Expr} {mt : MT} {ms : MS} {pos : Pos} {sts : List Stmt} {k : Nat}
theorem ds_while (n : Nat) (C : Ctx X W k) (hc : DT T X W c mt) (hb : DSs T X W sts ms) : DS T X W (.While c sts [] pos) (mWhile mt ms n) := (ps_while C.own hc hb).imp fun D σ H h => by
  obtain ⟨ρ, S, τ, r, l, h⟩ := h
  refine ⟨fun m σ H => ∃ ρ S τ, Rep (gm T X) ρ S H ∧ LR ρ τ σ ∧ PostS (gm T X) W ρ H D (mWhile mt ms m τ S), ⟨n, ρ, S, τ, r, l, h⟩, fun m σ H hW => ?_⟩
  obtain ⟨ρ, S, τ, r, l, h⟩ := hW
  cases m with
  | zero => exact h.elim
  | succ m =>
    refine ⟨ρ, S, τ, r, l, PostS.lift h l fun ρ1 S1 H1 v w p1 r1 x1 l1 h1 => ?_⟩
    cases x1
    cases v with
    | false => exact h1 ρ1 H1 σ (Ext.refl) r1 l1
    | true =>
      refine ⟨fun σ' H' => ∃ ρ S τ, Rep (gm T X) ρ S H' ∧ LR ρ τ σ' ∧ PostS (gm T X) W ρ H' D (mWhile mt ms m τ S), fun σ' H' hN => ⟨m, Nat.lt_succ_self _, hN⟩, ρ1, S1, τ, r1, l1, ?_⟩
      have h1 : PostS (gm T X) W ρ1 H1 D (match ms τ S1 with
      | .nx σ2 S2 => mWhile mt ms m σ2 S2
      | .ct σ2 S2 => mWhile mt ms m σ2 S2
      | .bk σ2 S2 => .nx σ2 S2
      | r => r) := h1
      cases e : ms τ S1 with
      | nx τ2 S2 => rw [e] at h1; exact fun ρ2 H2 σ2 p2 r2 l2 => ⟨ρ2, S2, τ2, r2, l2, PostS.mono h1 p2⟩
      | ct τ2 S2 => rw [e] at h1; exact fun ρ2 H2 σ2 p2 r2 l2 => ⟨ρ2, S2, τ2, r2, l2, PostS.mono h1 p2⟩
      | bk τ2 S2 => rw [e] at h1; exact h1
      | rt v S2 => rw [e] at h1; exact h1
      | exc c d τ2 S2 => rw [e] at h1; exact h1
      | bad => rw [e] at h1; exact h1
end

/-! ### what is walked -/
/-- an item of a walk: a value; or a new tuple of some values -/
inductive Itv where
  | v (x : V) | t (xs : List V)
def ItvR (ρ : List Addr) (H : Hp) : Itv → V → Prop
  | .v x, w => VR ρ x w
  | .t xs, w => ∃ p ws, w = .ref p ∧ H p = some (.tup ws) ∧ VsR ρ xs ws
abbrev Tg := Itv → St → Sto → Option St
def tgName (i : Nat) : Tg := fun it σ _ => match it with
  | .v x => some (σ.set i (some x))
  | .t _ => none
def setAll : List Nat → List V → St → Option St
  | [], [], σ => some σ
  | i :: is, x :: xs, σ => setAll is xs (σ.set i (some x))
  | _, _, _ => none
def rdT (S : Sto) : V → Option (List V)
  | .ref i => match S[i]? with
    | some (.tup xs) => some xs
    | _ => none
  | _ => none
def tgTup (is : List Nat) : Tg := fun it σ S => match it with
  | .t xs => setAll is xs σ
  | .v x => match rdT S x with
    | some xs => setAll is xs σ
    | none => none
/-- but for the places of a list as it was -/
def Bt (is : List Nat) (σ σ2 : St) : Prop := σ2.length = σ.length ∧ ∀ j, j ∉ is → σ2[j]? = σ[j]?
theorem Bt.refl (is : List Nat) (σ : St) : Bt is σ σ := ⟨rfl, fun _ _ => rfl⟩
theorem Bt.set {is : List Nat} {σ σ2 : St} {i : Nat} {v : Option V} (h : Bt is (σ.set i v) σ2) : Bt (i :: is) σ σ2 := ⟨by rw [h.1, List.length_set], fun j hj => by
  rw [h.2 j fun z => hj (List.mem_cons_of_mem _ z), List.getElem?_set_ne fun z => hj (by rw [z]; exact List.mem_cons_self)]⟩
def TgOk (G : Gm) (g : TG) (is : List Nat) (tg : Tg) : Prop := ∀ (ρ : List Addr) (S : Sto) (H : Hp) (τ σ : St) (it : Itv) (w : V) (τ2 : St) (Q : St → Hp → Prop), Rep G ρ S H → LR ρ τ σ → ItvR ρ H it w → tg it τ S = some τ2 → (∀ σ2, LR ρ τ2 σ2 → Bt is σ σ2 → Q σ2 H) → g w σ H Q
def DG (T : Tab) (X : Cx) (e : Expr) (is : List Nat) (tg : Tg) : Prop := ∃ g : TG, PG X e g ∧ TgOk (gm T X) g is tg
theorem Rep.rdT {G : Gm} {ρ : List Addr} {S : Sto} {H : Hp} {v w : V} {xs : List V} (r : Rep G ρ S H) (h : rdT S v = some xs) (x : VR ρ v w) : ∃ a ws, w = .ref a ∧ H a = some (.tup ws) ∧ VsR ρ xs ws := by
  unfold Mi.rdT at h
  split at h
  · split at h
    · rename_i i _ ys es
      cases h
      obtain ⟨a, u, ew, _, eh, ys, eu, vr⟩ := r.ref es x
      subst eu
      exact ⟨a, ys, ew, eh, vr⟩
    · cases h
  · cases h
section
variable {T : Tab} {W : WX} {X : Cx} {x : Str} {pos : Pos} {k : Nat}
theorem lr_set' : True := trivial
theorem tgok_name {G : Gm} {i : Nat} : TgOk G (gName i) [i] (tgName i) := fun ρ S H τ σ it w τ2 Q r l x e q => by
  cases it with
  | v y => cases e; exact q _ (lr_set l x i) (Bt.refl [] _).set
  | t ys => cases e
def gAll : List Nat → TGs
  | [] => gNil
  | i :: is => gCons (gName i) (gAll is)
theorem gAll_of {ρ : List Addr} {H : Hp} : ∀ {is : List Nat} {τ σ : St} {xs ws : List V} {τ2 : St} {Q : St → Hp → Prop}, LR ρ τ σ → VsR ρ xs ws → setAll is xs τ = some τ2 → (∀ σ2, LR ρ τ2 σ2 → Bt is σ σ2 → Q σ2 H) → gAll is ws σ H Q
  | [], _, _, _, _, _, _, l, .nil, e, q => by cases e; exact ⟨rfl, q _ l (Bt.refl _ _)⟩
  | [], _, _, _, _, _, _, l, .cons _ _, e, q => by cases e
  | _ :: _, _, _, _, _, _, _, l, .nil, e, q => by cases e
  | i :: is, _, _, _, _, _, _, l, .cons r rr, e, q => ⟨_, _, rfl, gAll_of (lr_set l r i) rr e fun σ2 l2 b2 => q σ2 l2 b2.set⟩
theorem setAll_len : ∀ {is : List Nat} {xs : List V} {σ τ : St}, setAll is xs σ = some τ → xs.length = is.length
  | [], [], _, _, _ => rfl
  | [], _ :: _, _, _, h => by cases h
  | _ :: _, [], _, _, h => by cases h
  | i :: is, x :: xs, σ, τ, h => by
    have := setAll_len (is := is) (xs := xs) (show setAll is xs (σ.set i (some x)) = some τ from h)
    rw [List.length_cons, List.length_cons, this]
theorem tgok_tup {G : Gm} {is : List Nat} : TgOk G (gTup G.K is.length (gAll is)) is (tgTup is) := fun ρ S H τ σ it w τ2 Q r l x e q => by
  cases it with
  | t xs =>
    obtain ⟨p, ws, ew, hp, vr⟩ := x
    refine ⟨p, ws, ew, .inl (.inl hp), ?_, gAll_of l vr e q⟩
    rw [← prd_len vr]
    exact setAll_len e
  | v y =>
    unfold tgTup at e
    dsimp only at e
    cases er : Mi.rdT S y with
    | none => rw [er] at e; cases e
    | some xs =>
      rw [er] at e
      obtain ⟨a, ws, ew, hp, vr⟩ := r.rdT er x
      refine ⟨a, ws, ew, .inl (.inl hp), ?_, gAll_of l vr e q⟩
      rw [← prd_len vr]
      exact setAll_len e
theorem dg_name {i : Nat} (C : X.N.Nodup) (hi : X.N[i]? = some x := by rfl) (hx : Loc X.env.scope x := by first | exact Or.inl rfl | exact Or.inr rfl) (hf : X.fn x = true ∨ X.env.scope.names.lookup x = some .local := by first | exact .inl rfl | exact .inr rfl) : DG T X (.Name x pos) [i] (tgName i) :=
  ⟨gName i, pg_name C hi hx hf, tgok_name⟩
theorem dg_tup {es : List Expr} {is : List Nat} {kk : Nat} (hc : X.calm = true) (h : PGs X es (gAll is)) (hn : (assignEach es X.env).length = is.length := by rfl) (hst : (assignEach es X.env).findIdx? (·.1) = none := by rfl) : DG T X (.Tuple es kk pos) is (tgTup is) :=
  ⟨_, pg_tup hc h hn hst, tgok_tup⟩
end

/-- items and a look at the store that must hold at each turn -/
structure Src where
  its : List Itv
  chk : Sto → Bool
def IsIt (G : Gm) (H : Hp) (ρ : List Addr) (s : Src) (J : It) : Prop := ∀ ρ2 S2 H2, Ext ρ H ρ2 H2 → Rep G ρ2 S2 H2 → s.chk S2 = true → J.stop s.its.length H2 ∧ ∀ i it, s.its[i]? = some it → J.go i H2 ∧ ∀ x H3, J.yld i H2 x H3 → Ext ρ2 H2 ρ2 H3 ∧ Rep G ρ2 S2 H3 ∧ ItvR ρ2 H3 it x
def denI (G : Gm) (W : WX) (m : St → Sto → R Src) : TI := fun σ H Q => den G W (fun ρ1 (a : Src) (b : List Addr × Src) => b = (ρ1, a)) m σ H fun b H1 => ∀ J, IsIt G H1 b.1 b.2 J → Q J H1
abbrev DI (T : Tab) (X : Cx) (W : WX) (tg e : Expr) (m : St → Sto → R Src) : Prop := PI X tg e (denI (gm T X) W m)
def mFor1 (chk : Sto → Bool) (tg : Tg) (b : MS) : List Itv → MS
  | [], σ, S => if chk S = true then .nx σ S else .bad
  | it :: r, σ, S => if chk S = true then (match tg it σ S with
    | some σ1 => (match b σ1 S with
      | .nx σ2 S2 => mFor1 chk tg b r σ2 S2
      | .ct σ2 S2 => mFor1 chk tg b r σ2 S2
      | .bk σ2 S2 => .nx σ2 S2
      | r => r)
    | none => .bad) else .bad
def mFor (src : St → Sto → R Src) (tg : Tg) (b : MS) : MS := fun σ S => (src σ S).lift σ fun s S1 => mFor1 s.chk tg b s.its σ S1
section
variable {T : Tab} {W : WX} {X : Cx} {tge iter : Expr} {is : List Nat} {tg : Tg} {src : St → Sto → R Src} {ms : MS} {pos : Pos} {sts : List Stmt} {k : Nat}
theorem ds_for (C : Ctx X W k) (hi : DI T X W tge iter src) (hg : DG T X tge is tg) (hb : DSs T X W sts ms) (hs : ∀ x, foldedSetIterable iter X.env x = pure x := by intro _; rfl) : DS T X W (.For tge iter sts [] pos) (mFor src tg ms) := by
  obtain ⟨g, hg, hq⟩ := hg
  refine (ps_for C.own C.calm hi hg hb hs).imp fun D σ H h => ?_
  obtain ⟨ρ, S, τ, r, l, h⟩ := h
  refine ⟨ρ, S, τ, r, l, PostS.lift h l fun ρ1 S1 H1 s b p1 r1 xb l1 h1 => ?_⟩
  subst xb
  intro J x1
  refine ⟨fun i m σ H => m = s.its.length - i ∧ i ≤ s.its.length ∧ ∃ ρ S τ, Ext ρ1 H1 ρ H ∧ Rep (gm T X) ρ S H ∧ LR ρ τ σ ∧ PostS (gm T X) W ρ H D (mFor1 s.chk tg ms (s.its.drop i) τ S), ⟨_, rfl, Nat.zero_le _, ρ1, S1, τ, Ext.refl, r1, l1, h1⟩, fun i m σ H hW => ?_⟩
  obtain ⟨em, hi, ρ2, S2, τ2, p2, r2, l2, h2⟩ := hW
  by_cases z : i < s.its.length
  · rw [List.drop_eq_getElem_cons z] at h2
    unfold mFor1 at h2
    by_cases hc : s.chk S2 = true
    · rw [if_pos hc] at h2
      obtain ⟨hgo, hy⟩ := (x1 ρ2 S2 H p2 r2 hc).2 i _ (List.getElem?_eq_getElem z)
      refine .inr ⟨hgo, fun σ' H' => ∃ ρ S τ, Ext ρ1 H1 ρ H' ∧ Rep (gm T X) ρ S H' ∧ LR ρ τ σ' ∧ PostS (gm T X) W ρ H' D (mFor1 s.chk tg ms (s.its.drop (i + 1)) τ S), fun σ' H' hN => ⟨s.its.length - (i + 1), by omega, rfl, z, hN⟩, fun x H3 hy3 => ?_⟩
      obtain ⟨p3, r3, x3⟩ := hy x H3 hy3
      cases et : tg s.its[i] τ2 S2 with
      | none => rw [et] at h2; exact h2.elim
      | some τ3 =>
        rw [et] at h2
        refine hq ρ2 S2 H3 τ2 σ _ x τ3 _ r3 l2 x3 et fun σ3 l3 _ => ⟨ρ2, S2, τ3, r3, l3, ?_⟩
        have h2 : PostS (gm T X) W ρ2 H D (match ms τ3 S2 with
          | .nx σ2 S2 => mFor1 s.chk tg ms (s.its.drop (i + 1)) σ2 S2
          | .ct σ2 S2 => mFor1 s.chk tg ms (s.its.drop (i + 1)) σ2 S2
          | .bk σ2 S2 => .nx σ2 S2
          | r => r) := h2
        have h2 := PostS.mono h2 p3
        cases e : ms τ3 S2 with
        | nx τ4 S4 => rw [e] at h2; exact fun ρ4 H4 σ4 p4 r4 l4 => ⟨ρ4, S4, τ4, (p2.trans p3).trans p4, r4, l4, PostS.mono h2 p4⟩
        | ct τ4 S4 => rw [e] at h2; exact fun ρ4 H4 σ4 p4 r4 l4 => ⟨ρ4, S4, τ4, (p2.trans p3).trans p4, r4, l4, PostS.mono h2 p4⟩
        | bk τ4 S4 => rw [e] at h2; exact h2
        | rt v S4 => rw [e] at h2; exact h2
        | exc c d τ4 S4 => rw [e] at h2; exact h2
        | bad => rw [e] at h2; exact h2
    · rw [if_neg hc] at h2
      exact h2.elim
  · have ei : i = s.its.length := by omega
    rw [ei, List.drop_length] at h2
    unfold mFor1 at h2
    by_cases hc : s.chk S2 = true
    · rw [if_pos hc] at h2
      rw [ei]
      exact .inl ⟨(x1 ρ2 S2 H p2 r2 hc).1, h2 ρ2 H σ (Ext.refl) r2 l2⟩
    · rw [if_neg hc] at h2
      exact h2.elim
end
end Mi

namespace Mi
open PySem PySem.Spec L2
open PyProof.Rows hiding St

/-! ### lists, tuples, dicts of the store, read -/
def rdL (S : Sto) : V → Option (List V)
  | .ref i => match S[i]? with
    | some (.lst xs) => some xs
    | some (.lck (.lst xs)) => some xs
    | _ => none
  | _ => none
def rdK (S : Sto) : V → Option (List (Key × V))
  | .ref i => match S[i]? with
    | some (.dK kvs) => some kvs
    | some (.lck (.dK kvs)) => some kvs
    | _ => none
  | _ => none
section
variable {G : Gm} {ρ : List Addr} {S : Sto} {H : Hp} {v w : V}
theorem Rep.rdL {xs : List V} (r : Rep G ρ S H) (h : rdL S v = some xs) (x : VR ρ v w) : ∃ a ws, w = .ref a ∧ Rd H a (.lst ws) ∧ VsR ρ xs ws := by
  unfold Mi.rdL at h
  split at h
  · split at h
    · rename_i i _ ys es
      cases h
      obtain ⟨a, u, ew, _, eh, ys, eu, vr⟩ := r.ref es x
      subst eu
      exact ⟨a, ys, ew, .inl eh, vr⟩
    · rename_i i _ ys es
      cases h
      obtain ⟨a, u, ew, _, eh, ob, u', eu, ys, eu', vr⟩ := r.ref es x
      subst eu
      subst eu'
      exact ⟨a, ys, ew, .inr ⟨ob, eh⟩, vr⟩
    · cases h
  · cases h
theorem Rep.rdK {xs : List (Key × V)} (r : Rep G ρ S H) (h : rdK S v = some xs) (x : VR ρ v w) : ∃ a ws, w = .ref a ∧ Rd H a (.dK ws) ∧ FR ρ xs ws := by
  unfold Mi.rdK at h
  split at h
  · split at h
    · rename_i i _ ys es
      cases h
      obtain ⟨a, u, ew, _, eh, ys, eu, vr⟩ := r.ref es x
      subst eu
      exact ⟨a, ys, ew, .inl eh, vr⟩
    · rename_i i _ ys es
      cases h
      obtain ⟨a, u, ew, _, eh, ob, u', eu, ys, eu', vr⟩ := r.ref es x
      subst eu
      subst eu'
      exact ⟨a, ys, ew, .inr ⟨ob, eh⟩, vr⟩
    · cases h
  · cases h
end

/-! ### two rules for one piece of text -/
theorem pi_or {X : Cx} {tg e : Expr} {t t' : TI} (h : PI X tg e t) (h' : PI X tg e t') : PI X tg e (fun σ H R => t σ H R ∨ t' σ H R) := ⟨fun pins s σ H R I q => q.elim (h.run pins s σ H R I) (h'.run pins s σ H R I)⟩
theorem pe_or2 {X : Cx} {e : Expr} {t t' : TE} (h : PE X e t) (h' : PE X e t') : PE X e (fun σ H R => t σ H R ∨ t' σ H R) := ⟨fun pins s σ H R I q => q.elim (h.run pins s σ H R I) (h'.run pins s σ H R I)⟩
theorem ps_or2 {X : Cx} {e : Stmt} {t t' : TS} (h : PS X e t) (h' : PS X e t') : PS X e (fun D σ H => t D σ H ∨ t' D σ H) := ⟨fun pins s σ H R I q => q.elim (h.run pins s σ H R I) (h'.run pins s σ H R I)⟩
theorem _root_.L2.PI.imp {X : Cx} {tg e : Expr} {t t' : TI} (h : PI X tg e t) (k : ∀ σ H Q, t' σ H Q → t σ H Q) : PI X tg e t' := ⟨fun pins s σ H Q I q => h.run pins s σ H Q I (k _ _ _ q)⟩

/-! ### walks -/
def walkOf (S : Sto) : V → Option Src
  | .ref i => match S[i]? with
    | some (.lst xs) => some ⟨xs.map .v, fun S' => decide (S'[i]? = some (.lst xs))⟩
    | some (.lck (.lst xs)) => some ⟨xs.map .v, fun S' => decide (S'[i]? = some (.lck (.lst xs)))⟩
    | some (.tup xs) => some ⟨xs.map .v, fun S' => decide (S'[i]? = some (.tup xs))⟩
    | some (.lck (.dK kvs)) => some ⟨kvs.map fun p => .v (kV p.1), fun S' => decide (S'[i]? = some (.lck (.dK kvs)))⟩
    | _ => none
  | .str z => some ⟨z.cps.toList.map fun c => .v (.str ⟨#[c]⟩), fun _ => true⟩
  | _ => none
def mWalk (m : ME) : St → Sto → R Src := fun σ S => (m σ S).bind fun v S1 => match walkOf S1 v with
  | some s => .ok s S1
  | none => .bad
section
variable {T : Tab} {W : WX} {X : Cx} {tg e e2 : Expr} {m : ME} {ms : MA} {pos p : Pos} {es : List Expr}
theorem kv_vr {ρ : List Addr} {k : Key} : VR ρ (kV k) (kV k) := by
  cases k <;> rfl
theorem map_get {α β : Type} {f : α → β} {xs : List α} {i : Nat} {y : β} (h : (xs.map f)[i]? = some y) : ∃ x, xs[i]? = some x ∧ f x = y := by
  rw [List.getElem?_map] at h
  cases e : xs[i]? with
  | none => rw [e] at h; cases h
  | some x => rw [e] at h; exact ⟨x, rfl, Option.some.inj h⟩
theorem isIt_vals {G : Gm} {H : Hp} {ρ : List Addr} {J : It} {chk : Sto → Bool} {xs : List V}
    (ho : ∀ (ρ2 : List Addr) (S2 : Sto) (H2 : Hp), Ext ρ H ρ2 H2 → Rep G ρ2 S2 H2 → chk S2 = true → ∃ ws, VsR ρ2 xs ws ∧ J.stop ws.length H2 ∧ ∀ (i : Nat) (w : V), ws[i]? = some w → J.go i H2 ∧ ∀ x H3, J.yld i H2 x H3 → H3 = H2 ∧ x = w) : IsIt G H ρ ⟨xs.map .v, chk⟩ J := by
  intro ρ2 S2 H2 p2 r2 hc
  obtain ⟨ws, vr, hs, hw⟩ := ho ρ2 S2 H2 p2 r2 hc
  refine ⟨by show J.stop (xs.map Itv.v).length H2; rw [List.length_map, prd_len vr]; exact hs, fun j it hj => ?_⟩
  obtain ⟨x, hx, ex⟩ := map_get hj
  subst ex
  obtain ⟨w, hw2, rw'⟩ := prd_get vr hx
  obtain ⟨g, y⟩ := hw j w hw2
  refine ⟨g, fun y' H3 hy => ?_⟩
  obtain ⟨e1, e2⟩ := y y' H3 hy
  subst e1
  subst e2
  exact ⟨Ext.refl, r2, rw'⟩
theorem itl_of {K : PySem.W.Frag} {H : Hp} {a : Addr} {ws : List V} (h : SqL K H a ws) : (Itl K a).stop ws.length H ∧ ∀ (i : Nat) (w : V), ws[i]? = some w → (Itl K a).go i H ∧ ∀ x H3, (Itl K a).yld i H x H3 → H3 = H ∧ x = w :=
  ⟨⟨ws, h, Nat.le_refl _⟩, fun i w hw => ⟨⟨ws, w, h, hw⟩, fun x H3 hy => ⟨hy.1, by have := hy.2 ws h; rw [hw] at this; cases this; rfl⟩⟩⟩
theorem itt_of {K : PySem.W.Frag} {H : Hp} {a : Addr} {ws : List V} (h : SqT K H a ws) : (Itt K a).stop ws.length H ∧ ∀ (i : Nat) (w : V), ws[i]? = some w → (Itt K a).go i H ∧ ∀ x H3, (Itt K a).yld i H x H3 → H3 = H ∧ x = w :=
  ⟨⟨ws, h, Nat.le_refl _⟩, fun i w hw => ⟨⟨ws, w, h, hw⟩, fun x H3 hy => ⟨hy.1, by have := hy.2 ws h; rw [hw] at this; cases this; rfl⟩⟩⟩
theorem fr_keys {ρ : List Addr} : ∀ {kvs ws : List (Key × V)}, FR ρ kvs ws → ws.map (·.1) = kvs.map (·.1)
  | _, _, .nil => rfl
  | _, _, .cons r t => by rw [List.map_cons, List.map_cons, fr_keys t, r.1]
theorem fr_vals {ρ : List Addr} : ∀ {kvs ws : List (Key × V)}, FR ρ kvs ws → VsR ρ (kvs.map (·.2)) (ws.map (·.2))
  | _, _, .nil => .nil
  | _, _, .cons r t => .cons r.2 (fr_vals t)
theorem keys_vsr {ρ : List Addr} : ∀ ks : List Key, VsR ρ (ks.map kV) (ks.map kV)
  | [] => .nil
  | _ :: r => .cons kv_vr (keys_vsr r)
theorem mapmap {α β γ : Type} (f : α → β) (g : β → γ) (xs : List α) : (xs.map fun x => g (f x)) = (xs.map f).map g := by rw [List.map_map]; rfl
theorem sgn_vsr {ρ : List Addr} : ∀ cs : List Nat, VsR ρ (cs.map fun c => V.str ⟨#[c]⟩) (cs.map fun c => V.str ⟨#[c]⟩)
  | [] => .nil
  | _ :: r => .cons rfl (sgn_vsr r)
/-- by the way of the value -/
theorem di_walk (he : DE T X W e m) : DI T X W tg e (mWalk m) := by
  refine ⟨fun pins s σ H R I h => ?_⟩
  obtain ⟨ρ, S, τ, r, l, h⟩ := h
  unfold mWalk at h
  cases ee : m τ S with
  | exc c d S1 =>
    rw [ee] at h
    exact (pi_list he).run pins s σ H R I ⟨ρ, S, τ, r, l, by rw [ee]; exact h⟩
  | bad => rw [ee] at h; exact h.elim
  | ok v S1 =>
    rw [ee] at h
    have h : Post (gm T X) W (fun ρ1 (a : Src) (b : List Addr × Src) => b = (ρ1, a)) ρ H σ (fun b H1 => ∀ J, IsIt (gm T X) H1 b.1 b.2 J → R J H1) (match walkOf S1 v with
      | some s => .ok s S1
      | none => .bad) := h
    cases ew : walkOf S1 v with
    | none => rw [ew] at h; exact h.elim
    | some s0 =>
      rw [ew] at h
      have h : ∀ ρ1 H1, Ext ρ H ρ1 H1 → Rep (gm T X) ρ1 S1 H1 → ∀ J, IsIt (gm T X) H1 ρ1 s0 J → R J H1 := fun ρ1 H1 p1 r1 J hJ => h ρ1 H1 _ p1 r1 rfl J hJ
      unfold walkOf at ew
      split at ew
      · rename_i i
        split at ew
        · rename_i xs es
          cases ew
          refine (pi_list he).run pins s σ H R I ⟨ρ, S, τ, r, l, ?_⟩
          rw [ee]
          intro ρ1 H1 w p1 r1 x1
          obtain ⟨a, u, e1, e2, eh, ws, eu, vr⟩ := r1.ref es x1
          subst eu
          refine ⟨a, e1, ⟨ws, .inl (.inl eh)⟩, h ρ1 H1 p1 r1 _ (isIt_vals fun ρ2 S2 H2 p2 r2 hc => ?_)⟩
          obtain ⟨a', u', e1', e2', eh', ws', eu', vr'⟩ := r2.ref (of_decide_eq_true hc) (show VR ρ2 (.ref i) (.ref a) from ⟨a, pre_get p2.pre e2, rfl⟩)
          cases e1'
          subst eu'
          exact ⟨ws', vr', itl_of (.inl (.inl eh'))⟩
        · rename_i xs es
          cases ew
          refine (pi_list he).run pins s σ H R I ⟨ρ, S, τ, r, l, ?_⟩
          rw [ee]
          intro ρ1 H1 w p1 r1 x1
          obtain ⟨a, u, e1, e2, eh, ob, u', eu, ws, eu', vr⟩ := r1.ref es x1
          subst eu
          subst eu'
          refine ⟨a, e1, ⟨ws, .inl (.inr ⟨ob, eh⟩)⟩, h ρ1 H1 p1 r1 _ (isIt_vals fun ρ2 S2 H2 p2 r2 hc => ?_)⟩
          obtain ⟨a', u', e1', e2', eh', ob', u'', eu', ws', eu'', vr'⟩ := r2.ref (of_decide_eq_true hc) (show VR ρ2 (.ref i) (.ref a) from ⟨a, pre_get p2.pre e2, rfl⟩)
          cases e1'
          subst eu'
          subst eu''
          exact ⟨ws', vr', itl_of (.inl (.inr ⟨_, eh'⟩))⟩
        · rename_i xs es
          cases ew
          refine (pi_tup he).run pins s σ H R I ⟨ρ, S, τ, r, l, ?_⟩
          rw [ee]
          intro ρ1 H1 w p1 r1 x1
          obtain ⟨a, u, e1, e2, eh, ws, eu, vr⟩ := r1.ref es x1
          subst eu
          refine ⟨a, e1, ⟨ws, .inl (.inl eh)⟩, h ρ1 H1 p1 r1 _ (isIt_vals fun ρ2 S2 H2 p2 r2 hc => ?_)⟩
          obtain ⟨a', u', e1', e2', eh', ws', eu', vr'⟩ := r2.ref (of_decide_eq_true hc) (show VR ρ2 (.ref i) (.ref a) from ⟨a, pre_get p2.pre e2, rfl⟩)
          cases e1'
          subst eu'
          exact ⟨ws', vr', itt_of (.inl (.inl eh'))⟩
        · rename_i kvs es
          cases ew
          refine (pi_keys he).run pins s σ H R I ⟨ρ, S, τ, r, l, ?_⟩
          rw [ee]
          intro ρ1 H1 w p1 r1 x1
          obtain ⟨a, u, e1, e2, eh, ob, u', eu, ws, eu', vr⟩ := r1.ref es x1
          subst eu
          subst eu'
          refine ⟨a, ob, e1, .inl ⟨ws, eh, h ρ1 H1 p1 r1 _ ?_⟩⟩
          rw [mapmap (fun p : Key × V => kV p.1) Itv.v]
          refine isIt_vals fun ρ2 S2 H2 p2 r2 hc => ?_
          have eh2 := p2.kp _ _ _ eh
          refine ⟨ws.map fun q => kV q.1, ?_, ⟨eh2, by rw [List.length_map]; exact Nat.le_refl _⟩, fun j w hw => ?_⟩
          · rw [mapmap (fun p : Key × V => p.1) kV, mapmap (fun p : Key × V => p.1) kV, fr_keys vr]
            exact keys_vsr _
          · obtain ⟨q, hq, eq⟩ := map_get hw
            subst eq
            refine ⟨⟨eh2, (List.getElem?_eq_some_iff.mp hq).1⟩, fun x H3 hy => ⟨hy.1, ?_⟩⟩
            obtain ⟨k, v, h1, h2⟩ := hy.2
            rw [hq] at h1
            cases h1
            exact h2
        · cases ew
      · rename_i z
        cases ew
        refine (pi_str he).run pins s σ H R I ⟨ρ, S, τ, r, l, ?_⟩
        rw [ee]
        intro ρ1 H1 w p1 r1 x1
        cases x1
        refine ⟨z, rfl, h ρ1 H1 p1 r1 _ ?_⟩
        rw [mapmap (fun c : Nat => V.str ⟨#[c]⟩) Itv.v]
        refine isIt_vals fun ρ2 S2 H2 p2 r2 hc => ⟨_, sgn_vsr _, by show z.cps.size ≤ _; rw [List.length_map]; exact Nat.le_refl _, fun j w hw => ?_⟩
        obtain ⟨c, hx, ex⟩ := map_get hw
        subst ex
        have hx : z.cps[j]? = some c := by rw [← Array.getElem?_toList]; exact hx
        refine ⟨(Array.getElem?_eq_some_iff.mp hx).1, fun y H3 hy => ⟨hy.1, ?_⟩⟩
        obtain ⟨c', hc', ey⟩ := hy.2
        rw [hx] at hc'
        cases hc'
        exact ey
      · cases ew
/-- range(n), range(a, b) -/
def intsFrom (lo : Int) (n : Nat) : List Itv := (List.range n).map fun k => .v (.int (lo + (k : Nat)))
def mRange1 (ms : MA) : St → Sto → R Src := fun σ S => (ms σ S).bind fun vs S1 => match vs with
  | [.int j] => if -(2 ^ 62) ≤ j ∧ j < 2 ^ 62 then .ok ⟨intsFrom 0 j.toNat, fun _ => true⟩ S1 else .bad
  | _ => .bad
def mRange2 (ms : MA) : St → Sto → R Src := fun σ S => (ms σ S).bind fun vs S1 => match vs with
  | [.int i, .int j] => if -(2 ^ 62) ≤ i ∧ i < 2 ^ 62 ∧ -(2 ^ 62) ≤ j ∧ j < 2 ^ 62 then .ok ⟨intsFrom i (j - i).toNat, fun _ => true⟩ S1 else .bad
  | _ => .bad
theorem isIt_range {G : Gm} {H : Hp} {ρ : List Addr} {lo : Int} {n : Nat} : IsIt G H ρ ⟨intsFrom lo n, fun _ => true⟩ (Itr lo n) := by
  have e : intsFrom lo n = ((List.range n).map fun k => V.int (lo + (k : Nat))).map Itv.v := mapmap (fun k : Nat => V.int (lo + (k : Nat))) Itv.v _
  rw [e]
  refine isIt_vals fun ρ2 S2 H2 p2 r2 hc => ⟨(List.range n).map fun k => V.int (lo + (k : Nat)), ?_, by show n ≤ _; rw [List.length_map, List.length_range]; exact Nat.le_refl _, fun j w hw => ?_⟩
  · generalize List.range n = l
    induction l with
    | nil => exact .nil
    | cons a l ih => exact .cons rfl ih
  · obtain ⟨k, hk, ek⟩ := map_get hw
    subst ek
    have h1 := List.getElem?_eq_some_iff.mp hk
    obtain ⟨h1, h2⟩ := h1
    rw [List.getElem_range] at h2
    rw [List.length_range] at h1
    subst h2
    exact ⟨h1, fun x H3 hy => hy⟩
theorem di_range1 (hm : X.mg "range" = none) (ha : DA T X W [e] ms) (hg : Gl X "range" := by rfl) (hs : starEach [e] X.env = [(false, eval e X.env)] := by rfl) : DI T X W tg (.Call (.Name "range" p) [e] [] pos) (mRange1 ms) := (pi_range1 hg hm ha hs).imp fun σ H R h => by
  obtain ⟨ρ, S, τ, r, l, h⟩ := h
  refine ⟨ρ, S, τ, r, l, Post.bind h fun ρ1 S1 H1 vs ws p1 r1 x1 h1 => ?_⟩
  split at h1
  · rename_i j
    split at h1
    · rename_i hj
      cases x1 with
      | cons a b =>
        cases b
        cases a
        exact ⟨j, rfl, hj.1, hj.2, h1 ρ1 H1 _ Ext.refl r1 rfl _ isIt_range⟩
    · exact h1.elim
  · exact h1.elim
theorem di_range2 (hm : X.mg "range" = none) (ha : DA T X W [e, e2] ms) (hg : Gl X "range" := by rfl) (hs : starEach [e, e2] X.env = [(false, eval e X.env), (false, eval e2 X.env)] := by rfl) (hs2 : starEach [e2] X.env = [(false, eval e2 X.env)] := by rfl) : DI T X W tg (.Call (.Name "range" p) [e, e2] [] pos) (mRange2 ms) := (pi_range2 hg hm ha hs hs2).imp fun σ H R h => by
  obtain ⟨ρ, S, τ, r, l, h⟩ := h
  refine ⟨ρ, S, τ, r, l, Post.bind h fun ρ1 S1 H1 vs ws p1 r1 x1 h1 => ?_⟩
  split at h1
  · rename_i i j
    split at h1
    · rename_i hj
      cases x1 with
      | cons a b =>
        cases b with
        | cons a' b' =>
          cases b'
          cases a
          cases a'
          exact ⟨i, j, rfl, hj, h1 ρ1 H1 _ Ext.refl r1 rfl _ isIt_range⟩
    · exact h1.elim
  · exact h1.elim

/-! ### enumerate, zip, reversed of lists -/
def enumFrom : Nat → List V → List Itv
  | _, [] => []
  | n, x :: xs => .t [.int (n : Int), x] :: enumFrom (n + 1) xs
theorem enumFrom_get : ∀ (n : Nat) (xs : List V) (i : Nat) (it : Itv), (enumFrom n xs)[i]? = some it → ∃ x, xs[i]? = some x ∧ it = .t [.int ((n + i : Nat) : Int), x]
  | _, [], _, _, h => by simp [enumFrom] at h
  | n, x :: xs, 0, it, h => ⟨x, rfl, by
    have : Itv.t [.int (n : Int), x] = it := Option.some.inj h
    exact this.symm⟩
  | n, x :: xs, i + 1, it, h => by
    obtain ⟨y, h1, h2⟩ := enumFrom_get (n + 1) xs i it h
    exact ⟨y, h1, by rw [h2, show n + 1 + i = n + (i + 1) by omega]⟩
theorem enumFrom_len : ∀ (n : Nat) (xs : List V), (enumFrom n xs).length = xs.length
  | _, [] => rfl
  | n, x :: xs => by
    show (enumFrom (n + 1) xs).length + 1 = xs.length + 1
    rw [enumFrom_len]
/-- a list that is walked: its place; what it holds must stay -/
def lstOf (S : Sto) : V → Option (List V × (Sto → Bool))
  | .ref i => match S[i]? with
    | some (.lst xs) => some (xs, fun S' => decide (S'[i]? = some (.lst xs)))
    | some (.lck (.lst xs)) => some (xs, fun S' => decide (S'[i]? = some (.lck (.lst xs))))
    | _ => none
  | _ => none
theorem Rep.lstOf {G : Gm} {H : Hp} {ρ : List Addr} {S : Sto} {v w : V} {xs : List V} {chk : Sto → Bool} (r : Rep G ρ S H) (h : Mi.lstOf S v = some (xs, chk)) (x : VR ρ v w) :
    ∃ a ws, w = .ref a ∧ Rd H a (.lst ws) ∧ VsR ρ xs ws ∧ ∀ ρ2 S2 H2, Ext ρ H ρ2 H2 → Rep G ρ2 S2 H2 → chk S2 = true → ∃ ws2, Rd H2 a (.lst ws2) ∧ VsR ρ2 xs ws2 := by
  unfold Mi.lstOf at h
  split at h
  · rename_i i
    split at h
    · rename_i ys es
      cases h
      obtain ⟨a, u, e1, e2, eh, ws, eu, vr⟩ := r.ref es x
      subst eu
      refine ⟨a, ws, e1, .inl eh, vr, fun ρ2 S2 H2 p2 r2 hc => ?_⟩
      obtain ⟨a', u', e1', e2', eh', ws', eu', vr'⟩ := r2.ref (of_decide_eq_true hc) (show VR ρ2 (.ref i) (.ref a) from ⟨a, pre_get p2.pre e2, rfl⟩)
      cases e1'
      subst eu'
      exact ⟨ws', .inl eh', vr'⟩
    · rename_i ys es
      cases h
      obtain ⟨a, u, e1, e2, eh, ob, u', eu, ws, eu', vr⟩ := r.ref es x
      subst eu
      subst eu'
      refine ⟨a, ws, e1, .inr ⟨ob, eh⟩, vr, fun ρ2 S2 H2 p2 r2 hc => ?_⟩
      obtain ⟨a', u', e1', e2', eh', ob', u'', eu', ws', eu'', vr'⟩ := r2.ref (of_decide_eq_true hc) (show VR ρ2 (.ref i) (.ref a) from ⟨a, pre_get p2.pre e2, rfl⟩)
      cases e1'
      subst eu'
      subst eu''
      exact ⟨ws', .inr ⟨_, eh'⟩, vr'⟩
    · cases h
  · cases h
def mEnum (ms : MA) : St → Sto → R Src := fun σ S => (ms σ S).bind fun vs S1 => match vs with
  | [v] => match lstOf S1 v with
    | some (xs, chk) => .ok ⟨enumFrom 0 xs, chk⟩ S1
    | none => .bad
  | _ => .bad
def zipT : List V → List V → List Itv
  | x :: xs, y :: ys => .t [x, y] :: zipT xs ys
  | _, _ => []
theorem zipT_get : ∀ (xs ys : List V) (i : Nat) (it : Itv), (zipT xs ys)[i]? = some it → ∃ x y, xs[i]? = some x ∧ ys[i]? = some y ∧ it = .t [x, y]
  | [], _, _, _, h => by simp [zipT] at h
  | _ :: _, [], _, _, h => by simp [zipT] at h
  | x :: xs, y :: ys, 0, it, h => ⟨x, y, rfl, rfl, by
    have : Itv.t [x, y] = it := Option.some.inj h
    exact this.symm⟩
  | x :: xs, y :: ys, i + 1, it, h => by
    obtain ⟨a, b, h1, h2, h3⟩ := zipT_get xs ys i it h
    exact ⟨a, b, h1, h2, h3⟩
theorem zipT_len : ∀ (xs ys : List V), xs.length ≤ (zipT xs ys).length ∨ ys.length ≤ (zipT xs ys).length
  | [], _ => .inl (Nat.zero_le _)
  | _ :: _, [] => .inr (Nat.zero_le _)
  | x :: xs, y :: ys => by
    rcases zipT_len xs ys with h | h
    · exact .inl (Nat.succ_le_succ h)
    · exact .inr (Nat.succ_le_succ h)
def mZip (ms : MA) : St → Sto → R Src := fun σ S => (ms σ S).bind fun vs S1 => match vs with
  | [v, u] => match lstOf S1 v, lstOf S1 u with
    | some (xs, chk), some (ys, chk2) => .ok ⟨zipT xs ys, fun S' => chk S' && chk2 S'⟩ S1
    | _, _ => .bad
  | _ => .bad
def mRevs (ms : MA) : St → Sto → R Src := fun σ S => (ms σ S).bind fun vs S1 => match vs with
  | [v] => match lstOf S1 v with
    | some (xs, chk) => .ok ⟨xs.reverse.map .v, chk⟩ S1
    | none => .bad
  | _ => .bad
theorem di_enum {elts : List Expr} {kk : Nat} {tpos : Pos} (hm : X.mg "enumerate" = none) (ha : DA T X W [e] ms) (hg : Gl X "enumerate" := by rfl) (hs : starEach [e] X.env = [(false, eval e X.env)] := by rfl) :
    DI T X W (.Tuple elts kk tpos) (.Call (.Name "enumerate" p) [e] [] pos) (mEnum ms) := (pi_enum hg hm ha hs).imp fun σ H R h => by
  obtain ⟨ρ, S, τ, r, l, h⟩ := h
  refine ⟨ρ, S, τ, r, l, Post.bind h fun ρ1 S1 H1 vs ws p1 r1 x1 h1 => ?_⟩
  split at h1
  · rename_i v
    cases x1 with
    | cons a b =>
      cases b
      cases el : Mi.lstOf S1 v with
      | none => rw [el] at h1; exact h1.elim
      | some q =>
        obtain ⟨xs, chk⟩ := q
        rw [el] at h1
        obtain ⟨ad, ws, e1, rd, vr, hk⟩ := r1.lstOf el a
        subst e1
        refine ⟨ad, ws, rfl, .inl rd, h1 ρ1 H1 _ Ext.refl r1 rfl _ fun ρ2 S2 H2 p2 r2 hc => ?_⟩
        obtain ⟨ws2, rd2, vr2⟩ := hk ρ2 S2 H2 p2 r2 hc
        refine ⟨⟨ws2, .inl rd2, by rw [enumFrom_len, prd_len vr2]; exact Nat.le_refl _⟩, fun i it hi => ?_⟩
        obtain ⟨x, hx, ei⟩ := enumFrom_get 0 xs i it hi
        subst ei
        obtain ⟨w, hw, rw'⟩ := prd_get vr2 hx
        refine ⟨⟨ws2, w, .inl rd2, hw⟩, fun y H3 hy => ?_⟩
        obtain ⟨p, x', ey, nT, eH, fx⟩ := hy
        subst ey
        subst eH
        have := fx ws2 (.inl rd2)
        rw [hw] at this
        cases this
        exact ⟨Ext.aside nT, r2.beside nT, p, _, rfl, upd_same, .cons (by rw [Nat.zero_add]; rfl) (.cons rw' .nil)⟩
  · exact h1.elim
theorem di_zip {elts : List Expr} {kk : Nat} {tpos : Pos} (hm : X.mg "zip" = none) (ha : DA T X W [e, e2] ms) (hg : Gl X "zip" := by rfl) (hs : starEach [e, e2] X.env = (false, eval e X.env) :: starEach [e2] X.env := by rfl) (hpl : (backTo pos (starEach [e2] X.env)).any (·.1) = false := by rfl) :
    DI T X W (.Tuple elts kk tpos) (.Call (.Name "zip" p) [e, e2] [] pos) (mZip ms) := (pi_zip hg hm ha hs hpl).imp fun σ H R h => by
  obtain ⟨ρ, S, τ, r, l, h⟩ := h
  refine ⟨ρ, S, τ, r, l, Post.bind h fun ρ1 S1 H1 vs ws p1 r1 x1 h1 => ?_⟩
  split at h1
  · rename_i v u
    cases x1 with
    | cons a b =>
      cases b with
      | cons a' b' =>
        cases b'
        split at h1
        · rename_i xs chk ys chk2 el el2
          obtain ⟨ad, ws, e1, rd, vr, hk⟩ := r1.lstOf el a
          obtain ⟨ad2, us, e2, rd2, vr2, hk2⟩ := r1.lstOf el2 a'
          subst e1
          subst e2
          refine ⟨ad, ad2, ws, us, rfl, .inl rd, .inl rd2, h1 ρ1 H1 _ Ext.refl r1 rfl _ fun ρ2 S2 H2 p2 r2 hc => ?_⟩
          have hc := (Bool.and_eq_true _ _).mp hc
          obtain ⟨ws2, rda, vra⟩ := hk ρ2 S2 H2 p2 r2 hc.1
          obtain ⟨us2, rdb, vrb⟩ := hk2 ρ2 S2 H2 p2 r2 hc.2
          refine ⟨⟨ws2, us2, .inl rda, .inl rdb, by rw [← prd_len vra, ← prd_len vrb]; exact zipT_len xs ys⟩, fun i it hi => ?_⟩
          obtain ⟨x, y, hx, hy, ei⟩ := zipT_get xs ys i it hi
          subst ei
          obtain ⟨w, hw, rw1⟩ := prd_get vra hx
          obtain ⟨z, hz, rz⟩ := prd_get vrb hy
          refine ⟨⟨ws2, us2, w, z, .inl rda, .inl rdb, hw, hz⟩, fun q H3 hq => ?_⟩
          obtain ⟨p, x', y', ey, nT, eH, fx, fy⟩ := hq
          subst ey
          subst eH
          have h1 := fx ws2 (.inl rda)
          rw [hw] at h1
          cases h1
          have h2 := fy us2 (.inl rdb)
          rw [hz] at h2
          cases h2
          exact ⟨Ext.aside nT, r2.beside nT, p, _, rfl, upd_same, .cons rw1 (.cons rz .nil)⟩
        · exact h1.elim
  · exact h1.elim
theorem di_rev (hm : X.mg "reversed" = none) (ha : DA T X W [e] ms) (hg : Gl X "reversed" := by rfl) (hs : starEach [e] X.env = [(false, eval e X.env)] := by rfl) : DI T X W tg (.Call (.Name "reversed" p) [e] [] pos) (mRevs ms) := (pi_reversed hg hm ha hs).imp fun σ H R h => by
  obtain ⟨ρ, S, τ, r, l, h⟩ := h
  refine ⟨ρ, S, τ, r, l, Post.bind h fun ρ1 S1 H1 vs ws p1 r1 x1 h1 => ?_⟩
  split at h1
  · rename_i v
    cases x1 with
    | cons a b =>
      cases b
      cases el : Mi.lstOf S1 v with
      | none => rw [el] at h1; exact h1.elim
      | some q =>
        obtain ⟨xs, chk⟩ := q
        rw [el] at h1
        obtain ⟨ad, ws, e1, rd, vr, hk⟩ := r1.lstOf el a
        subst e1
        refine ⟨ad, ws, rfl, .inl rd, h1 ρ1 H1 _ Ext.refl r1 rfl _ (isIt_vals fun ρ2 S2 H2 p2 r2 hc => ?_)⟩
        obtain ⟨ws2, rd2, vr2⟩ := hk ρ2 S2 H2 p2 r2 hc
        have el : ws2.length = ws.length := by rw [← prd_len vr2, prd_len vr]
        refine ⟨ws2.reverse, prd_rev vr2, by show ws.length ≤ _; rw [List.length_reverse, el]; exact Nat.le_refl _, fun i w hw => ?_⟩
        have hi : i < ws2.length := by
          have := (List.getElem?_eq_some_iff.mp hw).1
          rw [List.length_reverse] at this
          exact this
        have hw' : ws2[ws.length - 1 - i]? = some w := by
          rw [List.getElem?_reverse hi] at hw
          rw [← el]
          exact hw
        refine ⟨⟨by rw [← el]; exact hi, ws2, w, .inl rd2, hw'⟩, fun x H3 hy => ⟨hy.1, ?_⟩⟩
        have := hy.2 ws2 (.inl rd2)
        rw [hw'] at this
        cases this
        rfl
  · exact h1.elim
end

/-! ### items, values of a locked dict -/
section
variable {T : Tab} {W : WX} {X : Cx} {tg e : Expr} {m : ME} {pos apos cpos : Pos}
def itemT : List (Key × V) → List Itv := fun kvs => kvs.map fun p => .t [kV p.1, p.2]
def mItems (m : ME) : St → Sto → R Src := fun σ S => (m σ S).bind fun v S1 => match v with
  | .ref i => match S1[i]? with
    | some (.lck (.dK kvs)) => .ok ⟨itemT kvs, fun S' => decide (S'[i]? = some (.lck (.dK kvs)))⟩ S1
    | _ => .bad
  | _ => .bad
def mVals (m : ME) : St → Sto → R Src := fun σ S => (m σ S).bind fun v S1 => match v with
  | .ref i => match S1[i]? with
    | some (.lck (.dK kvs)) => .ok ⟨(kvs.map (·.2)).map .v, fun S' => decide (S'[i]? = some (.lck (.dK kvs)))⟩ S1
    | _ => .bad
  | _ => .bad
theorem di_items {elts : List Expr} {kk : Nat} {tpos : Pos} (he : DE T X W e m) (hbase : attributeBase e "items" X.env (eval e X.env) = eval e X.env := by rfl) (hline : (apos.endLine == cpos.line) = true := by rfl) :
    DI T X W (.Tuple elts kk tpos) (.Call (.Attribute e "items" apos) [] [] cpos) (mItems m) := (pi_items he hbase hline).imp fun σ H R h => by
  obtain ⟨ρ, S, τ, r, l, h⟩ := h
  refine ⟨ρ, S, τ, r, l, Post.bind h fun ρ1 S1 H1 v w p1 r1 x1 h1 => ?_⟩
  split at h1
  · rename_i i
    split at h1
    · rename_i kvs es
      obtain ⟨a, u, e1, e2, eh, ob, u', eu, ws, eu', vr⟩ := r1.ref es x1
      subst eu
      subst eu'
      refine ⟨a, ob, ws, e1, eh, h1 ρ1 H1 _ Ext.refl r1 rfl _ fun ρ2 S2 H2 p2 r2 hc => ?_⟩
      have eh2 := p2.kp _ _ _ eh
      have vr2 := FR.mono vr p2.pre
      refine ⟨⟨eh2, by show ws.length ≤ (kvs.map _).length; rw [List.length_map, prd_len vr]; exact Nat.le_refl _⟩, fun j it hj => ?_⟩
      obtain ⟨x, hx, ex⟩ := map_get hj
      subst ex
      obtain ⟨q, hq, rq⟩ := prd_get vr2 hx
      refine ⟨⟨eh2, (List.getElem?_eq_some_iff.mp hq).1⟩, fun y H3 hy => ?_⟩
      obtain ⟨p, k, v, h1, ey, nT, eH⟩ := hy
      rw [hq] at h1
      cases h1
      subst ey
      subst eH
      exact ⟨Ext.aside nT, r2.beside nT, p, _, rfl, upd_same, .cons (by rw [rq.1]; exact kv_vr) (.cons rq.2 .nil)⟩
    · exact h1.elim
  · exact h1.elim
theorem di_vals (he : DE T X W e m) (hbase : attributeBase e "values" X.env (eval e X.env) = eval e X.env := by rfl) (hline : (apos.endLine == cpos.line) = true := by rfl) : DI T X W tg (.Call (.Attribute e "values" apos) [] [] cpos) (mVals m) := (pi_values he hbase hline).imp fun σ H R h => by
  obtain ⟨ρ, S, τ, r, l, h⟩ := h
  refine ⟨ρ, S, τ, r, l, Post.bind h fun ρ1 S1 H1 v w p1 r1 x1 h1 => ?_⟩
  split at h1
  · rename_i i
    split at h1
    · rename_i kvs es
      obtain ⟨a, u, e1, e2, eh, ob, u', eu, ws, eu', vr⟩ := r1.ref es x1
      subst eu
      subst eu'
      refine ⟨a, ob, ws, e1, eh, h1 ρ1 H1 _ Ext.refl r1 rfl _ (isIt_vals fun ρ2 S2 H2 p2 r2 hc => ?_)⟩
      have eh2 := p2.kp _ _ _ eh
      refine ⟨_, fr_vals (FR.mono vr p2.pre), ⟨eh2, by rw [List.length_map]; exact Nat.le_refl _⟩, fun j w hw => ?_⟩
      obtain ⟨q, hq, eq⟩ := map_get hw
      subst eq
      refine ⟨⟨eh2, (List.getElem?_eq_some_iff.mp hq).1⟩, fun x H3 hy => ⟨hy.1, ?_⟩⟩
      obtain ⟨k, h1⟩ := hy.2
      rw [hq] at h1
      cases h1
      rfl
    · exact h1.elim
  · exact h1.elim
end
end Mi

namespace Mi
open PySem PySem.Spec L2
open PyProof.Rows hiding St

/-! ### comprehensions -/
abbrev W0 : WX := fun _ _ _ _ => False
theorem Ctx.blk {X : Cx} {W : WX} {k : Nat} (C : Ctx X W k) {s : Shared} {H : Hp} {scope : Scope} {cenv : Env} {fp : List Addr} : Ctx (X.blk s H scope cenv fp) W0 k :=
  ⟨C.calm, C.nd, C.room, .inr fun _ _ _ _ h => h, PassesOwn.never⟩
def lcGo (n : Nat) (chk : Sto → Bool) (tg : Tg) (c : MT) (e : ME) (σ : St) : List Itv → Sto → Option Sto
  | [], S => if chk S = true then some S else none
  | it :: r, S => if chk S = true then (match tg it σ S with
    | some σ1 => (match c σ1 S with
      | .ok b S1 => if b = true then (match e σ1 S1 with
        | .ok v S2 => (match S2[n]? with
          | some (.lst acc) => if acc.length < sizeLine then lcGo n chk tg c e σ r (S2.set n (.lst (acc ++ [v]))) else none
          | _ => none)
        | _ => none) else lcGo n chk tg c e σ r S1
      | _ => none)
    | none => none) else none
def mLc (src : St → Sto → R Src) (own : List Nat) (tg : Tg) (c : MT) (e : ME) : ME := fun σ S => (src σ S).bind fun s S1 => match lcGo S1.length s.chk tg c e (wipe σ own) s.its (S1 ++ [.lst []]) with
  | some S2 => .ok (.ref S1.length) S2
  | none => .bad
def mYes : MT := fun _ S => .ok true S
theorem lr_wipe {ρ : List Addr} {τ σ : St} (l : LR ρ τ σ) : ∀ vs : List Nat, LR ρ (wipe τ vs) (wipe σ vs)
  | [] => l
  | v :: vs => prd_set (F := OR ρ) (x := none) (y := none) trivial v (lr_wipe l vs)
theorem wipe_get {σ : St} {j : Nat} : ∀ {vs : List Nat}, j ∉ vs → (wipe σ vs)[j]? = σ[j]?
  | [], _ => rfl
  | v :: vs, h => by
    show ((wipe σ vs).set v none)[j]? = _
    rw [List.getElem?_set_ne (fun z => h (by rw [z]; exact List.mem_cons_self)), wipe_get fun z => h (List.mem_cons_of_mem _ z)]
theorem wipe_in {σ : St} {j : Nat} : ∀ {vs : List Nat}, j ∈ vs → (wipe σ vs)[j]? = if j < σ.length then some none else none
  | [], h => by cases h
  | v :: vs, h => by
    show ((wipe σ vs).set v none)[j]? = _
    by_cases z : v = j
    · subst z
      rw [List.getElem?_set]
      simp [wipe_length]
    · rw [List.getElem?_set_ne z]
      rcases List.mem_cons.mp h with e | e
      · exact absurd e.symm z
      · exact wipe_in e
theorem bt_wipe {is own : List Nat} {σ σ2 : St} (h : Bt is (wipe σ own) σ2) (hs : ∀ i ∈ is, i ∈ own) : wipe σ2 own = wipe σ own := by
  apply List.ext_getElem?
  intro j
  by_cases z : j ∈ own
  · rw [wipe_in z, wipe_in z, h.1, wipe_length]
  · rw [wipe_get z, h.2 j (fun q => z (hs j q))]
section
variable {T : Tab} {W : WX} {X : Cx} {tg0 elt iter : Expr} {ifs : List Expr} {scope : Scope} {own : List (Str × Nat)} {is : List Nat} {src : St → Sto → R Src} {tg : Tg} {c : MT} {e : ME} {pos : Pos} {k : Nat}
abbrev DTs (T : Tab) (X : Cx) (ifs : List Expr) (m : MT) : Prop := PTs X ifs (den (gm T X) W0 BR m)
theorem dts_nil : DTs T X [] mYes := ⟨fun pins s σ H Q I h => pts_nil.run pins s σ H Q I (by
  obtain ⟨ρ, S, τ, r, l, h⟩ := h
  exact h ρ H true Ext.refl r rfl)⟩
theorem dts_one {e : Expr} (h : DT T X W0 e c) : DTs T X [e] c := pts_one h
theorem tLc_of {Q : VK} {σ : St} {H : Hp} {g : TG}
    (hq : TgOk (gm T X) g is tg)
    (his : ∀ i ∈ is, i ∈ own.map (·.2)) (h : den (gm T X) W VR (mLc src (own.map (·.2)) tg c e) σ H Q) :
    tLc (denI (gm T X) W src) g (den (gm T X) W0 BR c) (den (gm T X) W0 VR e) (own.map (·.2)) σ H Q := by
  obtain ⟨ρ, S, τ, r, l, h⟩ := h
  refine ⟨ρ, S, τ, r, l, Post.bind h fun ρ1 S1 H1 s b p1 r1 xb h1 => ?_⟩
  subst xb
  intro J hJ D nD
  cases eg : lcGo S1.length s.chk tg c e (wipe τ (own.map (·.2))) s.its (S1 ++ [.lst []]) with
  | none => rw [eg] at h1; exact h1.elim
  | some Sf =>
    rw [eg] at h1
    have r1' : Rep (gm T X) (ρ1 ++ [D]) (S1 ++ [.lst []]) (upd H1 D (.lst [])) := r1.alloc nD ⟨[], rfl, .nil⟩
    have eD : VR (ρ1 ++ [D]) (.ref S1.length) (.ref D) := new_ref r1.len
    refine ⟨fun i m H => m = s.its.length - i ∧ i ≤ s.its.length ∧ ∃ ρ S, Ext (ρ1 ++ [D]) (upd H1 D (.lst [])) ρ H ∧ Rep (gm T X) ρ S H ∧ lcGo S1.length s.chk tg c e (wipe τ (own.map (·.2))) (s.its.drop i) S = some Sf,
      ⟨_, rfl, Nat.zero_le _, _, _, Ext.refl, r1', eg⟩, fun i m H hW => ?_⟩
    obtain ⟨em, hi, ρ2, S2, p2, r2, e2⟩ := hW
    have pH : Ext ρ1 H1 ρ2 H := (Ext.new nD).trans p2
    by_cases z : i < s.its.length
    · rw [List.drop_eq_getElem_cons z] at e2
      unfold lcGo at e2
      split at e2
      · rename_i hc
        obtain ⟨hgo, hy⟩ := (hJ ρ2 S2 H pH r2 hc).2 i _ (List.getElem?_eq_getElem z)
        refine .inr ⟨hgo, fun H' => ∃ ρ S, Ext (ρ1 ++ [D]) (upd H1 D (.lst [])) ρ H' ∧ Rep (gm T X) ρ S H' ∧ lcGo S1.length s.chk tg c e (wipe τ (own.map (·.2))) (s.its.drop (i + 1)) S = some Sf, fun H' hN => ⟨s.its.length - (i + 1), by omega, rfl, z, hN⟩, fun x H3 hy3 => ?_⟩
        obtain ⟨p3, r3, x3⟩ := hy x H3 hy3
        split at e2
        · rename_i τ3 et
          refine hq ρ2 S2 H3 _ _ _ x τ3 _ r3 (lr_wipe (l.mono (p1.trans pH).pre) _) x3 et fun σ3 l3 b3 => ⟨bt_wipe b3 his, ?_⟩
          refine ⟨ρ2, S2, τ3, r3, l3, ?_⟩
          split at e2
          · rename_i bb S4 ec
            rw [ec]
            intro ρ4 H4 b4 p4 r4 x4
            cases x4
            split at e2
            · rename_i hb
              rw [if_pos hb]
              refine ⟨ρ4, S4, τ3, r4, l3.mono p4.pre, ?_⟩
              split at e2
              · rename_i v S5 ee
                rw [ee]
                intro ρ5 H5 w p5 r5 x5
                split at e2
                · rename_i acc ea
                  split at e2
                  · rename_i hz
                    have pp := ((p2.trans p3).trans p4).trans p5
                    obtain ⟨a, u, e1, e3, eh, ws, eu, vr⟩ := r5.ref ea (eD.mono pp.pre)
                    cases e1
                    subst eu
                    refine ⟨ws, eh, by rw [← prd_len vr]; exact hz, ρ5, _, pp.trans (Ext.put eh fun _ _ q => nomatch q), r5.write ea e3 (fun fs q => by rw [eh] at q; cases q) (o' := .lst (acc ++ [v])) ⟨_, rfl, prd_app vr (.cons x5 .nil)⟩, e2⟩
                  · cases e2
                · cases e2
              · cases e2
            · rename_i hb
              rw [if_neg hb]
              exact ⟨ρ4, S4, (p2.trans p3).trans p4, r4, e2⟩
          · cases e2
        · cases e2
      · cases e2
    · have ei : i = s.its.length := by omega
      rw [ei, List.drop_length] at e2
      unfold lcGo at e2
      split at e2
      · rename_i hc
        cases e2
        rw [ei]
        refine .inl ⟨(hJ ρ2 _ H pH r2 hc).1, ?_⟩
        exact h1 ρ2 H (.ref D) pH r2 (eD.mono p2.pre)
      · cases e2
theorem de_lc {g : TG} (C : Ctx X W k) (hi : DI T X W tg0 iter src) (ok : BlkOk X.N X.env.scope scope own)
    (hg : ∀ (s : Shared) (H : Hp) (cC : Addr) (cl : List (Str × Addr)) (fp : List Addr), PG (X.blk s H scope (compEnvC scope cl cC X.env) fp) tg0 g) (hq : TgOk (gm T X) g is tg) (his : ∀ i ∈ is, i ∈ own.map (·.2))
    (ht : ∀ (s : Shared) (H : Hp) (cC : Addr) (cl : List (Str × Addr)) (fp : List Addr), Ctx (X.blk s H scope (compEnvC scope cl cC X.env) fp) W0 k → DTs T (X.blk s H scope (compEnvC scope cl cC X.env) fp) ifs c)
    (he : ∀ (s : Shared) (H : Hp) (cC : Addr) (cl : List (Str × Addr)) (fp : List Addr), Ctx (X.blk s H scope (compEnvC scope cl cC X.env) fp) W0 k → DE T (X.blk s H scope (compEnvC scope cl cC X.env) fp) W0 elt e)
    (hs : ∀ x, foldedSetIterable iter X.env x = pure x := by intro _; rfl) : DE T X W (.ListComp elt [⟨tg0, iter, ifs, 0⟩] scope pos) (mLc src (own.map (·.2)) tg c e) :=
  (pe_lc C.calm C.nd hi ok hg (fun s H cC cl fp => ht s H cC cl fp C.blk) (fun s H cC cl fp => he s H cC cl fp C.blk) hs).imp fun σ H Q h => tLc_of hq his h
theorem ds_setLc {g : TG} {i : Nat} {y : Str} {py spos : Pos} (C : Ctx X W k) (hi : DI T X W tg0 iter src) (ok : BlkOk X.N X.env.scope scope own)
    (hg : ∀ (s : Shared) (H : Hp) (cC : Addr) (cl : List (Str × Addr)) (fp : List Addr), PG (X.blk s H scope (compEnvC scope cl cC X.env) fp) tg0 g) (hq : TgOk (gm T X) g is tg) (his : ∀ i ∈ is, i ∈ own.map (·.2))
    (ht : ∀ (s : Shared) (H : Hp) (cC : Addr) (cl : List (Str × Addr)) (fp : List Addr), Ctx (X.blk s H scope (compEnvC scope cl cC X.env) fp) W0 k → DTs T (X.blk s H scope (compEnvC scope cl cC X.env) fp) ifs c)
    (he : ∀ (s : Shared) (H : Hp) (cC : Addr) (cl : List (Str × Addr)) (fp : List Addr), Ctx (X.blk s H scope (compEnvC scope cl cC X.env) fp) W0 k → DE T (X.blk s H scope (compEnvC scope cl cC X.env) fp) W0 elt e)
    (hy : X.N[i]? = some y := by rfl) (hyl : X.env.scope.names.lookup y = some .local := by rfl)
    (hsw : swapsWith (.ListComp elt [⟨tg0, iter, ifs, 0⟩] scope pos) (some (.Name y py)) spos.line X.env = pure true := by exact sw_true rfl rfl rfl (by decide +kernel))
    (hs : ∀ x, foldedSetIterable iter X.env x = pure x := by intro _; rfl) : DS T X W (.Assign [.Name y py] (.ListComp elt [⟨tg0, iter, ifs, 0⟩] scope pos) spos) (mSet i (mLc src (own.map (·.2)) tg c e)) :=
  (ps_setLc C.calm C.nd hy hyl hsw hi ok hg (fun s H cC cl fp => ht s H cC cl fp C.blk) (fun s H cC cl fp => he s H cC cl fp C.blk) hs).imp fun D σ H h => by
    refine tLc_of (c := c) (e := e) hq his ?_
    obtain ⟨ρ, S, τ, r, l, h⟩ := h
    refine ⟨ρ, S, τ, r, l, PostS.lift h l fun ρ1 S1 H1 v w p1 r1 x1 l1 h1 => ?_⟩
    exact h1 ρ1 H1 _ Ext.refl r1 (lr_set l1 x1 i)
end

/-! ### a dict is locked while it is walked -/
def Wl (W : WX) (dd : Addr) (od : Obj) (u : HO) : WX := fun cls d σ H' => H' dd = some (.frz od u) ∧ W cls d σ (upd H' dd u)
theorem XE.unlock {X : Cx} {W : WX} {dd : Addr} {od : Obj} {u : HO} (hn : ∀ o' u', X.H_0 dd ≠ some (.frz o' u')) {v : Value} {s' : Shared} (x : XE X (Wl W dd od u) v s') : XE X W v s' := by
  obtain ⟨a, B, sI, pins, σ, H, cls, d, e, I, nb, up, sky, na, os, ag, hl, w⟩ := x
  exact ⟨a, B, sI, pins, σ, upd H dd u, cls, d, e, I.unlock hl hn, nb, up, sky, by rw [upd_ne (fun z => by rw [z, hl] at na; cases na)]; exact na, os, ag, w⟩
theorem Ctx.lock {X : Cx} {W : WX} {k : Nat} (C : Ctx X W k) {dd : Addr} {od : Obj} {u : HO} (hn : ∀ o' u', X.H_0 dd ≠ some (.frz o' u')) : Ctx X (Wl W dd od u) k :=
  ⟨C.calm, C.nd, C.room, C.tk.elim (fun h => .inl fun v s' x => h v s' (XE.unlock hn x)) (fun h => .inr fun c d σ H q => h _ _ _ _ q.2), C.own⟩
theorem CtS.lock {X : Cx} {W : WX} {k : Nat} (C : CtS X W k) {dd : Addr} {od : Obj} {u : HO} (hn : ∀ o' u', X.H_0 dd ≠ some (.frz o' u')) : CtS X (Wl W dd od u) k :=
  ⟨C.toCtx.lock hn, fun v s' x => C.takes v s' (XE.unlock hn x), C.stk, C.frm, C.ex⟩
/-- which object is locked -/
def pick (m : ME) : St → Sto → Option Nat := fun σ S => match m σ S with
  | .ok (.ref i) _ => some i
  | _ => none
def unl (i : Nat) (kvs : List (Key × V)) (S : Sto) : Option Sto := if S[i]? = some (.lck (.dK kvs)) then some (S.set i (.dK kvs)) else none
def unlS (i : Nat) (kvs : List (Key × V)) : RS → RS
  | .nx σ S => match unl i kvs S with
    | some S' => .nx σ S'
    | none => .bad
  | .rt v S => match unl i kvs S with
    | some S' => .rt v S'
    | none => .bad
  | .bk σ S => match unl i kvs S with
    | some S' => .bk σ S'
    | none => .bad
  | .ct σ S => match unl i kvs S with
    | some S' => .ct σ S'
    | none => .bad
  | .exc c d σ S => match unl i kvs S with
    | some S' => .exc c d σ S'
    | none => .bad
  | .bad => .bad
def mLock (p : St → Sto → Option Nat) (st : MS) : MS := fun σ S => match p σ S with
  | some i => (match S[i]? with
    | some (.dK kvs) => unlS i kvs (st σ (S.set i (.lck (.dK kvs))))
    | _ => st σ S)
  | none => st σ S
def unlR {α : Type} (i : Nat) (kvs : List (Key × V)) : R α → R α
  | .ok v S => match unl i kvs S with
    | some S' => .ok v S'
    | none => .bad
  | .exc c d S => match unl i kvs S with
    | some S' => .exc c d S'
    | none => .bad
  | .bad => .bad
def mLockE (p : St → Sto → Option Nat) (m : ME) : ME := fun σ S => match p σ S with
  | some i => (match S[i]? with
    | some (.dK kvs) => unlR i kvs (m σ (S.set i (.lck (.dK kvs))))
    | _ => m σ S)
  | none => m σ S
section
variable {T : Tab} {W : WX} {X : Cx} {k : Nat}
theorem unl_some {i : Nat} {kvs : List (Key × V)} {S S' : Sto} (h : unl i kvs S = some S') : S[i]? = some (.lck (.dK kvs)) ∧ S' = S.set i (.dK kvs) := by
  unfold unl at h
  split at h
  · rename_i h'
    cases h
    exact ⟨h', rfl⟩
  · cases h
/-- what the lock's end brings -/
theorem lock_end {G : Gm} {ρ ρ2 : List Addr} {H H2 : Hp} {i : Nat} {a : Addr} {od : Obj} {kvs ws : List (Key × V)} {S2 S3 : Sto} (hH : H a = some (.dK ws)) (vr : FR ρ kvs ws) (ea : ρ[i]? = some a) (p2 : Ext ρ (upd H a (.frz od (.dK ws))) ρ2 H2) (r2 : Rep G ρ2 S2 H2) (h : unl i kvs S2 = some S3) :
    H2 a = some (.frz od (.dK ws)) ∧ Ext ρ H ρ2 (upd H2 a (.dK ws)) ∧ Rep G ρ2 S3 (upd H2 a (.dK ws)) := by
  obtain ⟨e1, e2⟩ := unl_some h
  have h2 := p2.kp a od (.dK ws) upd_same
  have ea2 := pre_get p2.pre ea
  refine ⟨h2, ⟨p2.pre, fun b o u hb => ?_⟩, ?_⟩
  · have ne : b ≠ a := fun z => by rw [z, hH] at hb; cases hb
    rw [upd_ne ne]
    exact p2.kp b o u (by rw [upd_ne ne]; exact hb)
  · rw [e2]
    exact r2.write e1 ea2 (fun fs q => by rw [h2] at q; cases q) ⟨ws, rfl, FR.mono vr p2.pre⟩
theorem lock_start {G : Gm} {ρ : List Addr} {H : Hp} {S : Sto} {i : Nat} {a : Addr} {od : Obj} {kvs ws : List (Key × V)} (r : Rep G ρ S H) (es : S[i]? = some (.dK kvs)) (ea : ρ[i]? = some a) (hH : H a = some (.dK ws)) (vr : FR ρ kvs ws) :
    Rep G ρ (S.set i (.lck (.dK kvs))) (upd H a (.frz od (.dK ws))) := r.write es ea (fun fs q => by rw [hH] at q; cases q) ⟨od, _, rfl, ws, rfl, vr⟩
theorem ds_lock {st : Stmt} {ms : MS} {p : St → Sto → Option Nat} (C : CtS X W k) (h : ∀ W', CtS X W' k → DS T X W' st ms) : DS T X W st (mLock p ms) := by
  refine ⟨fun pins s σ H D I hw => ?_⟩
  obtain ⟨ρ, S, τ, r, l, hw⟩ := hw
  unfold mLock at hw
  split at hw
  · rename_i i _
    split at hw
    · rename_i kvs es
      obtain ⟨a, ea⟩ := r.addr es
      obtain ⟨u, eh, ws, eu, vr⟩ := r.at_ i _ a es ea
      subst eu
      have hn := I.nofrz eh trivial
      obtain ⟨od, I1⟩ := I.lock eh trivial
      refine thn ((h (Wl W a od (.dK ws)) (C.lock hn)).run pins s σ _ ⟨fun σ' H' => H' a = some (.frz od (.dK ws)) ∧ D.nx σ' (upd H' a (.dK ws)), fun v H' => H' a = some (.frz od (.dK ws)) ∧ D.rt v (upd H' a (.dK ws)), fun σ' H' => H' a = some (.frz od (.dK ws)) ∧ D.bk σ' (upd H' a (.dK ws)), fun σ' H' => H' a = some (.frz od (.dK ws)) ∧ D.ct σ' (upd H' a (.dK ws))⟩ I1 ?_) fun f s1 q => ?_
      · refine ⟨ρ, _, τ, lock_start r es ea eh vr, l, ?_⟩
        cases e : ms τ (S.set i (.lck (.dK kvs))) with
        | nx τ2 S2 =>
          rw [e] at hw
          intro ρ2 H2 σ2 p2 r2 l2
          dsimp only [unlS] at hw
          cases eu : unl i kvs S2 with
          | none => rw [eu] at hw; exact hw.elim
          | some S3 =>
            rw [eu] at hw
            obtain ⟨h2, p3, r3⟩ := lock_end eh vr ea p2 r2 eu
            exact ⟨h2, hw ρ2 _ σ2 p3 r3 l2⟩
        | rt v S2 =>
          rw [e] at hw
          intro ρ2 H2 w p2 r2 l2
          dsimp only [unlS] at hw
          cases eu : unl i kvs S2 with
          | none => rw [eu] at hw; exact hw.elim
          | some S3 =>
            rw [eu] at hw
            obtain ⟨h2, p3, r3⟩ := lock_end eh vr ea p2 r2 eu
            exact ⟨h2, hw ρ2 _ w p3 r3 l2⟩
        | bk τ2 S2 =>
          rw [e] at hw
          intro ρ2 H2 σ2 p2 r2 l2
          dsimp only [unlS] at hw
          cases eu : unl i kvs S2 with
          | none => rw [eu] at hw; exact hw.elim
          | some S3 =>
            rw [eu] at hw
            obtain ⟨h2, p3, r3⟩ := lock_end eh vr ea p2 r2 eu
            exact ⟨h2, hw ρ2 _ σ2 p3 r3 l2⟩
        | ct τ2 S2 =>
          rw [e] at hw
          intro ρ2 H2 σ2 p2 r2 l2
          dsimp only [unlS] at hw
          cases eu : unl i kvs S2 with
          | none => rw [eu] at hw; exact hw.elim
          | some S3 =>
            rw [eu] at hw
            obtain ⟨h2, p3, r3⟩ := lock_end eh vr ea p2 r2 eu
            exact ⟨h2, hw ρ2 _ σ2 p3 r3 l2⟩
        | exc c d τ2 S2 =>
          rw [e] at hw
          intro ρ2 H2 σ2 Cx dd p2 r2 l2 xc dr
          dsimp only [unlS] at hw
          cases eu : unl i kvs S2 with
          | none => rw [eu] at hw; exact hw.elim
          | some S3 =>
            rw [eu] at hw
            obtain ⟨h2, p3, r3⟩ := lock_end eh vr ea p2 r2 eu
            refine ⟨h2, hw ρ2 _ σ2 Cx dd p3 r3 l2 xc (dr.mono (List.prefix_refl _) fun b fs z => ?_)⟩
            rw [upd_ne (fun q => by rw [q, h2] at z; cases z)]
            exact z
        | bad => rw [e] at hw; exact hw.elim
      · cases f with
        | next => obtain ⟨σ', H', I2, e, q⟩ := q; exact ⟨σ', _, I2.unlock e hn, q⟩
        | brk => obtain ⟨σ', H', I2, e, q⟩ := q; exact ⟨σ', _, I2.unlock e hn, q⟩
        | cont => obtain ⟨σ', H', I2, e, q⟩ := q; exact ⟨σ', _, I2.unlock e hn, q⟩
        | ret v => obtain ⟨x, σ', H', I2, r, e, q⟩ := q; exact ⟨x, σ', _, I2.unlock e hn, r, q⟩
    · exact (h W C).run pins s σ H D I ⟨ρ, S, τ, r, l, hw⟩
  · exact (h W C).run pins s σ H D I ⟨ρ, S, τ, r, l, hw⟩
theorem de_lock {e : Expr} {m : ME} {p : St → Sto → Option Nat} (C : Ctx X W k) (h : ∀ W', Ctx X W' k → DE T X W' e m) : DE T X W e (mLockE p m) := by
  refine ⟨fun pins s σ H Q I hw => ?_⟩
  obtain ⟨ρ, S, τ, r, l, hw⟩ := hw
  unfold mLockE at hw
  split at hw
  · rename_i i _
    split at hw
    · rename_i kvs es
      obtain ⟨a, ea⟩ := r.addr es
      obtain ⟨u, eh, ws, eu, vr⟩ := r.at_ i _ a es ea
      subst eu
      have hn := I.nofrz eh trivial
      obtain ⟨od, I1⟩ := I.lock eh trivial
      refine thn ((h (Wl W a od (.dK ws)) (C.lock hn)).run pins s σ _ (fun v H' => H' a = some (.frz od (.dK ws)) ∧ Q v (upd H' a (.dK ws))) I1 ?_) fun v s1 q => ?_
      · refine ⟨ρ, _, τ, lock_start r es ea eh vr, l, ?_⟩
        cases e : m τ (S.set i (.lck (.dK kvs))) with
        | ok v S2 =>
          rw [e] at hw
          intro ρ2 H2 w p2 r2 l2
          dsimp only [unlR] at hw
          cases eu : unl i kvs S2 with
          | none => rw [eu] at hw; exact hw.elim
          | some S3 =>
            rw [eu] at hw
            obtain ⟨h2, p3, r3⟩ := lock_end eh vr ea p2 r2 eu
            exact ⟨h2, hw ρ2 _ w p3 r3 l2⟩
        | exc c d S2 =>
          rw [e] at hw
          intro ρ2 H2 Cx dd p2 r2 xc dr
          dsimp only [unlR] at hw
          cases eu : unl i kvs S2 with
          | none => rw [eu] at hw; exact hw.elim
          | some S3 =>
            rw [eu] at hw
            obtain ⟨h2, p3, r3⟩ := lock_end eh vr ea p2 r2 eu
            refine ⟨h2, hw ρ2 _ Cx dd p3 r3 xc (dr.mono (List.prefix_refl _) fun b fs z => ?_)⟩
            rw [upd_ne (fun q => by rw [q, h2] at z; cases z)]
            exact z
        | bad => rw [e] at hw; exact hw.elim
      · obtain ⟨x, H', I2, r, e, q⟩ := q
        exact ⟨x, _, I2.unlock e hn, r, q⟩
    · exact (h W C).run pins s σ H Q I ⟨ρ, S, τ, r, l, hw⟩
  · exact (h W C).run pins s σ H Q I ⟨ρ, S, τ, r, l, hw⟩
end

/-! ### raise -/
/-- the class of exceptions at the place c: without an own __init__ -/
def XcF (T : Tab) (K : PySem.W.Frag) (mg : Str → Option Value) (c : Nat) (x : Str) : Prop := T.xs[c]? = some x ∧ ∃ C, mg x = some (.ref C) ∧ PySem.W.excIn K C [.type "ValueError", .type "Exception", .type "BaseException", .type "object"] "ValueError.__new__" = true ∧
  PySem.W.keepIn K (.ref C) = true ∧ PySem.W.subIn K (.ref C) (.type "BaseException") = some true ∧ PySem.W.typeIn K (.ref C) = some (.type "type")
def mRaise (c : Nat) : MS := fun σ S => .exc c none σ S
section
variable {T : Tab} {W : WX} {X : Cx} {k : Nat} {pos p p2 pos' : Pos} {x m : Str}
theorem ds_raise {c : Nat} {j} (C : CtS X W k) (F : XcF T X.K X.mg c x) (hg : Gl X x := by rfl) (hdb : (x == ("__debug__" : Str)) = false := by decide) : DS T X W (.Raise (some (.Call (.Name x p) [.Constant (.str m) j p2] [] pos)) none pos') (mRaise c) := by
  obtain ⟨hx, Ca, gC, q, kC, sC, tC⟩ := F
  refine (ps_raise C.calm C.takes (pmk_own PySem.F.excBase_ValueError q gC kC (raises_own sC tC) hg hdb)).imp fun D σ H h => ?_
  obtain ⟨ρ, S, τ, r, l, h⟩ := h
  exact h ρ H σ Ca none Ext.refl r l ⟨x, hx, gC⟩ rfl
end

/-! ### a def keeps to its function -/
def fnOf (n : Nat) (m : MS) : Fn := fun args S => match m (args.map some ++ List.replicate (n - args.length) none) S with
  | .rt v S1 => .ok v S1
  | .nx _ S1 => .ok .non S1
  | .exc c d _ S1 => .exc c d S1
  | _ => .bad
theorem start_lr {ρ : List Addr} {args vs : List V} {N : List Str} (h : VsR ρ args vs) : LR ρ (args.map some ++ List.replicate (N.length - args.length) none) (L2.start N vs) := by
  unfold L2.start
  rw [← prd_len h]
  refine prd_app ?_ (prd_rep (F := OR ρ) (x := none) (y := none) trivial _)
  induction h with
  | nil => exact .nil
  | cons r t ih => exact .cons r ih
section
variable {T : Tab} {P : Program} {w : World} {K : PySem.W.Frag} {mg : Str → Option Value} {base : Heap}
theorem fnOk_of {x qual : Str} {st : Stmt} {a : Addr} {fd : FuncData} {N ps : List Str} {k nn np : Nat} {m : MS} (F : Fun K x qual st a fd) (Sc : FnScope N ps (defScope st)) (hN : N.length = nn) (hp : ps.length = np)
    (hbody : ∀ (X : Cx) (cdv : Value) (A : Around) (outer : List Env) (s : Shared) (H : Hp) (E : XK), X = cxOf (L2.CX P w) P w K mg base N qual (defScope st) a cdv A outer s H E → CtS X (fun cls d _ H => E cls d H) k → DSs T X (fun cls d _ H => E cls d H) (defBody st) m) :
    FnOk P w K mg base (L2.CX P w) (k + 1) a fd ps (spOf ⟨K, mg, T.cs, T.xs⟩ np (fnOf nn m)) := by
  refine F.okX Sc (fun vs H Q E h => by rw [hp]; exact h.1) (fun cdv A outer s H vs Q E hr h => ?_)
  obtain ⟨hl, ρ, S, args, σ, r, va, h⟩ := h
  have tk : Takes (cxOf (L2.CX P w) P w K mg base N qual (defScope st) a cdv A outer s H E) (fun cls d _ H => E cls d H) := takes_of rfl rfl rfl rfl
  refine ⟨_, hbody _ cdv A outer s H E rfl ⟨⟨rfl, Sc.nd, hr, .inl tk, passes_of rfl⟩, tk, rfl, rfl, rfl⟩, ρ, S, _, r, start_lr va, ?_⟩
  unfold fnOf at h
  rw [hN]
  cases e : m (args.map some ++ List.replicate (nn - args.length) none) S with
  | rt v S1 => rw [e] at h; exact h
  | nx τ S1 => rw [e] at h; exact fun ρ2 H2 σ2 p2 r2 l2 => h ρ2 H2 .non p2 r2 rfl
  | exc c d τ S1 => rw [e] at h; exact fun ρ2 H2 σ2 C dd p2 r2 l2 => h ρ2 H2 C dd p2 r2
  | bk τ S1 => rw [e] at h; exact h.elim
  | ct τ S1 => rw [e] at h; exact h.elim
  | bad => rw [e] at h; exact h.elim
end
end Mi

namespace Mi
open PySem PySem.Spec L2
open PyProof.Rows hiding St

instance mulDec (a b : Int) : Decidable (IntMulOk a b) := by unfold IntMulOk; infer_instance
/-- a divisor of the size that is looked at -/
def DivOk (j : Int) : Prop := 0 < j ∧ j < 2 ^ 256
instance (j : Int) : Decidable (DivOk j) := by unfold DivOk; infer_instance

/-! ### arithmetic, lists joined -/
def oAdd : V → V → Sto → R V := fun x y S => match x, y with
  | .int i, .int j => .ok (.int (i + j)) S
  | .str i, .str j => if i.length + j.length ≤ sizeLine then .ok (.str (i ++ j)) S else .bad
  | .ref i, .ref j => match rdL S (.ref i), rdL S (.ref j) with
    | some xs, some ys => if xs.length + ys.length ≤ sizeLine then .ok (.ref S.length) (S ++ [.lst (xs ++ ys)]) else .bad
    | _, _ => match rdT S (.ref i), rdT S (.ref j) with
      | some xs, some ys => if xs ≠ [] ∧ ys ≠ [] ∧ xs.length + ys.length ≤ sizeLine then .ok (.ref S.length) (S ++ [.tup (xs ++ ys)]) else .bad
      | _, _ => .bad
  | _, _ => .bad
def oSub : V → V → Sto → R V := fun x y S => match x, y with
  | .int i, .int j => .ok (.int (i - j)) S
  | _, _ => .bad
def oMul : V → V → Sto → R V := fun x y S => match x, y with
  | .int i, .int j => if IntMulOk i j then .ok (.int (i * j)) S else .bad
  | .ref i, .int k => match S[i]? with
    | some (.lst xs) => if -(2 ^ 63) ≤ k ∧ k < 2 ^ 63 ∧ xs.length * k.toNat ≤ sizeLine then .ok (.ref S.length) (S ++ [.lst (List.replicate k.toNat xs).flatten]) else .bad
    | _ => .bad
  | _, _ => .bad
def oDiv : V → V → Sto → R V := fun x y S => match x, y with
  | .int i, .int j => if DivOk j then .ok (.int (i / j)) S else .bad
  | _, _ => .bad
def oMod : V → V → Sto → R V := fun x y S => match x, y with
  | .int i, .int j => if 0 < j then .ok (.int (i % j)) S else .bad
  | _, _ => .bad
def oPow : V → V → Sto → R V := fun x y S => match x, y with
  | .int i, .int j => if 0 ≤ j ∧ j ≤ 1000000 ∧ i.natAbs < 2 ^ 64 then .ok (.int (i ^ j.toNat)) S else .bad
  | _, _ => .bad
def oNeg : V → Sto → R V := fun x S => match x with
  | .int i => .ok (.int (-i)) S
  | _ => .bad

section
variable {T : Tab} {X : Cx}
/-- an operation's rule at the values at hand -/
theorem opR_of {f : Value → Value → Sem Value} {o : V → V → Sto → R V}
    (h : ∀ (pins : List (Addr × Obj)) (s : Shared) (σ : St) (H : Hp) (x y : V) (v u : Value) (Q : VK) (ρ : List Addr) (S : Sto) (a b : V) (τ : St), Inv X pins σ H s → RelV x v → RelV y u → Rep (gm T X) ρ S H → VR ρ a x → VR ρ b y → Post (gm T X) W0 VR ρ H τ Q (o a b S) →
      wpAny (model X.prog X.w) X.A (f v u) (EP X pins σ Q) X.xe s) : OpR X f (denR (gm T X) o) := fun pins s σ H x y v u Q I rx ry ⟨ρ, S, a, b, τ, r, va, vb, q⟩ => h pins s σ H x y v u Q ρ S a b τ I rx ry r va vb q
theorem quiet_ite {c : Prop} [Decidable c] {α : Type} {r r' : R α} (h : r.quiet) (h' : r'.quiet) : (if c then r else r').quiet := by
  by_cases z : c
  · rw [if_pos z]; exact h
  · rw [if_neg z]; exact h'
theorem cat_any (pins : List (Addr × Obj)) (s : Shared) (σ : St) (H : Hp) (l b : Addr) (xs zs : List V) (Q : VK) (I : Inv X pins σ H s) (hl : SqL X.K H l xs) (hb : SqL X.K H b zs) (hz : xs.length + zs.length ≤ sizeLine)
    (q : ∀ p, H p = none → Q (.ref p) (upd H p (.lst (xs ++ zs)))) : wpAny (model X.prog X.w) X.A (binaryOp .Add (.ref l) (.ref b)) (EP X pins σ Q) X.xe s := by
  obtain ⟨its, r, ⟨⟨cls, dd, data, sl⟩, n, ho, hc, hd, hs⟩, _⟩ := I.list hl
  obtain ⟨its2, r2, ⟨⟨cls2, dd2, data2, sl2⟩, n2, ho2, hc2, hd2, hs2⟩, _⟩ := I.list hb
  have hl1 := r.length
  have hl2 := r2.length
  simp only at hc hd hs hc2 hd2 hs2
  subst hc hd hs hc2 hd2 hs2
  refine concat_meets ⟨_, ho, rfl⟩ ⟨_, ho2, rfl⟩ noFill_list_add seq_list_add PySem.F.slot_list_add PySem.F.entry_list_add (PySem.F.args_list_add_2 _ _) (list_addW l b its.toArray its2.toArray n n2 none none sl sl2 (by rw [List.size_toArray, List.size_toArray]; omega)) ⟨ho, ho2, ?_⟩
  rw [show its.toArray ++ its2.toArray = (its ++ its2).toArray by simp]
  exact ⟨.ref _, _, I.lnew (t' := s.toks) (r.append r2) (by rw [List.length_append]; omega), rfl, q _ I.fresh⟩
theorem op2_add : Op2 T X (binaryOp .Add) oAdd := by
  refine ⟨opR_of fun pins s σ H x y v u Q ρ S a b τ I rx ry r va vb h => ?_, fun x y S => ?_⟩
  · unfold oAdd at h
    split at h
    · cases va
      cases vb
      exact op_add pins s σ H _ _ v u Q I rx ry ⟨_, _, rfl, rfl, h ρ H _ Ext.refl r rfl⟩
    · cases va
      cases vb
      split at h
      · rename_i hz
        exact op_add_str pins s σ H _ _ v u Q I rx ry ⟨_, _, rfl, rfl, hz, h ρ H _ Ext.refl r rfl⟩
      · exact h.elim
    · rename_i i j
      split at h
      · rename_i xs ys e1 e2
        split at h
        · rename_i hz
          obtain ⟨a1, ws1, ew1, eh1, vr1⟩ := r.rdL e1 va
          obtain ⟨a2, ws2, ew2, eh2, vr2⟩ := r.rdL e2 vb
          subst ew1
          subst ew2
          cases rx
          cases ry
          refine cat_any pins s σ H a1 a2 ws1 ws2 Q I (.inl eh1) (.inl eh2) (by rw [← prd_len vr1, ← prd_len vr2]; exact hz) fun p np => ?_
          exact h _ _ _ (Ext.new np) (r.alloc np ⟨_, rfl, VsR.mono (prd_app vr1 vr2) (List.prefix_append _ _)⟩) (new_ref r.len)
        · exact h.elim
      · split at h
        · rename_i xs ys e1 e2
          split at h
          · rename_i hz
            obtain ⟨a1, ws1, ew1, eh1, vr1⟩ := r.rdT e1 va
            obtain ⟨a2, ws2, ew2, eh2, vr2⟩ := r.rdT e2 vb
            subst ew1
            subst ew2
            have ne : ∀ {xs ws : List V}, VsR ρ xs ws → xs ≠ [] → ws ≠ [] := fun t n q => by
              subst q
              cases t
              exact n rfl
            refine op_catT pins s σ H _ _ v u Q I rx ry ⟨a1, a2, ws1, ws2, rfl, rfl, .inl (.inl eh1), .inl (.inl eh2), ne vr1 hz.1, by rw [← prd_len vr1, ← prd_len vr2]; exact hz.2.2, fun q => absurd q (ne vr2 hz.2.1), fun _ p np => ?_⟩
            exact h _ _ _ (Ext.new np) (r.alloc np ⟨_, rfl, VsR.mono (prd_app vr1 vr2) (List.prefix_append _ _)⟩) (new_ref r.len)
          · exact h.elim
        · exact h.elim
    · exact h.elim
  · unfold oAdd
    repeat' split
    all_goals trivial
theorem op2_sub : Op2 T X (binaryOp .Sub) oSub := by
  refine ⟨opR_of fun pins s σ H x y v u Q ρ S a b τ I rx ry r va vb h => ?_, fun x y S => ?_⟩
  · unfold oSub at h
    split at h
    · cases va
      cases vb
      exact op_sub pins s σ H _ _ v u Q I rx ry ⟨_, _, rfl, rfl, h ρ H _ Ext.refl r rfl⟩
    · exact h.elim
  · unfold oSub
    repeat' split
    all_goals trivial
def oIAdd : V → V → Sto → R V := fun x y S => match x, y with
  | .int i, .int j => .ok (.int (i + j)) S
  | _, _ => .bad
theorem ip2_add : Op2 T X (inplaceOp .Add) oIAdd := by
  refine ⟨opR_of fun pins s σ H x y v u Q ρ S a b τ I rx ry r va vb h => ?_, fun x y S => ?_⟩
  · unfold oIAdd at h
    split at h
    · cases va
      cases vb
      exact iop_add pins s σ H _ _ v u Q I rx ry ⟨_, _, rfl, rfl, h ρ H _ Ext.refl r rfl⟩
    · exact h.elim
  · unfold oIAdd
    repeat' split
    all_goals trivial
theorem ip2_sub : Op2 T X (inplaceOp .Sub) oSub := by
  refine ⟨opR_of fun pins s σ H x y v u Q ρ S a b τ I rx ry r va vb h => ?_, fun x y S => ?_⟩
  · unfold oSub at h
    split at h
    · cases va
      cases vb
      exact iop_sub pins s σ H _ _ v u Q I rx ry ⟨_, _, rfl, rfl, h ρ H _ Ext.refl r rfl⟩
    · exact h.elim
  · unfold oSub
    repeat' split
    all_goals trivial
theorem op2_mul : Op2 T X (binaryOp .Mult) oMul := by
  refine ⟨opR_of fun pins s σ H x y v u Q ρ S a b τ I rx ry r va vb h => ?_, fun x y S => ?_⟩
  · unfold oMul at h
    split at h
    · cases va
      cases vb
      split at h
      · rename_i hz
        have om : OpR X (binaryOp .Mult) (rI IntMulOk fun i j => .int (i * j)) := opI fun _ _ _ _ _ _ _ hc q => mul_int q hc
        exact om pins s σ H _ _ v u Q I rx ry ⟨_, _, rfl, rfl, hz, h ρ H _ Ext.refl r rfl⟩
      · exact h.elim
    · cases vb
      split at h
      · rename_i xs e1
        split at h
        · rename_i hz
          obtain ⟨a1, u1, ew1, er1, eh1, ws1, eu1, vr1⟩ := r.ref e1 va
          subst ew1
          subst eu1
          refine op_rep pins s σ H _ _ v u Q I rx ry ⟨a1, _, ws1, rfl, rfl, eh1, hz.1, hz.2.1, by rw [← prd_len vr1]; exact hz.2.2, fun p np => ?_⟩
          refine h _ _ _ (Ext.new np) (r.alloc np ⟨_, rfl, VsR.mono ?_ (List.prefix_append _ _)⟩) (new_ref r.len)
          rename_i k _
          generalize k.toNat = n
          induction n with
          | zero => exact .nil
          | succ n ih => rw [List.replicate_succ, List.replicate_succ, List.flatten_cons, List.flatten_cons]; exact prd_app vr1 ih
        · exact h.elim
      · exact h.elim
    · exact h.elim
  · unfold oMul
    repeat' split
    all_goals trivial
theorem DivOk.wide {i j : Int} (h : DivOk j) : CDivW i j := by
  have : j.natAbs < 2 ^ 256 := by have := h.2; have := h.1; omega
  exact wide_div h.1 this (by decide) (by decide)
theorem op2_div : Op2 T X (binaryOp .FloorDiv) oDiv := by
  refine ⟨opR_of fun pins s σ H x y v u Q ρ S a b τ I rx ry r va vb h => ?_, fun x y S => ?_⟩
  · unfold oDiv at h
    split at h
    · cases va
      cases vb
      split at h
      · rename_i hz
        exact op_fdivW pins s σ H _ _ v u Q I rx ry ⟨_, _, rfl, rfl, hz.wide, h ρ H _ Ext.refl r rfl⟩
      · exact h.elim
    · exact h.elim
  · unfold oDiv
    repeat' split
    all_goals trivial
theorem op2_mod : Op2 T X (binaryOp .Mod) oMod := by
  refine ⟨opR_of fun pins s σ H x y v u Q ρ S a b τ I rx ry r va vb h => ?_, fun x y S => ?_⟩
  · unfold oMod at h
    split at h
    · cases va
      cases vb
      split at h
      · rename_i hz
        exact op_mod pins s σ H _ _ v u Q I rx ry ⟨_, _, rfl, rfl, hz, h ρ H _ Ext.refl r rfl⟩
      · exact h.elim
    · exact h.elim
  · unfold oMod
    repeat' split
    all_goals trivial
theorem op2_pow : Op2 T X (binaryOp .Pow) oPow := by
  refine ⟨opR_of fun pins s σ H x y v u Q ρ S a b τ I rx ry r va vb h => ?_, fun x y S => ?_⟩
  · unfold oPow at h
    split at h
    · cases va
      cases vb
      split at h
      · rename_i hz
        exact op_pow pins s σ H _ _ v u Q I rx ry ⟨_, _, rfl, rfl, hz, h ρ H _ Ext.refl r rfl⟩
      · exact h.elim
    · exact h.elim
  · unfold oPow
    repeat' split
    all_goals trivial
abbrev Op1 (T : Tab) (X : Cx) (f : Value → Sem Value) (o : V → Sto → R V) : Prop := UnR X f (denU (gm T X) o) ∧ ∀ x S, (o x S).quiet
theorem op1_neg : Op1 T X (unaryOp .USub) oNeg := by
  refine ⟨fun pins s σ H x v Q I rx h => ?_, fun x S => ?_⟩
  · obtain ⟨ρ, S, a, τ, r, va, h⟩ := h
    unfold oNeg at h
    split at h
    · cases va
      exact un_neg pins s σ H _ v Q I rx ⟨_, rfl, h ρ H _ Ext.refl r rfl⟩
    · exact h.elim
  · unfold oNeg
    split <;> trivial
theorem de_un {W : WX} {op : UnaryOp} {o : V → Sto → R V} {a : Expr} {ma : ME} {pos : Pos} (ho : Op1 T X (unaryOp op) o) (ha : DE T X W a ma) : DE T X W (.UnaryOp op a pos) (mUn o ma) := (pe_un ho.1 ha).imp fun σ H Q h => by
  obtain ⟨ρ, S, τ, r, l, h⟩ := h
  refine ⟨ρ, S, τ, r, l, Post.bind h fun ρ1 S1 H1 x w p1 r1 x1 h1 => ?_⟩
  exact ⟨ρ1, S1, x, σ, r1, x1, h1.still (ho.2 _ _)⟩

/-! ### order, is -/
def oCmp (p : Int → Int → Bool) : V → V → Sto → R V := fun x y S => match x, y with
  | .int i, .int j => .ok (.bl (p i j)) S
  | _, _ => .bad
theorem op2_cmp {f : Value → Value → Sem Value} {p : Int → Int → Bool} (h0 : OpR X f (rI0 fun i j => .bl (p i j))) : Op2 T X f (oCmp p) := by
  refine ⟨opR_of fun pins s σ H x y v u Q ρ S a b τ I rx ry r va vb h => ?_, fun x y S => ?_⟩
  · unfold oCmp at h
    split at h
    · cases va
      cases vb
      exact h0 pins s σ H _ _ v u Q I rx ry ⟨_, _, rfl, rfl, h ρ H _ Ext.refl r rfl⟩
    · exact h.elim
  · unfold oCmp
    repeat' split
    all_goals trivial
abbrev oLt := oCmp fun i j => decide (i < j)
abbrev oLe := oCmp fun i j => decide (i ≤ j)
abbrev oGt := oCmp fun i j => decide (j < i)
abbrev oGe := oCmp fun i j => decide (j ≤ i)
theorem op2_lt : Op2 T X (compareOp .Lt) oLt := op2_cmp op_lt
theorem op2_le : Op2 T X (compareOp .LtE) oLe := op2_cmp op_le
theorem op2_gt : Op2 T X (compareOp .Gt) oGt := op2_cmp op_gt
theorem op2_ge : Op2 T X (compareOp .GtE) oGe := op2_cmp op_ge
def isNon : V → Bool
  | .non => true
  | _ => false
def oIs : V → V → Sto → R V := fun x y S => match y with
  | .non => .ok (.bl (isNon x)) S
  | _ => .bad
def oIsN : V → V → Sto → R V := fun x y S => match y with
  | .non => .ok (.bl (!isNon x)) S
  | _ => .bad
theorem isNon_vr {ρ : List Addr} {v w : V} (h : VR ρ v w) : decide (w = .non) = isNon v := by
  cases v with
  | ref i => obtain ⟨a, _, e⟩ := h; subst e; rfl
  | _ => cases h; rfl
theorem op2_is : Op2 T X (compareOp .Is) oIs := by
  refine ⟨opR_of fun pins s σ H x y v u Q ρ S a b τ I rx ry r va vb h => ?_, fun x y S => ?_⟩
  · unfold oIs at h
    split at h
    · cases vb
      exact op_isN pins s σ H _ _ v u Q I rx ry ⟨rfl, h ρ H _ Ext.refl r (by rw [isNon_vr va]; rfl)⟩
    · exact h.elim
  · unfold oIs
    split <;> trivial
theorem op2_isN : Op2 T X (compareOp .IsNot) oIsN := by
  refine ⟨opR_of fun pins s σ H x y v u Q ρ S a b τ I rx ry r va vb h => ?_, fun x y S => ?_⟩
  · unfold oIsN at h
    split at h
    · cases vb
      exact op_notN pins s σ H _ _ v u Q I rx ry ⟨rfl, h ρ H _ Ext.refl r (by rw [isNon_vr va]; rfl)⟩
    · exact h.elim
  · unfold oIsN
    split <;> trivial

end
end Mi

namespace Mi
open PySem PySem.Spec L2
open PyProof.Rows hiding St

/-! ### an exception that was caught is an object of the store -/
section
variable {X : Cx} {pins : List (Addr × Obj)} {σ : St} {H : Hp} {s : Shared}
/-- an object that is not tracked is tracked from now on -/
theorem Inv.track {a : Addr} {u : HO} (I : Inv X pins σ H s) (na : H a = none) (n0 : X.s_0.heap.get? a = none) (nL : a ≠ X.env.locals) (hd : ∃ oe vs, s.heap.get? a = some oe ∧ oe.data = .fields vs)
    (hp : ∀ p ∈ X.pn ++ pins, p.1 ≠ a) (new : ObjOk X.prog X.w (upd H a u) s.heap a u) : Inv X pins σ (upd H a u) s := by
  have ne0 : ∀ b o, X.s_0.heap.get? b = some o → b ≠ a := fun b o e z => by rw [z, n0] at e; cases e
  have neT : ∀ b o, H b = some o → b ≠ a := fun b o e z => by rw [z, na] at e; cases e
  have neC : ∀ x c, X.env.cells.lookup x = some c → c ≠ a := fun x c e z => by
    obtain ⟨v, o, ho, hc⟩ := I.cell x c e
    obtain ⟨oe, vs, h1, h2⟩ := hd
    rw [z, h1] at ho
    cases ho
    rw [h2] at hc
    cases hc
  refine ⟨I.ok, I.os, I.bare, ⟨I.base.keep, I.base.slot, fun b o e n hx => ?_, I.base.there, fun b xs e => ?_, fun b o x e => ?_, fun b ps e => ?_⟩, I.loc, I.cell, ?_, fun x c e => ?_, fun p h => ?_, fun b o e => ?_, I.len⟩
  · rw [upd_ne (ne0 b o e)]; exact I.base.free b o e n hx
  · have q := I.base.tups b xs e
    rw [upd_ne (neT b _ q)]; exact q
  · have q := I.base.frzs b o x e
    rw [upd_ne (neT b _ q)]; exact q
  · obtain ⟨m, q⟩ := I.base.tbls b ps e
    exact ⟨m, by rw [upd_ne (neT b _ q)]; exact q⟩
  · rw [upd_ne (Ne.symm nL)]; exact I.free
  · rw [upd_ne (neC x c e)]; exact I.freeC x c e
  · obtain ⟨e, n, r⟩ := I.pin p h
    exact ⟨e, by rw [upd_ne (hp p h)]; exact n, r⟩
  · by_cases z : b = a
    · subst z
      rw [upd_same] at e
      cases e
      exact new
    · rw [upd_ne z] at e
      exact (I.hok b o e).stay (fun c v _ q => q) (fun c q => by rw [upd_ne (neT c _ q)]; exact q) fun c xs q => by rw [upd_ne (neT c _ q)]; exact q
end
section
variable {X : Cx} {pins : List (Addr × Obj)} {σ : St} {H : Hp} {s : Shared}
theorem Inv.hot (I : Inv X pins σ H s) {a : Addr} : Inv (X.suite a (X.pn ++ pins)) [] σ H s :=
  ⟨I.ok.suite _ _, I.os, I.bare, I.base, I.loc, I.cell, I.free, I.freeC, fun p hp => I.pin p (by rw [List.append_nil] at hp; exact hp), I.hok, I.len⟩
theorem Inv.cold {a : Addr} {pn' : List (Addr × Obj)} (I : Inv (X.suite a (X.pn ++ pins)) pn' σ H s) (ok : X.Ok) : Inv X pins σ H s :=
  ⟨ok, I.os, I.bare, I.base, I.loc, I.cell, I.free, I.freeC, fun p hp => I.pin p (List.mem_append_left _ hp), I.hok, I.len⟩
end
theorem exK_ok {P : Program} {w : World} {H : Hp} {h : Heap} {a C : Addr} {d : Option Addr} {oe : Obj} (e : h.get? a = some oe) (hc : oe.cls = .ref C) (hdd : oe.dict = d) (hf : ∃ vs, oe.data = .fields vs) : ObjOk P w H h a (ExK C d a) :=
  ⟨let ⟨vs, q⟩ := hf; ⟨oe, vs, e, hc, hdd, q⟩, ⟨oe, e⟩, fun _ _ ⟨o, v, q, r⟩ k => ⟨o, v, k o q, r⟩⟩

/-- the context of an except suite -/
abbrev Hot (X : Cx) (a : Addr) (pn : List (Addr × Obj)) : Cx := X.suite a pn
structure CtH (X : Cx) (k : Nat) : Prop where
  nd : X.N.Nodup
  dp : X.A.depth + 3 * k + 5 < recursionLimit
  un : X.A.units + 16 * k + 200 < cLine

/-- does the class of exceptions c fall under the clause's class -/
def XSub (T : Tab) (K : PySem.W.Frag) (mg : Str → Option Value) (cv : Value) (sub : Nat → Bool) : Prop := ∀ c x C, T.xs[c]? = some x → mg x = some (.ref C) → PySem.W.exmOne K (.ref C) cv = some (sub c)
/-- try: body / except K (as n): suite -/
def mTry (body : MS) (sub : Nat → Bool) (i : Option Nat) (suite : MS) : MS := fun σ S => match body σ S with
  | .exc c d σ1 S1 => if sub c = true then (match i with
    | some j => (match suite (σ1.set j (some (.ref S1.length))) (S1 ++ [.exc c d]) with
      | .nx σ2 S2 => .nx (σ2.set j none) S2
      | .rt v S2 => .rt v S2
      | .bk σ2 S2 => .bk (σ2.set j none) S2
      | .ct σ2 S2 => .ct (σ2.set j none) S2
      | _ => .bad)
    | none => (match suite σ1 S1 with
      | .exc _ _ _ _ => .bad
      | r => r)) else .exc c d σ1 S1
  | r => r
section
variable {T : Tab} {W : WX} {X : Cx} {k : Nat} {body suite : List Stmt} {b₀ : Stmt} {np pos pos' : Pos} {x n : Str} {cv : Value} {mb ms : MS} {sub : Nat → Bool} {i : Nat}
theorem CtS.tr (C : CtS X W k) {W' : WX} {pn : List (Addr × Obj)} {xe : Value → Shared → Prop} (tk : Takes (X.tr pn xe) W') (ow : PassesOwn (model X.prog X.w) X.A X.env xe) : CtS (X.tr pn xe) W' k :=
  ⟨⟨C.calm, C.nd, C.room, .inl tk, ow⟩, tk, C.stk, C.frm, C.ex⟩
/-- except K as n -/
theorem ds_tryAs (C : CtS X W k) (hc : Names X x cv) (hs : XSub T X.K X.mg cv sub) (hb : ∀ (pn : List (Addr × Obj)) (xe : Value → Shared → Prop) (W' : WX), CtS (X.tr pn xe) W' k → DSs T (X.tr pn xe) W' body mb)
    (hsu : ∀ (a : Addr) (pn : List (Addr × Obj)), CtH (X.suite a pn) k → DSs T (X.suite a pn) W0 (b₀ :: suite) ms) (hi : X.N[i]? = some n := by rfl) (hln : X.env.kindOf n = some .local := by rfl) :
    DS T X W (.Try body [.ExceptHandler (some (.Name x np)) (some n) (b₀ :: suite) pos'] [] [] pos) (mTry mb sub (some i) ms) := by
  refine ⟨fun pins s σ H D I h => ?_⟩
  have ok := I.ok
  have hfr : X.A.frames = some (X.env :: X.outer) := by rw [ok.frames, C.stk]
  have hloc : Loc X.env.scope n := .inl hln
  obtain ⟨ρ, S, τ, r, l, h⟩ := h
  refine wpAny_Try_except ?_
  -- what is wished of the body's exceptions
  let W' : WX := fun cls d σ1 H1 => ∃ b, PySem.W.exmOne X.K cls cv = some b ∧ (b = true → ∃ ρ1 S1 τ1 c dd C0, Ext ρ H ρ1 H1 ∧ Rep (gm T X) ρ1 S1 H1 ∧ LR ρ1 τ1 σ1 ∧ cls = .ref C0 ∧ (gm T X).xcls c C0 ∧ DR ρ1 H1 dd d ∧
      PostS (gm T X) W0 ρ1 H1 ⟨fun σ' H' => D.nx (σ'.set i none) H', D.rt, fun σ' H' => D.bk (σ'.set i none) H', fun σ' H' => D.ct (σ'.set i none) H'⟩ (ms (τ1.set i (some (.ref S1.length))) (S1 ++ [.exc c dd]))) ∧ (b = false → W cls d σ1 H1)
  refine wpAny_mono ((hb (X.pn ++ pins) (fun e s₁ => wpAny (model X.prog X.w) X.A (noteFrame e X.env) (fun _ s₂ => wpAny (model X.prog X.w) X.A (setFlight e none) (fun _ s₃ =>
    wpAny (model X.prog X.w) X.A (handleBy e X.env [.ExceptHandler (some (.Name x np)) (some n) (b₀ :: suite) pos']) (SP X pins D) X.xe s₃) X.xe s₂) X.xe s₁) W' (C.tr (fun u s' xx => ?_) PassesOwn.looking)).run [] s σ H D (I.toTry _) ⟨ρ, S, τ, r, l, ?_⟩) (fun f s1 hsp => ?_) (fun e s1 he => he)
  · -- the catch
    obtain ⟨a, B, sI, pins', σ', H', cls, d, rfl, J', nb, up, sky, na, os, ag, b, hb1, hyes, hno⟩ := xx
    have J : Inv X pins σ' H' sI := J'.ofTry ok
    have sky' : Sky B (X.env :: X.outer) a (Zc cls d) X.env.locals s'.heap := by rw [← C.stk]; exact sky
    show wpAny (model X.prog X.w) X.A (noteFrame (.ref a) X.env) _ _ _
    refine Sky.land Zc.steady hfr C.frm sky' fun h3 fl3 up3 => ?_
    have J3 : Inv X pins σ' H' { s' with heap := h3 } := J.landed nb fl3.1 (up.trans up3) os ag
    obtain ⟨oe3, vs3, he3, hz3, hd3⟩ := fl3.there
    have notFr : ∀ {h : Heap} {o : Obj} {vs : Array Value}, h.FunFrames B (X.env :: X.outer) → h.get? a = some o → o.data = .fields vs → a ∉ frs (X.env :: X.outer) := fun {h o vs} ff e dd hm => by
      obtain ⟨_, o', e', hnf⟩ := ff.mem hm
      rw [e] at e'; cases e'
      exact hnf _ dd
    have nfr := notFr fl3.2.2.1 he3 hd3
    have nL : a ≠ X.env.locals := fun z => nfr (List.mem_filterMap.mpr ⟨X.env, List.mem_cons_self, by rw [C.frm, z]⟩)
    have nF : a ∉ X.fs := fun hm => by
      obtain ⟨e, he, q⟩ := List.mem_filterMap.mp hm
      exact nfr (List.mem_filterMap.mpr ⟨e, List.mem_cons_of_mem _ he, q⟩)
    have S3 := J3.suite he3 hd3 na nL nF
    refine wpAny_handleBy_cons (codeAny_handlers_test ?_) (by intro q; cases q)
    have LT : PySem.W.Looks (model X.prog X.w) h3 (typeOf (.ref a)) cls := fun A Q E s k q => wpAny_typeOf_ref (k _ _ he3) (by rw [hz3.1]; exact q)
    have LM := PySem.W.exm_one (M := model X.prog X.w) (J3.kIn) LT hb1
    have test : ∀ {Q : Value → Shared → Prop} {E : Value → Shared → Prop}, Q cv { s' with heap := h3 } → wpAny (model X.prog X.w) (X.A.mark (some (.ref a))) (eval (.Name x np) X.env) Q E { s' with heap := h3 } := fun {Q E} q => by
      obtain ⟨hg, hdbg, hm | ⟨hm, hv, hnn⟩⟩ := hc
      · exact ld_glob (X := X.suite a ((a, oe3) :: (X.pn ++ pins))) S3 hg hm q hdbg
      · exact ld_blt (X := X.suite a ((a, oe3) :: (X.pn ++ pins))) S3 hg hm hv q hnn hdbg
    refine test (LM.here ?_)
    cases b with
    | true =>
      refine codeAny_handlers_suite_as ?_
      refine HandSPX.lands_againZ fl3 fun h4 fl4 up4 => ?_
      have J4 : Inv X pins σ' H' { s' with heap := h4 } := J.landed nb fl4.1 ((up.trans up3).trans up4) os ag
      obtain ⟨oe4, vs4, he4, hz4, hd4⟩ := fl4.there
      obtain ⟨ρ1, S1, τ1, c, dd, C0, p1, r1, l1, ec, xc, dr, hw⟩ := hyes rfl
      -- the exception is new
      have naB : B.get? a = none := fl4.2.1
      have nsI : sI.heap.get? a = none := by
        cases q : sI.heap.get? a with
        | none => rfl
        | some o =>
          have := nb a o q (by rw [C.stk]; exact nfr)
          rw [naB] at this
          cases this
      have n0 : X.s_0.heap.get? a = none := by
        cases q : X.s_0.heap.get? a with
        | none => rfl
        | some o =>
          obtain ⟨o', e'⟩ := J.base.there a o q (by rw [C.ex]; exact fun z => nomatch z)
          rw [nsI] at e'
          cases e'
      subst ec
      have T4 : Inv (X.suite a (X.pn ++ pins)) [] σ' H' { s' with heap := h4 } := Inv.hot J4
      have new := exK_ok (P := X.prog) (w := X.w) (H := upd H' a (ExK C0 d a)) he4 hz4.1 hz4.2 ⟨_, hd4⟩
      have T5 := Inv.track (u := ExK C0 d a) T4 na n0 nL ⟨_, _, he4, hd4⟩ (fun p hp z => by
        rw [List.append_nil] at hp
        have q := (J.pin p hp).1
        rw [z, nsI] at q
        cases q) new
      have r2 : Rep (gm T X) (ρ1 ++ [a]) (S1 ++ [.exc c dd]) (upd H' a (ExK C0 d a)) := r1.alloc na ⟨C0, d, xc, rfl, dr.mono (List.prefix_append _ _) fun b fs z => by rw [upd_ne (ne_of_none z na)]; exact z⟩
      refine store_ok (X := X.suite a (X.pn ++ pins)) (v := .ref a) T5 C.nd hi hloc rfl (fun s5 S5 => ?_) (.inr hln)
      have CH : CtH (X.suite a (X.pn ++ pins)) k := ⟨C.nd, by have := C.room.dp; exact this, by have := C.room.un; exact this⟩
      refine wpAny_mono ((hsu a (X.pn ++ pins) CH).run [] s5 _ _ ⟨fun σ' H' => D.nx (σ'.set i none) H', D.rt, fun σ' H' => D.bk (σ'.set i none) H', fun σ' H' => D.ct (σ'.set i none) H'⟩ S5
        ⟨_, _, _, r2, lr_set (LR.mono l1 (List.prefix_append _ _)) (new_ref r1.len) i, PostS.mono hw (Ext.new na)⟩) (fun f s6 hsp => ?_) (fun _ _ z => False.elim z)
      have end_ : ∀ {σ6 : St} {H6 : Hp} {Q : Shared → Prop}, Inv (X.suite a (X.pn ++ pins)) [] σ6 H6 s6 → (∀ s7, Inv X pins (σ6.set i none) H6 s7 → Q s7) →
          wpAny (model X.prog X.w) X.A (do bindName X.env n .none; unbindBehindTheSuite X.env n pos') (fun _ s7 => Q s7) X.xe s6 := fun {σ6 H6 Q} S6 hq => gone_ok (Inv.cold S6 ok) C.nd hi hln hq
      cases f with
      | next =>
        obtain ⟨σ6, H6, S6, q6⟩ := hsp
        exact end_ S6 fun s7 J7 => ⟨_, _, J7, q6⟩
      | brk =>
        obtain ⟨σ6, H6, S6, q6⟩ := hsp
        exact end_ S6 fun s7 J7 => ⟨_, _, J7, q6⟩
      | cont =>
        obtain ⟨σ6, H6, S6, q6⟩ := hsp
        exact end_ S6 fun s7 J7 => ⟨_, _, J7, q6⟩
      | ret u =>
        obtain ⟨v6, σ6, H6, S6, r6, q6⟩ := hsp
        exact end_ S6 fun s7 J7 => ⟨_, _, _, J7, r6, q6⟩
    | false =>
      show wpAny _ X.A (handleBy (.ref a) X.env []) _ _ _
      refine wpAny_handleBy_nil ?_
      obtain ⟨k1, k2, k3, oe, vs, T, oT, ts', he, hz, hd, h1, hr⟩ := id fl3
      unfold PySem.passOn
      refine wpAny_bind (wpAny_field he hd h1 ?_)
      rw [if_neg (show ¬ ((Value.ref T == Value.none) = true) from by simp)]
      have fin : wpAny (model X.prog X.w) X.A (setFlight (.ref a) X.env.frame) (fun _ s4 => wpAny (model X.prog X.w) X.A (throw (.ref a) : Sem Flow) (SP X pins D) X.xe s4) X.xe { s' with heap := h3 } := by
        rw [C.frm]
        refine HandSPX.setFlight_upZ fl3 fun h4 hh4 up4 => wpAny_throw (C.takes _ _ ?_)
        exact ⟨a, B, sI, pins, σ', H', cls, d, rfl, J, nb, (up.trans up3).trans up4, .inr (.inr (by rw [C.stk]; exact hh4)), na, os, ag, hno rfl⟩
      first
        | exact wpAny_bind (wpAny_pure (wpAny_bind fin))
        | exact wpAny_bind fin
  · -- the body's own ends
    unfold mTry at h
    cases e : mb τ S with
    | nx τ1 S1 => rw [e] at h; exact h
    | rt v S1 => rw [e] at h; exact h
    | bk τ1 S1 => rw [e] at h; exact h
    | ct τ1 S1 => rw [e] at h; exact h
    | bad => rw [e] at h; exact h.elim
    | exc c d τ1 S1 =>
      rw [e] at h
      intro ρ1 H1 σ1 C0 dd p1 r1 l1 xc dr
      obtain ⟨y, hy, gy⟩ := id xc
      refine ⟨sub c, hs c y C0 hy gy, fun hsb => ⟨ρ1, S1, τ1, c, d, C0, p1, r1, l1, rfl, xc, dr, ?_⟩, fun hsb => ?_⟩
      · have h : PostS (gm T X) W ρ H D (if sub c = true then (match ms (τ1.set i (some (.ref S1.length))) (S1 ++ [.exc c d]) with
          | .nx σ2 S2 => .nx (σ2.set i none) S2
          | .rt v S2 => .rt v S2
          | .bk σ2 S2 => .bk (σ2.set i none) S2
          | .ct σ2 S2 => .ct (σ2.set i none) S2
          | _ => .bad) else .exc c d τ1 S1) := h
        rw [if_pos hsb] at h
        have ls : ∀ {ρ2 : List Addr} {τ2 σ2 : St}, LR ρ2 τ2 σ2 → LR ρ2 (τ2.set i none) (σ2.set i none) := fun l => prd_set (F := OR _) (x := none) (y := none) trivial i l
        cases e2 : ms (τ1.set i (some (.ref S1.length))) (S1 ++ [.exc c d]) with
        | nx τ2 S2 => rw [e2] at h; exact fun ρ2 H2 σ2 p2 r2 l2 => h ρ2 H2 _ (p1.trans p2) r2 (ls l2)
        | bk τ2 S2 => rw [e2] at h; exact fun ρ2 H2 σ2 p2 r2 l2 => h ρ2 H2 _ (p1.trans p2) r2 (ls l2)
        | ct τ2 S2 => rw [e2] at h; exact fun ρ2 H2 σ2 p2 r2 l2 => h ρ2 H2 _ (p1.trans p2) r2 (ls l2)
        | rt v S2 => rw [e2] at h; exact fun ρ2 H2 w p2 r2 l2 => h ρ2 H2 _ (p1.trans p2) r2 l2
        | exc _ _ _ _ => rw [e2] at h; exact h.elim
        | bad => rw [e2] at h; exact h.elim
      · have h : PostS (gm T X) W ρ H D (if sub c = true then (match ms (τ1.set i (some (.ref S1.length))) (S1 ++ [.exc c d]) with
          | .nx σ2 S2 => .nx (σ2.set i none) S2
          | .rt v S2 => .rt v S2
          | .bk σ2 S2 => .bk (σ2.set i none) S2
          | .ct σ2 S2 => .ct (σ2.set i none) S2
          | _ => .bad) else .exc c d τ1 S1) := h
        rw [if_neg (by rw [hsb]; exact Bool.false_ne_true)] at h
        exact h ρ1 H1 σ1 C0 dd p1 r1 l1 xc dr
  · cases f with
    | next =>
      obtain ⟨σ', H', J', q⟩ := hsp
      exact wpAny_execs_nil ⟨σ', H', J'.ofTry ok, q⟩
    | brk =>
      obtain ⟨σ', H', J', q⟩ := hsp
      exact ⟨σ', H', J'.ofTry ok, q⟩
    | cont =>
      obtain ⟨σ', H', J', q⟩ := hsp
      exact ⟨σ', H', J'.ofTry ok, q⟩
    | ret u =>
      obtain ⟨v, σ', H', J', r, q⟩ := hsp
      exact ⟨v, σ', H', J'.ofTry ok, r, q⟩
/-- except K: without a name -/
theorem ds_try (C : CtS X W k) (hc : Names X x cv) (hs : XSub T X.K X.mg cv sub) (hb : ∀ (pn : List (Addr × Obj)) (xe : Value → Shared → Prop) (W' : WX), CtS (X.tr pn xe) W' k → DSs T (X.tr pn xe) W' body mb)
    (hsu : ∀ (a : Addr) (pn : List (Addr × Obj)), CtH (X.suite a pn) k → DSs T (X.suite a pn) W0 (b₀ :: suite) ms) :
    DS T X W (.Try body [.ExceptHandler (some (.Name x np)) none (b₀ :: suite) pos'] [] [] pos) (mTry mb sub none ms) := by
  refine (ps_try_only (tb := fun W' => denS (gm T X) W' mb) (ts := fun a cls d D σ H => denS (gm T X) W0 ms D σ H) C.stk C.frm hc C.takes
    (fun W' pn xe tk ow => hb pn xe W' (C.tr tk ow)) (fun a oe cls d pn hz hf => hsu a _ ⟨C.nd, C.room.dp, C.room.un⟩)).imp fun D σ H h => ?_
  obtain ⟨ρ, S, τ, r, l, h⟩ := h
  refine ⟨ρ, S, τ, r, l, ?_⟩
  unfold mTry at h
  cases e : mb τ S with
  | nx τ1 S1 => rw [e] at h; exact h
  | rt v S1 => rw [e] at h; exact h
  | bk τ1 S1 => rw [e] at h; exact h
  | ct τ1 S1 => rw [e] at h; exact h
  | bad => rw [e] at h; exact h.elim
  | exc c d τ1 S1 =>
    rw [e] at h
    intro ρ1 H1 σ1 C0 dd p1 r1 l1 xc dr
    obtain ⟨y, hy, gy⟩ := id xc
    have h : PostS (gm T X) W ρ H D (if sub c = true then (match ms τ1 S1 with
      | .exc _ _ _ _ => .bad
      | r => r) else .exc c d τ1 S1) := h
    refine ⟨sub c, hs c y C0 hy gy, fun hsb a na => ⟨ρ1, S1, τ1, r1, l1, ?_⟩, fun hsb => ?_⟩
    · rw [if_pos hsb] at h
      have h := PostS.mono h p1
      cases e2 : ms τ1 S1 with
      | nx τ2 S2 => rw [e2] at h; exact h
      | bk τ2 S2 => rw [e2] at h; exact h
      | ct τ2 S2 => rw [e2] at h; exact h
      | rt v S2 => rw [e2] at h; exact h
      | exc _ _ _ _ => rw [e2] at h; exact h.elim
      | bad => rw [e2] at h; exact h.elim
    · rw [if_neg (by rw [hsb]; exact Bool.false_ne_true)] at h
      exact h ρ1 H1 σ1 C0 dd p1 r1 l1 xc dr
end
end Mi

namespace Mi
open PySem PySem.Spec L2
open PyProof.Rows hiding St

/-! ### isinstance: by what a value is -/
inductive Tag where
  | non | bl | int | str | lst | tup | dct | exc (c : Nat) | ins (c : Nat)
  deriving DecidableEq
def tagOf (S : Sto) : V → Option Tag
  | .non => some .non
  | .bl _ => some .bl
  | .int _ => some .int
  | .str _ => some .str
  | .ref i => match S[i]? with
    | some (.lst _) => some .lst
    | some (.lck (.lst _)) => some .lst
    | some (.tup _) => some .tup
    | some (.dK _) => some .dct
    | some (.lck (.dK _)) => some .dct
    | some (.exc c none) => some (.exc c)
    | some (.ins c _) => some (.ins c)
    | _ => none
  | _ => none
def lookT : List (Tag × Bool) → Tag → Option Bool
  | [], _ => none
  | (t, b) :: r, u => if t = u then some b else lookT r u
def mIsi (tab : List (Tag × Bool)) (a : ME) : ME := fun σ S => (a σ S).bind fun v S1 => match tagOf S1 v with
  | some t => match lookT tab t with
    | some b => .ok (.bl b) S1
    | none => .bad
  | none => .bad
/-- what a tag's class is to the machine -/
def TagV (T : Tab) (K : PySem.W.Frag) (mg : Str → Option Value) : Tag → Value → Prop
  | .non, t => t = .type "NoneType"
  | .bl, t => t = .type "bool"
  | .int, t => t = .type "int"
  | .str, t => t = .type "str"
  | .lst, t => t = .type "list"
  | .tup, t => t = .type "tuple"
  | .dct, t => t = .type "dict"
  | .exc c, t => ∃ x C, T.xs[c]? = some x ∧ mg x = some (.ref C) ∧ t = .ref C ∧ ExcC K C
  | .ins c, t => ∃ x L C, T.cs[c]? = some (x, L) ∧ mg x = some (.ref C) ∧ t = .ref C ∧ Cls K C ∧ PySem.W.findIn K (.ref C) "__class__" = some (some (.builtin "object.__class__")) ∧
      PySem.W.specialIn K (.builtin "object.__class__") "__get__" = some (some (.builtin "getset_descriptor.__get__")) ∧ PySem.W.takesIn K (.builtin "object.__class__") = some true ∧ PySem.W.mroIn K C (.type "object") = some true
/-- the table tells what the machine's look at the classes cs tells -/
def ITab (T : Tab) (K : PySem.W.Frag) (mg : Str → Option Value) (cs : List Value) : List (Tag × Bool) → Prop
  | [] => True
  | (t, b) :: r => (∃ u, TagV T K mg t u ∧ PySem.W.kitAny K u cs = some b) ∧ ITab T K mg cs r
section
variable {T : Tab} {W : WX} {X : Cx} {pins : List (Addr × Obj)} {σ : St} {H : Hp} {s : Shared} {k : Nat}
theorem ITab.get {cs : List Value} : ∀ {tab : List (Tag × Bool)} {t : Tag} {b : Bool}, ITab T X.K X.mg cs tab → lookT tab t = some b → ∃ u, TagV T X.K X.mg t u ∧ PySem.W.kitAny X.K u cs = some b
  | [], _, _, _, e => by cases e
  | (d, g) :: r, t, b, h, e => by
    unfold lookT at e
    by_cases z : d = t
    · rw [if_pos z] at e
      cases e
      rw [← z]
      exact h.1
    · rw [if_neg z] at e
      exact ITab.get h.2 e
theorem exK_inst {a C : Addr} {d : Option Addr} (I : Inv X pins σ H s) (h : H a = some (ExK C d a)) : ∃ oe vs, s.heap.get? a = some oe ∧ oe.cls = .ref C ∧ oe.dict = d ∧ oe.data = .fields vs := by
  obtain ⟨⟨oe, vs, h1, h2, h3, h4⟩, _⟩ := (show ObjOk X.prog X.w H s.heap a (ExK C d a) from I.hok a _ h)
  exact ⟨oe, vs, h1, h2, h3, h4⟩
theorem kit_tag {ρ : List Addr} {S : Sto} {v w : V} {u t : Value} {g : Tag} (I : Inv X pins σ H s) (r : Rep (gm T X) ρ S H) (x : VR ρ v w) (rw' : RelV w u) (e : tagOf S v = some g) (ht : TagV T X.K X.mg g t) :
    ∃ P : Heap → Prop, PySem.W.KitX X.K u t P ∧ P s.heap ∧ u ≠ .builtin "__main__.__loader__#opaque" := by
  unfold tagOf at e
  split at e
  · cases e; cases x; cases ht; exact kit_of I rw' (.base .non)
  · cases e; cases x; cases ht; exact kit_of I rw' (.base (.bl _))
  · cases e; cases x; cases ht; exact kit_of I rw' (.base (.int _))
  · cases e; cases x; cases ht; exact kit_of I rw' (.base (.str _))
  · rename_i i
    split at e
    · rename_i es; cases e; cases ht
      obtain ⟨a, u', ew, er, eh, ws, eu, vr⟩ := r.ref es x
      subst ew; subst eu
      exact kit_of I rw' (.base (.lst eh))
    · rename_i es; cases e; cases ht
      obtain ⟨a, u', ew, er, eh, ob, u2, eu, ws, eu2, vr⟩ := r.ref es x
      subst ew; subst eu; subst eu2
      exact kit_of I rw' (.base (.frz eh))
    · rename_i es; cases e; cases ht
      obtain ⟨a, u', ew, er, eh, ws, eu, vr⟩ := r.ref es x
      subst ew; subst eu
      exact kit_of I rw' (.base (.tup eh))
    · rename_i es; cases e; cases ht
      obtain ⟨a, u', ew, er, eh, ws, eu, vr⟩ := r.ref es x
      subst ew; subst eu
      exact kit_of I rw' (.base (.dK eh))
    · rename_i es; cases e; cases ht
      obtain ⟨a, u', ew, er, eh, ob, u2, eu, ws, eu2, vr⟩ := r.ref es x
      subst ew; subst eu; subst eu2
      exact kit_of I rw' (.fDict eh)
    · rename_i c es; cases e
      obtain ⟨y, C, hx, hm, et, xc⟩ := ht
      subst et
      obtain ⟨a, u', ew, er, eh, C2, dd, xc2, eu, dr⟩ := r.ref es x
      subst ew
      obtain ⟨y2, hx2, hm2⟩ := xc2
      have q1 : some y = some y2 := hx.symm.trans hx2
      cases q1
      have q2 : some (Value.ref C) = some (Value.ref C2) := hm.symm.trans hm2
      cases q2
      have dn : dd = none := dr
      subst dn
      subst eu
      obtain ⟨oe, vs, h1, h2, h3, h4⟩ := exK_inst I eh
      cases rw'
      refine ⟨_, PySem.W.handS_kitx_exc (ox := oe) xc.hg xc.hk xc.hs xc.hd xc.ha xc.hn xc.ht xc.hm, ⟨h1, h2, by unfold PySem.W.notCls; rw [h4] <;> rfl, by rw [h3]; trivial⟩, fun z => nomatch z⟩
    · rename_i c fs es; cases e
      obtain ⟨y, L, C, hc, hm, et, cl, q1, q2, q3, q4⟩ := ht
      subst et
      obtain ⟨a, u', ew, er, eh, y2, L2', C2, dx, gs, hc2, hm2, eu, ar⟩ := r.ref es x
      subst ew
      have z1 : some (y, L) = some (y2, L2') := hc.symm.trans hc2
      cases z1
      have z2 : some (Value.ref C) = some (Value.ref C2) := hm.symm.trans hm2
      cases z2
      subst eu
      exact kit_of I rw' (.base (.ins eh cl q1 q2 q3 q4))
    · cases e
  · cases e
variable {e ce : Expr} {ces : List Expr} {m : ME} {p pos tpos : Pos}
/-- isinstance(e, K) -/
theorem de_isi {cw : V} {cv : Value} {tab : List (Tag × Bool)} (hm : X.mg "isinstance" = none) (he : DE T X W e m) (hc : PE X ce (tC cw)) (hcv : ClsV cw cv) (ht : ITab T X.K X.mg [cv] tab) (hg : Gl X "isinstance" := by rfl)
    (hs1 : starEach [e, ce] X.env = (false, eval e X.env) :: starEach [ce] X.env := by rfl) (hs2 : starEach [ce] X.env = (false, eval ce X.env) :: starEach [] X.env := by rfl) (hpl : (backTo pos (starEach [ce] X.env)).any (·.1) = false := by rfl) :
    DE T X W (.Call (.Name "isinstance" p) [e, ce] [] pos) (mIsi tab m) := by
  have hcall : CallR X (.builtin "isinstance") (fun xs H Q => ∃ ρ S v x g b, xs = [x, cw] ∧ Rep (gm T X) ρ S H ∧ VR ρ v x ∧ tagOf S v = some g ∧ lookT tab g = some b ∧ Q (.bl b) H) := by
    intro pins s σ H xs us Q I r h
    obtain ⟨ρ, S, v, x, g, b, rfl, rp, vx, eg, el, q⟩ := h
    obtain ⟨u1, u2, rfl, r1, r2⟩ := vals2 r
    have e2 := hcv.eq r2
    subst e2
    obtain ⟨t, tv, ka⟩ := ht.get el
    obtain ⟨P, Z, pp, hx⟩ := kit_tag I rp vx r1 eg tv
    have ko : PySem.W.kitOne X.K t u2 = some b := by
      unfold PySem.W.kitAny at ka
      cases h1 : PySem.W.kitOne X.K t u2 with
      | none => rw [h1] at ka; cases ka
      | some c =>
        rw [h1] at ka
        cases c with
        | true => exact ka
        | false => exact ka
    exact PySem.W.kia_one Z I.kIn pp ko hx fun tk => ⟨.bl b, H, I.tok tk, rfl, q⟩
  refine (pe_callB hcall hg hm (by decide +kernel) (pa_cons he (pa_cons hc pa_nil hs2) hs1) (by decide) (by decide) hs1 hpl).imp fun σ H Q h => ?_
  obtain ⟨ρ, S, τ, r, l, h⟩ := h
  refine ⟨ρ, S, τ, r, l, Post.bind h fun ρ1 S1 H1 v w p1 r1 x1 h1 => ?_⟩
  split at h1
  · rename_i g eg
    split at h1
    · rename_i b eb
      exact ⟨ρ1, S1, v, w, g, b, rfl, r1, x1, eg, eb, h1 ρ1 H1 _ Ext.refl r1 rfl⟩
    · exact h1.elim
  · exact h1.elim
/-- isinstance(e, (K1, K2, ..)) -/
theorem de_isiT {cws : List V} {cvs : List Value} {tab : List (Tag × Bool)} {kk : Nat} {tc : TA} (hm : X.mg "isinstance" = none) (he : DE T X W e m) (hc : PA X ces tc) (htc : ∀ σ H Q, Q cws H → tc σ H Q) (hcv : Paired ClsV cws cvs) (hz : cws.length ≤ sizeLine) (ht : ITab T X.K X.mg cvs tab) (hg : Gl X "isinstance" := by rfl)
    (hs1 : starEach [e, .Tuple ces kk tpos] X.env = (false, eval e X.env) :: starEach [.Tuple ces kk tpos] X.env := by rfl) (hs2 : starEach [.Tuple ces kk tpos] X.env = (false, eval (.Tuple ces kk tpos) X.env) :: starEach [] X.env := by rfl) (hpl : (backTo pos (starEach [.Tuple ces kk tpos] X.env)).any (·.1) = false := by rfl) :
    DE T X W (.Call (.Name "isinstance" p) [e, .Tuple ces kk tpos] [] pos) (mIsi tab m) := by
  have hcall : CallR X (.builtin "isinstance") (fun xs H Q => ∃ ρ S v x g b tp, xs = [x, .ref tp] ∧ H tp = some (.tup cws) ∧ Rep (gm T X) ρ S H ∧ VR ρ v x ∧ tagOf S v = some g ∧ lookT tab g = some b ∧ Q (.bl b) H) := by
    intro pins s σ H xs us Q I r h
    obtain ⟨ρ, S, v, x, g, b, tp, rfl, hT, rp, vx, eg, el, q⟩ := h
    obtain ⟨u1, u2, rfl, r1, r2⟩ := vals2 r
    cases (show u2 = Value.ref tp from r2)
    obtain ⟨t, tv, ka⟩ := ht.get el
    obtain ⟨P, Z, pp, hx⟩ := kit_tag I rp vx r1 eg tv
    obtain ⟨_, its, rv, o, h1, h2, n, h3⟩ := (show ObjOk X.prog X.w H s.heap tp (.tup cws) from I.hok tp _ hT)
    have e3 := ClsV.all hcv rv
    subst e3
    obtain ⟨oc, od, dt, sl⟩ := o
    simp only at h2 h3
    subst h2 h3
    exact PySem.W.kia_tup Z I.kIn pp h1 ka hx fun tk => ⟨.bl b, H, I.tok tk, rfl, q⟩
  refine (pe_callB hcall hg hm (by decide +kernel) (pa_cons he (pa_cons (pe_tup hc) pa_nil hs2) hs1) (by decide) (by decide) hs1 hpl).imp fun σ H Q h => ?_
  obtain ⟨ρ, S, τ, r, l, h⟩ := h
  refine ⟨ρ, S, τ, r, l, Post.bind h fun ρ1 S1 H1 v w p1 r1 x1 h1 => ?_⟩
  refine htc _ _ _ ⟨hz, fun tp np => ?_⟩
  split at h1
  · rename_i g eg
    split at h1
    · rename_i b eb
      exact ⟨ρ1, S1, v, w, g, b, tp, rfl, upd_same, r1.beside np, x1, eg, eb, h1 ρ1 _ _ (Ext.aside np) (r1.beside np) rfl⟩
    · exact h1.elim
  · exact h1.elim
end

end Mi

namespace Mi
open PySem PySem.Spec L2
open PyProof.Rows hiding St

/-! ### data of the store -/
def allSome {α : Type} : List (Option α) → Option (List α)
  | [] => some []
  | none :: _ => none
  | some a :: r => (allSome r).map (a :: ·)
def rdD (S : Sto) : Nat → V → Option PyData
  | 0, _ => none
  | n + 1, v => match v with
    | .non => some .none
    | .bl b => some (.bool b)
    | .int i => some (.int i)
    | .str x => some (.str x)
    | .ref i => match S[i]? with
      | some (.lst xs) => (allSome (xs.map (rdD S n))).map .list
      | some (.lck (.lst xs)) => (allSome (xs.map (rdD S n))).map .list
      | some (.tup xs) => (allSome (xs.map (rdD S n))).map .tuple
      | _ => none
    | _ => none
def eqDepth : Nat := 12
def oEqD (neg : Bool) : V → V → Sto → R V := fun x y S => match rdD S eqDepth x, rdD S eqDepth y with
  | some d, some e => if SeqAt.shaped d = true ∧ SeqAt.shaped e = true then .ok (.bl (neg != PyData.eqv d e)) S else .bad
  | _, _ => .bad
abbrev oEq := oEqD false
abbrev oNe := oEqD true
section
variable {T : Tab} {X : Cx} {G : Gm} {ρ : List Addr} {S : Sto} {H : Hp}
theorem rdD_all (n : Nat) (ih : ∀ v w d, VR ρ v w → rdD S n v = some d → Dp G.K H w d) : ∀ {xs ws : List V} {ds : List PyData}, VsR ρ xs ws → allSome (xs.map (rdD S n)) = some ds → DpAll G.K H ws ds
  | _, _, _, .nil, e => by cases e; exact .nil
  | _, _, ds, .cons (l₁ := xs) r t, e => by
    rw [List.map_cons] at e
    unfold allSome at e
    split at e
    · rename_i h; cases h
    · cases e
    · rename_i a' r' h
      injection h with h1 h2
      subst h2
      cases e2 : allSome (xs.map (rdD S n)) with
      | none => rw [e2] at e; cases e
      | some es =>
        rw [e2] at e
        cases e
        exact .cons (ih _ _ _ r h1) (rdD_all n ih t e2)
theorem rdD_dp (r : Rep G ρ S H) : ∀ (n : Nat) (v w : V) (d : PyData), VR ρ v w → rdD S n v = some d → Dp G.K H w d
  | 0, _, _, _, _, e => by cases e
  | n + 1, v, w, d, x, e => by
    have ih := rdD_dp r n
    unfold rdD at e
    split at e
    · cases e; cases x; exact .non
    · cases e; cases x; exact .bl _
    · cases e; cases x; exact .int _
    · cases e; cases x; exact .str _
    · split at e
      · rename_i xs es
        obtain ⟨a, u, ew, _, eh, ws, eu, vr⟩ := r.ref es x
        subst ew; subst eu
        cases e2 : allSome (xs.map (rdD S n)) with
        | none => rw [e2] at e; cases e
        | some ds =>
          rw [e2] at e
          cases e
          exact .lst (.inl (.inl eh)) (rdD_all n ih vr e2)
      · rename_i xs es
        obtain ⟨a, u, ew, _, eh, ob, u2, eu, ws, eu2, vr⟩ := r.ref es x
        subst ew; subst eu; subst eu2
        cases e2 : allSome (xs.map (rdD S n)) with
        | none => rw [e2] at e; cases e
        | some ds =>
          rw [e2] at e
          cases e
          exact .lst (.inl (.inr ⟨ob, eh⟩)) (rdD_all n ih vr e2)
      · rename_i xs es
        obtain ⟨a, u, ew, _, eh, ws, eu, vr⟩ := r.ref es x
        subst ew; subst eu
        cases e2 : allSome (xs.map (rdD S n)) with
        | none => rw [e2] at e; cases e
        | some ds =>
          rw [e2] at e
          cases e
          exact .tup (.inl (.inl eh)) (rdD_all n ih vr e2)
      · cases e
    · cases e
theorem op2_eqD {op : CmpOp} {neg : Bool} (rule : OpR X (compareOp op) (fun x y H Q => ∃ d e, Dp X.K H x d ∧ Dp X.K H y e ∧ SeqAt.shaped d = true ∧ SeqAt.shaped e = true ∧ Q (.bl (neg != PyData.eqv d e)) H)) : Op2 T X (compareOp op) (oEqD neg) := by
  refine ⟨opR_of fun pins s σ H x y v u Q ρ S a b τ I rx ry r va vb h => ?_, fun x y S => ?_⟩
  · unfold oEqD at h
    split at h
    · rename_i d e ed ee
      split at h
      · rename_i hz
        exact rule pins s σ H _ _ v u Q I rx ry ⟨d, e, rdD_dp r _ _ _ _ va ed, rdD_dp r _ _ _ _ vb ee, hz.1, hz.2, h ρ H _ Ext.refl r rfl⟩
      · exact h.elim
    · exact h.elim
  · unfold oEqD
    repeat' split
    all_goals trivial
theorem op2_eq (hu : X.A.units + 64 < cLine) : Op2 T X (compareOp .Eq) oEq := op2_eqD fun pins s σ H x y v u Q I rx ry ⟨d, e, h1, h2, h3, h4, q⟩ => op_eqD hu pins s σ H x y v u Q I rx ry ⟨d, e, h1, h2, h3, h4, by simpa using q⟩
theorem op2_ne (hu : X.A.units + 64 < cLine) : Op2 T X (compareOp .NotEq) oNe := op2_eqD fun pins s σ H x y v u Q I rx ry ⟨d, e, h1, h2, h3, h4, q⟩ => op_neD hu pins s σ H x y v u Q I rx ry ⟨d, e, h1, h2, h3, h4, by simpa using q⟩
end

end Mi

namespace Mi
open PySem PySem.Spec L2
open PyProof.Rows hiding St

/-! ### either of two readings of one text -/
def mAlt (a b : ME) : ME := fun σ S => match a σ S with
  | .bad => b σ S
  | r => r
section
variable {T : Tab} {W : WX} {X : Cx} {e : Expr} {ma mb : ME}
theorem de_alt (ha : DE T X W e ma) (hb : DE T X W e mb) : DE T X W e (mAlt ma mb) := (pe_or2 ha hb).imp fun σ H Q h => by
  obtain ⟨ρ, S, τ, r, l, h⟩ := h
  unfold mAlt at h
  cases e : ma τ S with
  | bad => rw [e] at h; exact .inr ⟨ρ, S, τ, r, l, h⟩
  | ok v S2 => rw [e] at h; exact .inl ⟨ρ, S, τ, r, l, by rw [e]; exact h⟩
  | exc c d S2 => rw [e] at h; exact .inl ⟨ρ, S, τ, r, l, by rw [e]; exact h⟩
end

/-! ### dicts under the relation -/
def keyOf : V → Option Key
  | .int i => some (.inl i)
  | .str x => some (.inr x)
  | _ => none
theorem keyOf_kV {v : V} {k : Key} (h : keyOf v = some k) : v = kV k := by
  unfold keyOf at h
  split at h <;> first | (cases h; rfl) | cases h
section
variable {ρ : List Addr} {kvs ws : List (Key × V)} {k : Key}
theorem fr_val {κ : Type} [DecidableEq κ] {kvs ws : List (κ × V)} {k : κ} (h : FR ρ kvs ws) : OR ρ (valV kvs k) (valV ws k) ∧ (valV kvs k = none → valV ws k = none) := by
  induction h with
  | nil => exact ⟨trivial, fun _ => rfl⟩
  | @cons p q ps qs r t ih =>
    by_cases z : p.1 = k
    · rw [valV_pos z, valV_pos (r.1.symm.trans z)]
      exact ⟨r.2, fun e => by cases e⟩
    · rw [valV_neg z, valV_neg (fun q => z (r.1.trans q))]
      exact ih
theorem fr_get {κ : Type} [DecidableEq κ] {kvs ws : List (κ × V)} {k : κ} {v : V} (h : FR ρ kvs ws) (e : valV kvs k = some v) : ∃ w, valV ws k = some w ∧ VR ρ v w := by
  have q := (fr_val (k := k) h).1
  rw [e] at q
  cases e2 : valV ws k with
  | none => rw [e2] at q; exact q.elim
  | some w => rw [e2] at q; exact ⟨w, rfl, q⟩
theorem fr_has {κ : Type} [DecidableEq κ] {kvs ws : List (κ × V)} {k : κ} (h : FR ρ kvs ws) : (valV ws k).isSome = (valV kvs k).isSome := by
  cases e : valV kvs k with
  | none => rw [(fr_val h).2 e]
  | some v => obtain ⟨w, e2, _⟩ := fr_get h e; rw [e2]; rfl
theorem fr_put {κ : Type} [DecidableEq κ] {kvs ws : List (κ × V)} {k : κ} {v w : V} (h : FR ρ kvs ws) (r : VR ρ v w) : FR ρ (putK kvs k v) (putK ws k w) := by
  unfold putK
  rw [valV_any, valV_any, fr_has h]
  by_cases z : (valV kvs k).isSome = true
  · rw [if_pos z, if_pos z]
    clear z
    induction h with
    | nil => exact .nil
    | @cons p q ps qs hr t ih =>
      refine .cons ?_ ih
      dsimp only
      by_cases z : p.1 = k
      · rw [if_pos z, if_pos (hr.1.symm.trans z)]
        exact ⟨hr.1, r⟩
      · rw [if_neg z, if_neg (fun q => z (hr.1.trans q))]
        exact hr
  · rw [if_neg z, if_neg z]
    exact prd_app h (.cons ⟨rfl, r⟩ .nil)
theorem fr_drop {κ : Type} [DecidableEq κ] {kvs ws : List (κ × V)} {k : κ} (h : FR ρ kvs ws) : FR ρ (dropK kvs k) (dropK ws k) := by
  unfold dropK
  induction h with
  | nil => exact .nil
  | @cons p q ps qs hr t ih =>
    rw [List.filter_cons, List.filter_cons]
    by_cases z : p.1 = k
    · have z2 := hr.1.symm.trans z
      rw [if_neg (by simp [z]), if_neg (by simp [z2])]
      exact ih
    · have z2 : ¬ q.1 = k := fun e => z (hr.1.trans e)
      rw [if_pos (by simp [z]), if_pos (by simp [z2])]
      exact .cons hr ih
theorem key_vr {v w : V} (h : keyOf v = some k) (x : VR ρ v w) : w = kV k := by
  rw [keyOf_kV h] at x
  cases k <;> exact x
end

/-! ### subscripts -/
def oIx : V → V → Sto → R V := fun x y S => match x, y with
  | .str z, .int i => if z.length ≤ sizeLine then (match atI z.cps.toList i with
    | some c => .ok (.str ⟨#[c]⟩) S
    | none => .bad) else .bad
  | x, .int i => match rdL S x with
    | some xs => (match atI xs i with
      | some v => .ok v S
      | none => .bad)
    | none => match rdT S x with
      | some xs => (match atI xs i with
        | some v => .ok v S
        | none => .bad)
      | none => .bad
  | _, _ => .bad
def oDGet : V → V → Sto → R V := fun x y S => match rdK S x, keyOf y with
  | some kvs, some k => (match valV kvs k with
    | some v => .ok v S
    | none => .bad)
  | _, _ => .bad
theorem atI_vr {ρ : List Addr} {xs ws : List V} {i : Int} {v : V} (h : VsR ρ xs ws) (e : atI xs i = some v) : ∃ w, atI ws i = some w ∧ VR ρ v w := by
  unfold atI at e ⊢
  rw [← prd_len h]
  cases e1 : ixN xs.length i with
  | none => rw [e1] at e; cases e
  | some j =>
    rw [e1] at e
    exact prd_get h e
section
variable {T : Tab} {W : WX} {X : Cx} {a b : Expr} {ma mb : ME} {pos : Pos}
theorem de_ix (ha : DE T X W a ma) (hb : DE T X W b mb) (hs : PlainIx b := by exact fun _ _ => rfl) : DE T X W (.Subscript a b pos) (mBin oIx ma mb) := (pe_ix ix_seq ha hb hs).imp fun σ H Q h => by
  obtain ⟨ρ, S, τ, r, l, h⟩ := h
  refine ⟨ρ, S, τ, r, l, Post.bind h fun ρ1 S1 H1 x w p1 r1 x1 h1 => ?_⟩
  refine ⟨ρ1, S1, τ, r1, l.mono p1.pre, Post.bind h1 fun ρ2 S2 H2 y u p2 r2 y2 h2 => ?_⟩
  have x2 := x1.mono p2.pre
  unfold oIx at h2
  split at h2
  · split at h2
    · split at h2
      · rename_i hz _ c ec
        cases x2
        cases y2
        exact .inr (.inr ⟨_, _, c, rfl, rfl, hz, ec, h2 ρ2 H2 _ Ext.refl r2 rfl⟩)
      · exact h2.elim
    · exact h2.elim
  · cases y2
    split at h2
    · rename_i xs el
      obtain ⟨ad, ws, ew, eh, vr⟩ := r2.rdL el x2
      subst ew
      split at h2
      · rename_i v ev
        obtain ⟨w', ew, rw'⟩ := atI_vr vr ev
        exact .inl ⟨ad, ws, _, w', rfl, rfl, .inl eh, ew, h2 ρ2 H2 _ Ext.refl r2 rw'⟩
      · exact h2.elim
    · split at h2
      · rename_i xs el
        obtain ⟨ad, ws, ew, eh, vr⟩ := r2.rdT el x2
        subst ew
        split at h2
        · rename_i v ev
          obtain ⟨w', ew, rw'⟩ := atI_vr vr ev
          exact .inr (.inl ⟨ad, ws, _, w', rfl, rfl, .inl (.inl eh), ew, h2 ρ2 H2 _ Ext.refl r2 rw'⟩)
        · exact h2.elim
      · exact h2.elim
  · exact h2.elim
theorem de_dget (hu : X.A.units + 1 < cLine) (ha : DE T X W a ma) (hb : DE T X W b mb) (hs : NoSl b := by exact fun _ _ => rfl) : DE T X W (.Subscript a b pos) (mBin oDGet ma mb) := (pe_dget hu ha hb hs).imp fun σ H Q h => by
  obtain ⟨ρ, S, τ, r, l, h⟩ := h
  refine ⟨ρ, S, τ, r, l, Post.bind h fun ρ1 S1 H1 x w p1 r1 x1 h1 => ?_⟩
  refine ⟨ρ1, S1, τ, r1, l.mono p1.pre, Post.bind h1 fun ρ2 S2 H2 y u p2 r2 y2 h2 => ?_⟩
  have x2 := x1.mono p2.pre
  unfold oDGet at h2
  split at h2
  · rename_i kvs k ek ey
    obtain ⟨ad, ws, ew, eh, fr⟩ := r2.rdK ek x2
    subst ew
    have eu := key_vr ey y2
    subst eu
    split at h2
    · rename_i v ev
      obtain ⟨w', ew, rw'⟩ := fr_get fr ev
      exact ⟨ad, w', rfl, .inl ⟨ws, k, eh, rfl, ew.symm⟩, h2 ρ2 H2 _ Ext.refl r2 rw'⟩
    · exact h2.elim
  · exact h2.elim
/-- a[b], of a list, a tuple, a text or a dict -/
theorem de_sub (hu : X.A.units + 1 < cLine) (ha : DE T X W a ma) (hb : DE T X W b mb) (hs : PlainIx b := by exact fun _ _ => rfl) : DE T X W (.Subscript a b pos) (mAlt (mBin oIx ma mb) (mBin oDGet ma mb)) := de_alt (de_ix ha hb hs) (de_dget hu ha hb hs)
end

/-! ### slices -/
abbrev MO := St → Sto → R (Option Int)
def mNoP : MO := fun _ S => .ok none S
def mPart (a : ME) : MO := fun σ S => (a σ S).bind fun v S1 => match v with
  | .int i => .ok (some i) S1
  | _ => .bad
def oSl : V → Option Int → Option Int → Sto → R V := fun x lo hi S => match x with
  | .str z => if z.length ≤ sizeLine then .ok (.str (cutS z lo hi)) S else .bad
  | x => match rdL S x with
    | some xs => .ok (.ref S.length) (S ++ [.lst (cutV xs lo hi)])
    | none => match rdT S x with
      | some xs => if (HT.sIx xs.length 0 lo = 0 ∧ HT.sIx xs.length xs.length hi = xs.length) then .bad else .ok (.ref S.length) (S ++ [.tup (cutV xs lo hi)])
      | none => .bad
def mSl (a : ME) (lo hi : MO) : ME := fun σ S => (a σ S).bind fun x S1 => (lo σ S1).bind fun l S2 => (hi σ S2).bind fun u S3 => oSl x l u S3
section
variable {T : Tab} {W : WX} {X : Cx} {e : Expr} {m : ME} {lo hi : Option Expr} {ml mh : MO} {pos p2 : Pos}
abbrev DO (T : Tab) (X : Cx) (W : WX) (e : Option Expr) (m : MO) : Prop := PO X e (fun σ H Q => den (gm T X) W (fun _ (a b : Option Int) => b = a) m σ H Q)
theorem do_none : DO T X W none mNoP := ⟨fun pins s σ H Q I h => po_none.run pins s σ H Q I (by
  obtain ⟨ρ, S, τ, r, l, h⟩ := h
  exact h ρ H none Ext.refl r rfl)⟩
theorem do_some (h : DE T X W e m) : DO T X W (some e) (mPart m) := ⟨fun pins s σ H Q I h' => (po_some h).run pins s σ H Q I (by
  obtain ⟨ρ, S, τ, r, l, h⟩ := h'
  refine ⟨ρ, S, τ, r, l, Post.bind h fun ρ1 S1 H1 x w p1 r1 x1 h1 => ?_⟩
  split at h1
  · cases x1
    exact ⟨_, rfl, h1 ρ1 H1 _ Ext.refl r1 rfl⟩
  · exact h1.elim)⟩
theorem cutV_vr {ρ : List Addr} {xs ws : List V} (h : VsR ρ xs ws) (lo hi : Option Int) : VsR ρ (cutV xs lo hi) (cutV ws lo hi) := by
  unfold cutV
  rw [← prd_len h]
  exact prd_take _ (prd_drop _ h)
theorem de_slice (he : DE T X W e m) (hl : DO T X W lo ml) (hh : DO T X W hi mh) : DE T X W (.Subscript e (.Slice lo hi none p2) pos) (mSl m ml mh) := (pe_slice (sl_list.or (sl_tup.or sl_str)) he hl hh).imp fun σ H Q h => by
  obtain ⟨ρ, S, τ, r, l, h⟩ := h
  refine ⟨ρ, S, τ, r, l, Post.bind h fun ρ1 S1 H1 x w p1 r1 x1 h1 => ?_⟩
  refine ⟨ρ1, S1, τ, r1, l.mono p1.pre, Post.bind h1 fun ρ2 S2 H2 y u p2 r2 y2 h2 => ?_⟩
  refine ⟨ρ2, S2, τ, r2, l.mono (p1.trans p2).pre, Post.bind h2 fun ρ3 S3 H3 z t p3 r3 z3 h3 => ?_⟩
  cases y2
  cases z3
  have x3 := x1.mono (p2.trans p3).pre
  unfold oSl at h3
  split at h3
  · split at h3
    · rename_i hz
      cases x3
      exact .inr (.inr ⟨_, rfl, hz, h3 ρ3 H3 _ Ext.refl r3 rfl⟩)
    · exact h3.elim
  · split at h3
    · rename_i xs el
      obtain ⟨ad, ws, ew, eh, vr⟩ := r3.rdL el x3
      subst ew
      exact .inl ⟨ad, ws, rfl, .inl eh, fun p np => h3 _ _ _ (Ext.new np) (r3.alloc np ⟨_, rfl, VsR.mono (cutV_vr vr _ _) (List.prefix_append _ _)⟩) (new_ref r3.len)⟩
    · split at h3
      · rename_i xs el
        obtain ⟨ad, ws, ew, eh, vr⟩ := r3.rdT el x3
        subst ew
        split at h3
        · exact h3.elim
        · rename_i hz
          exact .inr (.inl ⟨ad, ws, rfl, .inl (.inl eh), by rw [← prd_len vr]; exact hz, fun p np => h3 _ _ _ (Ext.new np) (r3.alloc np ⟨_, rfl, VsR.mono (cutV_vr vr _ _) (List.prefix_append _ _)⟩) (new_ref r3.len)⟩)
      · exact h3.elim
end

/-! ### o[i] = v -/
def tSetI : Op3 := fun x y v S => match x with
  | .ref i => match S[i]? with
    | some (.lst xs) => (match y with
      | .int k => (match ixN xs.length k with
        | some j => .ok () (S.set i (.lst (xs.set j v)))
        | none => .bad)
      | _ => .bad)
    | some (.dK kvs) => (match keyOf y with
      | some k => if kvs.length < sizeLine then .ok () (S.set i (.dK (putK kvs k v))) else .bad
      | none => .bad)
    | _ => .bad
  | _ => .bad
theorem PSet.or {X : Cx} {t t' : TSet} (h : PSet X t) (h' : PSet X t') : PSet X (fun o i v H Q => t o i v H Q ∨ t' o i v H Q) := fun pins s σ H o i v ov iv u Q I ro ri rv q =>
  q.elim (h pins s σ H o i v ov iv u Q I ro ri rv) (h' pins s σ H o i v ov iv u Q I ro ri rv)
theorem set_dct {X : Cx} (hu : X.A.units + 1 < cLine) : PSet X (fun o i v H Q => ∃ a H', o = .ref a ∧ DPut H a i v H' ∧ Q H') := by
  intro pins s σ H o i v ov iv u Q I ro ri rv h
  obtain ⟨a, H', rfl, g, q⟩ := h
  cases ro
  exact d_setItem hu I g ri rv fun s4 I4 => ⟨H', I4, q⟩
theorem st3_set {T : Tab} {X : Cx} (hu : X.A.units + 1 < cLine) : St3 T X tSetI := by
  refine ⟨fun pins s σ H o i v ov iv u Q I ro ri rv h => PSet.or set_list (set_dct hu) pins s σ H o i v ov iv u Q I ro ri rv ?_, fun x y z S => ?_⟩
  · obtain ⟨ρ, S, x, y, z, τ, r, xo, yi, zv, h⟩ := h
    unfold tSetI at h
    split at h
    · rename_i n
      split at h
      · rename_i xs es
        obtain ⟨a, u, ew, er, eh, ws, eu, vr⟩ := r.ref es xo
        subst ew; subst eu
        split at h
        · rename_i k
          cases yi
          split at h
          · rename_i j ej
            refine .inl ⟨a, ws, k, j, rfl, rfl, eh, by rw [← prd_len vr]; exact ej, ?_⟩
            exact h ρ _ () (Ext.put eh (fun _ _ q => nomatch q)) (r.write es er (fun fs q => by rw [eh] at q; cases q) ⟨_, rfl, prd_set zv j vr⟩) trivial
          · exact h.elim
        · exact h.elim
      · rename_i kvs es
        obtain ⟨a, u, ew, er, eh, ws, eu, vr⟩ := r.ref es xo
        subst ew; subst eu
        split at h
        · rename_i k ek
          have e2 := key_vr ek yi
          subst e2
          split at h
          · rename_i hz
            refine .inr ⟨a, _, rfl, .inl ⟨ws, k, eh, rfl, by rw [← prd_len vr]; exact hz, rfl⟩, ?_⟩
            exact h ρ _ () (Ext.put eh (fun _ _ q => nomatch q)) (r.write es er (fun fs q => by rw [eh] at q; cases q) ⟨_, rfl, fr_put vr zv⟩) trivial
          · exact h.elim
        · exact h.elim
      · exact h.elim
    · exact h.elim
  · unfold tSetI
    repeat' split
    all_goals trivial

/-! ### in, not in -/
/-- is x in the list, the tuple, the dict, the text? -/
def isIn (x y : V) (S : Sto) : Option Bool := match y with
  | .str z => (match x with
    | .str w => some (!(Builtin.Str.occurrences z w 0 z.length 1).isEmpty)
    | _ => none)
  | y => match rdL S y with
    | some xs => if flatV x = true ∧ xs.all flatV = true then some (inV x xs) else (match rdD S eqDepth x, rdD S eqDepth y with
      | some d, some (.list ds) => if SeqAt.shaped d = true ∧ SeqAt.shaped (.list ds) = true then some (ds.any fun z => PyData.eqv z d) else none
      | _, _ => none)
    | none => match rdT S y with
      | some xs => if flatV x = true ∧ xs.all flatV = true then some (inV x xs) else none
      | none => match rdK S y with
        | some kvs => (match keyOf x with
          | some k => some (valV kvs k).isSome
          | none => none)
        | none => none
def oInN (neg : Bool) : V → V → Sto → R V := fun x y S => match isIn x y S with
  | some b => .ok (.bl (neg != b)) S
  | none => .bad
abbrev oIn := oInN false
abbrev oNotIn := oInN true
theorem eqV_vr {ρ : List Addr} {x y x' y' : V} (h : VR ρ x x') (h' : VR ρ y y') (fx : flatV x = true) (fy : flatV y = true) : x' = x ∧ y' = y := by
  constructor
  · cases x with
    | ref i => cases fx
    | _ => exact h
  · cases y with
    | ref i => cases fy
    | _ => exact h'
theorem flat_vr {ρ : List Addr} {xs ws : List V} (h : VsR ρ xs ws) (f : xs.all flatV = true) : ws = xs := by
  induction h with
  | nil => rfl
  | @cons a b l1 l2 r t ih =>
    rw [List.all_cons, Bool.and_eq_true] at f
    rw [ih f.2, (eqV_vr r r f.1 f.1).1]
section
variable {T : Tab} {X : Cx}
theorem op2_inN {op : CmpOp} {neg : Bool} (hseq : OpR X (compareOp op) (rIn X.K neg)) (hd : OpR X (compareOp op) (fun x y H Q => ∃ d ds, Dp X.K H x d ∧ Dp X.K H y (.list ds) ∧ SeqAt.shaped d = true ∧ SeqAt.shaped (.list ds) = true ∧ Q (.bl (neg != ds.any fun z => PyData.eqv z d)) H))
    (hdict : OpR X (compareOp op) (fun y x H Q => ∃ a o, x = .ref a ∧ DGet H a y o ∧ Q (.bl (neg != o.isSome)) H)) (hstr : OpR X (compareOp op) (fun x y H Q => ∃ i j, x = .str i ∧ y = .str j ∧ Q (.bl (neg != !(Builtin.Str.occurrences j i 0 j.length 1).isEmpty)) H)) : Op2 T X (compareOp op) (oInN neg) := by
  refine ⟨opR_of fun pins s σ H x y v u Q ρ S a b τ I rx ry r va vb h => ?_, fun x y S => ?_⟩
  · unfold oInN at h
    cases e : isIn a b S with
    | none => rw [e] at h; exact h.elim
    | some bb =>
      rw [e] at h
      have h := h ρ H _ Ext.refl r rfl
      unfold isIn at e
      split at e
      · split at e
        · cases e
          cases va
          cases vb
          exact hstr pins s σ H _ _ v u Q I rx ry ⟨_, _, rfl, rfl, h⟩
        · cases e
      · split at e
        · rename_i xs el
          obtain ⟨ad, ws, ew, eh, vr⟩ := r.rdL el vb
          subst ew
          split at e
          · rename_i hz
            cases e
            have e2 := flat_vr vr hz.2
            subst e2
            have e3 := (eqV_vr va va hz.1 hz.1).1
            subst e3
            exact hseq pins s σ H _ _ v u Q I rx ry ⟨ad, ws, rfl, .inl (.inl eh), hz.1, hz.2, by cases neg <;> simpa using h⟩
          · split at e
            · rename_i d ds ed ey
              split at e
              · rename_i hz
                cases e
                exact hd pins s σ H _ _ v u Q I rx ry ⟨d, ds, rdD_dp r _ _ _ _ va ed, rdD_dp r _ _ _ _ vb ey, hz.1, hz.2, h⟩
              · cases e
            · cases e
        · split at e
          · rename_i xs el
            obtain ⟨ad, ws, ew, eh, vr⟩ := r.rdT el vb
            subst ew
            split at e
            · rename_i hz
              cases e
              have e2 := flat_vr vr hz.2
              subst e2
              have e3 := (eqV_vr va va hz.1 hz.1).1
              subst e3
              exact hseq pins s σ H _ _ v u Q I rx ry ⟨ad, ws, rfl, .inr (.inl (.inl eh)), hz.1, hz.2, by cases neg <;> simpa using h⟩
            · cases e
          · split at e
            · rename_i kvs el
              obtain ⟨ad, ws, ew, eh, fr⟩ := r.rdK el vb
              subst ew
              split at e
              · rename_i k ek
                cases e
                have e2 := key_vr ek va
                subst e2
                exact hdict pins s σ H _ _ v u Q I rx ry ⟨ad, valV ws k, rfl, .inl ⟨ws, k, eh, rfl, rfl⟩, by rw [fr_has fr]; exact h⟩
              · cases e
            · cases e
  · unfold oInN
    split <;> trivial
theorem op2_in (hu : X.A.units + 65 < cLine) : Op2 T X (compareOp .In) oIn := op2_inN op_in_seq (fun pins s σ H x y v u Q I rx ry ⟨d, ds, h1, h2, h3, h4, q⟩ => op_inD hu pins s σ H x y v u Q I rx ry ⟨d, ds, h1, h2, h3, h4, by simpa using q⟩)
  (fun pins s σ H y x v u Q I ry rx ⟨a, o, ex, g, q⟩ => by
    subst ex
    cases rx
    exact d_in (by omega) I g ry fun s3 I3 => ⟨.bl o.isSome, H, I3, rfl, by simpa using q⟩)
  (fun pins s σ H x y v u Q I rx ry ⟨i, j, h1, h2, q⟩ => op_in_str pins s σ H x y v u Q I rx ry ⟨i, j, h1, h2, by simpa using q⟩)
theorem op2_notIn (hu : X.A.units + 65 < cLine) : Op2 T X (compareOp .NotIn) oNotIn := op2_inN op_notIn_seq (fun pins s σ H x y v u Q I rx ry ⟨d, ds, h1, h2, h3, h4, q⟩ => op_notInD hu pins s σ H x y v u Q I rx ry ⟨d, ds, h1, h2, h3, h4, by simpa using q⟩)
  (fun pins s σ H y x v u Q I ry rx ⟨a, o, ex, g, q⟩ => by
    subst ex
    cases rx
    exact d_notIn (by omega) I g ry fun s3 I3 => ⟨.bl (!o.isSome), H, I3, rfl, by simpa using q⟩)
  (fun pins s σ H x y v u Q I rx ry ⟨i, j, h1, h2, q⟩ => op_notIn_str pins s σ H x y v u Q I rx ry ⟨i, j, h1, h2, by simpa using q⟩)
end
end Mi

namespace Mi
open PySem PySem.Spec L2
open PyProof.Rows hiding St

/-! ### calls of builtin functions and types by values -/
abbrev CalX (T : Tab) (X : Cx) (f : Value) (o : List V → Sto → R V) : Prop := CallR X f (denC (gm T X) o) ∧ ∀ xs S, (o xs S).quiet
section
variable {T : Tab} {W : WX} {X : Cx} {e : Expr} {es : List Expr} {ms : MA} {x : Str} {p pos : Pos} {id Ty : String} {o : List V → Sto → R V}
theorem den_call {σ : St} {H : Hp} {Q : VK} (ho : ∀ xs S, (o xs S).quiet) (h : den (gm T X) W VR (mCall o ms) σ H Q) : tCB (denC (gm T X) o) (den (gm T X) W VsR ms) σ H Q := by
  obtain ⟨ρ, S, τ, r, l, h⟩ := h
  refine ⟨ρ, S, τ, r, l, Post.bind h fun ρ1 S1 H1 x w p1 r1 x1 h1 => ?_⟩
  exact ⟨ρ1, S1, x, σ, r1, x1, h1.still (ho _ _)⟩
theorem de_callB (hc : CalX T X (.builtin id) o) (hm : X.mg x = none) (hv : bootBuiltins x = some (.builtin id)) (ha : DA T X W (e :: es) ms) (hg : Gl X x := by rfl) (hn : x ≠ "__name__" := by decide) (hdb : (x == ("__debug__" : Str)) = false := by decide)
    (he : starEach (e :: es) X.env = (false, eval e X.env) :: starEach es X.env := by rfl) (hpl : (backTo pos (starEach es X.env)).any (·.1) = false := by rfl) : DE T X W (.Call (.Name x p) (e :: es) [] pos) (mCall o ms) :=
  (pe_callB hc.1 hg hm hv ha hn hdb he hpl).imp fun σ H Q h => den_call hc.2 h
theorem de_callTy (hc : CalX T X (.type Ty) o) (hm : X.mg x = none) (hv : bootBuiltins x = some (.type Ty)) (ha : DA T X W (e :: es) ms) (hg : Gl X x := by rfl) (hn : x ≠ "__name__" := by decide) (hdb : (x == ("__debug__" : Str)) = false := by decide)
    (he : starEach (e :: es) X.env = (false, eval e X.env) :: starEach es X.env := by rfl) (hpl : (backTo pos (starEach es X.env)).any (·.1) = false := by rfl) : DE T X W (.Call (.Name x p) (e :: es) [] pos) (mCall o ms) :=
  (pe_callTy hc.1 hg hm hv ha hn hdb he hpl).imp fun σ H Q h => den_call hc.2 h
end
theorem vsr_one {ρ : List Addr} {x : V} {ws : List V} (h : VsR ρ [x] ws) : ∃ w, ws = [w] ∧ VR ρ x w := by
  cases h with
  | cons r t => cases t; exact ⟨_, rfl, r⟩
theorem vsr_two {ρ : List Addr} {x y : V} {ws : List V} (h : VsR ρ [x, y] ws) : ∃ w z, ws = [w, z] ∧ VR ρ x w ∧ VR ρ y z := by
  cases h with
  | cons r t =>
    obtain ⟨z, e, q⟩ := vsr_one t
    subst e
    exact ⟨_, z, rfl, r, q⟩
section
variable {T : Tab} {X : Cx}
theorem calX_of {f : Value} {o : List V → Sto → R V} (hq : ∀ xs S, (o xs S).quiet)
    (h : ∀ (pins : List (Addr × Obj)) (s : Shared) (σ : St) (H : Hp) (xs : List V) (us : List Value) (Q : VK) (ρ : List Addr) (S : Sto) (vs : List V) (τ : St), Inv X pins σ H s → Vals xs us → Rep (gm T X) ρ S H → VsR ρ vs xs → Post (gm T X) W0 VR ρ H τ Q (o vs S) →
      wpAny (model X.prog X.w) X.A (call f us) (EP X pins σ Q) X.xe s) : CalX T X f o :=
  ⟨fun pins s σ H xs us Q I r ⟨ρ, S, vs, τ, rp, rv, q⟩ => h pins s σ H xs us Q ρ S vs τ I r rp rv q, hq⟩

/-- len -/
def oLen : List V → Sto → R V := fun xs S => match xs with
  | [.str z] => if z.length ≤ sizeLine then .ok (.int z.length) S else .bad
  | [x] => match rdL S x with
    | some ys => .ok (.int ys.length) S
    | none => match rdT S x with
      | some ys => .ok (.int ys.length) S
      | none => match rdK S x with
        | some kvs => .ok (.int kvs.length) S
        | none => .bad
  | _ => .bad
theorem cal_len : CalX T X (.builtin "len") oLen := by
  refine calX_of (fun xs S => ?_) fun pins s σ H xs us Q ρ S vs τ I r rp rv h => ?_
  · unfold oLen
    repeat' split
    all_goals trivial
  · unfold oLen at h
    split at h
    · obtain ⟨w, e, rw'⟩ := vsr_one rv
      subst e
      cases rw'
      split at h
      · rename_i hz
        exact call_len_str pins s σ H _ us Q I r ⟨_, rfl, hz, h ρ H _ Ext.refl rp rfl⟩
      · exact h.elim
    · obtain ⟨w, e, rw'⟩ := vsr_one rv
      subst e
      split at h
      · rename_i el
        obtain ⟨ad, ws, ew, eh, vr⟩ := rp.rdL el rw'
        subst ew
        exact call_len_seq pins s σ H _ us Q I r ⟨ad, ws, rfl, .inl (.inl eh), h ρ H _ Ext.refl rp (by rw [prd_len vr]; rfl)⟩
      · split at h
        · rename_i el
          obtain ⟨ad, ws, ew, eh, vr⟩ := rp.rdT el rw'
          subst ew
          exact call_len_seq pins s σ H _ us Q I r ⟨ad, ws, rfl, .inr (.inl (.inl eh)), h ρ H _ Ext.refl rp (by rw [prd_len vr]; rfl)⟩
        · split at h
          · rename_i el
            obtain ⟨ad, ws, ew, eh, vr⟩ := rp.rdK el rw'
            subst ew
            obtain ⟨u, eu, rx⟩ := vals1 r
            subst eu
            cases rx
            refine d_len I eh fun t s' I' => ⟨.int ws.length, H, I', ⟨t, rfl⟩, h ρ H _ Ext.refl rp ?_⟩
            rw [prd_len vr]
            rfl
          · exact h.elim
    · exact h.elim
/-- list(x) -/
def oList : List V → Sto → R V := fun xs S => match xs with
  | [x] => match rdL S x with
    | some ys => .ok (.ref S.length) (S ++ [.lst ys])
    | none => match rdT S x with
      | some ys => .ok (.ref S.length) (S ++ [.lst ys])
      | none => match rdK S x with
        | some kvs => .ok (.ref S.length) (S ++ [.lst (kvs.map fun kv => kV kv.1)])
        | none => .bad
  | _ => .bad
theorem key_list {ρ : List Addr} {kvs ws : List (Key × V)} (h : FR ρ kvs ws) : VsR ρ (kvs.map fun kv => kV kv.1) (ws.map fun kv => kV kv.1) := by
  induction h with
  | nil => exact .nil
  | @cons p q ps qs r t ih => exact .cons (by dsimp only; rw [← r.1]; exact kv_vr) ih
theorem cal_list (hc : X.calm = true) : CalX T X (.type "list") oList := by
  refine calX_of (fun xs S => ?_) fun pins s σ H xs us Q ρ S vs τ I r rp rv h => ?_
  · unfold oList
    repeat' split
    all_goals trivial
  · unfold oList at h
    split at h
    · obtain ⟨w, e, rw'⟩ := vsr_one rv
      subst e
      split at h
      · rename_i el
        obtain ⟨ad, ws, ew, eh, vr⟩ := rp.rdL el rw'
        subst ew
        exact call_list_of pins s σ H _ us Q I r ⟨ad, ws, rfl, .inl (.inl eh), fun p np => h _ _ _ (Ext.new np) (rp.alloc np ⟨_, rfl, VsR.mono vr (List.prefix_append _ _)⟩) (new_ref rp.len)⟩
      · split at h
        · rename_i el
          obtain ⟨ad, ws, ew, eh, vr⟩ := rp.rdT el rw'
          subst ew
          exact call_list_of pins s σ H _ us Q I r ⟨ad, ws, rfl, .inr (.inl (.inl eh)), fun p np => h _ _ _ (Ext.new np) (rp.alloc np ⟨_, rfl, VsR.mono vr (List.prefix_append _ _)⟩) (new_ref rp.len)⟩
        · split at h
          · rename_i el
            obtain ⟨ad, ws, ew, eh, vr⟩ := rp.rdK el rw'
            subst ew
            exact call_listD hc pins s σ H _ us Q I r ⟨ad, ws, rfl, eh, fun p np => h _ _ _ (Ext.new np) (rp.alloc np ⟨_, rfl, VsR.mono (key_list vr) (List.prefix_append _ _)⟩) (new_ref rp.len)⟩
          · exact h.elim
    · exact h.elim
/-- tuple(x) of a list -/
def oTuple : List V → Sto → R V := fun xs S => match xs with
  | [x] => match rdL S x with
    | some ys => .ok (.ref S.length) (S ++ [.tup ys])
    | none => match rdT S x with
      | some _ => .ok x S
      | none => .bad
  | _ => .bad
theorem cal_tuple : CalX T X (.type "tuple") oTuple := by
  refine calX_of (fun xs S => ?_) fun pins s σ H xs us Q ρ S vs τ I r rp rv h => ?_
  · unfold oTuple
    repeat' split
    all_goals trivial
  · unfold oTuple at h
    split at h
    · obtain ⟨w, e, rw'⟩ := vsr_one rv
      subst e
      split at h
      · rename_i el
        obtain ⟨ad, ws, ew, eh, vr⟩ := rp.rdL el rw'
        subst ew
        exact call_tuple_of pins s σ H _ us Q I r ⟨ad, ws, rfl, .inl ⟨.inl eh, fun p np => h _ _ _ (Ext.new np) (rp.alloc np ⟨_, rfl, VsR.mono vr (List.prefix_append _ _)⟩) (new_ref rp.len)⟩⟩
      · split at h
        · rename_i el
          obtain ⟨ad, ws, ew, eh, vr⟩ := rp.rdT el rw'
          subst ew
          exact call_tuple_of pins s σ H _ us Q I r ⟨ad, ws, rfl, .inr ⟨.inl (.inl eh), h ρ H _ Ext.refl rp rw'⟩⟩
        · exact h.elim
    · exact h.elim
/-! ints of a list -/
def toInt : V → Option Int
  | .int i => some i
  | _ => none
def toBl : V → Option Bool
  | .bl i => some i
  | _ => none
def toStr : V → Option Str
  | .str i => some i
  | _ => none
theorem ints_of {ρ : List Addr} : ∀ {xs ws : List V} {ns : List Int}, VsR ρ xs ws → allSome (xs.map toInt) = some ns → ws = ns.map V.int
  | _, _, _, .nil, e => by cases e; rfl
  | _, _, _, .cons (a := a) r t, e => by
    rw [List.map_cons] at e
    cases a with
    | int i =>
      cases r
      show _
      have e : (allSome _).map (i :: ·) = some _ := e
      cases e2 : allSome (List.map toInt _) with
      | none => rw [e2] at e; cases e
      | some ms => rw [e2] at e; cases e; rw [List.map_cons, ints_of t e2]
    | _ => cases e
theorem bls_of {ρ : List Addr} : ∀ {xs ws : List V} {ns : List Bool}, VsR ρ xs ws → allSome (xs.map toBl) = some ns → ws = ns.map V.bl
  | _, _, _, .nil, e => by cases e; rfl
  | _, _, _, .cons (a := a) r t, e => by
    rw [List.map_cons] at e
    cases a with
    | bl i =>
      cases r
      have e : (allSome _).map (i :: ·) = some _ := e
      cases e2 : allSome (List.map toBl _) with
      | none => rw [e2] at e; cases e
      | some ms => rw [e2] at e; cases e; rw [List.map_cons, bls_of t e2]
    | _ => cases e
theorem strs_of {ρ : List Addr} : ∀ {xs ws : List V} {ns : List Str}, VsR ρ xs ws → allSome (xs.map toStr) = some ns → ws = ns.map V.str
  | _, _, _, .nil, e => by cases e; rfl
  | _, _, _, .cons (a := a) r t, e => by
    rw [List.map_cons] at e
    cases a with
    | str i =>
      cases r
      have e : (allSome _).map (i :: ·) = some _ := e
      cases e2 : allSome (List.map toStr _) with
      | none => rw [e2] at e; cases e
      | some ms => rw [e2] at e; cases e; rw [List.map_cons, strs_of t e2]
    | _ => cases e
def rdInts (S : Sto) (x : V) : Option (List Int) := (rdL S x).bind fun xs => allSome (xs.map toInt)
theorem Rep.rdInts {G : Gm} {ρ : List Addr} {S : Sto} {H : Hp} {v w : V} {ns : List Int} (r : Rep G ρ S H) (h : rdInts S v = some ns) (x : VR ρ v w) : ∃ a, w = .ref a ∧ Rd H a (.lst (ns.map V.int)) := by
  unfold Mi.rdInts at h
  cases e : Mi.rdL S v with
  | none => rw [e] at h; cases h
  | some xs =>
    rw [e] at h
    obtain ⟨a, ws, ew, eh, vr⟩ := r.rdL e x
    have e2 := ints_of vr h
    subst e2
    exact ⟨a, ew, eh⟩
/-- sorting of ints -/
def insI (x : Int) : List Int → List Int
  | [] => [x]
  | y :: r => if x ≤ y then x :: y :: r else y :: insI x r
def sortI : List Int → List Int
  | [] => []
  | x :: r => insI x (sortI r)
theorem insI_perm (x : Int) : ∀ l : List Int, (insI x l).Perm (x :: l)
  | [] => .refl _
  | y :: r => by
    unfold insI
    by_cases h : x ≤ y
    · rw [if_pos h]
    · rw [if_neg h]
      exact ((insI_perm x r).cons y).trans (.swap x y r)
theorem sortI_perm : ∀ l : List Int, (sortI l).Perm l
  | [] => .refl _
  | x :: r => (insI_perm x _).trans ((sortI_perm r).cons x)
theorem insI_sorted (x : Int) : ∀ {l : List Int}, l.Pairwise (· ≤ ·) → (insI x l).Pairwise (· ≤ ·)
  | [], _ => List.pairwise_singleton _ _
  | y :: r, h => by
    unfold insI
    have h1 := List.pairwise_cons.mp h
    by_cases z : x ≤ y
    · rw [if_pos z]
      refine List.pairwise_cons.mpr ⟨fun a ha => ?_, h⟩
      rcases List.mem_cons.mp ha with e | e
      · rw [e]; exact z
      · exact Int.le_trans z (h1.1 a e)
    · rw [if_neg z]
      refine List.pairwise_cons.mpr ⟨fun a ha => ?_, insI_sorted x h1.2⟩
      rcases List.mem_cons.mp ((insI_perm x r).mem_iff.mp ha) with e | e
      · rw [e]; omega
      · exact h1.1 a e
theorem sortI_sorted : ∀ l : List Int, (sortI l).Pairwise (· ≤ ·)
  | [] => .nil
  | x :: r => insI_sorted x (sortI_sorted r)
theorem sorted_uniq : ∀ {xs ys : List Int}, xs.Perm ys → xs.Pairwise (· ≤ ·) → ys.Pairwise (· ≤ ·) → xs = ys
  | [], ys, p, _, _ => (List.nil_perm.mp p).symm
  | x :: xs, [], p, _, _ => absurd p.length_eq (by simp)
  | x :: xs, y :: ys, p, h1, h2 => by
    have a1 := List.pairwise_cons.mp h1
    have a2 := List.pairwise_cons.mp h2
    have e : x = y := by
      have m1 : y ∈ x :: xs := p.mem_iff.mpr List.mem_cons_self
      have m2 : x ∈ y :: ys := p.mem_iff.mp List.mem_cons_self
      rcases List.mem_cons.mp m1 with q | q
      · exact q.symm
      · rcases List.mem_cons.mp m2 with q2 | q2
        · exact q2
        · have b1 := a1.1 _ q
          have b2 := a2.1 _ q2
          omega
    subst e
    rw [sorted_uniq (List.Perm.cons_inv p) a1.2 a2.2]
def keyInts (kvs : List (Key × V)) : Option (List Int) := allSome (kvs.map fun kv => match kv.1 with
  | .inl i => some i
  | .inr _ => none)
theorem keyInts_map : ∀ {kvs : List (Key × V)} {ns : List Int}, keyInts kvs = some ns → kvs.map (·.1) = ns.map Sum.inl
  | [], _, e => by cases e; rfl
  | ⟨k, v⟩ :: r, ns, e => by
    unfold keyInts at e
    rw [List.map_cons] at e
    cases k with
    | inr x => cases e
    | inl i =>
      have e : (keyInts r).map (i :: ·) = some ns := e
      cases e2 : keyInts r with
      | none => rw [e2] at e; cases e
      | some ms => rw [e2] at e; cases e; rw [List.map_cons, List.map_cons, keyInts_map e2]
/-- sorted(x): a list of ints; a dict of fewer than 64 int keys -/
def oSorted : List V → Sto → R V := fun xs S => match xs with
  | [x] => match rdInts S x with
    | some ns => .ok (.ref S.length) (S ++ [.lst ((sortI ns).map V.int)])
    | none => match rdK S x with
      | some kvs => (match keyInts kvs with
        | some ns => if ns.length < 64 then .ok (.ref S.length) (S ++ [.lst ((sortI ns).map V.int)]) else .bad
        | none => .bad)
      | none => .bad
  | _ => .bad
theorem ints_vsr {ρ : List Addr} : ∀ ns : List Int, VsR ρ (ns.map V.int) (ns.map V.int)
  | [] => .nil
  | _ :: r => .cons rfl (ints_vsr r)
theorem cal_sorted (hc : X.calm = true) : CalX T X (.builtin "sorted") oSorted := by
  refine calX_of (fun xs S => ?_) fun pins s σ H xs us Q ρ S vs τ I r rp rv h => ?_
  · unfold oSorted
    repeat' split
    all_goals trivial
  · unfold oSorted at h
    split at h
    · obtain ⟨w, e, rw'⟩ := vsr_one rv
      subst e
      split at h
      · rename_i ns el
        obtain ⟨ad, ew, eh⟩ := rp.rdInts el rw'
        subst ew
        refine cr_sortedI pins s σ H _ us Q I r ⟨ad, ns, rfl, .inl eh, fun ns' p hp hs np => ?_⟩
        have e2 : ns' = sortI ns := sorted_uniq (hp.trans (sortI_perm ns).symm) hs (sortI_sorted ns)
        subst e2
        exact h _ _ _ (Ext.new np) (rp.alloc np ⟨_, rfl, ints_vsr _⟩) (new_ref rp.len)
      · split at h
        · rename_i kvs el
          obtain ⟨ad, ws, ew, eh, vr⟩ := rp.rdK el rw'
          subst ew
          split at h
          · rename_i ns ek
            split at h
            · rename_i hz
              refine call_sortedDI hc pins s σ H _ us Q I r ⟨ad, ws, ns, rfl, eh, (fr_keys vr).trans (keyInts_map ek), hz, fun ns' p hp hs np => ?_⟩
              have e2 : ns' = sortI ns := sorted_uniq (hp.trans (sortI_perm ns).symm) hs (sortI_sorted ns)
              subst e2
              exact h _ _ _ (Ext.new np) (rp.alloc np ⟨_, rfl, ints_vsr _⟩) (new_ref rp.len)
            · exact h.elim
          · exact h.elim
        · exact h.elim
    · exact h.elim
/-- sum, all, any of lists -/
def oSum : List V → Sto → R V := fun xs S => match xs with
  | [x] => match rdInts S x with
    | some ns => .ok (.int ns.sum) S
    | none => .bad
  | _ => .bad
theorem cal_sum (hc : X.calm = true) : CalX T X (.builtin "sum") oSum := by
  refine calX_of (fun xs S => ?_) fun pins s σ H xs us Q ρ S vs τ I r rp rv h => ?_
  · unfold oSum
    repeat' split
    all_goals trivial
  · unfold oSum at h
    split at h
    · obtain ⟨w, e, rw'⟩ := vsr_one rv
      subst e
      split at h
      · rename_i ns el
        obtain ⟨ad, ew, eh⟩ := rp.rdInts el rw'
        subst ew
        exact cr_sum hc pins s σ H _ us Q I r ⟨ad, ns, rfl, .inl eh, h ρ H _ Ext.refl rp rfl⟩
      · exact h.elim
    · exact h.elim
def rdBls (S : Sto) (x : V) : Option (List Bool) := (rdL S x).bind fun xs => allSome (xs.map toBl)
def oAll : List V → Sto → R V := fun xs S => match xs with
  | [x] => match rdBls S x with
    | some bs => .ok (.bl (bs.all id)) S
    | none => .bad
  | _ => .bad
def oAny : List V → Sto → R V := fun xs S => match xs with
  | [x] => match rdBls S x with
    | some bs => .ok (.bl (bs.any id)) S
    | none => .bad
  | _ => .bad
theorem Rep.rdBls {G : Gm} {ρ : List Addr} {S : Sto} {H : Hp} {v w : V} {ns : List Bool} (r : Rep G ρ S H) (h : rdBls S v = some ns) (x : VR ρ v w) : ∃ a, w = .ref a ∧ Rd H a (.lst (ns.map V.bl)) := by
  unfold Mi.rdBls at h
  cases e : Mi.rdL S v with
  | none => rw [e] at h; cases h
  | some xs =>
    rw [e] at h
    obtain ⟨a, ws, ew, eh, vr⟩ := r.rdL e x
    have e2 := bls_of vr h
    subst e2
    exact ⟨a, ew, eh⟩
theorem cal_all (hc : X.calm = true) : CalX T X (.builtin "all") oAll := by
  refine calX_of (fun xs S => ?_) fun pins s σ H xs us Q ρ S vs τ I r rp rv h => ?_
  · unfold oAll
    repeat' split
    all_goals trivial
  · unfold oAll at h
    split at h
    · obtain ⟨w, e, rw'⟩ := vsr_one rv
      subst e
      split at h
      · rename_i ns el
        obtain ⟨ad, ew, eh⟩ := rp.rdBls el rw'
        subst ew
        exact cr_all hc pins s σ H _ us Q I r ⟨ad, ns, rfl, .inl eh, h ρ H _ Ext.refl rp rfl⟩
      · exact h.elim
    · exact h.elim
theorem cal_any (hc : X.calm = true) : CalX T X (.builtin "any") oAny := by
  refine calX_of (fun xs S => ?_) fun pins s σ H xs us Q ρ S vs τ I r rp rv h => ?_
  · unfold oAny
    repeat' split
    all_goals trivial
  · unfold oAny at h
    split at h
    · obtain ⟨w, e, rw'⟩ := vsr_one rv
      subst e
      split at h
      · rename_i ns el
        obtain ⟨ad, ew, eh⟩ := rp.rdBls el rw'
        subst ew
        exact cr_any hc pins s σ H _ us Q I r ⟨ad, ns, rfl, .inl eh, h ρ H _ Ext.refl rp rfl⟩
      · exact h.elim
    · exact h.elim
/-- abs, max, min of two -/
def oAbs : List V → Sto → R V := fun xs S => match xs with
  | [.int i] => .ok (.int (if i < 0 then -i else i)) S
  | _ => .bad
def oMax2 : List V → Sto → R V := fun xs S => match xs with
  | [.int i, .int j] => .ok (.int (if j > i then j else i)) S
  | _ => .bad
def oMin2 : List V → Sto → R V := fun xs S => match xs with
  | [.int i, .int j] => .ok (.int (if j < i then j else i)) S
  | _ => .bad
theorem cal_abs : CalX T X (.builtin "abs") oAbs := by
  refine calX_of (fun xs S => ?_) fun pins s σ H xs us Q ρ S vs τ I r rp rv h => ?_
  · unfold oAbs
    split <;> trivial
  · unfold oAbs at h
    split at h
    · obtain ⟨w, e, rw'⟩ := vsr_one rv
      subst e
      cases rw'
      exact call_abs pins s σ H _ us Q I r ⟨_, rfl, h ρ H _ Ext.refl rp rfl⟩
    · exact h.elim
theorem cal_max2 (hc : X.calm = true) : CalX T X (.builtin "max") oMax2 := by
  refine calX_of (fun xs S => ?_) fun pins s σ H xs us Q ρ S vs τ I r rp rv h => ?_
  · unfold oMax2
    split <;> trivial
  · unfold oMax2 at h
    split at h
    · obtain ⟨w, z, e, r1, r2⟩ := vsr_two rv
      subst e
      cases r1
      cases r2
      exact call_max2 hc pins s σ H _ us Q I r ⟨_, _, rfl, h ρ H _ Ext.refl rp rfl⟩
    · exact h.elim
theorem cal_min2 (hc : X.calm = true) : CalX T X (.builtin "min") oMin2 := by
  refine calX_of (fun xs S => ?_) fun pins s σ H xs us Q ρ S vs τ I r rp rv h => ?_
  · unfold oMin2
    split <;> trivial
  · unfold oMin2 at h
    split at h
    · obtain ⟨w, z, e, r1, r2⟩ := vsr_two rv
      subst e
      cases r1
      cases r2
      exact call_min2 hc pins s σ H _ us Q I r ⟨_, _, rfl, h ρ H _ Ext.refl rp rfl⟩
    · exact h.elim
/-- dict(x): a dict; a list of pairs -/
def rdPair (S : Sto) (v : V) : Option (Key × V) := match rdT S v with
  | some [k, w] => (keyOf k).map fun k => (k, w)
  | _ => none
def oDict : List V → Sto → R V := fun xs S => match xs with
  | [x] => match rdK S x with
    | some kvs => .ok (.ref S.length) (S ++ [.dK kvs])
    | none => match rdL S x with
      | some ps => (match allSome (ps.map (rdPair S)) with
        | some kvs => .ok (.ref S.length) (S ++ [.dK (mergeK [] kvs)])
        | none => .bad)
      | none => .bad
  | _ => .bad
theorem fr_merge {ρ : List Addr} {more more' : List (Key × V)} (h : FR ρ more more') : ∀ {kvs ws : List (Key × V)}, FR ρ kvs ws → FR ρ (mergeK kvs more) (mergeK ws more') := by
  induction h with
  | nil => exact fun h => h
  | @cons p q ps qs r t ih =>
    intro kvs ws h2
    unfold mergeK
    rw [List.foldl_cons, List.foldl_cons, ← r.1]
    exact ih (fr_put h2 r.2)
theorem pairs_rd {G : Gm} {ρ : List Addr} {S : Sto} {H : Hp} (rp : Rep G ρ S H) : ∀ {ps ws : List V} {kvs : List (Key × V)}, VsR ρ ps ws → allSome (ps.map (rdPair S)) = some kvs →
    ∃ (as : List Addr) (kws : List (Key × V)), ws = as.map V.ref ∧ Paired (fun p kv => SqT G.K H p [kV kv.1, kv.2]) as kws ∧ FR ρ kvs kws
  | _, _, _, .nil, e => by cases e; exact ⟨[], [], rfl, .nil, .nil⟩
  | _, _, kvs, .cons (a := a) (l₁ := l) r t, e => by
    rw [List.map_cons] at e
    cases e1 : rdPair S a with
    | none => rw [e1] at e; cases e
    | some kv =>
      rw [e1] at e
      have e : (allSome (l.map (rdPair S))).map (kv :: ·) = some kvs := e
      cases e2 : allSome (l.map (rdPair S)) with
      | none => rw [e2] at e; cases e
      | some rest =>
        rw [e2] at e
        cases e
        obtain ⟨as, kws, h1, h2, h3⟩ := pairs_rd rp t e2
        unfold rdPair at e1
        split at e1
        · rename_i k w et
          obtain ⟨ad, ws, ew, eh, vr⟩ := rp.rdT et r
          subst ew
          obtain ⟨w1, w2, e3, q1, q2⟩ := vsr_two vr
          subst e3
          cases ek : keyOf k with
          | none => rw [ek] at e1; cases e1
          | some kk =>
            rw [ek] at e1
            cases e1
            have e4 := key_vr ek q1
            subst e4
            exact ⟨ad :: as, (kk, w2) :: kws, by rw [h1]; rfl, .cons (.inl (.inl eh)) h2, .cons ⟨rfl, q2⟩ h3⟩
        · cases e1
theorem cal_dict (hc : X.calm = true) : CalX T X (.type "dict") oDict := by
  refine calX_of (fun xs S => ?_) fun pins s σ H xs us Q ρ S vs τ I r rp rv h => ?_
  · unfold oDict
    repeat' split
    all_goals trivial
  · unfold oDict at h
    split at h
    · obtain ⟨w, e, rw'⟩ := vsr_one rv
      subst e
      split at h
      · rename_i kvs el
        obtain ⟨ad, ws, ew, eh, vr⟩ := rp.rdK el rw'
        subst ew
        exact call_dictD pins s σ H _ us Q I r ⟨ad, ws, rfl, eh, fun p np => h _ _ _ (Ext.new np) (rp.alloc np ⟨_, rfl, FR.mono vr (List.prefix_append _ _)⟩) (new_ref rp.len)⟩
      · split at h
        · rename_i ps el
          obtain ⟨ad, ws, ew, eh, vr⟩ := rp.rdL el rw'
          subst ew
          split at h
          · rename_i kvs ek
            obtain ⟨as, kws, h1, h2, h3⟩ := pairs_rd rp vr ek
            subst h1
            exact call_dictP hc pins s σ H _ us Q I r ⟨ad, as, kws, rfl, .inl eh, h2, fun p np => h _ _ _ (Ext.new np) (rp.alloc np ⟨_, rfl, FR.mono (fr_merge h3 .nil) (List.prefix_append _ _)⟩) (new_ref rp.len)⟩
          · exact h.elim
        · exact h.elim
    · exact h.elim
end
end Mi

namespace Mi
open PySem PySem.Spec L2
open PyProof.Rows hiding St

/-! ### methods of lists, dicts, texts -/
def tyS (Ty : String) (S : Sto) : V → Bool
  | .str _ => Ty == "str"
  | .ref i => match S[i]? with
    | some (.lst _) => Ty == "list"
    | some (.lck (.lst _)) => Ty == "list"
    | some (.dK _) => Ty == "dict"
    | some (.lck (.dK _)) => Ty == "dict"
    | _ => false
  | _ => false
abbrev Mth := V → List V → Sto → R V
def denM (G : Gm) (o : Mth) : V → List V → Hp → VK → Prop := fun x xs H Q => ∃ ρ S v vs σ, Rep G ρ S H ∧ VR ρ v x ∧ VsR ρ vs xs ∧ Post G (fun _ _ _ _ => False) VR ρ H σ Q (o v vs S)
abbrev MthX (T : Tab) (X : Cx) (id : String) (o : Mth) : Prop := MtR X id (denM (gm T X) o) ∧ ∀ x xs S, (o x xs S).quiet
def mBM (Ty : String) (o : Mth) (a : ME) (b : MA) : ME := fun σ S => (a σ S).bind fun x S1 => if tyS Ty S1 x = true then (b σ S1).bind fun xs S2 => o x xs S2 else .bad
section
variable {T : Tab} {W : WX} {X : Cx} {o e : Expr} {es : List Expr} {mo : ME} {ms : MA} {name : Str} {apos cpos : Pos} {Ty id : String} {f : Mth}
theorem tyS_is {pins : List (Addr × Obj)} {σ : St} {H : Hp} {s : Shared} {ρ : List Addr} {S : Sto} {a w : V} {v : Value} (I : Inv X pins σ H s) (rp : Rep (gm T X) ρ S H) (x : VR ρ a w) (r : RelV w v) (ty : tyS Ty S a = true) :
    s.TypeIs v Ty ∧ ∀ a, v = .ref a → ∃ ob, s.heap.get? a = some ob ∧ ob.dict = none := by
  unfold tyS at ty
  split at ty
  · cases x
    exact tyV_is I r (show Ty = "str" from of_decide_eq_true ty)
  · split at ty
    · rename_i es
      obtain ⟨ad, u, ew, er, eh, ws, eu, vr⟩ := rp.ref es x
      subst ew; subst eu
      exact tyV_is I r (.inl ⟨of_decide_eq_true ty, ws, .inl (.inl eh)⟩)
    · rename_i es
      obtain ⟨ad, u, ew, er, eh, ob, u2, eu, ws, eu2, vr⟩ := rp.ref es x
      subst ew; subst eu; subst eu2
      exact tyV_is I r (.inl ⟨of_decide_eq_true ty, ws, .inl (.inr ⟨ob, eh⟩)⟩)
    · rename_i es
      obtain ⟨ad, u, ew, er, eh, ws, eu, vr⟩ := rp.ref es x
      subst ew; subst eu
      exact tyV_is I r (.inr (.inr (.inl ⟨of_decide_eq_true ty, .inl ⟨ws, eh⟩⟩)))
    · rename_i es
      obtain ⟨ad, u, ew, er, eh, ob, u2, eu, ws, eu2, vr⟩ := rp.ref es x
      subst ew; subst eu; subst eu2
      cases r
      obtain ⟨t1, t2, _⟩ := isD_at I (.inl ⟨ws, .inr ⟨ob, eh⟩⟩)
      have e : Ty = "dict" := of_decide_eq_true ty
      subst e
      exact ⟨t1, t2⟩
    · cases ty
  · cases ty
theorem de_bm0 (pa : PlainAttrs Ty) (slot : Slot Ty name id) (hty : typeOf (.builtin id) = pure (.type "method_descriptor")) (hm : MthX T X id f) (ho : DE T X W o mo)
    (hbase : attributeBase o name X.env (eval o X.env) = eval o X.env := by rfl) (hline : (apos.endLine == cpos.line) = true := by rfl) : DE T X W (.Call (.Attribute o name apos) [] [] cpos) (mBM Ty f mo mNil) := by
  refine ⟨fun pins s σ H Q I h => ?_⟩
  obtain ⟨ρ, S, τ, r, l, h⟩ := h
  have h' : den (gm T X) W VR mo σ H (fun w H1 => ∃ ρ1 S1 x, Rep (gm T X) ρ1 S1 H1 ∧ VR ρ1 x w ∧ tyS Ty S1 x = true ∧ Post (gm T X) W VR ρ1 H1 σ Q (f x [] S1)) := by
    refine ⟨ρ, S, τ, r, l, Post.bind h fun ρ1 S1 H1 x w p1 r1 x1 h1 => ?_⟩
    by_cases z : tyS Ty S1 x = true
    · rw [if_pos z] at h1
      exact ⟨ρ1, S1, x, r1, x1, z, h1⟩
    · rw [if_neg z] at h1
      exact h1.elim
  refine wpAny_Call_method0_late hbase hline (thn (ho.run pins s σ H _ I h') fun v s1 ⟨w, H1, I1, rv, ρ1, S1, x, r1, x1, ty, h1⟩ => ?_)
  obtain ⟨h2, h3⟩ := tyS_is I1 r1 x1 rv ty
  exact ⟨Ty, id, pa, slot, hty, h2, h3, Calls.callWith_builtin rfl (PySem.evalArgs_none (hm.1 pins s1 σ H1 w [] v [] Q I1 rv .nil ⟨ρ1, S1, x, [], σ, r1, x1, .nil, h1.still (hm.2 _ _ _)⟩))⟩
theorem de_bm (pa : PlainAttrs Ty) (slot : Slot Ty name id) (hty : typeOf (.builtin id) = pure (.type "method_descriptor")) (hm : MthX T X id f) (ho : DE T X W o mo) (ha : DA T X W (e :: es) ms)
    (hbase : attributeBase o name X.env (eval o X.env) = eval o X.env := by rfl)
    (hfew : ((backTo cpos (starEach (e :: es) X.env)).all (fun x => !x.1) && (backToKw cpos (keywordEach [] X.env)).all (fun x => x.1.isSome)
      && decide ((e :: es).length + ([] : List Keyword).length + (if ([] : List Keyword).isEmpty then 0 else 1) < 30)) = true := by rfl)
    (hline : (apos.endLine == cpos.line) = true := by rfl) (hs : starEach (e :: es) X.env = (false, eval e X.env) :: starEach es X.env := by rfl) (hplain : (backTo cpos (starEach es X.env)).any (·.1) = false := by rfl) :
    DE T X W (.Call (.Attribute o name apos) (e :: es) [] cpos) (mBM Ty f mo ms) := by
  refine ⟨fun pins s σ H Q I h => ?_⟩
  obtain ⟨ρ, S, τ, r, l, h⟩ := h
  have h' : den (gm T X) W VR mo σ H (fun w H1 => ∃ ρ1 S1 x, Rep (gm T X) ρ1 S1 H1 ∧ LR ρ1 τ σ ∧ VR ρ1 x w ∧ tyS Ty S1 x = true ∧ Post (gm T X) W VR ρ1 H1 σ Q ((ms τ S1).bind fun xs S2 => f x xs S2)) := by
    refine ⟨ρ, S, τ, r, l, Post.bind h fun ρ1 S1 H1 x w p1 r1 x1 h1 => ?_⟩
    by_cases z : tyS Ty S1 x = true
    · rw [if_pos z] at h1
      exact ⟨ρ1, S1, x, r1, l.mono p1.pre, x1, z, h1⟩
    · rw [if_neg z] at h1
      exact h1.elim
  refine wpAny_Call_method_late hbase hfew hline rfl (thn (ho.run pins s σ H _ I h') fun v s1 ⟨w, H1, I1, rv, ρ1, S1, x, r1, l1, x1, ty, h1⟩ => ?_)
  obtain ⟨h2, h3⟩ := tyS_is I1 r1 x1 rv ty
  refine ⟨Ty, id, pa, slot, hty, h2, h3, ?_⟩
  have h4 : den (gm T X) W VsR ms σ H1 (fun ws H2 => denM (gm T X) f w ws H2 Q) := by
    refine ⟨ρ1, S1, τ, r1, l1, Post.bind h1 fun ρ2 S2 H2 xs ws p2 r2 x2 q2 => ?_⟩
    exact ⟨ρ2, S2, x, xs, σ, r2, x1.mono p2.pre, x2, q2.still (hm.2 _ _ _)⟩
  have hA := ha.run cpos pins s1 σ H1 _ I1 h4
  rw [hs] at hA ⊢
  refine Calls.callWith_builtin (by show (false || (backTo cpos (starEach es X.env)).any (·.1)) = false; rw [hplain] <;> rfl) (Calls.evalArgs_plain ?_)
  exact thn hA fun us s2 ⟨vs, H2, I2, r2, q2⟩ => hm.1 pins s2 σ H2 w vs v us Q I2 rv r2 q2
end
section
variable {T : Tab} {X : Cx}
theorem mthX_of {id : String} {o : Mth} (hq : ∀ x xs S, (o x xs S).quiet)
    (h : ∀ (pins : List (Addr × Obj)) (s : Shared) (σ : St) (H : Hp) (x : V) (xs : List V) (v : Value) (us : List Value) (Q : VK) (ρ : List Addr) (S : Sto) (a : V) (vs : List V) (τ : St), Inv X pins σ H s → RelV x v → Vals xs us → Rep (gm T X) ρ S H → VR ρ a x → VsR ρ vs xs →
      Post (gm T X) W0 VR ρ H τ Q (o a vs S) → wpAny (model X.prog X.w) X.A (call (.builtin id) (v :: us)) (EP X pins σ Q) X.xe s) : MthX T X id o :=
  ⟨fun pins s σ H x xs v us Q I rx r ⟨ρ, S, a, vs, τ, rp, ra, rv, q⟩ => h pins s σ H x xs v us Q ρ S a vs τ I rx r rp ra rv q, hq⟩
/-- the list that is written -/
def onLst (x : V) (S : Sto) (f : Nat → List V → R V) : R V := match x with
  | .ref i => match S[i]? with
    | some (.lst xs) => f i xs
    | _ => .bad
  | _ => .bad
def oAppend : Mth := fun x as S => match as with
  | [y] => onLst x S fun i xs => if xs.length < sizeLine then .ok .non (S.set i (.lst (xs ++ [y]))) else .bad
  | _ => .bad
theorem onLst_of {G : Gm} {ρ : List Addr} {S : Sto} {H : Hp} {τ : St} {Q : VK} {a x : V} {f : Nat → List V → R V} (rp : Rep G ρ S H) (ra : VR ρ a x) (h : Post G W0 VR ρ H τ Q (onLst a S f)) :
    ∃ i xs ad ws, S[i]? = some (.lst xs) ∧ x = .ref ad ∧ H ad = some (.lst ws) ∧ VsR ρ xs ws ∧ (∀ ys zs, VsR ρ ys zs → Rep G ρ (S.set i (.lst ys)) (upd H ad (.lst zs)) ∧ Ext ρ H ρ (upd H ad (.lst zs))) ∧ Post G W0 VR ρ H τ Q (f i xs) := by
  unfold onLst at h
  split at h
  · split at h
    · rename_i i _ xs es
      obtain ⟨ad, u, ew, er, eh, ws, eu, vr⟩ := rp.ref es ra
      subst ew; subst eu
      exact ⟨i, xs, ad, ws, es, rfl, eh, vr, fun ys zs q => ⟨rp.write es er (fun fs q => by rw [eh] at q; cases q) ⟨_, rfl, q⟩, Ext.put eh fun _ _ q => nomatch q⟩, h⟩
    · exact h.elim
  · exact h.elim
theorem onLst_quiet {x : V} {S : Sto} {f : Nat → List V → R V} (h : ∀ i xs, (f i xs).quiet) : (onLst x S f).quiet := by
  unfold onLst
  repeat' split
  all_goals first | exact h _ _ | trivial
theorem mth_append : MthX T X "list.append" oAppend := by
  refine mthX_of (fun x xs S => ?_) fun pins s σ H x xs v us Q ρ S a vs τ I rx r rp ra rv h => ?_
  · unfold oAppend
    split
    · exact onLst_quiet fun i xs => by split <;> trivial
    · trivial
  · unfold oAppend at h
    split at h
    · obtain ⟨w, e, rw'⟩ := vsr_one rv
      subst e
      obtain ⟨i, ys, ad, ws, es, ex, eh, vr, up, h⟩ := onLst_of rp ra h
      subst ex
      split at h
      · rename_i hz
        obtain ⟨k1, k2⟩ := up _ _ (prd_app vr (.cons rw' .nil))
        exact mt_append pins s σ H _ _ v us Q I rx r ⟨ad, ws, w, rfl, rfl, eh, by rw [← prd_len vr]; exact hz, h ρ _ _ k2 k1 rfl⟩
      · exact h.elim
    · exact h.elim
def oExtend : Mth := fun x as S => match as with
  | [.ref j] => onLst x S fun i xs => match S[j]? with
    | some (.lst ys) => if xs.length + ys.length ≤ sizeLine then .ok .non (S.set i (.lst (xs ++ ys))) else .bad
    | _ => .bad
  | _ => .bad
theorem mth_extend : MthX T X "list.extend" oExtend := by
  refine mthX_of (fun x xs S => ?_) fun pins s σ H x xs v us Q ρ S a vs τ I rx r rp ra rv h => ?_
  · unfold oExtend
    split
    · refine onLst_quiet fun i xs => ?_
      repeat' split
      all_goals trivial
    · trivial
  · unfold oExtend at h
    split at h
    · obtain ⟨w, e, rw'⟩ := vsr_one rv
      subst e
      obtain ⟨i, ys, ad, ws, es, ex, eh, vr, up, h⟩ := onLst_of rp ra h
      subst ex
      split at h
      · rename_i es2
        obtain ⟨ad2, u, ew, er, eh2, ws2, eu, vr2⟩ := rp.ref es2 rw'
        subst ew; subst eu
        split at h
        · rename_i hz
          obtain ⟨k1, k2⟩ := up _ _ (prd_app vr vr2)
          exact mt_extend pins s σ H _ _ v us Q I rx r ⟨ad, ad2, ws, ws2, rfl, rfl, eh, eh2, by rw [← prd_len vr, ← prd_len vr2]; exact hz, h ρ _ _ k2 k1 rfl⟩
        · exact h.elim
      · exact h.elim
    · exact h.elim
def oPop : Mth := fun x as S => match as with
  | [] => onLst x S fun i xs => match xs[xs.length - 1]? with
    | some y => .ok y (S.set i (.lst xs.dropLast))
    | none => .bad
  | [.int k] => onLst x S fun i xs => if -(2 ^ 63) ≤ k ∧ k < 2 ^ 63 then (match seqIndex? k xs.length with
    | some j => (match xs[j]? with
      | some y => .ok y (S.set i (.lst (xs.eraseIdx j)))
      | none => .bad)
    | none => .bad) else .bad
  | _ => .bad
theorem prd_dropLast {α β : Type} {F : α → β → Prop} {xs : List α} {ys : List β} (h : Paired F xs ys) : Paired F xs.dropLast ys.dropLast := by
  rw [List.dropLast_eq_take, List.dropLast_eq_take, ← prd_len h]
  exact prd_take _ h
theorem prd_erase {α β : Type} {F : α → β → Prop} : ∀ {xs : List α} {ys : List β} (j : Nat), Paired F xs ys → Paired F (xs.eraseIdx j) (ys.eraseIdx j)
  | _, _, _, .nil => .nil
  | _, _, 0, .cons _ t => t
  | _, _, j + 1, .cons r t => .cons r (prd_erase j t)
theorem mth_pop : MthX T X "list.pop" oPop := by
  refine mthX_of (fun x xs S => ?_) fun pins s σ H x xs v us Q ρ S a vs τ I rx r rp ra rv h => ?_
  · unfold oPop
    split
    · refine onLst_quiet fun i xs => ?_
      repeat' split
      all_goals trivial
    · refine onLst_quiet fun i xs => ?_
      repeat' split
      all_goals trivial
    · trivial
  · unfold oPop at h
    split at h
    · cases rv
      obtain ⟨i, ys, ad, ws, es, ex, eh, vr, up, h⟩ := onLst_of rp ra h
      subst ex
      split at h
      · rename_i y ey
        obtain ⟨w, ew, rw'⟩ := prd_get vr ey
        obtain ⟨k1, k2⟩ := up _ _ (prd_dropLast vr)
        exact mt_pop pins s σ H _ _ v us Q I rx r ⟨ad, ws, w, rfl, rfl, eh, by rw [← prd_len vr]; exact ew, h ρ _ _ k2 k1 rw'⟩
      · exact h.elim
    · obtain ⟨w, e, rw'⟩ := vsr_one rv
      subst e
      cases rw'
      obtain ⟨i, ys, ad, ws, es, ex, eh, vr, up, h⟩ := onLst_of rp ra h
      subst ex
      split at h
      · rename_i hz
        split at h
        · rename_i j ej
          split at h
          · rename_i y ey
            obtain ⟨w, ew, rw'⟩ := prd_get vr ey
            obtain ⟨k1, k2⟩ := up _ _ (prd_erase j vr)
            exact mt_popAt pins s σ H _ _ v us Q I rx r ⟨ad, ws, _, j, w, rfl, rfl, eh, hz.1, hz.2, by rw [← prd_len vr]; exact ej, ew, h ρ _ _ k2 k1 rw'⟩
          · exact h.elim
        · exact h.elim
      · exact h.elim
    · exact h.elim
def oReverse : Mth := fun x as S => match as with
  | [] => onLst x S fun i xs => .ok .non (S.set i (.lst xs.reverse))
  | _ => .bad
theorem mth_reverse : MthX T X "list.reverse" oReverse := by
  refine mthX_of (fun x xs S => ?_) fun pins s σ H x xs v us Q ρ S a vs τ I rx r rp ra rv h => ?_
  · unfold oReverse
    split
    · exact onLst_quiet fun i xs => trivial
    · trivial
  · unfold oReverse at h
    split at h
    · cases rv
      obtain ⟨i, ys, ad, ws, es, ex, eh, vr, up, h⟩ := onLst_of rp ra h
      subst ex
      obtain ⟨k1, k2⟩ := up _ _ (prd_rev vr)
      exact mt_reverse pins s σ H _ _ v us Q I rx r ⟨ad, ws, rfl, rfl, eh, h ρ _ _ k2 k1 rfl⟩
    · exact h.elim
def oClear : Mth := fun x as S => match as with
  | [] => onLst x S fun i xs => .ok .non (S.set i (.lst []))
  | _ => .bad
theorem mth_clear : MthX T X "list.clear" oClear := by
  refine mthX_of (fun x xs S => ?_) fun pins s σ H x xs v us Q ρ S a vs τ I rx r rp ra rv h => ?_
  · unfold oClear
    split
    · exact onLst_quiet fun i xs => trivial
    · trivial
  · unfold oClear at h
    split at h
    · cases rv
      obtain ⟨i, ys, ad, ws, es, ex, eh, vr, up, h⟩ := onLst_of rp ra h
      subst ex
      obtain ⟨k1, k2⟩ := up [] [] .nil
      exact mt_clear pins s σ H _ _ v us Q I rx r ⟨ad, ws, rfl, rfl, eh, h ρ _ _ k2 k1 rfl⟩
    · exact h.elim
def oInsert : Mth := fun x as S => match as with
  | [.int k, y] => onLst x S fun i xs => if xs.length < sizeLine ∧ 0 ≤ k ∧ k < 2 ^ 63 then .ok .non (S.set i (.lst (xs.take k.toNat ++ [y] ++ xs.drop k.toNat))) else .bad
  | _ => .bad
theorem mth_insert : MthX T X "list.insert" oInsert := by
  refine mthX_of (fun x xs S => ?_) fun pins s σ H x xs v us Q ρ S a vs τ I rx r rp ra rv h => ?_
  · unfold oInsert
    split
    · exact onLst_quiet fun i xs => by split <;> trivial
    · trivial
  · unfold oInsert at h
    split at h
    · obtain ⟨w, z, e, r1, r2⟩ := vsr_two rv
      subst e
      cases r1
      obtain ⟨i, ys, ad, ws, es, ex, eh, vr, up, h⟩ := onLst_of rp ra h
      subst ex
      split at h
      · rename_i hz
        obtain ⟨k1, k2⟩ := up _ _ (prd_app (prd_app (prd_take _ vr) (.cons r2 .nil)) (prd_drop _ vr))
        exact mt_insert pins s σ H _ _ v us Q I rx r ⟨ad, ws, _, z, rfl, rfl, eh, by rw [← prd_len vr]; exact hz.1, hz.2.1, hz.2.2, h ρ _ _ k2 k1 rfl⟩
      · exact h.elim
    · exact h.elim
/-- xs.count(y), of flat values -/
def oCount : Mth := fun x as S => match as, rdL S x with
  | [y], some xs => if flatV y = true ∧ xs.all flatV = true then .ok (.int (xs.countP fun z => eqV z y : Nat)) S else .bad
  | _, _ => .bad
theorem count_eqU {x : V} : ∀ {xs : List V} {us : List Value}, Vals xs us → xs.all flatV = true → us.countP (eqU x) = xs.countP fun y => eqV y x
  | _, _, .nil, _ => rfl
  | y :: xs, u :: us, .cons r t, f => by
    rw [List.all_cons, Bool.and_eq_true] at f
    rw [List.countP_cons, List.countP_cons, eqU_of r f.1, count_eqU t f.2]
theorem mth_count : MthX T X "list.count" oCount := by
  refine mthX_of (fun x xs S => ?_) fun pins s σ H x xs v us Q ρ S a vs τ I rx r rp ra rv h => ?_
  · unfold oCount
    repeat' split
    all_goals trivial
  · unfold oCount at h
    split at h
    · rename_i y ys el
      obtain ⟨w, e, rw'⟩ := vsr_one rv
      subst e
      obtain ⟨ad, ws, ew, eh, vr⟩ := rp.rdL el ra
      subst ew
      split at h
      · rename_i hz
        have e2 := flat_vr vr hz.2
        subst e2
        have e3 := (eqV_vr rw' rw' hz.1 hz.1).1
        subst e3
        have h := h ρ H _ Ext.refl rp rfl
        cases rx
        obtain ⟨u, rfl, ru⟩ := r.one
        obtain ⟨its, rv2, ⟨⟨cls, dd, data, sl⟩, n, ho, hc, hdn, hd⟩, hlen⟩ := I.list (.inl eh)
        simp only at hc hd
        subst hc hd
        refine call_meets PySem.F.slot_list_count ⟨_, ho, rfl⟩ PySem.F.entry_list_count (PySem.F.args_list_count_2 _ _)
          (SeqAt.list_countAt ad its.toArray n dd sl u (eqU w)) ⟨ho, fun y hy => mem_eqAt ru hz.1 rv2 hz.2 y (by simpa using hy), ?_⟩
        refine ⟨.int (its.countP (eqU w) : Nat), H, I.tok _, ⟨s.toks, rfl⟩, ?_⟩
        rw [count_eqU rv2 hz.2]
        exact h
      · exact h.elim
    · exact h.elim
/-- xs.index(y), of flat values, there -/
def oIndex : Mth := fun x as S => match as, rdL S x with
  | [y], some xs => if flatV y = true ∧ xs.all flatV = true ∧ xs.findIdx (fun z => eqV z y) < xs.length then .ok (.int (xs.findIdx fun z => eqV z y : Nat)) S else .bad
  | _, _ => .bad
theorem mth_index : MthX T X "list.index" oIndex := by
  refine mthX_of (fun x xs S => ?_) fun pins s σ H x xs v us Q ρ S a vs τ I rx r rp ra rv h => ?_
  · unfold oIndex
    repeat' split
    all_goals trivial
  · unfold oIndex at h
    split at h
    · rename_i y ys el
      obtain ⟨w, e, rw'⟩ := vsr_one rv
      subst e
      obtain ⟨ad, ws, ew, eh, vr⟩ := rp.rdL el ra
      subst ew
      split at h
      · rename_i hz
        have e2 := flat_vr vr hz.2.1
        subst e2
        have e3 := (eqV_vr rw' rw' hz.1 hz.1).1
        subst e3
        refine mt_index pins s σ H _ _ v us Q I rx r ⟨ad, ws, w, _, ws[ws.findIdx fun z => eqV z w], rfl, rfl, .inl eh, hz.1, hz.2.1, List.getElem?_eq_getElem hz.2.2, List.findIdx_getElem (w := hz.2.2), fun m z hm e => ?_, h ρ H _ Ext.refl rp rfl⟩
        have hl := List.getElem?_eq_some_iff.mp e
        have := List.not_of_lt_findIdx hm
        rw [hl.2] at this
        simpa using this
      · exact h.elim
    · exact h.elim
/-- d.get(k), d.get(k, x), d.pop(k), d.pop(k, x) -/
def oGet : Mth := fun x as S => match as, rdK S x with
  | [y], some kvs => (match keyOf y with
    | some k => .ok ((valV kvs k).getD .non) S
    | none => .bad)
  | [y, z], some kvs => (match keyOf y with
    | some k => .ok ((valV kvs k).getD z) S
    | none => .bad)
  | _, _ => .bad
theorem fr_getD {ρ : List Addr} {kvs ws : List (Key × V)} {k : Key} {z z' : V} (h : FR ρ kvs ws) (r : VR ρ z z') : VR ρ ((valV kvs k).getD z) ((valV ws k).getD z') := by
  cases e : valV kvs k with
  | none => rw [(fr_val h).2 e]; exact r
  | some v => obtain ⟨w, e2, q⟩ := fr_get h e; rw [e2]; exact q
theorem mth_get (hu : X.A.units + 1 < cLine) : MthX T X "dict.get" oGet := by
  refine mthX_of (fun x xs S => ?_) fun pins s σ H x xs v us Q ρ S a vs τ I rx r rp ra rv h => ?_
  · unfold oGet
    repeat' split
    all_goals trivial
  · unfold oGet at h
    split at h
    · rename_i y kvs el
      obtain ⟨w, e, rw'⟩ := vsr_one rv
      subst e
      obtain ⟨ad, ws, ew, eh, vr⟩ := rp.rdK el ra
      subst ew
      split at h
      · rename_i k ek
        have e3 := key_vr ek rw'
        subst e3
        cases rx
        obtain ⟨u, rfl, ru⟩ := r.one
        exact d_get1 hu I (.inl ⟨ws, k, eh, rfl, rfl⟩) ru fun w' s3 I3 rw' => ⟨_, H, I3, rw', h ρ H _ Ext.refl rp (fr_getD vr rfl)⟩
      · exact h.elim
    · rename_i y z kvs el
      obtain ⟨w, w2, e, rw', rz⟩ := vsr_two rv
      subst e
      obtain ⟨ad, ws, ew, eh, vr⟩ := rp.rdK el ra
      subst ew
      split at h
      · rename_i k ek
        have e3 := key_vr ek rw'
        subst e3
        cases rx
        obtain ⟨u, u2, rfl, ru, ru2⟩ := r.two
        exact d_get2 hu I (.inl ⟨ws, k, eh, rfl, rfl⟩) ru ru2 fun w' s3 I3 rw' => ⟨_, H, I3, rw', h ρ H _ Ext.refl rp (fr_getD vr rz)⟩
      · exact h.elim
    · exact h.elim
def oDPop : Mth := fun x as S => match x with
  | .ref i => match S[i]? with
    | some (.dK kvs) => (match as with
      | [y] => (match keyOf y with
        | some k => (match valV kvs k with
          | some v => .ok v (S.set i (.dK (dropK kvs k)))
          | none => .bad)
        | none => .bad)
      | [y, z] => (match keyOf y with
        | some k => (match valV kvs k with
          | some v => .ok v (S.set i (.dK (dropK kvs k)))
          | none => .ok z S)
        | none => .bad)
      | _ => .bad)
    | _ => .bad
  | _ => .bad
theorem mth_dpop : MthX T X "dict.pop" oDPop := by
  refine mthX_of (fun x xs S => ?_) fun pins s σ H x xs v us Q ρ S a vs τ I rx r rp ra rv h => ?_
  · unfold oDPop
    repeat' split
    all_goals trivial
  · unfold oDPop at h
    split at h
    · split at h
      · rename_i i _ kvs es
        obtain ⟨ad, u, ew, er, eh, ws, eu, vr⟩ := rp.ref es ra
        subst ew; subst eu
        have up : ∀ k, Rep (gm T X) ρ (S.set i (.dK (dropK kvs k))) (upd H ad (.dK (dropK ws k))) := fun k => rp.write es er (fun fs q => by rw [eh] at q; cases q) ⟨_, rfl, fr_drop vr⟩
        have ex : ∀ k, Ext ρ H ρ (upd H ad (.dK (dropK ws k))) := fun k => Ext.put eh fun _ _ q => nomatch q
        cases rx
        split at h
        · obtain ⟨w, e, rw'⟩ := vsr_one rv
          subst e
          split at h
          · rename_i k ek
            have e3 := key_vr ek rw'
            subst e3
            split at h
            · rename_i y ey
              obtain ⟨w2, e2, q2⟩ := fr_get vr ey
              obtain ⟨u, rfl, ru⟩ := r.one
              exact d_pop I eh ru e2 (.inl rfl) fun w' s3 I3 rw' => ⟨w2, _, I3, rw', h ρ _ _ (ex k) (up k) q2⟩
            · exact h.elim
          · exact h.elim
        · obtain ⟨w, w3, e, rw', rz⟩ := vsr_two rv
          subst e
          split at h
          · rename_i k ek
            have e3 := key_vr ek rw'
            subst e3
            obtain ⟨u, u2, rfl, ru, ru2⟩ := r.two
            split at h
            · rename_i y ey
              obtain ⟨w2, e2, q2⟩ := fr_get vr ey
              exact d_pop I eh ru e2 (.inr ⟨u2, rfl⟩) fun w' s3 I3 rw' => ⟨w2, _, I3, rw', h ρ _ _ (ex k) (up k) q2⟩
            · rename_i ey
              have e2 := (fr_val (k := k) vr).2 ey
              exact d_popD I eh ru e2 fun s3 I3 => ⟨w3, H, I3, ru2, h ρ H _ Ext.refl rp rz⟩
          · exact h.elim
        · exact h.elim
      · exact h.elim
    · exact h.elim
end
end Mi

namespace Mi
open PySem PySem.Spec L2
open PyProof.Rows hiding St

/-! ### constants of the module -/
def GlF (mg : Str → Option Value) (x : Str) (v : V) : Prop := ∃ u, mg x = some u ∧ RelV v u
theorem de_gl {T : Tab} {W : WX} {X : Cx} {pos : Pos} {x : Str} {v : V} (F : GlF X.mg x v) (hg : Gl X x := by rfl) (hv : ∀ i, v ≠ .ref i := by exact fun _ h => nomatch h) (hd : (x == ("__debug__" : Str)) = false := by decide) : DE T X W (.Name x pos) (mC v) := by
  obtain ⟨u, hm, r⟩ := F
  exact de_glob hg hm r hv hd

/-! ### rooms -/
theorem Ctx.u1 {X : Cx} {W : WX} {k : Nat} (C : Ctx X W k) : X.A.units + 1 < cLine := by have := C.room.un; omega
theorem Ctx.u64 {X : Cx} {W : WX} {k : Nat} (C : Ctx X W k) : X.A.units + 64 < cLine := by have := C.room.un; omega
theorem Ctx.u65 {X : Cx} {W : WX} {k : Nat} (C : Ctx X W k) : X.A.units + 65 < cLine := by have := C.room.un; omega
theorem CtH.u1 {X : Cx} {k : Nat} (C : CtH X k) : X.A.units + 1 < cLine := by have := C.un; omega
theorem CtH.u64 {X : Cx} {k : Nat} (C : CtH X k) : X.A.units + 64 < cLine := by have := C.un; omega
theorem CtH.u65 {X : Cx} {k : Nat} (C : CtH X k) : X.A.units + 65 < cLine := by have := C.un; omega

/-! ### what the top has written, as facts -/
section
variable {T : Tab} {P : Program} {w : World} {K : PySem.W.Frag} {h base : Heap} {mg : Str → Option Value}
theorem fnF_of {x : Str} {n k : Nat} {f : Fn} {a : Addr} {fd : FuncData} {ps : List Str} (m : mg x = some (.ref a)) (kp : PySem.W.keepIn K (.ref a) = true) (b : Binds K fd ps []) (F : FnOk P w K mg base (L2.CX P w) k a fd ps (spOf ⟨K, mg, T.cs, T.xs⟩ n f)) : FnF T P w K mg base x n k f := ⟨a, fd, ps, m, kp, b, F⟩
theorem meF_of {c n k : Nat} {m x : Str} {L : List Str} {f : Fn} {C a : Addr} {fd : FuncData} {ps : List Str} (hc : T.cs[c]? = some (x, L)) (hm : mg x = some (.ref C)) (hcl : Cls K C) (hme : Meth K C m a) (hn : m ∉ L) (b : Binds K fd ps []) (F : FnOk P w K mg base (L2.CX P w) k a fd ps (spOf ⟨K, mg, T.cs, T.xs⟩ n f)) : MeF T P w K mg base c m n k f := ⟨x, L, C, a, fd, ps, hc, hm, hcl, hme, hn, b, F⟩
theorem mkF_of {c n k l : Nat} {x : Str} {L : List Str} {f : Fn} {C a : Addr} {fd : FuncData} {ps : List Str} (hc : T.cs[c]? = some (x, L)) (hl : L.length = l) (hm : mg x = some (.ref C)) (hmk : Mk K C a) (b : Binds K fd ps []) (F : FnOk P w K mg base (L2.CX P w) k a fd ps (spOf ⟨K, mg, T.cs, T.xs⟩ n f)) : MkF T P w K mg base x c n k l f := ⟨L, C, a, fd, ps, hc, hl, hm, hmk, b, F⟩
end

/-! ### the end -/
def noLst (K : PySem.W.Frag) : Bool := K.all fun p => match p.2.cls with
  | .type t => t != "list"
  | _ => true
theorem look_mem {β : Type} {a : Addr} {o : β} : ∀ {K : List (Addr × β)}, K.lookup a = some o → (a, o) ∈ K
  | [], e => by cases e
  | (b, p) :: r, e => by
    by_cases z : a = b
    · subst z
      rw [List.lookup_cons_self] at e
      cases e
      exact List.mem_cons_self
    · rw [List.lookup_cons, show (a == b) = false from beq_eq_false_iff_ne.mpr z] at e
      exact List.mem_cons_of_mem _ (look_mem e)
theorem noLst_of {K : PySem.W.Frag} (h : noLst K = true) {a : Addr} {o : Obj} (e : K.lookup a = some o) : o.cls ≠ .type "list" := fun q => by
  have m := List.all_eq_true.mp h (a, o) (look_mem e)
  dsimp only at m
  rw [q] at m
  exact absurd m (by decide)
theorem walk_end {l : PySem.W.OpenLaw} {k : Nat} {q : Program} {loose : List Str} {XP : (Str → Option Value) → Heap → Prop} {YP : World → Heap → Prop} {d : DefRec} {K : Params → PySem.W.Frag} {T : Tab} {f : Fn} {x : Str}
    (hn : l.most = some 63) (hdf : d.params.defaults = []) (hr : Room k callerA) (hY : ∀ (w : World) (h : Heap), YP w h → (K w.params).In h) (hL : ∀ p : Params, noLst (K p) = true)
    (F : ∀ (w : World) (mg : Str → Option Value) (fa : Addr) (h : Heap), (K w.params).In h → h.Ns mainGlobals mg → mg d.name = some (.ref fa) →
      ∃ fd : FuncData, (∀ (s : Shared) (u : Value), BindsTo s fd ⟨[u], []⟩ [(x, u)]) ∧
        ∀ base : Heap, (K w.params).In base → base.Ns mainGlobals mg → FnOk l.prog w (K w.params) mg base (L2.CX l.prog w) k fa fd [x] (spOf ⟨K w.params, mg, T.cs, T.xs⟩ 1 f))
    (law : ∀ ns : List Int, ns.length ≤ 63 → (∀ z ∈ ns, Builtin.Int.intBits z ≤ 1048576) → ∃ S, f [.ref 0] [.lck (.lst (ns.map V.int))] = .ok (.bl true) S) :
    PySem.W.WalkO q loose XP YP l.row.toRowW d [] (fun f vs => PySem.call f vs) := by
  refine Att.attach_callB hn hdf fun w s₀ s₁ mg mb fa o pm cd doc a vs ns G Y ho hd hcd hmg hobj hints hlen hbits hg => ?_
  have KX := hY w _ Y
  obtain ⟨fd, hb, hF⟩ := F w mg fa _ KX G.T.g hmg
  refine law_call (sp := spOf ⟨K w.params, mg, T.cs, T.xs⟩ 1 f) KX G.T.g G.T.b G.T.builtins G.T.nolimit hg hobj hints (Nat.le_trans hlen (by decide)) hr hF hb (fun H hO hS => ?_) fun H e s' ⟨_, _, _, _, _, _, _, _, _, _, _, _, h⟩ => h
  obtain ⟨S, e⟩ := law ns hlen hbits
  have hH : ∃ ob, H a = some (.frz ob (.lst (ns.map V.int))) := by
    rcases hS with hS | ⟨o, _, _, hk, hc, _⟩
    · rcases hS with hS | ⟨ob, hS⟩
      · rcases hO a with z | ⟨ob, xs, z⟩
        · rw [hS] at z; cases z
        · rw [hS] at z; cases z
      · exact ⟨ob, hS⟩
    · exact absurd hc (noLst_of (hL _) hk)
  obtain ⟨ob, hH⟩ := hH
  refine ⟨rfl, [a], [.lck (.lst (ns.map V.int))], [.ref 0], [], ⟨by simp, rfl, fun i o b h1 h2 => ?_⟩, .cons ⟨a, rfl, rfl⟩ .nil, ?_⟩
  · cases i with
    | succ i => cases h1
    | zero =>
      cases h1
      cases h2
      exact ⟨_, hH, ob, _, rfl, _, rfl, ints_vsr ns⟩
  · rw [e]
    exact fun ρ2 H2 w p2 r2 x2 => x2
end Mi

namespace Mi
open PySem PySem.Spec L2
open PyProof.Rows hiding St

/-- the i-th statement of the top -/
def atTop (p : Program) (i : Nat) : Stmt := p.main.body.getD i (.Pass ⟨0, 0, 0, 0⟩)

/-! ### isinstance by the names of classes -/
/-- what a name of a class stands for -/
def NmV (mg : Str → Option Value) (x : Str) (v : Value) : Prop := (∃ C, mg x = some (.ref C) ∧ v = .ref C) ∨ ∃ t, mg x = none ∧ bootBuiltins x = some (.type t) ∧ v = .type t
def IsiF (T : Tab) (K : PySem.W.Frag) (mg : Str → Option Value) (xs : List Str) (tab : List (Tag × Bool)) : Prop := ∃ vs : List Value, Paired (NmV mg) xs vs ∧ ITab T K mg vs tab
section
variable {T : Tab} {W : WX} {X : Cx} {e : Expr} {m : ME} {p pos p2 tpos : Pos} {x : Str} {tab : List (Tag × Bool)}
theorem nm_pe {v : Value} (h : NmV X.mg x v) (hg : Gl X x) (hn : x ≠ "__name__") (hd : (x == ("__debug__" : Str)) = false) : ∃ cw, ClsV cw v ∧ PE X (.Name x p) (tC cw) := by
  rcases h with ⟨C, hm, rfl⟩ | ⟨t, hm, hb, rfl⟩
  · exact ⟨.ref C, .own C, pe_glob hg hm rfl hd⟩
  · exact ⟨.ty t, .ty t, pe_bltn hg hm hb rfl hn hd⟩
theorem de_is1 (hm : X.mg "isinstance" = none) (F : IsiF T X.K X.mg [x] tab) (he : DE T X W e m) (hgx : Gl X x := by rfl) (hn : x ≠ "__name__" := by decide) (hd : (x == ("__debug__" : Str)) = false := by decide) (hg : Gl X "isinstance" := by rfl)
    (hs1 : starEach [e, .Name x p2] X.env = (false, eval e X.env) :: starEach [.Name x p2] X.env := by rfl) (hs2 : starEach [.Name x p2] X.env = (false, eval (.Name x p2) X.env) :: starEach [] X.env := by rfl) (hpl : (backTo pos (starEach [.Name x p2] X.env)).any (·.1) = false := by rfl) :
    DE T X W (.Call (.Name "isinstance" p) [e, .Name x p2] [] pos) (mIsi tab m) := by
  obtain ⟨vs, hv, ht⟩ := F
  cases hv with
  | cons h1 h2 =>
    cases h2
    obtain ⟨cw, hc, he2⟩ := nm_pe (p := p2) h1 hgx hn hd
    exact de_isi hm he he2 hc ht hg hs1 hs2 hpl
/-- names of classes, each global -/
inductive Nms (X : Cx) : List Expr → List Str → Prop
  | nil : Nms X [] []
  | cons {x : Str} {p : Pos} {es : List Expr} {xs : List Str} (hg : Gl X x) (hn : x ≠ "__name__") (hd : (x == ("__debug__" : Str)) = false) (r : Nms X es xs) : Nms X (.Name x p :: es) (x :: xs)
theorem nms_len {es : List Expr} {xs : List Str} (h : Nms X es xs) : es.length = xs.length := by
  induction h with
  | nil => rfl
  | cons _ _ _ _ ih => rw [List.length_cons, List.length_cons, ih]
theorem nms_pa {es : List Expr} {xs : List Str} (h : Nms X es xs) : ∀ {vs : List Value}, Paired (NmV X.mg) xs vs → ∃ (cws : List V) (tc : TA), Paired ClsV cws vs ∧ cws.length = es.length ∧ PA X es tc ∧ ∀ σ H Q, Q cws H → tc σ H Q := by
  induction h with
  | nil => intro vs hv; cases hv; exact ⟨[], tNil, .nil, rfl, pa_nil, fun _ _ _ h => h⟩
  | cons hg hn hd r ih =>
    intro vs hv
    cases hv with
    | cons h1 h2 =>
      obtain ⟨cws, tc, q1, q2, q3, q4⟩ := ih h2
      obtain ⟨cw, hc, he2⟩ := nm_pe h1 hg hn hd
      refine ⟨cw :: cws, _, .cons hc q1, by rw [List.length_cons, List.length_cons, q2], pa_cons he2 q3 rfl, fun σ H Q h => ?_⟩
      exact q4 σ H _ h
theorem de_isN {es : List Expr} {xs : List Str} {kk : Nat} (hm : X.mg "isinstance" = none) (F : IsiF T X.K X.mg xs tab) (he : DE T X W e m) (N : Nms X es xs) (hl : xs.length ≤ 100 := by decide) (hg : Gl X "isinstance" := by rfl)
    (hs1 : starEach [e, .Tuple es kk tpos] X.env = (false, eval e X.env) :: starEach [.Tuple es kk tpos] X.env := by rfl) (hs2 : starEach [.Tuple es kk tpos] X.env = (false, eval (.Tuple es kk tpos) X.env) :: starEach [] X.env := by rfl) (hpl : (backTo pos (starEach [.Tuple es kk tpos] X.env)).any (·.1) = false := by rfl) :
    DE T X W (.Call (.Name "isinstance" p) [e, .Tuple es kk tpos] [] pos) (mIsi tab m) := by
  obtain ⟨vs, hv, ht⟩ := F
  obtain ⟨cws, tc, q1, q2, q3, q4⟩ := nms_pa N hv
  exact de_isiT hm he q3 q4 q1 (by rw [q2, nms_len N]; exact Nat.le_trans hl (by decide)) ht hg hs1 hs2 hpl
end
/-- except x: what it takes -/
def SbF (T : Tab) (K : PySem.W.Frag) (mg : Str → Option Value) (x : Str) (sub : Nat → Bool) : Prop := ∃ v, NmV mg x v ∧ XSub T K mg v sub
theorem itab_nil {T : Tab} {K : PySem.W.Frag} {mg : Str → Option Value} {cs : List Value} : ITab T K mg cs [] := trivial
theorem itab_ty {T : Tab} {K : PySem.W.Frag} {mg : Str → Option Value} {cs : List Value} {t : Tag} {u : Value} {b : Bool} {r : List (Tag × Bool)} (ht : TagV T K mg t u) (hk : PySem.W.kitAny K u cs = some b) (hr : ITab T K mg cs r) : ITab T K mg cs ((t, b) :: r) := ⟨⟨u, ht, hk⟩, hr⟩
section
variable {T : Tab} {W : WX} {X : Cx} {k : Nat} {body suite : List Stmt} {b₀ : Stmt} {np pos pos' : Pos} {x n : Str} {mb ms : MS} {sub : Nat → Bool} {i : Nat}
theorem sb_names {v : Value} (h : NmV X.mg x v) (hg : Gl X x) (hn : x ≠ "__name__") (hd : (x == ("__debug__" : Str)) = false) : Names X x v := by
  rcases h with ⟨C, hm, rfl⟩ | ⟨t, hm, hb, rfl⟩
  · exact ⟨hg, hd, .inl hm⟩
  · exact ⟨hg, hd, .inr ⟨hm, hb, hn⟩⟩
theorem ds_tryA (C : CtS X W k) (F : SbF T X.K X.mg x sub) (hb : ∀ (pn : List (Addr × Obj)) (xe : Value → Shared → Prop) (W' : WX), CtS (X.tr pn xe) W' k → DSs T (X.tr pn xe) W' body mb)
    (hsu : ∀ (a : Addr) (pn : List (Addr × Obj)), CtH (X.suite a pn) k → DSs T (X.suite a pn) W0 (b₀ :: suite) ms) (hi : X.N[i]? = some n := by rfl) (hln : X.env.kindOf n = some .local := by rfl) (hg : Gl X x := by rfl) (hn : x ≠ "__name__" := by decide) (hd : (x == ("__debug__" : Str)) = false := by decide) :
    DS T X W (.Try body [.ExceptHandler (some (.Name x np)) (some n) (b₀ :: suite) pos'] [] [] pos) (mTry mb sub (some i) ms) := by
  obtain ⟨v, hv, hs⟩ := F
  exact ds_tryAs C (sb_names hv hg hn hd) hs hb hsu hi hln
theorem ds_tryN (C : CtS X W k) (F : SbF T X.K X.mg x sub) (hb : ∀ (pn : List (Addr × Obj)) (xe : Value → Shared → Prop) (W' : WX), CtS (X.tr pn xe) W' k → DSs T (X.tr pn xe) W' body mb)
    (hsu : ∀ (a : Addr) (pn : List (Addr × Obj)), CtH (X.suite a pn) k → DSs T (X.suite a pn) W0 (b₀ :: suite) ms) (hg : Gl X x := by rfl) (hn : x ≠ "__name__" := by decide) (hd : (x == ("__debug__" : Str)) = false := by decide) :
    DS T X W (.Try body [.ExceptHandler (some (.Name x np)) none (b₀ :: suite) pos'] [] [] pos) (mTry mb sub none ms) := by
  obtain ⟨v, hv, hs⟩ := F
  exact ds_try C (sb_names hv hg hn hd) hs hb hsu
end
end Mi

namespace Mi
open PySem PySem.Spec L2
open PyProof.Rows hiding St

/-! ### the plain side: how the functions run -/
section
variable {α β : Type}
@[simp] theorem bind_ok (a : α) (S : Sto) (f : α → Sto → R β) : (R.ok a S).bind f = f a S := rfl
@[simp] theorem bind_exc (c : Nat) (d : Option V) (S : Sto) (f : α → Sto → R β) : (R.exc c d S).bind f = .exc c d S := rfl
@[simp] theorem bind_bad (f : α → Sto → R β) : (R.bad : R α).bind f = .bad := rfl
@[simp] theorem lift_ok (a : α) (S : Sto) (σ : St) (f : α → Sto → RS) : (R.ok a S).lift σ f = f a S := rfl
@[simp] theorem lift_exc (c : Nat) (d : Option V) (S : Sto) (σ : St) (f : α → Sto → RS) : (R.exc c d S).lift σ f = .exc c d σ S := rfl
@[simp] theorem lift_bad (σ : St) (f : α → Sto → RS) : (R.bad : R α).lift σ f = .bad := rfl
@[simp] theorem seq_nx (σ : St) (S : Sto) (f : St → Sto → RS) : (RS.nx σ S).seq f = f σ S := rfl
@[simp] theorem seq_rt (v : V) (S : Sto) (f : St → Sto → RS) : (RS.rt v S).seq f = .rt v S := rfl
@[simp] theorem seq_bk (σ : St) (S : Sto) (f : St → Sto → RS) : (RS.bk σ S).seq f = .bk σ S := rfl
@[simp] theorem seq_ct (σ : St) (S : Sto) (f : St → Sto → RS) : (RS.ct σ S).seq f = .ct σ S := rfl
@[simp] theorem seq_exc (c : Nat) (d : Option V) (σ : St) (S : Sto) (f : St → Sto → RS) : (RS.exc c d σ S).seq f = .exc c d σ S := rfl
end
def fin : RS → R V
  | .rt v S1 => .ok v S1
  | .nx _ S1 => .ok .non S1
  | .exc c d _ S1 => .exc c d S1
  | _ => .bad
@[simp] theorem fnOf_ap (n : Nat) (m : MS) (args : List V) (S : Sto) : fnOf n m args S = fin (m (args.map some ++ List.replicate (n - args.length) none) S) := rfl
theorem fnOf_fr {n : Nat} {m : MS} {args : List V} {S : Sto} (σ : St) (h : args.map some ++ List.replicate (n - args.length) none = σ) : fnOf n m args S = fin (m σ S) := by rw [← h]; rfl
@[simp] theorem fin_rt (v : V) (S : Sto) : fin (.rt v S) = .ok v S := rfl
@[simp] theorem fin_nx (σ : St) (S : Sto) : fin (.nx σ S) = .ok .non S := rfl
@[simp] theorem fin_exc (c : Nat) (d : Option V) (σ : St) (S : Sto) : fin (.exc c d σ S) = .exc c d S := rfl
def opV (S : Sto) : Option (Option V) → R V
  | some (some v) => .ok v S
  | _ => .bad
@[simp] theorem opV_some (S : Sto) (v : V) : opV S (some (some v)) = .ok v S := rfl
def kB : V → Sto → R Bool := fun x S1 => match x with
  | .bl b => .ok b S1
  | _ => .bad
@[simp] theorem kB_bl (b : Bool) (S : Sto) : kB (.bl b) S = .ok b S := rfl
def kAnd (f : Sto → R V) : V → Sto → R V := fun x S1 => match x with
  | .bl true => f S1
  | .bl false => .ok (.bl false) S1
  | _ => .bad
def kOr (f : Sto → R V) : V → Sto → R V := fun x S1 => match x with
  | .bl true => .ok (.bl true) S1
  | .bl false => f S1
  | _ => .bad
def kNot : V → Sto → R V := fun x S1 => match x with
  | .bl b => .ok (.bl (!b)) S1
  | _ => .bad
@[simp] theorem kAnd_bl (f : Sto → R V) (b : Bool) (S : Sto) : kAnd f (.bl b) S = if b = true then f S else .ok (.bl false) S := by cases b <;> rfl
@[simp] theorem kOr_bl (f : Sto → R V) (b : Bool) (S : Sto) : kOr f (.bl b) S = if b = true then .ok (.bl true) S else f S := by cases b <;> rfl
@[simp] theorem kNot_bl (b : Bool) (S : Sto) : kNot (.bl b) S = .ok (.bl (!b)) S := rfl
def oIsi (tab : List (Tag × Bool)) : V → Sto → R V := fun v S1 => match tagOf S1 v with
  | some t => match lookT tab t with
    | some b => .ok (.bl b) S1
    | none => .bad
  | none => .bad
def isiR (S : Sto) : Option Bool → R V
  | some b => .ok (.bl b) S
  | none => .bad
@[simp] theorem isiR_some (S : Sto) (b : Bool) : isiR S (some b) = .ok (.bl b) S := rfl
theorem oIsi_tag {tab : List (Tag × Bool)} {v : V} {S : Sto} {t : Tag} (h : tagOf S v = some t) : oIsi tab v S = isiR S (lookT tab t) := by
  unfold oIsi
  rw [h]
  dsimp only
  cases lookT tab t <;> rfl
@[simp] theorem oIsi_int (tab : List (Tag × Bool)) (i : Int) (S : Sto) : oIsi tab (.int i) S = isiR S (lookT tab .int) := oIsi_tag rfl
@[simp] theorem oIsi_bl (tab : List (Tag × Bool)) (i : Bool) (S : Sto) : oIsi tab (.bl i) S = isiR S (lookT tab .bl) := oIsi_tag rfl
@[simp] theorem oIsi_non (tab : List (Tag × Bool)) (S : Sto) : oIsi tab .non S = isiR S (lookT tab .non) := oIsi_tag rfl
@[simp] theorem oIsi_str (tab : List (Tag × Bool)) (x : Str) (S : Sto) : oIsi tab (.str x) S = isiR S (lookT tab .str) := oIsi_tag rfl
theorem oIsi_exc {tab : List (Tag × Bool)} {i c : Nat} {S : Sto} (h : S[i]? = some (.exc c none)) : oIsi tab (.ref i) S = isiR S (lookT tab (.exc c)) := oIsi_tag (by simp only [tagOf, h])
theorem oIsi_lst {tab : List (Tag × Bool)} {i : Nat} {xs : List V} {S : Sto} (h : S[i]? = some (.lst xs)) : oIsi tab (.ref i) S = isiR S (lookT tab .lst) := oIsi_tag (by simp only [tagOf, h])
theorem oIsi_tup {tab : List (Tag × Bool)} {i : Nat} {xs : List V} {S : Sto} (h : S[i]? = some (.tup xs)) : oIsi tab (.ref i) S = isiR S (lookT tab .tup) := oIsi_tag (by simp only [tagOf, h])
theorem oIsi_dct {tab : List (Tag × Bool)} {i : Nat} {xs : List (Key × V)} {S : Sto} (h : S[i]? = some (.dK xs)) : oIsi tab (.ref i) S = isiR S (lookT tab .dct) := oIsi_tag (by simp only [tagOf, h])
section
variable (σ : St) (S : Sto)
@[simp] theorem mVar_ap (i : Nat) : mVar i σ S = opV S σ[i]? := by
  unfold mVar opV
  cases σ[i]? with
  | none => rfl
  | some o => cases o <;> rfl
@[simp] theorem mC_ap (v : V) : mC v σ S = .ok v S := rfl
@[simp] theorem mUn_ap (o : V → Sto → R V) (a : ME) : mUn o a σ S = (a σ S).bind o := rfl
@[simp] theorem mBin_ap (o : V → V → Sto → R V) (a b : ME) : mBin o a b σ S = (a σ S).bind fun x S1 => (b σ S1).bind fun y S2 => o x y S2 := rfl
@[simp] theorem mNil_ap : mNil σ S = .ok [] S := rfl
@[simp] theorem mCons_ap (a : ME) (r : MA) : mCons a r σ S = (a σ S).bind fun x S1 => (r σ S1).bind fun xs S2 => .ok (x :: xs) S2 := rfl
@[simp] theorem mCall_ap (f : List V → Sto → R V) (a : MA) : mCall f a σ S = (a σ S).bind f := rfl
@[simp] theorem mB_ap (a : ME) : mB a σ S = (a σ S).bind kB := rfl
@[simp] theorem mNot_ap (a : MT) : mNot a σ S = (a σ S).bind fun b S1 => .ok (!b) S1 := rfl
@[simp] theorem mAnd_ap (a b : MT) : mAnd a b σ S = (a σ S).bind fun x S1 => if x = true then b σ S1 else .ok false S1 := rfl
@[simp] theorem mOr_ap (a b : MT) : mOr a b σ S = (a σ S).bind fun x S1 => if x = true then .ok true S1 else b σ S1 := rfl
@[simp] theorem mIf_ap (c : MT) (a b : ME) : mIf c a b σ S = (c σ S).bind fun x S1 => if x = true then a σ S1 else b σ S1 := rfl
@[simp] theorem mAndV_ap (a b : ME) : mAndV a b σ S = (a σ S).bind (kAnd (b σ)) := rfl
@[simp] theorem mOrV_ap (a b : ME) : mOrV a b σ S = (a σ S).bind (kOr (b σ)) := rfl
@[simp] theorem mNotV_ap (a : ME) : mNotV a σ S = (a σ S).bind kNot := rfl
@[simp] theorem mIsi_ap (tab : List (Tag × Bool)) (a : ME) : mIsi tab a σ S = (a σ S).bind (oIsi tab) := rfl
def kLst : List V → Sto → R V := fun xs S1 => if xs.length ≤ sizeLine then .ok (.ref S1.length) (S1 ++ [.lst xs]) else .bad
def kTup : List V → Sto → R V := fun xs S1 => if xs.length ≤ sizeLine then .ok (.ref S1.length) (S1 ++ [.tup xs]) else .bad
@[simp] theorem mLst_ap (a : MA) : mLst a σ S = (a σ S).bind kLst := rfl
@[simp] theorem mTup_ap (a : MA) : mTup a σ S = (a σ S).bind kTup := rfl
def kApp (n : Nat) (f : Fn) : List V → Sto → R V := fun xs S1 => if xs.length = n then f xs S1 else .bad
@[simp] theorem mApp_ap (n : Nat) (f : Fn) (a : MA) : mApp n f a σ S = (a σ S).bind (kApp n f) := rfl
@[simp] theorem mBM_ap (Ty : String) (o : Mth) (a : ME) (b : MA) : mBM Ty o a b σ S = (a σ S).bind fun x S1 => if tyS Ty S1 x = true then (b σ S1).bind fun xs S2 => o x xs S2 else .bad := rfl
@[simp] theorem mSkip_ap : mSkip σ S = .nx σ S := rfl
@[simp] theorem mSeq_ap (a b : MS) : mSeq a b σ S = (a σ S).seq b := rfl
@[simp] theorem mExpr_ap (a : ME) : mExpr a σ S = (a σ S).lift σ fun _ S1 => .nx σ S1 := rfl
@[simp] theorem mSet_ap (i : Nat) (a : ME) : mSet i a σ S = (a σ S).lift σ fun v S1 => .nx (σ.set i (some v)) S1 := rfl
@[simp] theorem mRet_ap (a : ME) : mRet a σ S = (a σ S).lift σ fun v S1 => .rt v S1 := rfl
@[simp] theorem mRetN_ap : mRetN σ S = .rt .non S := rfl
@[simp] theorem mBrk_ap : mBrk σ S = .bk σ S := rfl
@[simp] theorem mCnt_ap : mCnt σ S = .ct σ S := rfl
@[simp] theorem mIfS_ap (c : MT) (a b : MS) : mIfS c a b σ S = (c σ S).lift σ fun x S1 => if x = true then a σ S1 else b σ S1 := rfl
@[simp] theorem mAug_ap (i : Nat) (o : V → V → Sto → R V) (a : ME) : mAug i o a σ S = (mVar i σ S).lift σ fun x S0 => (a σ S0).lift σ fun y S1 => (o x y S1).lift σ fun z S2 => .nx (σ.set i (some z)) S2 := rfl
@[simp] theorem mRaise_ap (c : Nat) : mRaise c σ S = .exc c none σ S := rfl
theorem mFor_ap (src : St → Sto → R Src) (tg : Tg) (b : MS) : mFor src tg b σ S = (src σ S).lift σ fun s S1 => mFor1 s.chk tg b s.its σ S1 := rfl
def kRange1 : List V → Sto → R Src := fun vs S1 => match vs with
  | [.int j] => if -(2 ^ 62) ≤ j ∧ j < 2 ^ 62 then .ok ⟨intsFrom 0 j.toNat, fun _ => true⟩ S1 else .bad
  | _ => .bad
@[simp] theorem mRange1_ap (ms : MA) : mRange1 ms σ S = (ms σ S).bind kRange1 := rfl
theorem kRange1_int {j : Int} (h : 0 ≤ j ∧ j < 2 ^ 62) : kRange1 [.int j] S = .ok ⟨intsFrom 0 j.toNat, fun _ => true⟩ S := if_pos ⟨by omega, h.2⟩
def kWalk : V → Sto → R Src := fun v S1 => match walkOf S1 v with
  | some s => .ok s S1
  | none => .bad
@[simp] theorem mWalk_ap (m : ME) : mWalk m σ S = (m σ S).bind kWalk := rfl
theorem kWalk_lst {i : Nat} {xs : List V} (h : S[i]? = some (.lst xs)) : kWalk (.ref i) S = .ok ⟨xs.map .v, fun S' => decide (S'[i]? = some (.lst xs))⟩ S := by
  simp only [kWalk, walkOf, h]
theorem kWalk_lck {i : Nat} {xs : List V} (h : S[i]? = some (.lck (.lst xs))) : kWalk (.ref i) S = .ok ⟨xs.map .v, fun S' => decide (S'[i]? = some (.lck (.lst xs)))⟩ S := by
  simp only [kWalk, walkOf, h]
theorem kWalk_tup {i : Nat} {xs : List V} (h : S[i]? = some (.tup xs)) : kWalk (.ref i) S = .ok ⟨xs.map .v, fun S' => decide (S'[i]? = some (.tup xs))⟩ S := by
  simp only [kWalk, walkOf, h]
def kCatch (sub : Nat → Bool) (i : Option Nat) (suite : MS) : RS → RS := fun r => match r with
  | .exc c d σ1 S1 => if sub c = true then (match i with
    | some j => (match suite (σ1.set j (some (.ref S1.length))) (S1 ++ [.exc c d]) with
      | .nx σ2 S2 => .nx (σ2.set j none) S2
      | .rt v S2 => .rt v S2
      | .bk σ2 S2 => .bk (σ2.set j none) S2
      | .ct σ2 S2 => .ct (σ2.set j none) S2
      | _ => .bad)
    | none => (match suite σ1 S1 with
      | .exc _ _ _ _ => .bad
      | r => r)) else .exc c d σ1 S1
  | r => r
@[simp] theorem mTry_ap (body : MS) (sub : Nat → Bool) (i : Option Nat) (suite : MS) : mTry body sub i suite σ S = kCatch sub i suite (body σ S) := rfl
@[simp] theorem kCatch_nx (sub : Nat → Bool) (i : Option Nat) (suite : MS) : kCatch sub i suite (.nx σ S) = .nx σ S := rfl
@[simp] theorem kCatch_rt (sub : Nat → Bool) (i : Option Nat) (suite : MS) (v : V) : kCatch sub i suite (.rt v S) = .rt v S := rfl
end
def unCat (j : Nat) : RS → RS
  | .nx σ2 S2 => .nx (σ2.set j none) S2
  | .rt v S2 => .rt v S2
  | .bk σ2 S2 => .bk (σ2.set j none) S2
  | .ct σ2 S2 => .ct (σ2.set j none) S2
  | _ => .bad
@[simp] theorem unCat_nx (j : Nat) (σ : St) (S : Sto) : unCat j (.nx σ S) = .nx (σ.set j none) S := rfl
@[simp] theorem unCat_rt (j : Nat) (v : V) (S : Sto) : unCat j (.rt v S) = .rt v S := rfl
theorem kCatch_as (sub : Nat → Bool) (j : Nat) (suite : MS) (c : Nat) (d : Option V) (σ : St) (S : Sto) (h : sub c = true) : kCatch sub (some j) suite (.exc c d σ S) = unCat j (suite (σ.set j (some (.ref S.length))) (S ++ [.exc c d])) := by
  show (if sub c = true then _ else _) = _
  rw [if_pos h]
  generalize suite (σ.set j (some (.ref S.length))) (S ++ [.exc c d]) = r
  cases r <;> rfl
theorem kCatch_no (sub : Nat → Bool) (i : Option Nat) (suite : MS) (c : Nat) (d : Option V) (σ : St) (S : Sto) (h : sub c = false) : kCatch sub i suite (.exc c d σ S) = .exc c d σ S := by
  show (if sub c = true then _ else _) = _
  rw [if_neg (by rw [h]; exact Bool.false_ne_true)]
def unBad : RS → RS
  | .exc _ _ _ _ => .bad
  | r => r
@[simp] theorem unBad_nx (σ : St) (S : Sto) : unBad (.nx σ S) = .nx σ S := rfl
@[simp] theorem unBad_rt (v : V) (S : Sto) : unBad (.rt v S) = .rt v S := rfl
theorem kCatch_n (sub : Nat → Bool) (suite : MS) (c : Nat) (d : Option V) (σ : St) (S : Sto) (h : sub c = true) : kCatch sub none suite (.exc c d σ S) = unBad (suite σ S) := by
  show (if sub c = true then _ else _) = _
  rw [if_pos h]
  generalize suite σ S = r
  cases r <;> rfl
/-! operations -/
section
variable (S : Sto)
@[simp] theorem oAdd_int (i j : Int) : oAdd (.int i) (.int j) S = .ok (.int (i + j)) S := rfl
@[simp] theorem oSub_int (i j : Int) : oSub (.int i) (.int j) S = .ok (.int (i - j)) S := rfl
@[simp] theorem oIAdd_int (i j : Int) : oIAdd (.int i) (.int j) S = .ok (.int (i + j)) S := rfl
@[simp] theorem oNeg_int (i : Int) : oNeg (.int i) S = .ok (.int (-i)) S := rfl
theorem oMod_int (i j : Int) (h : 0 < j) : oMod (.int i) (.int j) S = .ok (.int (i % j)) S := if_pos h
theorem oDiv_int (i j : Int) (h : DivOk j) : oDiv (.int i) (.int j) S = .ok (.int (i / j)) S := if_pos h
theorem oMul_int (i j : Int) (h : IntMulOk i j) : oMul (.int i) (.int j) S = .ok (.int (i * j)) S := if_pos h
theorem oPow_int (i j : Int) (h : 0 ≤ j ∧ j ≤ 1000000 ∧ i.natAbs < 2 ^ 64) : oPow (.int i) (.int j) S = .ok (.int (i ^ j.toNat)) S := if_pos h
@[simp] theorem oCmp_int (p : Int → Int → Bool) (i j : Int) : oCmp p (.int i) (.int j) S = .ok (.bl (p i j)) S := rfl
theorem oEqD_of {neg : Bool} {x y : V} {d e : PyData} (h1 : rdD S eqDepth x = some d) (h2 : rdD S eqDepth y = some e) (h3 : SeqAt.shaped d = true) (h4 : SeqAt.shaped e = true) : oEqD neg x y S = .ok (.bl (neg != PyData.eqv d e)) S := by
  unfold oEqD
  rw [h1, h2]
  exact if_pos ⟨h3, h4⟩
@[simp] theorem oEqD_int (neg : Bool) (i j : Int) : oEqD neg (.int i) (.int j) S = .ok (.bl (neg != (i == j))) S := oEqD_of S (d := .int i) (e := .int j) rfl rfl rfl rfl
@[simp] theorem oEqD_bl (neg : Bool) (i j : Bool) : oEqD neg (.bl i) (.bl j) S = .ok (.bl (neg != (i == j))) S := oEqD_of S (d := .bool i) (e := .bool j) rfl rfl rfl rfl
theorem oEqD_str (neg : Bool) (i j : Str) (h : (PyData.str i).canLay0 = true) (h' : (PyData.str j).canLay0 = true) : oEqD neg (.str i) (.str j) S = .ok (.bl (neg != (i == j))) S := oEqD_of S (d := .str i) (e := .str j) rfl rfl (by unfold SeqAt.shaped; rw [h]; rfl) (by unfold SeqAt.shaped; rw [h']; rfl)
@[simp] theorem oEqD_non_int (neg : Bool) (j : Int) : oEqD neg .non (.int j) S = .ok (.bl (neg != false)) S := oEqD_of S (d := .none) (e := .int j) rfl rfl rfl rfl
@[simp] theorem oEqD_int_non (neg : Bool) (j : Int) : oEqD neg (.int j) .non S = .ok (.bl (neg != false)) S := oEqD_of S (d := .int j) (e := .none) rfl rfl rfl rfl
@[simp] theorem oEqD_non (neg : Bool) : oEqD neg .non .non S = .ok (.bl (neg != true)) S := oEqD_of S (d := .none) (e := .none) rfl rfl rfl rfl
@[simp] theorem oIs_non (x : V) : oIs x .non S = .ok (.bl (isNon x)) S := rfl
@[simp] theorem oIsN_non (x : V) : oIsN x .non S = .ok (.bl (!isNon x)) S := rfl
theorem rdL_lst {i : Nat} {xs : List V} (h : S[i]? = some (.lst xs)) : rdL S (.ref i) = some xs := by
  simp only [rdL, h]
theorem rdL_lck {i : Nat} {xs : List V} (h : S[i]? = some (.lck (.lst xs))) : rdL S (.ref i) = some xs := by
  simp only [rdL, h]
theorem oAdd_lst {i j : Nat} {xs ys : List V} (h1 : rdL S (.ref i) = some xs) (h2 : rdL S (.ref j) = some ys) (h : xs.length + ys.length ≤ sizeLine) : oAdd (.ref i) (.ref j) S = .ok (.ref S.length) (S ++ [.lst (xs ++ ys)]) := by
  show (match rdL S (.ref i), rdL S (.ref j) with
    | some xs, some ys => _
    | _, _ => _) = _
  rw [h1, h2]
  exact if_pos h
theorem oCount_of {x y : V} {xs : List V} (h : rdL S x = some xs) (fy : flatV y = true) (fs : xs.all flatV = true) : oCount x [y] S = .ok (.int (xs.countP fun z => eqV z y : Nat)) S := by
  unfold oCount
  rw [h]
  exact if_pos ⟨fy, fs⟩
end
theorem get_old {S : Sto} {i : Nat} {o : Ob} (h : S[i]? = some o) (ex : Sto) : (S ++ ex)[i]? = some o := by
  rw [List.getElem?_append_left (List.getElem?_eq_some_iff.mp h).1]
  exact h
theorem get_new (S : Sto) (k : Nat) (ex : Sto) : (S ++ ex)[S.length + k]? = ex[k]? := by
  rw [List.getElem?_append_right (Nat.le_add_right _ _), Nat.add_sub_cancel_left]
theorem get_new0 (S : Sto) (ex : Sto) : (S ++ ex)[S.length]? = ex[0]? := get_new S 0 ex
/-- a loop whose turns go on -/
theorem for_inv {chk : Sto → Bool} {tg : Tg} {b : MS} (P : List Itv → St → Sto → Prop) (hc : ∀ r σ S, P r σ S → chk S = true)
    (h : ∀ it r σ S, P (it :: r) σ S → ∃ σ1 σ2 S2, tg it σ S = some σ1 ∧ (b σ1 S = .nx σ2 S2 ∨ b σ1 S = .ct σ2 S2) ∧ P r σ2 S2) : ∀ {its : List Itv} {σ : St} {S : Sto}, P its σ S → ∃ σ' S', mFor1 chk tg b its σ S = .nx σ' S' ∧ P [] σ' S'
  | [], σ, S, p => ⟨σ, S, if_pos (hc _ _ _ p), p⟩
  | it :: r, σ, S, p => by
    obtain ⟨σ1, σ2, S2, e1, e2, q⟩ := h it r σ S p
    obtain ⟨σ', S', e3, q2⟩ := for_inv P hc h q
    refine ⟨σ', S', ?_, q2⟩
    unfold mFor1
    rw [if_pos (hc _ _ _ p), e1]
    dsimp only
    rcases e2 with e2 | e2 <;> rw [e2] <;> exact e3
/-- the whole ends with a value -/
def Ends (r : RS) (v : V) : Prop := ∃ S, fin r = .ok v S
theorem Ends.rt {v : V} {S : Sto} : Ends (.rt v S) v := ⟨S, rfl⟩
theorem for_seq {chk : Sto → Bool} {tg : Tg} {b : MS} (P : List Itv → St → Sto → Prop) {f : St → Sto → RS} {v : V} {its : List Itv} {σ : St} {S : Sto} (p : P its σ S) (hc : ∀ r σ S, P r σ S → chk S = true)
    (h : ∀ it r σ S, P (it :: r) σ S → ∃ σ1 σ2 S2, tg it σ S = some σ1 ∧ (b σ1 S = .nx σ2 S2 ∨ b σ1 S = .ct σ2 S2) ∧ P r σ2 S2) (k : ∀ σ' S', P [] σ' S' → Ends (f σ' S') v) : Ends ((mFor1 chk tg b its σ S).seq f) v := by
  obtain ⟨σ', S', e, q⟩ := for_inv P hc h p
  rw [e]
  exact k σ' S' q
theorem pre_get' {S S' : Sto} {i : Nat} {o : Ob} (h : S[i]? = some o) (p : S <+: S') : S'[i]? = some o := by
  obtain ⟨ex, rfl⟩ := p
  exact get_old h ex
theorem pre_add (S ex : Sto) : S <+: S ++ ex := List.prefix_append _ _
theorem ty_lst {S : Sto} {i : Nat} {xs : List V} (h : S[i]? = some (.lst xs)) : tyS "list" S (.ref i) = true := by
  simp only [tyS, h]
  rfl
theorem ty_dct {S : Sto} {i : Nat} {xs : List (Key × V)} (h : S[i]? = some (.dK xs)) : tyS "dict" S (.ref i) = true := by
  simp only [tyS, h]
  rfl
/-- a loop over a list, whose turns only lay new objects -/
theorem for_alloc {m : ME} {j i : Nat} {b : MS} {σ : St} {S S1 : Sto} {xs : List V} (F : St → Prop) (hm : m σ S = .ok (.ref i) S1) (hi : S1[i]? = some (.lst xs)) (f0 : F σ)
    (hb : ∀ x ∈ xs, ∀ σ S', F σ → S1 <+: S' → ∃ σ2 S2, b (σ.set j (some x)) S' = .nx σ2 S2 ∧ F σ2 ∧ S' <+: S2) : ∃ σ' S', mFor (mWalk m) (tgName j) b σ S = .nx σ' S' ∧ F σ' ∧ S1 <+: S' := by
  rw [mFor_ap, mWalk_ap, hm, bind_ok, kWalk_lst _ hi, lift_ok]
  obtain ⟨σ', S', e, p1, p2, _⟩ := for_inv (P := fun r σ S' => S1 <+: S' ∧ F σ ∧ ∀ it ∈ r, ∃ x ∈ xs, it = .v x) (chk := fun S' => decide (S'[i]? = some (.lst xs))) (tg := tgName j) (b := b) (fun _ _ S' ⟨h, _⟩ => decide_eq_true (pre_get' hi h))
    (fun it r σ S2 ⟨p1, f, hr⟩ => by
      obtain ⟨x, hx, ex⟩ := hr it List.mem_cons_self
      subst ex
      obtain ⟨σ2, S3, e, f2, p⟩ := hb x hx σ S2 f p1
      exact ⟨_, σ2, S3, rfl, .inl e, p1.trans p, f2, fun it h => hr it (List.mem_cons_of_mem _ h)⟩) (its := xs.map .v) (σ := σ) (S := S1) ⟨List.prefix_refl _, f0, fun it h => by
      obtain ⟨x, hx, rfl⟩ := List.mem_map.mp h
      exact ⟨x, hx, rfl⟩⟩
  exact ⟨σ', S', e, p2, p1⟩
theorem for_allocK {m : ME} {j i : Nat} {b : MS} {σ : St} {S S1 : Sto} {xs : List V} (F : St → Prop) (hm : m σ S = .ok (.ref i) S1) (hi : S1[i]? = some (.lck (.lst xs))) (f0 : F σ)
    (hb : ∀ x ∈ xs, ∀ σ S', F σ → S1 <+: S' → ∃ σ2 S2, b (σ.set j (some x)) S' = .nx σ2 S2 ∧ F σ2 ∧ S' <+: S2) : ∃ σ' S', mFor (mWalk m) (tgName j) b σ S = .nx σ' S' ∧ F σ' ∧ S1 <+: S' := by
  rw [mFor_ap, mWalk_ap, hm, bind_ok, kWalk_lck _ hi, lift_ok]
  obtain ⟨σ', S', e, p1, p2, _⟩ := for_inv (P := fun r σ S' => S1 <+: S' ∧ F σ ∧ ∀ it ∈ r, ∃ x ∈ xs, it = .v x) (chk := fun S' => decide (S'[i]? = some (.lck (.lst xs)))) (tg := tgName j) (b := b) (fun _ _ S' ⟨h, _⟩ => decide_eq_true (pre_get' hi h))
    (fun it r σ S2 ⟨p1, f, hr⟩ => by
      obtain ⟨x, hx, ex⟩ := hr it List.mem_cons_self
      subst ex
      obtain ⟨σ2, S3, e, f2, p⟩ := hb x hx σ S2 f p1
      exact ⟨_, σ2, S3, rfl, .inl e, p1.trans p, f2, fun it h => hr it (List.mem_cons_of_mem _ h)⟩) (its := xs.map .v) (σ := σ) (S := S1) ⟨List.prefix_refl _, f0, fun it h => by
      obtain ⟨x, hx, rfl⟩ := List.mem_map.mp h
      exact ⟨x, hx, rfl⟩⟩
  exact ⟨σ', S', e, p2, p1⟩
theorem for_allocR {j : Nat} {b : MS} {σ : St} {S S1 : Sto} {n : Int} {ms : MA} (F : St → Prop) (hm : ms σ S = .ok [.int n] S1) (hn : 0 ≤ n ∧ n < 2 ^ 62) (f0 : F σ)
    (hb : ∀ k : Int, 0 ≤ k → k < n → ∀ σ S', F σ → S1 <+: S' → ∃ σ2 S2, b (σ.set j (some (.int k))) S' = .nx σ2 S2 ∧ F σ2 ∧ S' <+: S2) : ∃ σ' S', mFor (mRange1 ms) (tgName j) b σ S = .nx σ' S' ∧ F σ' ∧ S1 <+: S' := by
  rw [mFor_ap, mRange1_ap, hm, bind_ok, kRange1_int _ hn, lift_ok]
  obtain ⟨σ', S', e, p1, p2, _⟩ := for_inv (P := fun r σ S' => S1 <+: S' ∧ F σ ∧ ∀ it ∈ r, ∃ k : Int, (0 ≤ k ∧ k < n) ∧ it = .v (.int k)) (chk := fun _ => true) (tg := tgName j) (b := b) (fun _ _ _ _ => rfl)
    (fun it r σ S2 ⟨p1, f, hr⟩ => by
      obtain ⟨k, hk, ex⟩ := hr it List.mem_cons_self
      subst ex
      obtain ⟨σ2, S3, e, f2, p⟩ := hb k hk.1 hk.2 σ S2 f p1
      exact ⟨_, σ2, S3, rfl, .inl e, p1.trans p, f2, fun it h => hr it (List.mem_cons_of_mem _ h)⟩) (its := intsFrom 0 n.toNat) (σ := σ) (S := S1) ⟨List.prefix_refl _, f0, fun it h => by
      obtain ⟨k, hk, rfl⟩ := List.mem_map.mp h
      have := List.mem_range.mp hk
      exact ⟨_, ⟨by omega, by omega⟩, rfl⟩⟩
  exact ⟨σ', S', e, p2, p1⟩
theorem rdD_lst {S : Sto} {i n : Nat} {xs : List V} (h : S[i]? = some (.lst xs)) : rdD S (n + 1) (.ref i) = (allSome (xs.map (rdD S n))).map .list := by
  rw [rdD]
  simp only [h]
theorem rdD_lck {S : Sto} {i n : Nat} {xs : List V} (h : S[i]? = some (.lck (.lst xs))) : rdD S (n + 1) (.ref i) = (allSome (xs.map (rdD S n))).map .list := by
  rw [rdD]
  simp only [h]
theorem rdD_tup {S : Sto} {i n : Nat} {xs : List V} (h : S[i]? = some (.tup xs)) : rdD S (n + 1) (.ref i) = (allSome (xs.map (rdD S n))).map .tuple := by
  rw [rdD]
  simp only [h]
theorem rdT_tup {S : Sto} {i : Nat} {xs : List V} (h : S[i]? = some (.tup xs)) : rdT S (.ref i) = some xs := by simp only [rdT, h]
theorem oIx_lst {S : Sto} {x : V} {xs : List V} {k : Int} {v : V} (h : rdL S x = some xs) (hv : atI xs k = some v) : oIx x (.int k) S = .ok v S := by
  cases x with
  | ref i => simp only [oIx, h, hv]
  | _ => cases h
theorem oIx_tup {S : Sto} {i : Nat} {xs : List V} {k : Int} {v : V} (h : S[i]? = some (.tup xs)) (hv : atI xs k = some v) : oIx (.ref i) (.int k) S = .ok v S := by
  have h1 : rdL S (.ref i) = none := by simp only [rdL, h]
  simp only [oIx, h1, rdT_tup h, hv]
theorem atI_nat' {xs : List V} {k : Nat} {v : V} (h : xs[k]? = some v) : atI xs (k : Int) = some v := by
  have hk := (List.getElem?_eq_some_iff.mp h).1
  unfold atI ixN
  rw [if_pos (by omega), if_pos (by omega)]
  exact h
end Mi

namespace Mi
open PySem PySem.Spec L2
open PyProof.Rows hiding St

/-! ### called(): an exception tells its class by name -/
section
open PySem.W PySem.Calls
theorem excm_get {P : Program} {w : World} {A : Around} {s : Shared} {K : Frag} {e C f : Addr} {o : Obj} {od : Option Obj} {nm : Str} {pl : Sem Bool} {Bad : Value → Shared → Prop} {Q : Value × List Value → Shared → Prop} (KI : K.In s.heap) (J : InstAt s.heap e o C od)
    (g1 : findIn K (.ref C) "__getattribute__" = some (some (.builtin "BaseException.__getattribute__"))) (g2 : findIn K (.ref C) "__getattr__" = some none) (g3 : findIn K (.ref C) nm = some (some (.ref f))) (g4 : isFn K (.ref f) = true) (g5 : shadowIn od nm = some false) (q : Q (.ref f, [.ref e]) s) :
    wpAny (model P w) A (getMethod (.ref e) nm pl) Q Bad s := by
  have can : Manifest.canonical "BaseException.__getattribute__" = "object.__getattribute__" := by first | kernel_rfl | decide +kernel
  have L1 := looks_findIn (M := model P w) KI g1
  have L2 := looks_findIn (M := model P w) KI g2
  have L3 := looks_findIn (M := model P w) KI g3
  have L4 := looks_typeIn (M := model P w) KI (beq_iff_eq.mp g4)
  have LT := J.type (M := model P w)
  unfold getMethod specialOf
  refine wpAny_bind (wpAny_bind (LT.here (L1.here ?_))); dsimp only
  rw [can, if_neg (by decide)]; refine wpAny_bind (wpAny_bind (LT.here (L2.here ?_)))
  refine wpAny_bind (wpAny_bind (LT.here (L3.here (wpAny_bind (L4.here ?_)))))
  rw [if_neg (by decide +kernel)]; refine wpAny_bind (wpAny_loadPart J.at_ ?_)
  have hd := J.dict
  cases ed : o.dict with
  | none => exact wpAny_bind (wpAny_rule (wpAny_pure q))
  | some dx =>
    cases od with
    | none => rw [ed] at hd; exact hd.elim
    | some oo =>
      rw [ed] at hd
      obtain ⟨r, a, b⟩ := Option.map_eq_some_iff.mp g5
      refine wpAny_bind (wpAny_bind (wpAny_loadPart hd ?_))
      rw [nsLook_of a]; refine wpAny_pure ?_
      rw [b]; exact wpAny_bind (wpAny_rule (wpAny_pure q))
end
/-- the class of exceptions at the place c tells z -/
def CalF (T : Tab) (K : PySem.W.Frag) (mg : Str → Option Value) (c : Nat) (z : Str) : Prop := ∃ (x : Str) (C f : Addr) (qual : Str) (st : Stmt) (fd : FuncData) (p1 p2 : Pos) (j : Nat), T.xs[c]? = some x ∧ mg x = some (.ref C) ∧
  PySem.W.findIn K (.ref C) "__getattribute__" = some (some (.builtin "BaseException.__getattribute__")) ∧ PySem.W.findIn K (.ref C) "__getattr__" = some none ∧ PySem.W.findIn K (.ref C) "called" = some (some (.ref f)) ∧ PySem.W.isFn K (.ref f) = true ∧
  Fun K "called" qual st f fd ∧ Binds K fd ["self"] [] ∧ FnScope ["self"] ["self"] (defScope st) ∧ defBody st = [.Return (some (.Constant (.str z) j p1)) p2]
def CalsF (T : Tab) (K : PySem.W.Frag) (mg : Str → Option Value) : List (Nat × Str) → Prop
  | [] => True
  | (c, z) :: r => CalF T K mg c z ∧ CalsF T K mg r
def oCalled (tab : List (Nat × Str)) : V → Sto → R V := fun v S1 => match v with
  | .ref i => match S1[i]? with
    | some (.exc c _) => match look tab c with
      | some z => .ok (.str z) S1
      | none => .bad
    | _ => .bad
  | _ => .bad
def mCalled (tab : List (Nat × Str)) (o : ME) : ME := fun σ S => (o σ S).bind (oCalled tab)
@[simp] theorem mCalled_ap (tab : List (Nat × Str)) (o : ME) (σ : St) (S : Sto) : mCalled tab o σ S = (o σ S).bind (oCalled tab) := rfl
theorem oCalled_exc {tab : List (Nat × Str)} {i c : Nat} {d : Option V} {z : Str} {S : Sto} (h : S[i]? = some (.exc c d)) (hz : look tab c = some z) : oCalled tab (.ref i) S = .ok (.str z) S := by simp only [oCalled, h, hz]
section
variable {T : Tab} {W : WX} {X : Cx} {o : Expr} {ma : ME} {apos pos : Pos}
theorem CalsF.get {K : PySem.W.Frag} {mg : Str → Option Value} : ∀ {tab : List (Nat × Str)} {c : Nat} {z : Str}, CalsF T K mg tab → look tab c = some z → CalF T K mg c z
  | [], _, _, _, e => by cases e
  | (d, g) :: r, c, z, h, e => by
    unfold look at e
    by_cases q : d = c
    · rw [if_pos q] at e
      cases e
      rw [← q]
      exact h.1
    · rw [if_neg q] at e
      exact CalsF.get h.2 e
/-- the body 'return z' of a method with self alone -/
theorem run_tell {pins : List (Addr × Obj)} {σ : St} {H : Hp} {s : Shared} {f a : Addr} {qual : Str} {st : Stmt} {fd : FuncData} {z : Str} {p1 p2 : Pos} {j : Nat} {Q : VK} (I : Inv X pins σ H s) (F : Fun X.K "called" qual st f fd) (hb : Binds X.K fd ["self"] []) (Sc : FnScope ["self"] ["self"] (defScope st))
    (hB : defBody st = [.Return (some (.Constant (.str z) j p1)) p2]) (hd : X.A.depth + 5 < recursionLimit) (q : Q (.str z) H) : wpAny (model X.prog X.w) X.A (call (.ref f) [.ref a]) (EP X pins σ Q) X.xe s := by
  obtain ⟨oc, od, kV, doc, pm, an, cdv, ct, osl, rfl, lk, hcd⟩ := F.ex
  have hbs := hb s [.ref a] I.kIn rfl
  refine wpAny_call (Att.call_fn (binds := [("self", .ref a)]) I.kIn (I.mod.nolimit.keeps I.bk) lk hcd (by omega) hbs ?_ (fun s1 x => ?_) Sc.co Sc.gen Sc.kind)
  · rcases Sc.par "self" (by simp) with e | e <;> simp [e]
  · rw [hB]
    obtain ⟨h1, tk, rfl, hk⟩ := x.done
    refine wpAny_execs_cons (wpAny_Return_some (Calls.Constant_str ?_))
    exact ⟨.str z, H, (I.kept (t' := tk) hk).tok _, ⟨_, rfl⟩, q⟩
theorem de_called {pl : Sem Bool} {tab : List (Nat × Str)} (F : CalsF T X.K X.mg tab) (hd : X.A.depth + 5 < recursionLimit) (ho : DE T X W o ma)
    (ht : eval (.Call (.Attribute o "called" apos) [] [] pos) X.env = (do
      let ov ← eval o X.env
      standAt apos.atName
      let (f, first) ← holding [ov] (getMethod ov "called" pl)
      callWith pos f first (backTo pos (starEach [] X.env)) (backToKw pos (keywordEach [] X.env))) := by rfl) : DE T X W (.Call (.Attribute o "called" apos) [] [] pos) (mCalled tab ma) := by
  refine ⟨fun pins s σ H Q I h => ?_⟩
  obtain ⟨ρ, S, τ, r, l, h⟩ := h
  have h' : den (gm T X) W VR ma σ H (fun w H1 => ∃ ρ1 S1 i c d z, Rep (gm T X) ρ1 S1 H1 ∧ VR ρ1 (.ref i) w ∧ S1[i]? = some (.exc c d) ∧ look tab c = some z ∧ Q (.str z) H1) := by
    refine ⟨ρ, S, τ, r, l, Post.bind h fun ρ1 S1 H1 x w p1 r1 x1 h1 => ?_⟩
    unfold oCalled at h1
    split at h1
    · split at h1
      · split at h1
        · rename_i i _ c d es _ z ez
          exact ⟨ρ1, S1, i, c, d, z, r1, x1, es, ez, h1 ρ1 H1 _ Ext.refl r1 rfl⟩
        · exact h1.elim
      · exact h1.elim
    · exact h1.elim
  refine PySem.W.methodCall_KW (pl := pl) (thn (ho.run pins s σ H _ I h') fun u s1 ⟨w, H1, I1, rx, ρ1, S1, i, c, d, z, r1, x1, es1, ez, q1⟩ => ?_) ht
  obtain ⟨ad, u', ew, er, eh, ob⟩ := r1.ref es1 x1
  subst ew
  obtain rfl : u = Value.ref ad := rx
  obtain ⟨x, C, f, qual, st, fd, p1, p2, j, hx, hm, g1, g2, g3, g4, FF, hb, Sc, hB⟩ := F.get ez
  obtain ⟨C2, dd, ⟨y2, hx2, hm2⟩, eu, dr⟩ := ob
  have z1 : some x = some y2 := hx.symm.trans hx2
  cases z1
  have z2 : some (Value.ref C) = some (Value.ref C2) := hm.symm.trans hm2
  cases z2
  subst eu
  obtain ⟨oe, vs, h1, h2, h3, h4⟩ := exK_inst I1 eh
  have fin : wpAny (model X.prog X.w) X.A (callWith pos (.ref f) [.ref ad] (backTo pos (starEach [] X.env)) (backToKw pos (keywordEach [] X.env))) (EP X pins σ Q) X.xe s1 := PySem.W.callWith_K0 (first := [.ref ad]) I1.kIn FF.kp (run_tell I1 FF hb Sc hB hd q1)
  cases d with
  | none =>
    have dn : dd = none := dr
    subst dn
    exact excm_get (od := none) I1.kIn ⟨h1, h2, by unfold PySem.W.notCls; rw [h4] <;> rfl, by rw [h3]; trivial⟩ g1 g2 g3 g4 rfl fin
  | some v =>
    obtain ⟨da, wv, ed, _, hx3⟩ := dr
    subst ed
    have hxd : ObjOk X.prog X.w H1 s1.heap da (.xd [("row", wv)]) := I1.hok da _ hx3
    obtain ⟨mA, hns, hr⟩ := hxd
    obtain ⟨od, ho2, hl⟩ := lookIn_ns hns
    have hn : mA "called" = none := RelO.none_of (hr "called")
    exact excm_get (od := some od) I1.kIn ⟨h1, h2, by unfold PySem.W.notCls; rw [h4] <;> rfl, by rw [h3]; exact ho2⟩ g1 g2 g3 g4 (by show (PySem.W.lookIn "called" od).map _ = _; rw [hl, hn]; rfl) fin
end
theorem Ctx.toCtx {X : Cx} {W : WX} {k : Nat} (C : Ctx X W k) : Ctx X W k := C
theorem Ctx.dp5 {X : Cx} {W : WX} {k : Nat} (C : Ctx X W k) : X.A.depth + 5 < recursionLimit := by have := C.room.dp; omega
theorem CtH.dp5 {X : Cx} {k : Nat} (C : CtH X k) : X.A.depth + 5 < recursionLimit := by have := C.dp; omega
/-! more of the plain side -/
theorem oLen_tup {S : Sto} {i : Nat} {xs : List V} (h : S[i]? = some (.tup xs)) : oLen [.ref i] S = .ok (.int xs.length) S := by
  have h1 : rdL S (.ref i) = none := by simp only [rdL, h]
  simp only [oLen, h1, rdT_tup h]
theorem oLen_lst {S : Sto} {x : V} {xs : List V} (h : rdL S x = some xs) : oLen [x] S = .ok (.int xs.length) S := by
  cases x with
  | ref i => simp only [oLen, h]
  | _ => cases h
@[simp] theorem isNon_ref (i : Nat) : Mi.isNon (.ref i) = false := rfl
@[simp] theorem isNon_non : Mi.isNon .non = true := rfl
@[simp] theorem isNon_int (i : Int) : Mi.isNon (.int i) = false := rfl
end Mi

namespace Lw
open PySem PySem.Spec L2 Mi
open PyProof.Rows hiding St
abbrev prog : Program := PySem.Challenge.pw_stillheap_k02_values_as_data
def T : Tab := ⟨[], ["HeapError", "BadAddress", "BadCount", "BadField", "BadHand", "BadLog", "BadName", "BadPaper", "BadText", "BadView", "NoRoom", "NoRound", "RoundOn", "TooManyWords"]⟩
def it_int : List (Tag × Bool) := [(.non, false), (.bl, true), (.int, true), (.str, false), (.lst, false), (.tup, false), (.dct, false), (.exc 0, false), (.exc 1, false), (.exc 2, false), (.exc 3, false), (.exc 4, false), (.exc 5, false), (.exc 6, false), (.exc 7, false), (.exc 8, false), (.exc 9, false), (.exc 10, false), (.exc 11, false), (.exc 12, false), (.exc 13, false)]
def it_bool : List (Tag × Bool) := [(.non, false), (.bl, true), (.int, false), (.str, false), (.lst, false), (.tup, false), (.dct, false), (.exc 0, false), (.exc 1, false), (.exc 2, false), (.exc 3, false), (.exc 4, false), (.exc 5, false), (.exc 6, false), (.exc 7, false), (.exc 8, false), (.exc 9, false), (.exc 10, false), (.exc 11, false), (.exc 12, false), (.exc 13, false)]
def it_BadHand : List (Tag × Bool) := [(.non, false), (.bl, false), (.int, false), (.str, false), (.lst, false), (.tup, false), (.dct, false), (.exc 0, false), (.exc 1, false), (.exc 2, false), (.exc 3, false), (.exc 4, true), (.exc 5, false), (.exc 6, false), (.exc 7, false), (.exc 8, false), (.exc 9, false), (.exc 10, false), (.exc 11, false), (.exc 12, false), (.exc 13, false)]
def it_BadField : List (Tag × Bool) := [(.non, false), (.bl, false), (.int, false), (.str, false), (.lst, false), (.tup, false), (.dct, false), (.exc 0, false), (.exc 1, false), (.exc 2, false), (.exc 3, true), (.exc 4, false), (.exc 5, false), (.exc 6, false), (.exc 7, false), (.exc 8, false), (.exc 9, false), (.exc 10, false), (.exc 11, false), (.exc 12, false), (.exc 13, false)]
def it_BadCount : List (Tag × Bool) := [(.non, false), (.bl, false), (.int, false), (.str, false), (.lst, false), (.tup, false), (.dct, false), (.exc 0, false), (.exc 1, false), (.exc 2, true), (.exc 3, false), (.exc 4, false), (.exc 5, false), (.exc 6, false), (.exc 7, false), (.exc 8, false), (.exc 9, false), (.exc 10, false), (.exc 11, false), (.exc 12, false), (.exc 13, false)]
def it_BadAddress : List (Tag × Bool) := [(.non, false), (.bl, false), (.int, false), (.str, false), (.lst, false), (.tup, false), (.dct, false), (.exc 0, false), (.exc 1, true), (.exc 2, false), (.exc 3, false), (.exc 4, false), (.exc 5, false), (.exc 6, false), (.exc 7, false), (.exc 8, false), (.exc 9, false), (.exc 10, false), (.exc 11, false), (.exc 12, false), (.exc 13, false)]
def it_BadText : List (Tag × Bool) := [(.non, false), (.bl, false), (.int, false), (.str, false), (.lst, false), (.tup, false), (.dct, false), (.exc 0, false), (.exc 1, false), (.exc 2, false), (.exc 3, false), (.exc 4, false), (.exc 5, false), (.exc 6, false), (.exc 7, false), (.exc 8, true), (.exc 9, false), (.exc 10, false), (.exc 11, false), (.exc 12, false), (.exc 13, false)]
def it_BadPaper : List (Tag × Bool) := [(.non, false), (.bl, false), (.int, false), (.str, false), (.lst, false), (.tup, false), (.dct, false), (.exc 0, false), (.exc 1, false), (.exc 2, false), (.exc 3, false), (.exc 4, false), (.exc 5, false), (.exc 6, false), (.exc 7, true), (.exc 8, false), (.exc 9, false), (.exc 10, false), (.exc 11, false), (.exc 12, false), (.exc 13, false)]
def it_BadName : List (Tag × Bool) := [(.non, false), (.bl, false), (.int, false), (.str, false), (.lst, false), (.tup, false), (.dct, false), (.exc 0, false), (.exc 1, false), (.exc 2, false), (.exc 3, false), (.exc 4, false), (.exc 5, false), (.exc 6, true), (.exc 7, false), (.exc 8, false), (.exc 9, false), (.exc 10, false), (.exc 11, false), (.exc 12, false), (.exc 13, false)]
def it_BadLog : List (Tag × Bool) := [(.non, false), (.bl, false), (.int, false), (.str, false), (.lst, false), (.tup, false), (.dct, false), (.exc 0, false), (.exc 1, false), (.exc 2, false), (.exc 3, false), (.exc 4, false), (.exc 5, true), (.exc 6, false), (.exc 7, false), (.exc 8, false), (.exc 9, false), (.exc 10, false), (.exc 11, false), (.exc 12, false), (.exc 13, false)]
def it_RoundOn : List (Tag × Bool) := [(.non, false), (.bl, false), (.int, false), (.str, false), (.lst, false), (.tup, false), (.dct, false), (.exc 0, false), (.exc 1, false), (.exc 2, false), (.exc 3, false), (.exc 4, false), (.exc 5, false), (.exc 6, false), (.exc 7, false), (.exc 8, false), (.exc 9, false), (.exc 10, false), (.exc 11, false), (.exc 12, true), (.exc 13, false)]
def it_NoRound : List (Tag × Bool) := [(.non, false), (.bl, false), (.int, false), (.str, false), (.lst, false), (.tup, false), (.dct, false), (.exc 0, false), (.exc 1, false), (.exc 2, false), (.exc 3, false), (.exc 4, false), (.exc 5, false), (.exc 6, false), (.exc 7, false), (.exc 8, false), (.exc 9, false), (.exc 10, false), (.exc 11, true), (.exc 12, false), (.exc 13, false)]
def it_NoRoom : List (Tag × Bool) := [(.non, false), (.bl, false), (.int, false), (.str, false), (.lst, false), (.tup, false), (.dct, false), (.exc 0, false), (.exc 1, false), (.exc 2, false), (.exc 3, false), (.exc 4, false), (.exc 5, false), (.exc 6, false), (.exc 7, false), (.exc 8, false), (.exc 9, false), (.exc 10, true), (.exc 11, false), (.exc 12, false), (.exc 13, false)]
def it_BadView : List (Tag × Bool) := [(.non, false), (.bl, false), (.int, false), (.str, false), (.lst, false), (.tup, false), (.dct, false), (.exc 0, false), (.exc 1, false), (.exc 2, false), (.exc 3, false), (.exc 4, false), (.exc 5, false), (.exc 6, false), (.exc 7, false), (.exc 8, false), (.exc 9, true), (.exc 10, false), (.exc 11, false), (.exc 12, false), (.exc 13, false)]
def it_TooManyWords : List (Tag × Bool) := [(.non, false), (.bl, false), (.int, false), (.str, false), (.lst, false), (.tup, false), (.dct, false), (.exc 0, false), (.exc 1, false), (.exc 2, false), (.exc 3, false), (.exc 4, false), (.exc 5, false), (.exc 6, false), (.exc 7, false), (.exc 8, false), (.exc 9, false), (.exc 10, false), (.exc 11, false), (.exc 12, false), (.exc 13, true)]
def it_tuple : List (Tag × Bool) := [(.non, false), (.bl, false), (.int, false), (.str, false), (.lst, false), (.tup, true), (.dct, false), (.exc 0, false), (.exc 1, false), (.exc 2, false), (.exc 3, false), (.exc 4, false), (.exc 5, false), (.exc 6, false), (.exc 7, false), (.exc 8, false), (.exc 9, false), (.exc 10, false), (.exc 11, false), (.exc 12, false), (.exc 13, false)]
def it_ValueError : List (Tag × Bool) := [(.non, false), (.bl, false), (.int, false), (.str, false), (.lst, false), (.tup, false), (.dct, false), (.exc 0, true), (.exc 1, true), (.exc 2, true), (.exc 3, true), (.exc 4, true), (.exc 5, true), (.exc 6, true), (.exc 7, true), (.exc 8, true), (.exc 9, true), (.exc 10, true), (.exc 11, true), (.exc 12, true), (.exc 13, true)]
def sub_HeapError : Nat → Bool := fun c => match c with
  | 0 => true
  | 1 => true
  | 2 => true
  | 3 => true
  | 4 => true
  | 5 => true
  | 6 => true
  | 7 => true
  | 8 => true
  | 9 => true
  | 10 => true
  | 11 => true
  | 12 => true
  | 13 => true
  | _ => false
def cal_tab : List (Nat × Str) := [(0, "HeapError"), (1, "BadAddress"), (2, "BadCount"), (3, "BadField"), (4, "BadHand"), (5, "BadLog"), (6, "BadName"), (7, "BadPaper"), (8, "BadText"), (9, "BadView"), (10, "NoRoom"), (11, "NoRound"), (12, "RoundOn"), (13, "TooManyWords")]
def f_kind_of : Fn := fnOf 1 (mSeq (mIfS (mB (mBin oIs (mVar 0) (mC (.non)))) (mRet (mC (.str "none"))) (mSkip)) (mRet (mBin oIx (mVar 0) (mC (.int 0)))))
def f_number_value : Fn := fnOf 1 (mSeq (mIfS (mOr (mB (mBin oLt (mVar 0) (mUn oNeg (mC (.int 1000000000000000000000000000000000000000000000000000000000000))))) (mB (mBin oGt (mVar 0) (mC (.int 1000000000000000000000000000000000000000000000000000000000000))))) (mRaise 2) (mSkip)) (mRet (mTup (mCons (mC (.str "number")) (mCons (mVar 0) (mNil))))))
def f_law_whole : Fn := fnOf 1 (mRet (mAndV (mIsi it_int (mVar 0)) (mNotV (mIsi it_bool (mVar 0)))))
def f_law_pair : Fn := fnOf 3 (mSeq (mIfS (mOr (mNot (mB (mIsi it_tuple (mVar 0)))) (mOr (mB (mBin oNe (mCall oLen (mCons (mVar 0) (mNil))) (mC (.int 2)))) (mB (mBin oNe (mBin oIx (mVar 0) (mC (.int 0))) (mVar 1))))) (mRet (mC (.bl false))) (mSkip)) (mRet (mAndV (mApp 1 f_law_whole (mCons (mBin oIx (mVar 0) (mC (.int 1))) (mNil))) (mBin oEq (mBin oIx (mVar 0) (mC (.int 1))) (mVar 2)))))
def f_law_flags : Fn := fnOf 2 (mSeq (mSet 1 (mLst (mCons (mIsi it_BadAddress (mVar 0)) (mCons (mIsi it_BadCount (mVar 0)) (mCons (mIsi it_BadField (mVar 0)) (mCons (mIsi it_BadHand (mVar 0)) (mNil))))))) (mSeq (mSet 1 (mBin oAdd (mVar 1) (mLst (mCons (mIsi it_BadLog (mVar 0)) (mCons (mIsi it_BadName (mVar 0)) (mCons (mIsi it_BadPaper (mVar 0)) (mCons (mIsi it_BadText (mVar 0)) (mNil)))))))) (mSeq (mSet 1 (mBin oAdd (mVar 1) (mLst (mCons (mIsi it_BadView (mVar 0)) (mCons (mIsi it_NoRoom (mVar 0)) (mCons (mIsi it_NoRound (mVar 0)) (mCons (mIsi it_RoundOn (mVar 0)) (mNil)))))))) (mRet (mBin oAdd (mVar 1) (mLst (mCons (mIsi it_TooManyWords (mVar 0)) (mNil))))))))
def f_law_refused : Fn := fnOf 3 (mSeq (mSet 1 (mC (.non))) (mSeq (mTry (mExpr (mApp 1 f_number_value (mCons (mVar 0) (mNil)))) sub_HeapError (some 2) (mSet 1 (mVar 2))) (mSeq (mIfS (mOr (mNot (mB (mIsi it_BadCount (mVar 1)))) (mOr (mNot (mB (mIsi it_ValueError (mVar 1)))) (mB (mBin oNe (mCalled cal_tab (mVar 1)) (mC (.str "BadCount")))))) (mRet (mC (.bl false))) (mSkip)) (mRet (mBin oEq (mBM "list" oCount (mApp 1 f_law_flags (mCons (mVar 1) (mNil))) (mCons (mC (.bl true)) (mNil))) (mC (.int 1)))))))
def f_thing_value : Fn := fnOf 1 (mRet (mTup (mCons (mC (.str "thing")) (mCons (mVar 0) (mNil)))))
def f_law : Fn := fnOf 6 (mSeq (mSet 1 (mBin oPow (mC (.int 10)) (mC (.int 60)))) (mSeq (mIfS (mB (mBin oNe (mApp 1 f_kind_of (mCons (mC (.non)) (mNil))) (mC (.str "none")))) (mRet (mC (.bl false))) (mSkip)) (mSeq (mFor (mWalk (mBin oAdd (mLst (mCons (mC (.int 0)) (mNil))) (mVar 0))) (tgName 2) (mSeq (mSet 3 (mBin oMod (mVar 2) (mBin oPow (mC (.int 10)) (mC (.int 50))))) (mSeq (mFor (mWalk (mLst (mCons (mBin oSub (mBin oMod (mVar 2) (mBin oAdd (mBin oMul (mC (.int 2)) (mVar 1)) (mC (.int 1)))) (mVar 1)) (mCons (mBin oSub (mBin oMod (mVar 2) (mC (.int 9))) (mC (.int 4))) (mCons (mVar 1) (mCons (mUn oNeg (mVar 1)) (mNil))))))) (tgName 4) (mSeq (mSet 5 (mApp 1 f_number_value (mCons (mVar 4) (mNil)))) (mIfS (mOr (mNot (mB (mApp 3 f_law_pair (mCons (mVar 5) (mCons (mC (.str "number")) (mCons (mVar 4) (mNil))))))) (mB (mBin oNe (mApp 1 f_kind_of (mCons (mVar 5) (mNil))) (mC (.str "number"))))) (mRet (mC (.bl false))) (mSkip)))) (mSeq (mFor (mWalk (mLst (mCons (mBin oAdd (mVar 1) (mC (.int 1))) (mCons (mBin oSub (mUn oNeg (mVar 1)) (mC (.int 1))) (mCons (mBin oAdd (mBin oAdd (mVar 1) (mC (.int 1))) (mVar 3)) (mCons (mBin oSub (mBin oSub (mUn oNeg (mVar 1)) (mC (.int 1))) (mVar 3)) (mNil))))))) (tgName 4) (mIfS (mNot (mB (mApp 1 f_law_refused (mCons (mVar 4) (mNil))))) (mRet (mC (.bl false))) (mSkip))) (mSeq (mSet 5 (mApp 1 f_thing_value (mCons (mVar 3) (mNil)))) (mIfS (mOr (mNot (mB (mApp 3 f_law_pair (mCons (mVar 5) (mCons (mC (.str "thing")) (mCons (mVar 3) (mNil))))))) (mB (mBin oNe (mApp 1 f_kind_of (mCons (mVar 5) (mNil))) (mC (.str "thing"))))) (mRet (mC (.bl false))) (mSkip))))))) (mRet (mC (.bl true))))))
structure Fx (K : PySem.W.Frag) (mg : Str → Option Value) : Prop where
  bi_isinstance : mg "isinstance" = none
  bi_len : mg "len" = none
  gl_FAR : GlF mg "FAR" (.int 1000000000000000000000000000000000000000000000000000000000000)
  xc_BadCount : XcF T K mg 2 "BadCount"
  sb_HeapError : SbF T K mg "HeapError" sub_HeapError
  is_int : IsiF T K mg ["int"] it_int
  is_bool : IsiF T K mg ["bool"] it_bool
  is_BadHand : IsiF T K mg ["BadHand"] it_BadHand
  is_BadField : IsiF T K mg ["BadField"] it_BadField
  is_BadCount : IsiF T K mg ["BadCount"] it_BadCount
  is_BadAddress : IsiF T K mg ["BadAddress"] it_BadAddress
  is_BadText : IsiF T K mg ["BadText"] it_BadText
  is_BadPaper : IsiF T K mg ["BadPaper"] it_BadPaper
  is_BadName : IsiF T K mg ["BadName"] it_BadName
  is_BadLog : IsiF T K mg ["BadLog"] it_BadLog
  is_RoundOn : IsiF T K mg ["RoundOn"] it_RoundOn
  is_NoRound : IsiF T K mg ["NoRound"] it_NoRound
  is_NoRoom : IsiF T K mg ["NoRoom"] it_NoRoom
  is_BadView : IsiF T K mg ["BadView"] it_BadView
  is_TooManyWords : IsiF T K mg ["TooManyWords"] it_TooManyWords
  is_tuple : IsiF T K mg ["tuple"] it_tuple
  is_ValueError : IsiF T K mg ["ValueError"] it_ValueError
  cals : CalsF T K mg cal_tab
section
variable {w : World} {K : PySem.W.Frag} {mg : Str → Option Value} {base : Heap}
theorem ok_f_kind_of (Q : Fx K mg)  {f : Addr} {fd : FuncData} (F : Fun K "kind_of" "kind_of" (atTop prog 19) f fd) : FnOk prog w K mg base (L2.CX prog w) 1 f fd ["value"] (spOf ⟨K, mg, T.cs, T.xs⟩ 1 f_kind_of) := by
  refine fnOk_of (k := 0) (N := ["value"]) F ⟨rfl, rfl, rfl, by decide +kernel, rfl, by decide +kernel, by decide +kernel⟩ rfl rfl (fun X cdv A outer s H E hX C => ?_)
  subst hX
  exact ds_cons (ds_if (dt_cmp op2_is (de_var 0) (de_non) rfl) (ds_one (ds_ret (de_str))) (ds_nil)) (ds_one (ds_ret (de_ix (de_var 0) (de_int))))
theorem ok_f_number_value (Q : Fx K mg)  {f : Addr} {fd : FuncData} (F : Fun K "number_value" "number_value" (atTop prog 17) f fd) : FnOk prog w K mg base (L2.CX prog w) 1 f fd ["x"] (spOf ⟨K, mg, T.cs, T.xs⟩ 1 f_number_value) := by
  refine fnOk_of (k := 0) (N := ["x"]) F ⟨rfl, rfl, rfl, by decide +kernel, rfl, by decide +kernel, by decide +kernel⟩ rfl rfl (fun X cdv A outer s H E hX C => ?_)
  subst hX
  exact ds_cons (ds_if (dt_w (dw_or (dt_cmp op2_lt (de_var 0) (de_un op1_neg (de_gl Q.gl_FAR)) rfl) (dw_or1 (dt_cmp op2_gt (de_var 0) (de_gl Q.gl_FAR) rfl)))) (ds_one (ds_raise C Q.xc_BadCount)) (ds_nil)) (ds_one (ds_ret (de_tup (da_cons (de_str) (da_cons (de_var 0) (da_nil))))))
theorem ok_f_law_whole (Q : Fx K mg)  {f : Addr} {fd : FuncData} (F : Fun K "_law_whole" "_law_whole" (atTop prog 21) f fd) : FnOk prog w K mg base (L2.CX prog w) 1 f fd ["found"] (spOf ⟨K, mg, T.cs, T.xs⟩ 1 f_law_whole) := by
  refine fnOk_of (k := 0) (N := ["found"]) F ⟨rfl, rfl, rfl, by decide +kernel, rfl, by decide +kernel, by decide +kernel⟩ rfl rfl (fun X cdv A outer s H E hX C => ?_)
  subst hX
  exact ds_one (ds_ret (de_and (de_is1 Q.bi_isinstance Q.is_int (de_var 0)) (de_one (de_not (de_is1 Q.bi_isinstance Q.is_bool (de_var 0))))))
theorem ok_f_law_pair (Q : Fx K mg) (h_law_whole : FnF T prog w K mg base "_law_whole" 1 1 f_law_whole) {f : Addr} {fd : FuncData} (F : Fun K "_law_pair" "_law_pair" (atTop prog 23) f fd) : FnOk prog w K mg base (L2.CX prog w) 2 f fd ["found", "word", "x"] (spOf ⟨K, mg, T.cs, T.xs⟩ 3 f_law_pair) := by
  refine fnOk_of (k := 1) (N := ["found", "word", "x"]) F ⟨rfl, rfl, rfl, by decide +kernel, rfl, by decide +kernel, by decide +kernel⟩ rfl rfl (fun X cdv A outer s H E hX C => ?_)
  subst hX
  exact ds_cons (ds_if (dt_w (dw_or (dt_not (dt_val (de_is1 Q.bi_isinstance Q.is_tuple (de_var 0)))) (dw_or (dt_cmp (op2_ne C.u64) (de_callB cal_len Q.bi_len (by decide +kernel) (da_cons (de_var 0) (da_nil))) (de_int) rfl) (dw_or1 (dt_cmp (op2_ne C.u64) (de_ix (de_var 0) (de_int)) (de_var 1) rfl))))) (ds_one (ds_ret (de_bl))) (ds_nil)) (ds_one (ds_ret (de_and (de_call C.toCtx h_law_whole (by decide) (da_cons (de_ix (de_var 0) (de_int)) (da_nil))) (de_one (de_cmp (op2_eq C.u64) (de_ix (de_var 0) (de_int)) (de_var 2) rfl)))))
theorem ok_f_law_flags (Q : Fx K mg)  {f : Addr} {fd : FuncData} (F : Fun K "_law_flags" "_law_flags" (atTop prog 22) f fd) : FnOk prog w K mg base (L2.CX prog w) 1 f fd ["e"] (spOf ⟨K, mg, T.cs, T.xs⟩ 1 f_law_flags) := by
  refine fnOk_of (k := 0) (N := ["e", "flags"]) F ⟨rfl, rfl, rfl, by decide +kernel, rfl, by decide +kernel, by decide +kernel⟩ rfl rfl (fun X cdv A outer s H E hX C => ?_)
  subst hX
  exact ds_cons (ds_set C.nd (de_lst (da_cons (de_is1 Q.bi_isinstance Q.is_BadAddress (de_var 0)) (da_cons (de_is1 Q.bi_isinstance Q.is_BadCount (de_var 0)) (da_cons (de_is1 Q.bi_isinstance Q.is_BadField (de_var 0)) (da_cons (de_is1 Q.bi_isinstance Q.is_BadHand (de_var 0)) (da_nil))))))) (ds_cons (ds_set C.nd (de_bin op2_add (de_var 1) (de_lst (da_cons (de_is1 Q.bi_isinstance Q.is_BadLog (de_var 0)) (da_cons (de_is1 Q.bi_isinstance Q.is_BadName (de_var 0)) (da_cons (de_is1 Q.bi_isinstance Q.is_BadPaper (de_var 0)) (da_cons (de_is1 Q.bi_isinstance Q.is_BadText (de_var 0)) (da_nil)))))))) (ds_cons (ds_set C.nd (de_bin op2_add (de_var 1) (de_lst (da_cons (de_is1 Q.bi_isinstance Q.is_BadView (de_var 0)) (da_cons (de_is1 Q.bi_isinstance Q.is_NoRoom (de_var 0)) (da_cons (de_is1 Q.bi_isinstance Q.is_NoRound (de_var 0)) (da_cons (de_is1 Q.bi_isinstance Q.is_RoundOn (de_var 0)) (da_nil)))))))) (ds_one (ds_ret (de_bin op2_add (de_var 1) (de_lst (da_cons (de_is1 Q.bi_isinstance Q.is_TooManyWords (de_var 0)) (da_nil))))))))
theorem ok_f_law_refused (Q : Fx K mg) (h_number_value : FnF T prog w K mg base "number_value" 1 1 f_number_value) (h_law_flags : FnF T prog w K mg base "_law_flags" 1 1 f_law_flags) {f : Addr} {fd : FuncData} (F : Fun K "_law_refused" "_law_refused" (atTop prog 24) f fd) : FnOk prog w K mg base (L2.CX prog w) 2 f fd ["x"] (spOf ⟨K, mg, T.cs, T.xs⟩ 1 f_law_refused) := by
  refine fnOk_of (k := 1) (N := ["x", "caught", "e"]) F ⟨rfl, rfl, rfl, by decide +kernel, rfl, by decide +kernel, by decide +kernel⟩ rfl rfl (fun X cdv A outer s H E hX C => ?_)
  subst hX
  exact ds_cons (ds_set C.nd (de_non)) (ds_cons (ds_tryA (i := 2) C Q.sb_HeapError (fun pn xe W C => ds_one (ds_expr (de_call C.toCtx h_number_value (by decide) (da_cons (de_var 0) (da_nil))))) (fun a pn C => ds_one (ds_set C.nd (de_var 2)))) (ds_cons (ds_if (dt_w (dw_or (dt_not (dt_val (de_is1 Q.bi_isinstance Q.is_BadCount (de_var 1)))) (dw_or (dt_not (dt_val (de_is1 Q.bi_isinstance Q.is_ValueError (de_var 1)))) (dw_or1 (dt_cmp (op2_ne C.u64) (de_called Q.cals C.dp5 (de_var 1)) (de_str) rfl))))) (ds_one (ds_ret (de_bl))) (ds_nil)) (ds_one (ds_ret (de_cmp (op2_eq C.u64) (de_bm PySem.F.plainAttrs_list PySem.F.slot_list_count PySem.F.type_list_count mth_count (de_call C.toCtx h_law_flags (by decide) (da_cons (de_var 1) (da_nil))) (da_cons (de_bl) (da_nil))) (de_int) rfl)))))
theorem ok_f_thing_value (Q : Fx K mg)  {f : Addr} {fd : FuncData} (F : Fun K "thing_value" "thing_value" (atTop prog 18) f fd) : FnOk prog w K mg base (L2.CX prog w) 1 f fd ["t"] (spOf ⟨K, mg, T.cs, T.xs⟩ 1 f_thing_value) := by
  refine fnOk_of (k := 0) (N := ["t"]) F ⟨rfl, rfl, rfl, by decide +kernel, rfl, by decide +kernel, by decide +kernel⟩ rfl rfl (fun X cdv A outer s H E hX C => ?_)
  subst hX
  exact ds_one (ds_ret (de_tup (da_cons (de_str) (da_cons (de_var 0) (da_nil)))))
theorem ok_f_law (Q : Fx K mg) (h_kind_of : FnF T prog w K mg base "kind_of" 1 1 f_kind_of) (h_number_value : FnF T prog w K mg base "number_value" 1 1 f_number_value) (h_law_pair : FnF T prog w K mg base "_law_pair" 3 2 f_law_pair) (h_law_refused : FnF T prog w K mg base "_law_refused" 1 2 f_law_refused) (h_thing_value : FnF T prog w K mg base "thing_value" 1 1 f_thing_value) {f : Addr} {fd : FuncData} (F : Fun K "law" "law" (atTop prog 25) f fd) : FnOk prog w K mg base (L2.CX prog w) 3 f fd ["script"] (spOf ⟨K, mg, T.cs, T.xs⟩ 1 f_law) := by
  refine fnOk_of (k := 2) (N := ["script", "far", "cell", "beyond", "x", "found"]) F ⟨rfl, rfl, rfl, by decide +kernel, rfl, by decide +kernel, by decide +kernel⟩ rfl rfl (fun X cdv A outer s H E hX C => ?_)
  subst hX
  exact ds_cons (ds_set C.nd (de_bin op2_pow (de_int) (de_int))) (ds_cons (ds_if (dt_cmp (op2_ne C.u64) (de_call C.toCtx h_kind_of (by decide) (da_cons (de_non) (da_nil))) (de_str) rfl) (ds_one (ds_ret (de_bl))) (ds_nil)) (ds_cons (ds_for C.toCtx (di_walk (de_bin op2_add (de_lst (da_cons (de_int) (da_nil))) (de_var 0))) (dg_name C.nd) (ds_cons (ds_set C.nd (de_bin op2_mod (de_var 2) (de_bin op2_pow (de_int) (de_int)))) (ds_cons (ds_for C.toCtx (di_walk (de_lst (da_cons (de_bin op2_sub (de_bin op2_mod (de_var 2) (de_bin op2_add (de_bin op2_mul (de_int) (de_var 1)) (de_int))) (de_var 1)) (da_cons (de_bin op2_sub (de_bin op2_mod (de_var 2) (de_int)) (de_int)) (da_cons (de_var 1) (da_cons (de_un op1_neg (de_var 1)) (da_nil))))))) (dg_name C.nd) (ds_cons (ds_set C.nd (de_call C.toCtx h_number_value (by decide) (da_cons (de_var 4) (da_nil)))) (ds_one (ds_if (dt_w (dw_or (dt_not (dt_val (de_call C.toCtx h_law_pair (by decide) (da_cons (de_var 5) (da_cons (de_str) (da_cons (de_var 4) (da_nil))))))) (dw_or1 (dt_cmp (op2_ne C.u64) (de_call C.toCtx h_kind_of (by decide) (da_cons (de_var 5) (da_nil))) (de_str) rfl)))) (ds_one (ds_ret (de_bl))) (ds_nil))))) (ds_cons (ds_for C.toCtx (di_walk (de_lst (da_cons (de_bin op2_add (de_var 1) (de_int)) (da_cons (de_bin op2_sub (de_un op1_neg (de_var 1)) (de_int)) (da_cons (de_bin op2_add (de_bin op2_add (de_var 1) (de_int)) (de_var 3)) (da_cons (de_bin op2_sub (de_bin op2_sub (de_un op1_neg (de_var 1)) (de_int)) (de_var 3)) (da_nil))))))) (dg_name C.nd) (ds_one (ds_if (dt_not (dt_val (de_call C.toCtx h_law_refused (by decide) (da_cons (de_var 4) (da_nil))))) (ds_one (ds_ret (de_bl))) (ds_nil)))) (ds_cons (ds_set C.nd (de_call C.toCtx h_thing_value (by decide) (da_cons (de_var 3) (da_nil)))) (ds_one (ds_if (dt_w (dw_or (dt_not (dt_val (de_call C.toCtx h_law_pair (by decide) (da_cons (de_var 5) (da_cons (de_str) (da_cons (de_var 3) (da_nil))))))) (dw_or1 (dt_cmp (op2_ne C.u64) (de_call C.toCtx h_kind_of (by decide) (da_cons (de_var 5) (da_nil))) (de_str) rfl)))) (ds_one (ds_ret (de_bl))) (ds_nil)))))))) (ds_one (ds_ret (de_bl)))))
end
set_option linter.unusedVariables false in
theorem all_mk {w : World} {K : PySem.W.Frag} {h : Heap} {mg : Str → Option Value} (X : K.In h) (G : h.Ns mainGlobals mg) {fa X0 X1 X2 X3 X4 X5 X6 X7 X8 X9 X10 X11 X12 X13 fc0 fc1 fc2 fc3 fc4 fc5 fc6 fc7 fc8 fc9 fc10 fc11 fc12 fc13 f0 f1 f2 f3 f4 f5 f6 f7 : Addr} (hfa : mg "law" = some (.ref fa)) {t0 : Tok}
    {od0 an0 od1 an1 od2 an2 od3 an3 od4 an4 od5 an5 od6 an6 od7 an7 cod0 can0 cod1 can1 cod2 can2 cod3 can3 cod4 can4 cod5 can5 cod6 can6 cod7 can7 cod8 can8 cod9 can9 cod10 can10 cod11 can11 cod12 can12 cod13 can13 : Option Addr} {sl0 sl1 sl2 sl3 sl4 sl5 sl6 sl7 csl0 csl1 csl2 csl3 csl4 csl5 csl6 csl7 csl8 csl9 csl10 csl11 csl12 csl13 : Array (Option Value)} {oc0 kV0 dc0 pm0 cd0 ct0 oc1 kV1 dc1 pm1 cd1 ct1 oc2 kV2 dc2 pm2 cd2 ct2 oc3 kV3 dc3 pm3 cd3 ct3 oc4 kV4 dc4 pm4 cd4 ct4 oc5 kV5 dc5 pm5 cd5 ct5 oc6 kV6 dc6 pm6 cd6 ct6 oc7 kV7 dc7 pm7 cd7 ct7 coc0 ckV0 cdc0 cpm0 ccd0 cct0 coc1 ckV1 cdc1 cpm1 ccd1 cct1 coc2 ckV2 cdc2 cpm2 ccd2 cct2 coc3 ckV3 cdc3 cpm3 ccd3 cct3 coc4 ckV4 cdc4 cpm4 ccd4 cct4 coc5 ckV5 cdc5 cpm5 ccd5 cct5 coc6 ckV6 cdc6 cpm6 ccd6 cct6 coc7 ckV7 cdc7 cpm7 ccd7 cct7 coc8 ckV8 cdc8 cpm8 ccd8 cct8 coc9 ckV9 cdc9 cpm9 ccd9 cct9 coc10 ckV10 cdc10 cpm10 ccd10 cct10 coc11 ckV11 cdc11 cpm11 ccd11 cct11 coc12 ckV12 cdc12 cpm12 ccd12 cct12 coc13 ckV13 cdc13 cpm13 ccd13 cct13 : Value}
    (ax0 : PySem.W.nsIn K mainGlobals "HeapError" = some (some (.ref X0)))
    (ax1 : PySem.W.nsIn K mainGlobals "BadAddress" = some (some (.ref X1)))
    (ax2 : PySem.W.nsIn K mainGlobals "BadCount" = some (some (.ref X2)))
    (ax3 : PySem.W.nsIn K mainGlobals "BadField" = some (some (.ref X3)))
    (ax4 : PySem.W.nsIn K mainGlobals "BadHand" = some (some (.ref X4)))
    (ax5 : PySem.W.nsIn K mainGlobals "BadLog" = some (some (.ref X5)))
    (ax6 : PySem.W.nsIn K mainGlobals "BadName" = some (some (.ref X6)))
    (ax7 : PySem.W.nsIn K mainGlobals "BadPaper" = some (some (.ref X7)))
    (ax8 : PySem.W.nsIn K mainGlobals "BadText" = some (some (.ref X8)))
    (ax9 : PySem.W.nsIn K mainGlobals "BadView" = some (some (.ref X9)))
    (ax10 : PySem.W.nsIn K mainGlobals "NoRoom" = some (some (.ref X10)))
    (ax11 : PySem.W.nsIn K mainGlobals "NoRound" = some (some (.ref X11)))
    (ax12 : PySem.W.nsIn K mainGlobals "RoundOn" = some (some (.ref X12)))
    (ax13 : PySem.W.nsIn K mainGlobals "TooManyWords" = some (some (.ref X13)))
    (zb_isinstance : PySem.W.nsIn K mainGlobals "isinstance" = some none)
    (zb_len : PySem.W.nsIn K mainGlobals "len" = some none)
    (zg0 : PySem.W.nsIn K mainGlobals "FAR" = some (some (Value.int (1000000000000000000000000000000000000000000000000000000000000) t0)))
    (zb_int : PySem.W.nsIn K mainGlobals "int" = some none)
    (zb_bool : PySem.W.nsIn K mainGlobals "bool" = some none)
    (zb_tuple : PySem.W.nsIn K mainGlobals "tuple" = some none)
    (zb_ValueError : PySem.W.nsIn K mainGlobals "ValueError" = some none)
    (jc1 : PySem.W.specialIn K (.builtin "object.__class__") "__get__" = some (some (.builtin "getset_descriptor.__get__")))
    (jc2 : PySem.W.takesIn K (.builtin "object.__class__") = some true)
    (ex0_1 : PySem.W.findIn K (.ref X0) "__getattribute__" = some (some (.builtin "BaseException.__getattribute__")))
    (ex0_2 : PySem.W.findIn K (.ref X0) "__getattr__" = some none)
    (ex0_3 : PySem.W.subIn K (.ref X0) (.type "BaseException") = some true)
    (ex0_4 : PySem.W.hasDictIn K X0 = true)
    (ex0_5 : PySem.W.findIn K (.ref X0) "__class__" = some (some (.builtin "object.__class__")))
    (ex0_6 : PySem.W.mroIn K X0 (.type "object") = some true)
    (ex1_1 : PySem.W.findIn K (.ref X1) "__getattribute__" = some (some (.builtin "BaseException.__getattribute__")))
    (ex1_2 : PySem.W.findIn K (.ref X1) "__getattr__" = some none)
    (ex1_3 : PySem.W.subIn K (.ref X1) (.type "BaseException") = some true)
    (ex1_4 : PySem.W.hasDictIn K X1 = true)
    (ex1_5 : PySem.W.findIn K (.ref X1) "__class__" = some (some (.builtin "object.__class__")))
    (ex1_6 : PySem.W.mroIn K X1 (.type "object") = some true)
    (ex2_1 : PySem.W.findIn K (.ref X2) "__getattribute__" = some (some (.builtin "BaseException.__getattribute__")))
    (ex2_2 : PySem.W.findIn K (.ref X2) "__getattr__" = some none)
    (ex2_3 : PySem.W.subIn K (.ref X2) (.type "BaseException") = some true)
    (ex2_4 : PySem.W.hasDictIn K X2 = true)
    (ex2_5 : PySem.W.findIn K (.ref X2) "__class__" = some (some (.builtin "object.__class__")))
    (ex2_6 : PySem.W.mroIn K X2 (.type "object") = some true)
    (ex3_1 : PySem.W.findIn K (.ref X3) "__getattribute__" = some (some (.builtin "BaseException.__getattribute__")))
    (ex3_2 : PySem.W.findIn K (.ref X3) "__getattr__" = some none)
    (ex3_3 : PySem.W.subIn K (.ref X3) (.type "BaseException") = some true)
    (ex3_4 : PySem.W.hasDictIn K X3 = true)
    (ex3_5 : PySem.W.findIn K (.ref X3) "__class__" = some (some (.builtin "object.__class__")))
    (ex3_6 : PySem.W.mroIn K X3 (.type "object") = some true)
    (ex4_1 : PySem.W.findIn K (.ref X4) "__getattribute__" = some (some (.builtin "BaseException.__getattribute__")))
    (ex4_2 : PySem.W.findIn K (.ref X4) "__getattr__" = some none)
    (ex4_3 : PySem.W.subIn K (.ref X4) (.type "BaseException") = some true)
    (ex4_4 : PySem.W.hasDictIn K X4 = true)
    (ex4_5 : PySem.W.findIn K (.ref X4) "__class__" = some (some (.builtin "object.__class__")))
    (ex4_6 : PySem.W.mroIn K X4 (.type "object") = some true)
    (ex5_1 : PySem.W.findIn K (.ref X5) "__getattribute__" = some (some (.builtin "BaseException.__getattribute__")))
    (ex5_2 : PySem.W.findIn K (.ref X5) "__getattr__" = some none)
    (ex5_3 : PySem.W.subIn K (.ref X5) (.type "BaseException") = some true)
    (ex5_4 : PySem.W.hasDictIn K X5 = true)
    (ex5_5 : PySem.W.findIn K (.ref X5) "__class__" = some (some (.builtin "object.__class__")))
    (ex5_6 : PySem.W.mroIn K X5 (.type "object") = some true)
    (ex6_1 : PySem.W.findIn K (.ref X6) "__getattribute__" = some (some (.builtin "BaseException.__getattribute__")))
    (ex6_2 : PySem.W.findIn K (.ref X6) "__getattr__" = some none)
    (ex6_3 : PySem.W.subIn K (.ref X6) (.type "BaseException") = some true)
    (ex6_4 : PySem.W.hasDictIn K X6 = true)
    (ex6_5 : PySem.W.findIn K (.ref X6) "__class__" = some (some (.builtin "object.__class__")))
    (ex6_6 : PySem.W.mroIn K X6 (.type "object") = some true)
    (ex7_1 : PySem.W.findIn K (.ref X7) "__getattribute__" = some (some (.builtin "BaseException.__getattribute__")))
    (ex7_2 : PySem.W.findIn K (.ref X7) "__getattr__" = some none)
    (ex7_3 : PySem.W.subIn K (.ref X7) (.type "BaseException") = some true)
    (ex7_4 : PySem.W.hasDictIn K X7 = true)
    (ex7_5 : PySem.W.findIn K (.ref X7) "__class__" = some (some (.builtin "object.__class__")))
    (ex7_6 : PySem.W.mroIn K X7 (.type "object") = some true)
    (ex8_1 : PySem.W.findIn K (.ref X8) "__getattribute__" = some (some (.builtin "BaseException.__getattribute__")))
    (ex8_2 : PySem.W.findIn K (.ref X8) "__getattr__" = some none)
    (ex8_3 : PySem.W.subIn K (.ref X8) (.type "BaseException") = some true)
    (ex8_4 : PySem.W.hasDictIn K X8 = true)
    (ex8_5 : PySem.W.findIn K (.ref X8) "__class__" = some (some (.builtin "object.__class__")))
    (ex8_6 : PySem.W.mroIn K X8 (.type "object") = some true)
    (ex9_1 : PySem.W.findIn K (.ref X9) "__getattribute__" = some (some (.builtin "BaseException.__getattribute__")))
    (ex9_2 : PySem.W.findIn K (.ref X9) "__getattr__" = some none)
    (ex9_3 : PySem.W.subIn K (.ref X9) (.type "BaseException") = some true)
    (ex9_4 : PySem.W.hasDictIn K X9 = true)
    (ex9_5 : PySem.W.findIn K (.ref X9) "__class__" = some (some (.builtin "object.__class__")))
    (ex9_6 : PySem.W.mroIn K X9 (.type "object") = some true)
    (ex10_1 : PySem.W.findIn K (.ref X10) "__getattribute__" = some (some (.builtin "BaseException.__getattribute__")))
    (ex10_2 : PySem.W.findIn K (.ref X10) "__getattr__" = some none)
    (ex10_3 : PySem.W.subIn K (.ref X10) (.type "BaseException") = some true)
    (ex10_4 : PySem.W.hasDictIn K X10 = true)
    (ex10_5 : PySem.W.findIn K (.ref X10) "__class__" = some (some (.builtin "object.__class__")))
    (ex10_6 : PySem.W.mroIn K X10 (.type "object") = some true)
    (ex11_1 : PySem.W.findIn K (.ref X11) "__getattribute__" = some (some (.builtin "BaseException.__getattribute__")))
    (ex11_2 : PySem.W.findIn K (.ref X11) "__getattr__" = some none)
    (ex11_3 : PySem.W.subIn K (.ref X11) (.type "BaseException") = some true)
    (ex11_4 : PySem.W.hasDictIn K X11 = true)
    (ex11_5 : PySem.W.findIn K (.ref X11) "__class__" = some (some (.builtin "object.__class__")))
    (ex11_6 : PySem.W.mroIn K X11 (.type "object") = some true)
    (ex12_1 : PySem.W.findIn K (.ref X12) "__getattribute__" = some (some (.builtin "BaseException.__getattribute__")))
    (ex12_2 : PySem.W.findIn K (.ref X12) "__getattr__" = some none)
    (ex12_3 : PySem.W.subIn K (.ref X12) (.type "BaseException") = some true)
    (ex12_4 : PySem.W.hasDictIn K X12 = true)
    (ex12_5 : PySem.W.findIn K (.ref X12) "__class__" = some (some (.builtin "object.__class__")))
    (ex12_6 : PySem.W.mroIn K X12 (.type "object") = some true)
    (ex13_1 : PySem.W.findIn K (.ref X13) "__getattribute__" = some (some (.builtin "BaseException.__getattribute__")))
    (ex13_2 : PySem.W.findIn K (.ref X13) "__getattr__" = some none)
    (ex13_3 : PySem.W.subIn K (.ref X13) (.type "BaseException") = some true)
    (ex13_4 : PySem.W.hasDictIn K X13 = true)
    (ex13_5 : PySem.W.findIn K (.ref X13) "__class__" = some (some (.builtin "object.__class__")))
    (ex13_6 : PySem.W.mroIn K X13 (.type "object") = some true)
    (ki_int_0 : PySem.W.kitAny K (.ref X0) [(.type "int")] = some false)
    (ki_int_1 : PySem.W.kitAny K (.ref X1) [(.type "int")] = some false)
    (ki_int_2 : PySem.W.kitAny K (.ref X2) [(.type "int")] = some false)
    (ki_int_3 : PySem.W.kitAny K (.ref X3) [(.type "int")] = some false)
    (ki_int_4 : PySem.W.kitAny K (.ref X4) [(.type "int")] = some false)
    (ki_int_5 : PySem.W.kitAny K (.ref X5) [(.type "int")] = some false)
    (ki_int_6 : PySem.W.kitAny K (.ref X6) [(.type "int")] = some false)
    (ki_int_7 : PySem.W.kitAny K (.ref X7) [(.type "int")] = some false)
    (ki_int_8 : PySem.W.kitAny K (.ref X8) [(.type "int")] = some false)
    (ki_int_9 : PySem.W.kitAny K (.ref X9) [(.type "int")] = some false)
    (ki_int_10 : PySem.W.kitAny K (.ref X10) [(.type "int")] = some false)
    (ki_int_11 : PySem.W.kitAny K (.ref X11) [(.type "int")] = some false)
    (ki_int_12 : PySem.W.kitAny K (.ref X12) [(.type "int")] = some false)
    (ki_int_13 : PySem.W.kitAny K (.ref X13) [(.type "int")] = some false)
    (kt_int_NoneType : PySem.W.kitAny K (.type "NoneType") [(.type "int")] = some false)
    (kt_int_bool : PySem.W.kitAny K (.type "bool") [(.type "int")] = some true)
    (kt_int_int : PySem.W.kitAny K (.type "int") [(.type "int")] = some true)
    (kt_int_str : PySem.W.kitAny K (.type "str") [(.type "int")] = some false)
    (kt_int_list : PySem.W.kitAny K (.type "list") [(.type "int")] = some false)
    (kt_int_tuple : PySem.W.kitAny K (.type "tuple") [(.type "int")] = some false)
    (kt_int_dict : PySem.W.kitAny K (.type "dict") [(.type "int")] = some false)
    (ki_bool_0 : PySem.W.kitAny K (.ref X0) [(.type "bool")] = some false)
    (ki_bool_1 : PySem.W.kitAny K (.ref X1) [(.type "bool")] = some false)
    (ki_bool_2 : PySem.W.kitAny K (.ref X2) [(.type "bool")] = some false)
    (ki_bool_3 : PySem.W.kitAny K (.ref X3) [(.type "bool")] = some false)
    (ki_bool_4 : PySem.W.kitAny K (.ref X4) [(.type "bool")] = some false)
    (ki_bool_5 : PySem.W.kitAny K (.ref X5) [(.type "bool")] = some false)
    (ki_bool_6 : PySem.W.kitAny K (.ref X6) [(.type "bool")] = some false)
    (ki_bool_7 : PySem.W.kitAny K (.ref X7) [(.type "bool")] = some false)
    (ki_bool_8 : PySem.W.kitAny K (.ref X8) [(.type "bool")] = some false)
    (ki_bool_9 : PySem.W.kitAny K (.ref X9) [(.type "bool")] = some false)
    (ki_bool_10 : PySem.W.kitAny K (.ref X10) [(.type "bool")] = some false)
    (ki_bool_11 : PySem.W.kitAny K (.ref X11) [(.type "bool")] = some false)
    (ki_bool_12 : PySem.W.kitAny K (.ref X12) [(.type "bool")] = some false)
    (ki_bool_13 : PySem.W.kitAny K (.ref X13) [(.type "bool")] = some false)
    (kt_bool_NoneType : PySem.W.kitAny K (.type "NoneType") [(.type "bool")] = some false)
    (kt_bool_bool : PySem.W.kitAny K (.type "bool") [(.type "bool")] = some true)
    (kt_bool_int : PySem.W.kitAny K (.type "int") [(.type "bool")] = some false)
    (kt_bool_str : PySem.W.kitAny K (.type "str") [(.type "bool")] = some false)
    (kt_bool_list : PySem.W.kitAny K (.type "list") [(.type "bool")] = some false)
    (kt_bool_tuple : PySem.W.kitAny K (.type "tuple") [(.type "bool")] = some false)
    (kt_bool_dict : PySem.W.kitAny K (.type "dict") [(.type "bool")] = some false)
    (ki_BadHand_0 : PySem.W.kitAny K (.ref X0) [(.ref X4)] = some false)
    (ki_BadHand_1 : PySem.W.kitAny K (.ref X1) [(.ref X4)] = some false)
    (ki_BadHand_2 : PySem.W.kitAny K (.ref X2) [(.ref X4)] = some false)
    (ki_BadHand_3 : PySem.W.kitAny K (.ref X3) [(.ref X4)] = some false)
    (ki_BadHand_4 : PySem.W.kitAny K (.ref X4) [(.ref X4)] = some true)
    (ki_BadHand_5 : PySem.W.kitAny K (.ref X5) [(.ref X4)] = some false)
    (ki_BadHand_6 : PySem.W.kitAny K (.ref X6) [(.ref X4)] = some false)
    (ki_BadHand_7 : PySem.W.kitAny K (.ref X7) [(.ref X4)] = some false)
    (ki_BadHand_8 : PySem.W.kitAny K (.ref X8) [(.ref X4)] = some false)
    (ki_BadHand_9 : PySem.W.kitAny K (.ref X9) [(.ref X4)] = some false)
    (ki_BadHand_10 : PySem.W.kitAny K (.ref X10) [(.ref X4)] = some false)
    (ki_BadHand_11 : PySem.W.kitAny K (.ref X11) [(.ref X4)] = some false)
    (ki_BadHand_12 : PySem.W.kitAny K (.ref X12) [(.ref X4)] = some false)
    (ki_BadHand_13 : PySem.W.kitAny K (.ref X13) [(.ref X4)] = some false)
    (kt_BadHand_NoneType : PySem.W.kitAny K (.type "NoneType") [(.ref X4)] = some false)
    (kt_BadHand_bool : PySem.W.kitAny K (.type "bool") [(.ref X4)] = some false)
    (kt_BadHand_int : PySem.W.kitAny K (.type "int") [(.ref X4)] = some false)
    (kt_BadHand_str : PySem.W.kitAny K (.type "str") [(.ref X4)] = some false)
    (kt_BadHand_list : PySem.W.kitAny K (.type "list") [(.ref X4)] = some false)
    (kt_BadHand_tuple : PySem.W.kitAny K (.type "tuple") [(.ref X4)] = some false)
    (kt_BadHand_dict : PySem.W.kitAny K (.type "dict") [(.ref X4)] = some false)
    (ki_BadField_0 : PySem.W.kitAny K (.ref X0) [(.ref X3)] = some false)
    (ki_BadField_1 : PySem.W.kitAny K (.ref X1) [(.ref X3)] = some false)
    (ki_BadField_2 : PySem.W.kitAny K (.ref X2) [(.ref X3)] = some false)
    (ki_BadField_3 : PySem.W.kitAny K (.ref X3) [(.ref X3)] = some true)
    (ki_BadField_4 : PySem.W.kitAny K (.ref X4) [(.ref X3)] = some false)
    (ki_BadField_5 : PySem.W.kitAny K (.ref X5) [(.ref X3)] = some false)
    (ki_BadField_6 : PySem.W.kitAny K (.ref X6) [(.ref X3)] = some false)
    (ki_BadField_7 : PySem.W.kitAny K (.ref X7) [(.ref X3)] = some false)
    (ki_BadField_8 : PySem.W.kitAny K (.ref X8) [(.ref X3)] = some false)
    (ki_BadField_9 : PySem.W.kitAny K (.ref X9) [(.ref X3)] = some false)
    (ki_BadField_10 : PySem.W.kitAny K (.ref X10) [(.ref X3)] = some false)
    (ki_BadField_11 : PySem.W.kitAny K (.ref X11) [(.ref X3)] = some false)
    (ki_BadField_12 : PySem.W.kitAny K (.ref X12) [(.ref X3)] = some false)
    (ki_BadField_13 : PySem.W.kitAny K (.ref X13) [(.ref X3)] = some false)
    (kt_BadField_NoneType : PySem.W.kitAny K (.type "NoneType") [(.ref X3)] = some false)
    (kt_BadField_bool : PySem.W.kitAny K (.type "bool") [(.ref X3)] = some false)
    (kt_BadField_int : PySem.W.kitAny K (.type "int") [(.ref X3)] = some false)
    (kt_BadField_str : PySem.W.kitAny K (.type "str") [(.ref X3)] = some false)
    (kt_BadField_list : PySem.W.kitAny K (.type "list") [(.ref X3)] = some false)
    (kt_BadField_tuple : PySem.W.kitAny K (.type "tuple") [(.ref X3)] = some false)
    (kt_BadField_dict : PySem.W.kitAny K (.type "dict") [(.ref X3)] = some false)
    (ki_BadCount_0 : PySem.W.kitAny K (.ref X0) [(.ref X2)] = some false)
    (ki_BadCount_1 : PySem.W.kitAny K (.ref X1) [(.ref X2)] = some false)
    (ki_BadCount_2 : PySem.W.kitAny K (.ref X2) [(.ref X2)] = some true)
    (ki_BadCount_3 : PySem.W.kitAny K (.ref X3) [(.ref X2)] = some false)
    (ki_BadCount_4 : PySem.W.kitAny K (.ref X4) [(.ref X2)] = some false)
    (ki_BadCount_5 : PySem.W.kitAny K (.ref X5) [(.ref X2)] = some false)
    (ki_BadCount_6 : PySem.W.kitAny K (.ref X6) [(.ref X2)] = some false)
    (ki_BadCount_7 : PySem.W.kitAny K (.ref X7) [(.ref X2)] = some false)
    (ki_BadCount_8 : PySem.W.kitAny K (.ref X8) [(.ref X2)] = some false)
    (ki_BadCount_9 : PySem.W.kitAny K (.ref X9) [(.ref X2)] = some false)
    (ki_BadCount_10 : PySem.W.kitAny K (.ref X10) [(.ref X2)] = some false)
    (ki_BadCount_11 : PySem.W.kitAny K (.ref X11) [(.ref X2)] = some false)
    (ki_BadCount_12 : PySem.W.kitAny K (.ref X12) [(.ref X2)] = some false)
    (ki_BadCount_13 : PySem.W.kitAny K (.ref X13) [(.ref X2)] = some false)
    (kt_BadCount_NoneType : PySem.W.kitAny K (.type "NoneType") [(.ref X2)] = some false)
    (kt_BadCount_bool : PySem.W.kitAny K (.type "bool") [(.ref X2)] = some false)
    (kt_BadCount_int : PySem.W.kitAny K (.type "int") [(.ref X2)] = some false)
    (kt_BadCount_str : PySem.W.kitAny K (.type "str") [(.ref X2)] = some false)
    (kt_BadCount_list : PySem.W.kitAny K (.type "list") [(.ref X2)] = some false)
    (kt_BadCount_tuple : PySem.W.kitAny K (.type "tuple") [(.ref X2)] = some false)
    (kt_BadCount_dict : PySem.W.kitAny K (.type "dict") [(.ref X2)] = some false)
    (ki_BadAddress_0 : PySem.W.kitAny K (.ref X0) [(.ref X1)] = some false)
    (ki_BadAddress_1 : PySem.W.kitAny K (.ref X1) [(.ref X1)] = some true)
    (ki_BadAddress_2 : PySem.W.kitAny K (.ref X2) [(.ref X1)] = some false)
    (ki_BadAddress_3 : PySem.W.kitAny K (.ref X3) [(.ref X1)] = some false)
    (ki_BadAddress_4 : PySem.W.kitAny K (.ref X4) [(.ref X1)] = some false)
    (ki_BadAddress_5 : PySem.W.kitAny K (.ref X5) [(.ref X1)] = some false)
    (ki_BadAddress_6 : PySem.W.kitAny K (.ref X6) [(.ref X1)] = some false)
    (ki_BadAddress_7 : PySem.W.kitAny K (.ref X7) [(.ref X1)] = some false)
    (ki_BadAddress_8 : PySem.W.kitAny K (.ref X8) [(.ref X1)] = some false)
    (ki_BadAddress_9 : PySem.W.kitAny K (.ref X9) [(.ref X1)] = some false)
    (ki_BadAddress_10 : PySem.W.kitAny K (.ref X10) [(.ref X1)] = some false)
    (ki_BadAddress_11 : PySem.W.kitAny K (.ref X11) [(.ref X1)] = some false)
    (ki_BadAddress_12 : PySem.W.kitAny K (.ref X12) [(.ref X1)] = some false)
    (ki_BadAddress_13 : PySem.W.kitAny K (.ref X13) [(.ref X1)] = some false)
    (kt_BadAddress_NoneType : PySem.W.kitAny K (.type "NoneType") [(.ref X1)] = some false)
    (kt_BadAddress_bool : PySem.W.kitAny K (.type "bool") [(.ref X1)] = some false)
    (kt_BadAddress_int : PySem.W.kitAny K (.type "int") [(.ref X1)] = some false)
    (kt_BadAddress_str : PySem.W.kitAny K (.type "str") [(.ref X1)] = some false)
    (kt_BadAddress_list : PySem.W.kitAny K (.type "list") [(.ref X1)] = some false)
    (kt_BadAddress_tuple : PySem.W.kitAny K (.type "tuple") [(.ref X1)] = some false)
    (kt_BadAddress_dict : PySem.W.kitAny K (.type "dict") [(.ref X1)] = some false)
    (ki_BadText_0 : PySem.W.kitAny K (.ref X0) [(.ref X8)] = some false)
    (ki_BadText_1 : PySem.W.kitAny K (.ref X1) [(.ref X8)] = some false)
    (ki_BadText_2 : PySem.W.kitAny K (.ref X2) [(.ref X8)] = some false)
    (ki_BadText_3 : PySem.W.kitAny K (.ref X3) [(.ref X8)] = some false)
    (ki_BadText_4 : PySem.W.kitAny K (.ref X4) [(.ref X8)] = some false)
    (ki_BadText_5 : PySem.W.kitAny K (.ref X5) [(.ref X8)] = some false)
    (ki_BadText_6 : PySem.W.kitAny K (.ref X6) [(.ref X8)] = some false)
    (ki_BadText_7 : PySem.W.kitAny K (.ref X7) [(.ref X8)] = some false)
    (ki_BadText_8 : PySem.W.kitAny K (.ref X8) [(.ref X8)] = some true)
    (ki_BadText_9 : PySem.W.kitAny K (.ref X9) [(.ref X8)] = some false)
    (ki_BadText_10 : PySem.W.kitAny K (.ref X10) [(.ref X8)] = some false)
    (ki_BadText_11 : PySem.W.kitAny K (.ref X11) [(.ref X8)] = some false)
    (ki_BadText_12 : PySem.W.kitAny K (.ref X12) [(.ref X8)] = some false)
    (ki_BadText_13 : PySem.W.kitAny K (.ref X13) [(.ref X8)] = some false)
    (kt_BadText_NoneType : PySem.W.kitAny K (.type "NoneType") [(.ref X8)] = some false)
    (kt_BadText_bool : PySem.W.kitAny K (.type "bool") [(.ref X8)] = some false)
    (kt_BadText_int : PySem.W.kitAny K (.type "int") [(.ref X8)] = some false)
    (kt_BadText_str : PySem.W.kitAny K (.type "str") [(.ref X8)] = some false)
    (kt_BadText_list : PySem.W.kitAny K (.type "list") [(.ref X8)] = some false)
    (kt_BadText_tuple : PySem.W.kitAny K (.type "tuple") [(.ref X8)] = some false)
    (kt_BadText_dict : PySem.W.kitAny K (.type "dict") [(.ref X8)] = some false)
    (ki_BadPaper_0 : PySem.W.kitAny K (.ref X0) [(.ref X7)] = some false)
    (ki_BadPaper_1 : PySem.W.kitAny K (.ref X1) [(.ref X7)] = some false)
    (ki_BadPaper_2 : PySem.W.kitAny K (.ref X2) [(.ref X7)] = some false)
    (ki_BadPaper_3 : PySem.W.kitAny K (.ref X3) [(.ref X7)] = some false)
    (ki_BadPaper_4 : PySem.W.kitAny K (.ref X4) [(.ref X7)] = some false)
    (ki_BadPaper_5 : PySem.W.kitAny K (.ref X5) [(.ref X7)] = some false)
    (ki_BadPaper_6 : PySem.W.kitAny K (.ref X6) [(.ref X7)] = some false)
    (ki_BadPaper_7 : PySem.W.kitAny K (.ref X7) [(.ref X7)] = some true)
    (ki_BadPaper_8 : PySem.W.kitAny K (.ref X8) [(.ref X7)] = some false)
    (ki_BadPaper_9 : PySem.W.kitAny K (.ref X9) [(.ref X7)] = some false)
    (ki_BadPaper_10 : PySem.W.kitAny K (.ref X10) [(.ref X7)] = some false)
    (ki_BadPaper_11 : PySem.W.kitAny K (.ref X11) [(.ref X7)] = some false)
    (ki_BadPaper_12 : PySem.W.kitAny K (.ref X12) [(.ref X7)] = some false)
    (ki_BadPaper_13 : PySem.W.kitAny K (.ref X13) [(.ref X7)] = some false)
    (kt_BadPaper_NoneType : PySem.W.kitAny K (.type "NoneType") [(.ref X7)] = some false)
    (kt_BadPaper_bool : PySem.W.kitAny K (.type "bool") [(.ref X7)] = some false)
    (kt_BadPaper_int : PySem.W.kitAny K (.type "int") [(.ref X7)] = some false)
    (kt_BadPaper_str : PySem.W.kitAny K (.type "str") [(.ref X7)] = some false)
    (kt_BadPaper_list : PySem.W.kitAny K (.type "list") [(.ref X7)] = some false)
    (kt_BadPaper_tuple : PySem.W.kitAny K (.type "tuple") [(.ref X7)] = some false)
    (kt_BadPaper_dict : PySem.W.kitAny K (.type "dict") [(.ref X7)] = some false)
    (ki_BadName_0 : PySem.W.kitAny K (.ref X0) [(.ref X6)] = some false)
    (ki_BadName_1 : PySem.W.kitAny K (.ref X1) [(.ref X6)] = some false)
    (ki_BadName_2 : PySem.W.kitAny K (.ref X2) [(.ref X6)] = some false)
    (ki_BadName_3 : PySem.W.kitAny K (.ref X3) [(.ref X6)] = some false)
    (ki_BadName_4 : PySem.W.kitAny K (.ref X4) [(.ref X6)] = some false)
    (ki_BadName_5 : PySem.W.kitAny K (.ref X5) [(.ref X6)] = some false)
    (ki_BadName_6 : PySem.W.kitAny K (.ref X6) [(.ref X6)] = some true)
    (ki_BadName_7 : PySem.W.kitAny K (.ref X7) [(.ref X6)] = some false)
    (ki_BadName_8 : PySem.W.kitAny K (.ref X8) [(.ref X6)] = some false)
    (ki_BadName_9 : PySem.W.kitAny K (.ref X9) [(.ref X6)] = some false)
    (ki_BadName_10 : PySem.W.kitAny K (.ref X10) [(.ref X6)] = some false)
    (ki_BadName_11 : PySem.W.kitAny K (.ref X11) [(.ref X6)] = some false)
    (ki_BadName_12 : PySem.W.kitAny K (.ref X12) [(.ref X6)] = some false)
    (ki_BadName_13 : PySem.W.kitAny K (.ref X13) [(.ref X6)] = some false)
    (kt_BadName_NoneType : PySem.W.kitAny K (.type "NoneType") [(.ref X6)] = some false)
    (kt_BadName_bool : PySem.W.kitAny K (.type "bool") [(.ref X6)] = some false)
    (kt_BadName_int : PySem.W.kitAny K (.type "int") [(.ref X6)] = some false)
    (kt_BadName_str : PySem.W.kitAny K (.type "str") [(.ref X6)] = some false)
    (kt_BadName_list : PySem.W.kitAny K (.type "list") [(.ref X6)] = some false)
    (kt_BadName_tuple : PySem.W.kitAny K (.type "tuple") [(.ref X6)] = some false)
    (kt_BadName_dict : PySem.W.kitAny K (.type "dict") [(.ref X6)] = some false)
    (ki_BadLog_0 : PySem.W.kitAny K (.ref X0) [(.ref X5)] = some false)
    (ki_BadLog_1 : PySem.W.kitAny K (.ref X1) [(.ref X5)] = some false)
    (ki_BadLog_2 : PySem.W.kitAny K (.ref X2) [(.ref X5)] = some false)
    (ki_BadLog_3 : PySem.W.kitAny K (.ref X3) [(.ref X5)] = some false)
    (ki_BadLog_4 : PySem.W.kitAny K (.ref X4) [(.ref X5)] = some false)
    (ki_BadLog_5 : PySem.W.kitAny K (.ref X5) [(.ref X5)] = some true)
    (ki_BadLog_6 : PySem.W.kitAny K (.ref X6) [(.ref X5)] = some false)
    (ki_BadLog_7 : PySem.W.kitAny K (.ref X7) [(.ref X5)] = some false)
    (ki_BadLog_8 : PySem.W.kitAny K (.ref X8) [(.ref X5)] = some false)
    (ki_BadLog_9 : PySem.W.kitAny K (.ref X9) [(.ref X5)] = some false)
    (ki_BadLog_10 : PySem.W.kitAny K (.ref X10) [(.ref X5)] = some false)
    (ki_BadLog_11 : PySem.W.kitAny K (.ref X11) [(.ref X5)] = some false)
    (ki_BadLog_12 : PySem.W.kitAny K (.ref X12) [(.ref X5)] = some false)
    (ki_BadLog_13 : PySem.W.kitAny K (.ref X13) [(.ref X5)] = some false)
    (kt_BadLog_NoneType : PySem.W.kitAny K (.type "NoneType") [(.ref X5)] = some false)
    (kt_BadLog_bool : PySem.W.kitAny K (.type "bool") [(.ref X5)] = some false)
    (kt_BadLog_int : PySem.W.kitAny K (.type "int") [(.ref X5)] = some false)
    (kt_BadLog_str : PySem.W.kitAny K (.type "str") [(.ref X5)] = some false)
    (kt_BadLog_list : PySem.W.kitAny K (.type "list") [(.ref X5)] = some false)
    (kt_BadLog_tuple : PySem.W.kitAny K (.type "tuple") [(.ref X5)] = some false)
    (kt_BadLog_dict : PySem.W.kitAny K (.type "dict") [(.ref X5)] = some false)
    (ki_RoundOn_0 : PySem.W.kitAny K (.ref X0) [(.ref X12)] = some false)
    (ki_RoundOn_1 : PySem.W.kitAny K (.ref X1) [(.ref X12)] = some false)
    (ki_RoundOn_2 : PySem.W.kitAny K (.ref X2) [(.ref X12)] = some false)
    (ki_RoundOn_3 : PySem.W.kitAny K (.ref X3) [(.ref X12)] = some false)
    (ki_RoundOn_4 : PySem.W.kitAny K (.ref X4) [(.ref X12)] = some false)
    (ki_RoundOn_5 : PySem.W.kitAny K (.ref X5) [(.ref X12)] = some false)
    (ki_RoundOn_6 : PySem.W.kitAny K (.ref X6) [(.ref X12)] = some false)
    (ki_RoundOn_7 : PySem.W.kitAny K (.ref X7) [(.ref X12)] = some false)
    (ki_RoundOn_8 : PySem.W.kitAny K (.ref X8) [(.ref X12)] = some false)
    (ki_RoundOn_9 : PySem.W.kitAny K (.ref X9) [(.ref X12)] = some false)
    (ki_RoundOn_10 : PySem.W.kitAny K (.ref X10) [(.ref X12)] = some false)
    (ki_RoundOn_11 : PySem.W.kitAny K (.ref X11) [(.ref X12)] = some false)
    (ki_RoundOn_12 : PySem.W.kitAny K (.ref X12) [(.ref X12)] = some true)
    (ki_RoundOn_13 : PySem.W.kitAny K (.ref X13) [(.ref X12)] = some false)
    (kt_RoundOn_NoneType : PySem.W.kitAny K (.type "NoneType") [(.ref X12)] = some false)
    (kt_RoundOn_bool : PySem.W.kitAny K (.type "bool") [(.ref X12)] = some false)
    (kt_RoundOn_int : PySem.W.kitAny K (.type "int") [(.ref X12)] = some false)
    (kt_RoundOn_str : PySem.W.kitAny K (.type "str") [(.ref X12)] = some false)
    (kt_RoundOn_list : PySem.W.kitAny K (.type "list") [(.ref X12)] = some false)
    (kt_RoundOn_tuple : PySem.W.kitAny K (.type "tuple") [(.ref X12)] = some false)
    (kt_RoundOn_dict : PySem.W.kitAny K (.type "dict") [(.ref X12)] = some false)
    (ki_NoRound_0 : PySem.W.kitAny K (.ref X0) [(.ref X11)] = some false)
    (ki_NoRound_1 : PySem.W.kitAny K (.ref X1) [(.ref X11)] = some false)
    (ki_NoRound_2 : PySem.W.kitAny K (.ref X2) [(.ref X11)] = some false)
    (ki_NoRound_3 : PySem.W.kitAny K (.ref X3) [(.ref X11)] = some false)
    (ki_NoRound_4 : PySem.W.kitAny K (.ref X4) [(.ref X11)] = some false)
    (ki_NoRound_5 : PySem.W.kitAny K (.ref X5) [(.ref X11)] = some false)
    (ki_NoRound_6 : PySem.W.kitAny K (.ref X6) [(.ref X11)] = some false)
    (ki_NoRound_7 : PySem.W.kitAny K (.ref X7) [(.ref X11)] = some false)
    (ki_NoRound_8 : PySem.W.kitAny K (.ref X8) [(.ref X11)] = some false)
    (ki_NoRound_9 : PySem.W.kitAny K (.ref X9) [(.ref X11)] = some false)
    (ki_NoRound_10 : PySem.W.kitAny K (.ref X10) [(.ref X11)] = some false)
    (ki_NoRound_11 : PySem.W.kitAny K (.ref X11) [(.ref X11)] = some true)
    (ki_NoRound_12 : PySem.W.kitAny K (.ref X12) [(.ref X11)] = some false)
    (ki_NoRound_13 : PySem.W.kitAny K (.ref X13) [(.ref X11)] = some false)
    (kt_NoRound_NoneType : PySem.W.kitAny K (.type "NoneType") [(.ref X11)] = some false)
    (kt_NoRound_bool : PySem.W.kitAny K (.type "bool") [(.ref X11)] = some false)
    (kt_NoRound_int : PySem.W.kitAny K (.type "int") [(.ref X11)] = some false)
    (kt_NoRound_str : PySem.W.kitAny K (.type "str") [(.ref X11)] = some false)
    (kt_NoRound_list : PySem.W.kitAny K (.type "list") [(.ref X11)] = some false)
    (kt_NoRound_tuple : PySem.W.kitAny K (.type "tuple") [(.ref X11)] = some false)
    (kt_NoRound_dict : PySem.W.kitAny K (.type "dict") [(.ref X11)] = some false)
    (ki_NoRoom_0 : PySem.W.kitAny K (.ref X0) [(.ref X10)] = some false)
    (ki_NoRoom_1 : PySem.W.kitAny K (.ref X1) [(.ref X10)] = some false)
    (ki_NoRoom_2 : PySem.W.kitAny K (.ref X2) [(.ref X10)] = some false)
    (ki_NoRoom_3 : PySem.W.kitAny K (.ref X3) [(.ref X10)] = some false)
    (ki_NoRoom_4 : PySem.W.kitAny K (.ref X4) [(.ref X10)] = some false)
    (ki_NoRoom_5 : PySem.W.kitAny K (.ref X5) [(.ref X10)] = some false)
    (ki_NoRoom_6 : PySem.W.kitAny K (.ref X6) [(.ref X10)] = some false)
    (ki_NoRoom_7 : PySem.W.kitAny K (.ref X7) [(.ref X10)] = some false)
    (ki_NoRoom_8 : PySem.W.kitAny K (.ref X8) [(.ref X10)] = some false)
    (ki_NoRoom_9 : PySem.W.kitAny K (.ref X9) [(.ref X10)] = some false)
    (ki_NoRoom_10 : PySem.W.kitAny K (.ref X10) [(.ref X10)] = some true)
    (ki_NoRoom_11 : PySem.W.kitAny K (.ref X11) [(.ref X10)] = some false)
    (ki_NoRoom_12 : PySem.W.kitAny K (.ref X12) [(.ref X10)] = some false)
    (ki_NoRoom_13 : PySem.W.kitAny K (.ref X13) [(.ref X10)] = some false)
    (kt_NoRoom_NoneType : PySem.W.kitAny K (.type "NoneType") [(.ref X10)] = some false)
    (kt_NoRoom_bool : PySem.W.kitAny K (.type "bool") [(.ref X10)] = some false)
    (kt_NoRoom_int : PySem.W.kitAny K (.type "int") [(.ref X10)] = some false)
    (kt_NoRoom_str : PySem.W.kitAny K (.type "str") [(.ref X10)] = some false)
    (kt_NoRoom_list : PySem.W.kitAny K (.type "list") [(.ref X10)] = some false)
    (kt_NoRoom_tuple : PySem.W.kitAny K (.type "tuple") [(.ref X10)] = some false)
    (kt_NoRoom_dict : PySem.W.kitAny K (.type "dict") [(.ref X10)] = some false)
    (ki_BadView_0 : PySem.W.kitAny K (.ref X0) [(.ref X9)] = some false)
    (ki_BadView_1 : PySem.W.kitAny K (.ref X1) [(.ref X9)] = some false)
    (ki_BadView_2 : PySem.W.kitAny K (.ref X2) [(.ref X9)] = some false)
    (ki_BadView_3 : PySem.W.kitAny K (.ref X3) [(.ref X9)] = some false)
    (ki_BadView_4 : PySem.W.kitAny K (.ref X4) [(.ref X9)] = some false)
    (ki_BadView_5 : PySem.W.kitAny K (.ref X5) [(.ref X9)] = some false)
    (ki_BadView_6 : PySem.W.kitAny K (.ref X6) [(.ref X9)] = some false)
    (ki_BadView_7 : PySem.W.kitAny K (.ref X7) [(.ref X9)] = some false)
    (ki_BadView_8 : PySem.W.kitAny K (.ref X8) [(.ref X9)] = some false)
    (ki_BadView_9 : PySem.W.kitAny K (.ref X9) [(.ref X9)] = some true)
    (ki_BadView_10 : PySem.W.kitAny K (.ref X10) [(.ref X9)] = some false)
    (ki_BadView_11 : PySem.W.kitAny K (.ref X11) [(.ref X9)] = some false)
    (ki_BadView_12 : PySem.W.kitAny K (.ref X12) [(.ref X9)] = some false)
    (ki_BadView_13 : PySem.W.kitAny K (.ref X13) [(.ref X9)] = some false)
    (kt_BadView_NoneType : PySem.W.kitAny K (.type "NoneType") [(.ref X9)] = some false)
    (kt_BadView_bool : PySem.W.kitAny K (.type "bool") [(.ref X9)] = some false)
    (kt_BadView_int : PySem.W.kitAny K (.type "int") [(.ref X9)] = some false)
    (kt_BadView_str : PySem.W.kitAny K (.type "str") [(.ref X9)] = some false)
    (kt_BadView_list : PySem.W.kitAny K (.type "list") [(.ref X9)] = some false)
    (kt_BadView_tuple : PySem.W.kitAny K (.type "tuple") [(.ref X9)] = some false)
    (kt_BadView_dict : PySem.W.kitAny K (.type "dict") [(.ref X9)] = some false)
    (ki_TooManyWords_0 : PySem.W.kitAny K (.ref X0) [(.ref X13)] = some false)
    (ki_TooManyWords_1 : PySem.W.kitAny K (.ref X1) [(.ref X13)] = some false)
    (ki_TooManyWords_2 : PySem.W.kitAny K (.ref X2) [(.ref X13)] = some false)
    (ki_TooManyWords_3 : PySem.W.kitAny K (.ref X3) [(.ref X13)] = some false)
    (ki_TooManyWords_4 : PySem.W.kitAny K (.ref X4) [(.ref X13)] = some false)
    (ki_TooManyWords_5 : PySem.W.kitAny K (.ref X5) [(.ref X13)] = some false)
    (ki_TooManyWords_6 : PySem.W.kitAny K (.ref X6) [(.ref X13)] = some false)
    (ki_TooManyWords_7 : PySem.W.kitAny K (.ref X7) [(.ref X13)] = some false)
    (ki_TooManyWords_8 : PySem.W.kitAny K (.ref X8) [(.ref X13)] = some false)
    (ki_TooManyWords_9 : PySem.W.kitAny K (.ref X9) [(.ref X13)] = some false)
    (ki_TooManyWords_10 : PySem.W.kitAny K (.ref X10) [(.ref X13)] = some false)
    (ki_TooManyWords_11 : PySem.W.kitAny K (.ref X11) [(.ref X13)] = some false)
    (ki_TooManyWords_12 : PySem.W.kitAny K (.ref X12) [(.ref X13)] = some false)
    (ki_TooManyWords_13 : PySem.W.kitAny K (.ref X13) [(.ref X13)] = some true)
    (kt_TooManyWords_NoneType : PySem.W.kitAny K (.type "NoneType") [(.ref X13)] = some false)
    (kt_TooManyWords_bool : PySem.W.kitAny K (.type "bool") [(.ref X13)] = some false)
    (kt_TooManyWords_int : PySem.W.kitAny K (.type "int") [(.ref X13)] = some false)
    (kt_TooManyWords_str : PySem.W.kitAny K (.type "str") [(.ref X13)] = some false)
    (kt_TooManyWords_list : PySem.W.kitAny K (.type "list") [(.ref X13)] = some false)
    (kt_TooManyWords_tuple : PySem.W.kitAny K (.type "tuple") [(.ref X13)] = some false)
    (kt_TooManyWords_dict : PySem.W.kitAny K (.type "dict") [(.ref X13)] = some false)
    (ki_tuple_0 : PySem.W.kitAny K (.ref X0) [(.type "tuple")] = some false)
    (ki_tuple_1 : PySem.W.kitAny K (.ref X1) [(.type "tuple")] = some false)
    (ki_tuple_2 : PySem.W.kitAny K (.ref X2) [(.type "tuple")] = some false)
    (ki_tuple_3 : PySem.W.kitAny K (.ref X3) [(.type "tuple")] = some false)
    (ki_tuple_4 : PySem.W.kitAny K (.ref X4) [(.type "tuple")] = some false)
    (ki_tuple_5 : PySem.W.kitAny K (.ref X5) [(.type "tuple")] = some false)
    (ki_tuple_6 : PySem.W.kitAny K (.ref X6) [(.type "tuple")] = some false)
    (ki_tuple_7 : PySem.W.kitAny K (.ref X7) [(.type "tuple")] = some false)
    (ki_tuple_8 : PySem.W.kitAny K (.ref X8) [(.type "tuple")] = some false)
    (ki_tuple_9 : PySem.W.kitAny K (.ref X9) [(.type "tuple")] = some false)
    (ki_tuple_10 : PySem.W.kitAny K (.ref X10) [(.type "tuple")] = some false)
    (ki_tuple_11 : PySem.W.kitAny K (.ref X11) [(.type "tuple")] = some false)
    (ki_tuple_12 : PySem.W.kitAny K (.ref X12) [(.type "tuple")] = some false)
    (ki_tuple_13 : PySem.W.kitAny K (.ref X13) [(.type "tuple")] = some false)
    (kt_tuple_NoneType : PySem.W.kitAny K (.type "NoneType") [(.type "tuple")] = some false)
    (kt_tuple_bool : PySem.W.kitAny K (.type "bool") [(.type "tuple")] = some false)
    (kt_tuple_int : PySem.W.kitAny K (.type "int") [(.type "tuple")] = some false)
    (kt_tuple_str : PySem.W.kitAny K (.type "str") [(.type "tuple")] = some false)
    (kt_tuple_list : PySem.W.kitAny K (.type "list") [(.type "tuple")] = some false)
    (kt_tuple_tuple : PySem.W.kitAny K (.type "tuple") [(.type "tuple")] = some true)
    (kt_tuple_dict : PySem.W.kitAny K (.type "dict") [(.type "tuple")] = some false)
    (ki_ValueError_0 : PySem.W.kitAny K (.ref X0) [(.type "ValueError")] = some true)
    (ki_ValueError_1 : PySem.W.kitAny K (.ref X1) [(.type "ValueError")] = some true)
    (ki_ValueError_2 : PySem.W.kitAny K (.ref X2) [(.type "ValueError")] = some true)
    (ki_ValueError_3 : PySem.W.kitAny K (.ref X3) [(.type "ValueError")] = some true)
    (ki_ValueError_4 : PySem.W.kitAny K (.ref X4) [(.type "ValueError")] = some true)
    (ki_ValueError_5 : PySem.W.kitAny K (.ref X5) [(.type "ValueError")] = some true)
    (ki_ValueError_6 : PySem.W.kitAny K (.ref X6) [(.type "ValueError")] = some true)
    (ki_ValueError_7 : PySem.W.kitAny K (.ref X7) [(.type "ValueError")] = some true)
    (ki_ValueError_8 : PySem.W.kitAny K (.ref X8) [(.type "ValueError")] = some true)
    (ki_ValueError_9 : PySem.W.kitAny K (.ref X9) [(.type "ValueError")] = some true)
    (ki_ValueError_10 : PySem.W.kitAny K (.ref X10) [(.type "ValueError")] = some true)
    (ki_ValueError_11 : PySem.W.kitAny K (.ref X11) [(.type "ValueError")] = some true)
    (ki_ValueError_12 : PySem.W.kitAny K (.ref X12) [(.type "ValueError")] = some true)
    (ki_ValueError_13 : PySem.W.kitAny K (.ref X13) [(.type "ValueError")] = some true)
    (kt_ValueError_NoneType : PySem.W.kitAny K (.type "NoneType") [(.type "ValueError")] = some false)
    (kt_ValueError_bool : PySem.W.kitAny K (.type "bool") [(.type "ValueError")] = some false)
    (kt_ValueError_int : PySem.W.kitAny K (.type "int") [(.type "ValueError")] = some false)
    (kt_ValueError_str : PySem.W.kitAny K (.type "str") [(.type "ValueError")] = some false)
    (kt_ValueError_list : PySem.W.kitAny K (.type "list") [(.type "ValueError")] = some false)
    (kt_ValueError_tuple : PySem.W.kitAny K (.type "tuple") [(.type "ValueError")] = some false)
    (kt_ValueError_dict : PySem.W.kitAny K (.type "dict") [(.type "ValueError")] = some false)
    (es_HeapError_0 : PySem.W.exmOne K (.ref X0) (.ref X0) = some true)
    (es_HeapError_1 : PySem.W.exmOne K (.ref X1) (.ref X0) = some true)
    (es_HeapError_2 : PySem.W.exmOne K (.ref X2) (.ref X0) = some true)
    (es_HeapError_3 : PySem.W.exmOne K (.ref X3) (.ref X0) = some true)
    (es_HeapError_4 : PySem.W.exmOne K (.ref X4) (.ref X0) = some true)
    (es_HeapError_5 : PySem.W.exmOne K (.ref X5) (.ref X0) = some true)
    (es_HeapError_6 : PySem.W.exmOne K (.ref X6) (.ref X0) = some true)
    (es_HeapError_7 : PySem.W.exmOne K (.ref X7) (.ref X0) = some true)
    (es_HeapError_8 : PySem.W.exmOne K (.ref X8) (.ref X0) = some true)
    (es_HeapError_9 : PySem.W.exmOne K (.ref X9) (.ref X0) = some true)
    (es_HeapError_10 : PySem.W.exmOne K (.ref X10) (.ref X0) = some true)
    (es_HeapError_11 : PySem.W.exmOne K (.ref X11) (.ref X0) = some true)
    (es_HeapError_12 : PySem.W.exmOne K (.ref X12) (.ref X0) = some true)
    (es_HeapError_13 : PySem.W.exmOne K (.ref X13) (.ref X0) = some true)
    (xi_BadCount : PySem.W.excIn K X2 [.type "ValueError", .type "Exception", .type "BaseException", .type "object"] "ValueError.__new__" = true)
    (xk_BadCount : PySem.W.keepIn K (.ref X2) = true)
    (xt_BadCount : PySem.W.typeIn K (.ref X2) = some (.type "type"))
    (xc0_a : PySem.W.findIn K (.ref X0) "called" = some (some (.ref fc0)))
    (xc0_i : PySem.W.isFn K (.ref fc0) = true)
    (xc0_l : K.lookup fc0 = some ⟨coc0, cod0, .func (PySem.W.fnOf "called" "HeapError.called" (defArgs (inClass (atTop prog 1) 0)) (defBody (inClass (atTop prog 1) 0)) (defScope (inClass (atTop prog 1) 0)) .none ckV0 cdc0 cpm0 can0 ccd0 cct0), csl0⟩)
    (xc0_c : PySem.W.codeIn K ccd0 "HeapError.called" = true)
    (xc0_k : PySem.W.keepIn K (.ref fc0) = true)
    (xc1_a : PySem.W.findIn K (.ref X1) "called" = some (some (.ref fc1)))
    (xc1_i : PySem.W.isFn K (.ref fc1) = true)
    (xc1_l : K.lookup fc1 = some ⟨coc1, cod1, .func (PySem.W.fnOf "called" "BadAddress.called" (defArgs (inClass (atTop prog 2) 0)) (defBody (inClass (atTop prog 2) 0)) (defScope (inClass (atTop prog 2) 0)) .none ckV1 cdc1 cpm1 can1 ccd1 cct1), csl1⟩)
    (xc1_c : PySem.W.codeIn K ccd1 "BadAddress.called" = true)
    (xc1_k : PySem.W.keepIn K (.ref fc1) = true)
    (xc2_a : PySem.W.findIn K (.ref X2) "called" = some (some (.ref fc2)))
    (xc2_i : PySem.W.isFn K (.ref fc2) = true)
    (xc2_l : K.lookup fc2 = some ⟨coc2, cod2, .func (PySem.W.fnOf "called" "BadCount.called" (defArgs (inClass (atTop prog 3) 0)) (defBody (inClass (atTop prog 3) 0)) (defScope (inClass (atTop prog 3) 0)) .none ckV2 cdc2 cpm2 can2 ccd2 cct2), csl2⟩)
    (xc2_c : PySem.W.codeIn K ccd2 "BadCount.called" = true)
    (xc2_k : PySem.W.keepIn K (.ref fc2) = true)
    (xc3_a : PySem.W.findIn K (.ref X3) "called" = some (some (.ref fc3)))
    (xc3_i : PySem.W.isFn K (.ref fc3) = true)
    (xc3_l : K.lookup fc3 = some ⟨coc3, cod3, .func (PySem.W.fnOf "called" "BadField.called" (defArgs (inClass (atTop prog 4) 0)) (defBody (inClass (atTop prog 4) 0)) (defScope (inClass (atTop prog 4) 0)) .none ckV3 cdc3 cpm3 can3 ccd3 cct3), csl3⟩)
    (xc3_c : PySem.W.codeIn K ccd3 "BadField.called" = true)
    (xc3_k : PySem.W.keepIn K (.ref fc3) = true)
    (xc4_a : PySem.W.findIn K (.ref X4) "called" = some (some (.ref fc4)))
    (xc4_i : PySem.W.isFn K (.ref fc4) = true)
    (xc4_l : K.lookup fc4 = some ⟨coc4, cod4, .func (PySem.W.fnOf "called" "BadHand.called" (defArgs (inClass (atTop prog 5) 0)) (defBody (inClass (atTop prog 5) 0)) (defScope (inClass (atTop prog 5) 0)) .none ckV4 cdc4 cpm4 can4 ccd4 cct4), csl4⟩)
    (xc4_c : PySem.W.codeIn K ccd4 "BadHand.called" = true)
    (xc4_k : PySem.W.keepIn K (.ref fc4) = true)
    (xc5_a : PySem.W.findIn K (.ref X5) "called" = some (some (.ref fc5)))
    (xc5_i : PySem.W.isFn K (.ref fc5) = true)
    (xc5_l : K.lookup fc5 = some ⟨coc5, cod5, .func (PySem.W.fnOf "called" "BadLog.called" (defArgs (inClass (atTop prog 6) 1)) (defBody (inClass (atTop prog 6) 1)) (defScope (inClass (atTop prog 6) 1)) .none ckV5 cdc5 cpm5 can5 ccd5 cct5), csl5⟩)
    (xc5_c : PySem.W.codeIn K ccd5 "BadLog.called" = true)
    (xc5_k : PySem.W.keepIn K (.ref fc5) = true)
    (xc6_a : PySem.W.findIn K (.ref X6) "called" = some (some (.ref fc6)))
    (xc6_i : PySem.W.isFn K (.ref fc6) = true)
    (xc6_l : K.lookup fc6 = some ⟨coc6, cod6, .func (PySem.W.fnOf "called" "BadName.called" (defArgs (inClass (atTop prog 7) 0)) (defBody (inClass (atTop prog 7) 0)) (defScope (inClass (atTop prog 7) 0)) .none ckV6 cdc6 cpm6 can6 ccd6 cct6), csl6⟩)
    (xc6_c : PySem.W.codeIn K ccd6 "BadName.called" = true)
    (xc6_k : PySem.W.keepIn K (.ref fc6) = true)
    (xc7_a : PySem.W.findIn K (.ref X7) "called" = some (some (.ref fc7)))
    (xc7_i : PySem.W.isFn K (.ref fc7) = true)
    (xc7_l : K.lookup fc7 = some ⟨coc7, cod7, .func (PySem.W.fnOf "called" "BadPaper.called" (defArgs (inClass (atTop prog 8) 0)) (defBody (inClass (atTop prog 8) 0)) (defScope (inClass (atTop prog 8) 0)) .none ckV7 cdc7 cpm7 can7 ccd7 cct7), csl7⟩)
    (xc7_c : PySem.W.codeIn K ccd7 "BadPaper.called" = true)
    (xc7_k : PySem.W.keepIn K (.ref fc7) = true)
    (xc8_a : PySem.W.findIn K (.ref X8) "called" = some (some (.ref fc8)))
    (xc8_i : PySem.W.isFn K (.ref fc8) = true)
    (xc8_l : K.lookup fc8 = some ⟨coc8, cod8, .func (PySem.W.fnOf "called" "BadText.called" (defArgs (inClass (atTop prog 9) 1)) (defBody (inClass (atTop prog 9) 1)) (defScope (inClass (atTop prog 9) 1)) .none ckV8 cdc8 cpm8 can8 ccd8 cct8), csl8⟩)
    (xc8_c : PySem.W.codeIn K ccd8 "BadText.called" = true)
    (xc8_k : PySem.W.keepIn K (.ref fc8) = true)
    (xc9_a : PySem.W.findIn K (.ref X9) "called" = some (some (.ref fc9)))
    (xc9_i : PySem.W.isFn K (.ref fc9) = true)
    (xc9_l : K.lookup fc9 = some ⟨coc9, cod9, .func (PySem.W.fnOf "called" "BadView.called" (defArgs (inClass (atTop prog 10) 0)) (defBody (inClass (atTop prog 10) 0)) (defScope (inClass (atTop prog 10) 0)) .none ckV9 cdc9 cpm9 can9 ccd9 cct9), csl9⟩)
    (xc9_c : PySem.W.codeIn K ccd9 "BadView.called" = true)
    (xc9_k : PySem.W.keepIn K (.ref fc9) = true)
    (xc10_a : PySem.W.findIn K (.ref X10) "called" = some (some (.ref fc10)))
    (xc10_i : PySem.W.isFn K (.ref fc10) = true)
    (xc10_l : K.lookup fc10 = some ⟨coc10, cod10, .func (PySem.W.fnOf "called" "NoRoom.called" (defArgs (inClass (atTop prog 11) 0)) (defBody (inClass (atTop prog 11) 0)) (defScope (inClass (atTop prog 11) 0)) .none ckV10 cdc10 cpm10 can10 ccd10 cct10), csl10⟩)
    (xc10_c : PySem.W.codeIn K ccd10 "NoRoom.called" = true)
    (xc10_k : PySem.W.keepIn K (.ref fc10) = true)
    (xc11_a : PySem.W.findIn K (.ref X11) "called" = some (some (.ref fc11)))
    (xc11_i : PySem.W.isFn K (.ref fc11) = true)
    (xc11_l : K.lookup fc11 = some ⟨coc11, cod11, .func (PySem.W.fnOf "called" "NoRound.called" (defArgs (inClass (atTop prog 12) 0)) (defBody (inClass (atTop prog 12) 0)) (defScope (inClass (atTop prog 12) 0)) .none ckV11 cdc11 cpm11 can11 ccd11 cct11), csl11⟩)
    (xc11_c : PySem.W.codeIn K ccd11 "NoRound.called" = true)
    (xc11_k : PySem.W.keepIn K (.ref fc11) = true)
    (xc12_a : PySem.W.findIn K (.ref X12) "called" = some (some (.ref fc12)))
    (xc12_i : PySem.W.isFn K (.ref fc12) = true)
    (xc12_l : K.lookup fc12 = some ⟨coc12, cod12, .func (PySem.W.fnOf "called" "RoundOn.called" (defArgs (inClass (atTop prog 13) 0)) (defBody (inClass (atTop prog 13) 0)) (defScope (inClass (atTop prog 13) 0)) .none ckV12 cdc12 cpm12 can12 ccd12 cct12), csl12⟩)
    (xc12_c : PySem.W.codeIn K ccd12 "RoundOn.called" = true)
    (xc12_k : PySem.W.keepIn K (.ref fc12) = true)
    (xc13_a : PySem.W.findIn K (.ref X13) "called" = some (some (.ref fc13)))
    (xc13_i : PySem.W.isFn K (.ref fc13) = true)
    (xc13_l : K.lookup fc13 = some ⟨coc13, cod13, .func (PySem.W.fnOf "called" "TooManyWords.called" (defArgs (inClass (atTop prog 14) 0)) (defBody (inClass (atTop prog 14) 0)) (defScope (inClass (atTop prog 14) 0)) .none ckV13 cdc13 cpm13 can13 ccd13 cct13), csl13⟩)
    (xc13_c : PySem.W.codeIn K ccd13 "TooManyWords.called" = true)
    (xc13_k : PySem.W.keepIn K (.ref fc13) = true)
    (a0 : PySem.W.nsIn K mainGlobals "kind_of" = some (some (.ref f0)))
    (l0 : K.lookup f0 = some ⟨oc0, od0, .func (PySem.W.fnOf "kind_of" "kind_of" (defArgs (atTop prog 19)) (defBody (atTop prog 19)) (defScope (atTop prog 19)) .none kV0 dc0 pm0 an0 cd0 ct0), sl0⟩)
    (c0 : PySem.W.codeIn K cd0 "kind_of" = true)
    (k0 : PySem.W.keepIn K (.ref f0) = true)
    (a1 : PySem.W.nsIn K mainGlobals "number_value" = some (some (.ref f1)))
    (l1 : K.lookup f1 = some ⟨oc1, od1, .func (PySem.W.fnOf "number_value" "number_value" (defArgs (atTop prog 17)) (defBody (atTop prog 17)) (defScope (atTop prog 17)) .none kV1 dc1 pm1 an1 cd1 ct1), sl1⟩)
    (c1 : PySem.W.codeIn K cd1 "number_value" = true)
    (k1 : PySem.W.keepIn K (.ref f1) = true)
    (a2 : PySem.W.nsIn K mainGlobals "_law_whole" = some (some (.ref f2)))
    (l2 : K.lookup f2 = some ⟨oc2, od2, .func (PySem.W.fnOf "_law_whole" "_law_whole" (defArgs (atTop prog 21)) (defBody (atTop prog 21)) (defScope (atTop prog 21)) .none kV2 dc2 pm2 an2 cd2 ct2), sl2⟩)
    (c2 : PySem.W.codeIn K cd2 "_law_whole" = true)
    (k2 : PySem.W.keepIn K (.ref f2) = true)
    (a3 : PySem.W.nsIn K mainGlobals "_law_pair" = some (some (.ref f3)))
    (l3 : K.lookup f3 = some ⟨oc3, od3, .func (PySem.W.fnOf "_law_pair" "_law_pair" (defArgs (atTop prog 23)) (defBody (atTop prog 23)) (defScope (atTop prog 23)) .none kV3 dc3 pm3 an3 cd3 ct3), sl3⟩)
    (c3 : PySem.W.codeIn K cd3 "_law_pair" = true)
    (k3 : PySem.W.keepIn K (.ref f3) = true)
    (a4 : PySem.W.nsIn K mainGlobals "_law_flags" = some (some (.ref f4)))
    (l4 : K.lookup f4 = some ⟨oc4, od4, .func (PySem.W.fnOf "_law_flags" "_law_flags" (defArgs (atTop prog 22)) (defBody (atTop prog 22)) (defScope (atTop prog 22)) .none kV4 dc4 pm4 an4 cd4 ct4), sl4⟩)
    (c4 : PySem.W.codeIn K cd4 "_law_flags" = true)
    (k4 : PySem.W.keepIn K (.ref f4) = true)
    (a5 : PySem.W.nsIn K mainGlobals "_law_refused" = some (some (.ref f5)))
    (l5 : K.lookup f5 = some ⟨oc5, od5, .func (PySem.W.fnOf "_law_refused" "_law_refused" (defArgs (atTop prog 24)) (defBody (atTop prog 24)) (defScope (atTop prog 24)) .none kV5 dc5 pm5 an5 cd5 ct5), sl5⟩)
    (c5 : PySem.W.codeIn K cd5 "_law_refused" = true)
    (k5 : PySem.W.keepIn K (.ref f5) = true)
    (a6 : PySem.W.nsIn K mainGlobals "thing_value" = some (some (.ref f6)))
    (l6 : K.lookup f6 = some ⟨oc6, od6, .func (PySem.W.fnOf "thing_value" "thing_value" (defArgs (atTop prog 18)) (defBody (atTop prog 18)) (defScope (atTop prog 18)) .none kV6 dc6 pm6 an6 cd6 ct6), sl6⟩)
    (c6 : PySem.W.codeIn K cd6 "thing_value" = true)
    (k6 : PySem.W.keepIn K (.ref f6) = true)
    (a7 : PySem.W.nsIn K mainGlobals "law" = some (some (.ref f7)))
    (l7 : K.lookup f7 = some ⟨oc7, od7, .func (PySem.W.fnOf "law" "law" (defArgs (atTop prog 25)) (defBody (atTop prog 25)) (defScope (atTop prog 25)) .none kV7 dc7 pm7 an7 cd7 ct7), sl7⟩)
    (c7 : PySem.W.codeIn K cd7 "law" = true)
    (k7 : PySem.W.keepIn K (.ref f7) = true)
    : ∃ fd : FuncData, (∀ (s : Shared) (v : Value), BindsTo s fd ⟨[v], []⟩ [("script", v)]) ∧ ∀ base : Heap, K.In base → base.Ns mainGlobals mg → FnOk prog w K mg base (L2.CX prog w) 3 fa fd ["script"] (spOf ⟨K, mg, T.cs, T.xs⟩ 1 f_law) := by
  have e := hfa.symm.trans (PySem.W.mg_of X G a7)
  cases e
  have XC0 : ExcC K X0 := ⟨ex0_1, ex0_2, ex0_3, ex0_4, ex0_5, jc1, jc2, ex0_6⟩
  have XC1 : ExcC K X1 := ⟨ex1_1, ex1_2, ex1_3, ex1_4, ex1_5, jc1, jc2, ex1_6⟩
  have XC2 : ExcC K X2 := ⟨ex2_1, ex2_2, ex2_3, ex2_4, ex2_5, jc1, jc2, ex2_6⟩
  have XC3 : ExcC K X3 := ⟨ex3_1, ex3_2, ex3_3, ex3_4, ex3_5, jc1, jc2, ex3_6⟩
  have XC4 : ExcC K X4 := ⟨ex4_1, ex4_2, ex4_3, ex4_4, ex4_5, jc1, jc2, ex4_6⟩
  have XC5 : ExcC K X5 := ⟨ex5_1, ex5_2, ex5_3, ex5_4, ex5_5, jc1, jc2, ex5_6⟩
  have XC6 : ExcC K X6 := ⟨ex6_1, ex6_2, ex6_3, ex6_4, ex6_5, jc1, jc2, ex6_6⟩
  have XC7 : ExcC K X7 := ⟨ex7_1, ex7_2, ex7_3, ex7_4, ex7_5, jc1, jc2, ex7_6⟩
  have XC8 : ExcC K X8 := ⟨ex8_1, ex8_2, ex8_3, ex8_4, ex8_5, jc1, jc2, ex8_6⟩
  have XC9 : ExcC K X9 := ⟨ex9_1, ex9_2, ex9_3, ex9_4, ex9_5, jc1, jc2, ex9_6⟩
  have XC10 : ExcC K X10 := ⟨ex10_1, ex10_2, ex10_3, ex10_4, ex10_5, jc1, jc2, ex10_6⟩
  have XC11 : ExcC K X11 := ⟨ex11_1, ex11_2, ex11_3, ex11_4, ex11_5, jc1, jc2, ex11_6⟩
  have XC12 : ExcC K X12 := ⟨ex12_1, ex12_2, ex12_3, ex12_4, ex12_5, jc1, jc2, ex12_6⟩
  have XC13 : ExcC K X13 := ⟨ex13_1, ex13_2, ex13_3, ex13_4, ex13_5, jc1, jc2, ex13_6⟩
  have Q : Fx K mg := {
    bi_isinstance := PySem.W.mg_none_of X G zb_isinstance,
    bi_len := PySem.W.mg_none_of X G zb_len,
    gl_FAR := ⟨_, PySem.W.mg_of X G zg0, ⟨_, rfl⟩⟩,
    xc_BadCount := ⟨rfl, X2, PySem.W.mg_of X G ax2, xi_BadCount, xk_BadCount, ex2_3, xt_BadCount⟩,
    sb_HeapError := ⟨_, .inl ⟨_, PySem.W.mg_of X G ax0, rfl⟩, fun c y D e1 e2 => by
      match c, e1 with
      | 0, e1 => cases e1; cases (PySem.W.mg_of X G ax0).symm.trans e2; exact es_HeapError_0
      | 1, e1 => cases e1; cases (PySem.W.mg_of X G ax1).symm.trans e2; exact es_HeapError_1
      | 2, e1 => cases e1; cases (PySem.W.mg_of X G ax2).symm.trans e2; exact es_HeapError_2
      | 3, e1 => cases e1; cases (PySem.W.mg_of X G ax3).symm.trans e2; exact es_HeapError_3
      | 4, e1 => cases e1; cases (PySem.W.mg_of X G ax4).symm.trans e2; exact es_HeapError_4
      | 5, e1 => cases e1; cases (PySem.W.mg_of X G ax5).symm.trans e2; exact es_HeapError_5
      | 6, e1 => cases e1; cases (PySem.W.mg_of X G ax6).symm.trans e2; exact es_HeapError_6
      | 7, e1 => cases e1; cases (PySem.W.mg_of X G ax7).symm.trans e2; exact es_HeapError_7
      | 8, e1 => cases e1; cases (PySem.W.mg_of X G ax8).symm.trans e2; exact es_HeapError_8
      | 9, e1 => cases e1; cases (PySem.W.mg_of X G ax9).symm.trans e2; exact es_HeapError_9
      | 10, e1 => cases e1; cases (PySem.W.mg_of X G ax10).symm.trans e2; exact es_HeapError_10
      | 11, e1 => cases e1; cases (PySem.W.mg_of X G ax11).symm.trans e2; exact es_HeapError_11
      | 12, e1 => cases e1; cases (PySem.W.mg_of X G ax12).symm.trans e2; exact es_HeapError_12
      | 13, e1 => cases e1; cases (PySem.W.mg_of X G ax13).symm.trans e2; exact es_HeapError_13
      | n + 14, e1 => cases e1⟩,
    is_int := ⟨_, .cons (.inr ⟨_, PySem.W.mg_none_of X G zb_int, by decide +kernel, rfl⟩) (.nil), itab_ty (rfl) kt_int_NoneType (itab_ty (rfl) kt_int_bool (itab_ty (rfl) kt_int_int (itab_ty (rfl) kt_int_str (itab_ty (rfl) kt_int_list (itab_ty (rfl) kt_int_tuple (itab_ty (rfl) kt_int_dict (itab_ty (⟨_, _, rfl, PySem.W.mg_of X G ax0, rfl, XC0⟩) ki_int_0 (itab_ty (⟨_, _, rfl, PySem.W.mg_of X G ax1, rfl, XC1⟩) ki_int_1 (itab_ty (⟨_, _, rfl, PySem.W.mg_of X G ax2, rfl, XC2⟩) ki_int_2 (itab_ty (⟨_, _, rfl, PySem.W.mg_of X G ax3, rfl, XC3⟩) ki_int_3 (itab_ty (⟨_, _, rfl, PySem.W.mg_of X G ax4, rfl, XC4⟩) ki_int_4 (itab_ty (⟨_, _, rfl, PySem.W.mg_of X G ax5, rfl, XC5⟩) ki_int_5 (itab_ty (⟨_, _, rfl, PySem.W.mg_of X G ax6, rfl, XC6⟩) ki_int_6 (itab_ty (⟨_, _, rfl, PySem.W.mg_of X G ax7, rfl, XC7⟩) ki_int_7 (itab_ty (⟨_, _, rfl, PySem.W.mg_of X G ax8, rfl, XC8⟩) ki_int_8 (itab_ty (⟨_, _, rfl, PySem.W.mg_of X G ax9, rfl, XC9⟩) ki_int_9 (itab_ty (⟨_, _, rfl, PySem.W.mg_of X G ax10, rfl, XC10⟩) ki_int_10 (itab_ty (⟨_, _, rfl, PySem.W.mg_of X G ax11, rfl, XC11⟩) ki_int_11 (itab_ty (⟨_, _, rfl, PySem.W.mg_of X G ax12, rfl, XC12⟩) ki_int_12 (itab_ty (⟨_, _, rfl, PySem.W.mg_of X G ax13, rfl, XC13⟩) ki_int_13 (itab_nil)))))))))))))))))))))⟩,
    is_bool := ⟨_, .cons (.inr ⟨_, PySem.W.mg_none_of X G zb_bool, by decide +kernel, rfl⟩) (.nil), itab_ty (rfl) kt_bool_NoneType (itab_ty (rfl) kt_bool_bool (itab_ty (rfl) kt_bool_int (itab_ty (rfl) kt_bool_str (itab_ty (rfl) kt_bool_list (itab_ty (rfl) kt_bool_tuple (itab_ty (rfl) kt_bool_dict (itab_ty (⟨_, _, rfl, PySem.W.mg_of X G ax0, rfl, XC0⟩) ki_bool_0 (itab_ty (⟨_, _, rfl, PySem.W.mg_of X G ax1, rfl, XC1⟩) ki_bool_1 (itab_ty (⟨_, _, rfl, PySem.W.mg_of X G ax2, rfl, XC2⟩) ki_bool_2 (itab_ty (⟨_, _, rfl, PySem.W.mg_of X G ax3, rfl, XC3⟩) ki_bool_3 (itab_ty (⟨_, _, rfl, PySem.W.mg_of X G ax4, rfl, XC4⟩) ki_bool_4 (itab_ty (⟨_, _, rfl, PySem.W.mg_of X G ax5, rfl, XC5⟩) ki_bool_5 (itab_ty (⟨_, _, rfl, PySem.W.mg_of X G ax6, rfl, XC6⟩) ki_bool_6 (itab_ty (⟨_, _, rfl, PySem.W.mg_of X G ax7, rfl, XC7⟩) ki_bool_7 (itab_ty (⟨_, _, rfl, PySem.W.mg_of X G ax8, rfl, XC8⟩) ki_bool_8 (itab_ty (⟨_, _, rfl, PySem.W.mg_of X G ax9, rfl, XC9⟩) ki_bool_9 (itab_ty (⟨_, _, rfl, PySem.W.mg_of X G ax10, rfl, XC10⟩) ki_bool_10 (itab_ty (⟨_, _, rfl, PySem.W.mg_of X G ax11, rfl, XC11⟩) ki_bool_11 (itab_ty (⟨_, _, rfl, PySem.W.mg_of X G ax12, rfl, XC12⟩) ki_bool_12 (itab_ty (⟨_, _, rfl, PySem.W.mg_of X G ax13, rfl, XC13⟩) ki_bool_13 (itab_nil)))))))))))))))))))))⟩,
    is_BadHand := ⟨_, .cons (.inl ⟨_, PySem.W.mg_of X G ax4, rfl⟩) (.nil), itab_ty (rfl) kt_BadHand_NoneType (itab_ty (rfl) kt_BadHand_bool (itab_ty (rfl) kt_BadHand_int (itab_ty (rfl) kt_BadHand_str (itab_ty (rfl) kt_BadHand_list (itab_ty (rfl) kt_BadHand_tuple (itab_ty (rfl) kt_BadHand_dict (itab_ty (⟨_, _, rfl, PySem.W.mg_of X G ax0, rfl, XC0⟩) ki_BadHand_0 (itab_ty (⟨_, _, rfl, PySem.W.mg_of X G ax1, rfl, XC1⟩) ki_BadHand_1 (itab_ty (⟨_, _, rfl, PySem.W.mg_of X G ax2, rfl, XC2⟩) ki_BadHand_2 (itab_ty (⟨_, _, rfl, PySem.W.mg_of X G ax3, rfl, XC3⟩) ki_BadHand_3 (itab_ty (⟨_, _, rfl, PySem.W.mg_of X G ax4, rfl, XC4⟩) ki_BadHand_4 (itab_ty (⟨_, _, rfl, PySem.W.mg_of X G ax5, rfl, XC5⟩) ki_BadHand_5 (itab_ty (⟨_, _, rfl, PySem.W.mg_of X G ax6, rfl, XC6⟩) ki_BadHand_6 (itab_ty (⟨_, _, rfl, PySem.W.mg_of X G ax7, rfl, XC7⟩) ki_BadHand_7 (itab_ty (⟨_, _, rfl, PySem.W.mg_of X G ax8, rfl, XC8⟩) ki_BadHand_8 (itab_ty (⟨_, _, rfl, PySem.W.mg_of X G ax9, rfl, XC9⟩) ki_BadHand_9 (itab_ty (⟨_, _, rfl, PySem.W.mg_of X G ax10, rfl, XC10⟩) ki_BadHand_10 (itab_ty (⟨_, _, rfl, PySem.W.mg_of X G ax11, rfl, XC11⟩) ki_BadHand_11 (itab_ty (⟨_, _, rfl, PySem.W.mg_of X G ax12, rfl, XC12⟩) ki_BadHand_12 (itab_ty (⟨_, _, rfl, PySem.W.mg_of X G ax13, rfl, XC13⟩) ki_BadHand_13 (itab_nil)))))))))))))))))))))⟩,
    is_BadField := ⟨_, .cons (.inl ⟨_, PySem.W.mg_of X G ax3, rfl⟩) (.nil), itab_ty (rfl) kt_BadField_NoneType (itab_ty (rfl) kt_BadField_bool (itab_ty (rfl) kt_BadField_int (itab_ty (rfl) kt_BadField_str (itab_ty (rfl) kt_BadField_list (itab_ty (rfl) kt_BadField_tuple (itab_ty (rfl) kt_BadField_dict (itab_ty (⟨_, _, rfl, PySem.W.mg_of X G ax0, rfl, XC0⟩) ki_BadField_0 (itab_ty (⟨_, _, rfl, PySem.W.mg_of X G ax1, rfl, XC1⟩) ki_BadField_1 (itab_ty (⟨_, _, rfl, PySem.W.mg_of X G ax2, rfl, XC2⟩) ki_BadField_2 (itab_ty (⟨_, _, rfl, PySem.W.mg_of X G ax3, rfl, XC3⟩) ki_BadField_3 (itab_ty (⟨_, _, rfl, PySem.W.mg_of X G ax4, rfl, XC4⟩) ki_BadField_4 (itab_ty (⟨_, _, rfl, PySem.W.mg_of X G ax5, rfl, XC5⟩) ki_BadField_5 (itab_ty (⟨_, _, rfl, PySem.W.mg_of X G ax6, rfl, XC6⟩) ki_BadField_6 (itab_ty (⟨_, _, rfl, PySem.W.mg_of X G ax7, rfl, XC7⟩) ki_BadField_7 (itab_ty (⟨_, _, rfl, PySem.W.mg_of X G ax8, rfl, XC8⟩) ki_BadField_8 (itab_ty (⟨_, _, rfl, PySem.W.mg_of X G ax9, rfl, XC9⟩) ki_BadField_9 (itab_ty (⟨_, _, rfl, PySem.W.mg_of X G ax10, rfl, XC10⟩) ki_BadField_10 (itab_ty (⟨_, _, rfl, PySem.W.mg_of X G ax11, rfl, XC11⟩) ki_BadField_11 (itab_ty (⟨_, _, rfl, PySem.W.mg_of X G ax12, rfl, XC12⟩) ki_BadField_12 (itab_ty (⟨_, _, rfl, PySem.W.mg_of X G ax13, rfl, XC13⟩) ki_BadField_13 (itab_nil)))))))))))))))))))))⟩,
    is_BadCount := ⟨_, .cons (.inl ⟨_, PySem.W.mg_of X G ax2, rfl⟩) (.nil), itab_ty (rfl) kt_BadCount_NoneType (itab_ty (rfl) kt_BadCount_bool (itab_ty (rfl) kt_BadCount_int (itab_ty (rfl) kt_BadCount_str (itab_ty (rfl) kt_BadCount_list (itab_ty (rfl) kt_BadCount_tuple (itab_ty (rfl) kt_BadCount_dict (itab_ty (⟨_, _, rfl, PySem.W.mg_of X G ax0, rfl, XC0⟩) ki_BadCount_0 (itab_ty (⟨_, _, rfl, PySem.W.mg_of X G ax1, rfl, XC1⟩) ki_BadCount_1 (itab_ty (⟨_, _, rfl, PySem.W.mg_of X G ax2, rfl, XC2⟩) ki_BadCount_2 (itab_ty (⟨_, _, rfl, PySem.W.mg_of X G ax3, rfl, XC3⟩) ki_BadCount_3 (itab_ty (⟨_, _, rfl, PySem.W.mg_of X G ax4, rfl, XC4⟩) ki_BadCount_4 (itab_ty (⟨_, _, rfl, PySem.W.mg_of X G ax5, rfl, XC5⟩) ki_BadCount_5 (itab_ty (⟨_, _, rfl, PySem.W.mg_of X G ax6, rfl, XC6⟩) ki_BadCount_6 (itab_ty (⟨_, _, rfl, PySem.W.mg_of X G ax7, rfl, XC7⟩) ki_BadCount_7 (itab_ty (⟨_, _, rfl, PySem.W.mg_of X G ax8, rfl, XC8⟩) ki_BadCount_8 (itab_ty (⟨_, _, rfl, PySem.W.mg_of X G ax9, rfl, XC9⟩) ki_BadCount_9 (itab_ty (⟨_, _, rfl, PySem.W.mg_of X G ax10, rfl, XC10⟩) ki_BadCount_10 (itab_ty (⟨_, _, rfl, PySem.W.mg_of X G ax11, rfl, XC11⟩) ki_BadCount_11 (itab_ty (⟨_, _, rfl, PySem.W.mg_of X G ax12, rfl, XC12⟩) ki_BadCount_12 (itab_ty (⟨_, _, rfl, PySem.W.mg_of X G ax13, rfl, XC13⟩) ki_BadCount_13 (itab_nil)))))))))))))))))))))⟩,
    is_BadAddress := ⟨_, .cons (.inl ⟨_, PySem.W.mg_of X G ax1, rfl⟩) (.nil), itab_ty (rfl) kt_BadAddress_NoneType (itab_ty (rfl) kt_BadAddress_bool (itab_ty (rfl) kt_BadAddress_int (itab_ty (rfl) kt_BadAddress_str (itab_ty (rfl) kt_BadAddress_list (itab_ty (rfl) kt_BadAddress_tuple (itab_ty (rfl) kt_BadAddress_dict (itab_ty (⟨_, _, rfl, PySem.W.mg_of X G ax0, rfl, XC0⟩) ki_BadAddress_0 (itab_ty (⟨_, _, rfl, PySem.W.mg_of X G ax1, rfl, XC1⟩) ki_BadAddress_1 (itab_ty (⟨_, _, rfl, PySem.W.mg_of X G ax2, rfl, XC2⟩) ki_BadAddress_2 (itab_ty (⟨_, _, rfl, PySem.W.mg_of X G ax3, rfl, XC3⟩) ki_BadAddress_3 (itab_ty (⟨_, _, rfl, PySem.W.mg_of X G ax4, rfl, XC4⟩) ki_BadAddress_4 (itab_ty (⟨_, _, rfl, PySem.W.mg_of X G ax5, rfl, XC5⟩) ki_BadAddress_5 (itab_ty (⟨_, _, rfl, PySem.W.mg_of X G ax6, rfl, XC6⟩) ki_BadAddress_6 (itab_ty (⟨_, _, rfl, PySem.W.mg_of X G ax7, rfl, XC7⟩) ki_BadAddress_7 (itab_ty (⟨_, _, rfl, PySem.W.mg_of X G ax8, rfl, XC8⟩) ki_BadAddress_8 (itab_ty (⟨_, _, rfl, PySem.W.mg_of X G ax9, rfl, XC9⟩) ki_BadAddress_9 (itab_ty (⟨_, _, rfl, PySem.W.mg_of X G ax10, rfl, XC10⟩) ki_BadAddress_10 (itab_ty (⟨_, _, rfl, PySem.W.mg_of X G ax11, rfl, XC11⟩) ki_BadAddress_11 (itab_ty (⟨_, _, rfl, PySem.W.mg_of X G ax12, rfl, XC12⟩) ki_BadAddress_12 (itab_ty (⟨_, _, rfl, PySem.W.mg_of X G ax13, rfl, XC13⟩) ki_BadAddress_13 (itab_nil)))))))))))))))))))))⟩,
    is_BadText := ⟨_, .cons (.inl ⟨_, PySem.W.mg_of X G ax8, rfl⟩) (.nil), itab_ty (rfl) kt_BadText_NoneType (itab_ty (rfl) kt_BadText_bool (itab_ty (rfl) kt_BadText_int (itab_ty (rfl) kt_BadText_str (itab_ty (rfl) kt_BadText_list (itab_ty (rfl) kt_BadText_tuple (itab_ty (rfl) kt_BadText_dict (itab_ty (⟨_, _, rfl, PySem.W.mg_of X G ax0, rfl, XC0⟩) ki_BadText_0 (itab_ty (⟨_, _, rfl, PySem.W.mg_of X G ax1, rfl, XC1⟩) ki_BadText_1 (itab_ty (⟨_, _, rfl, PySem.W.mg_of X G ax2, rfl, XC2⟩) ki_BadText_2 (itab_ty (⟨_, _, rfl, PySem.W.mg_of X G ax3, rfl, XC3⟩) ki_BadText_3 (itab_ty (⟨_, _, rfl, PySem.W.mg_of X G ax4, rfl, XC4⟩) ki_BadText_4 (itab_ty (⟨_, _, rfl, PySem.W.mg_of X G ax5, rfl, XC5⟩) ki_BadText_5 (itab_ty (⟨_, _, rfl, PySem.W.mg_of X G ax6, rfl, XC6⟩) ki_BadText_6 (itab_ty (⟨_, _, rfl, PySem.W.mg_of X G ax7, rfl, XC7⟩) ki_BadText_7 (itab_ty (⟨_, _, rfl, PySem.W.mg_of X G ax8, rfl, XC8⟩) ki_BadText_8 (itab_ty (⟨_, _, rfl, PySem.W.mg_of X G ax9, rfl, XC9⟩) ki_BadText_9 (itab_ty (⟨_, _, rfl, PySem.W.mg_of X G ax10, rfl, XC10⟩) ki_BadText_10 (itab_ty (⟨_, _, rfl, PySem.W.mg_of X G ax11, rfl, XC11⟩) ki_BadText_11 (itab_ty (⟨_, _, rfl, PySem.W.mg_of X G ax12, rfl, XC12⟩) ki_BadText_12 (itab_ty (⟨_, _, rfl, PySem.W.mg_of X G ax13, rfl, XC13⟩) ki_BadText_13 (itab_nil)))))))))))))))))))))⟩,
    is_BadPaper := ⟨_, .cons (.inl ⟨_, PySem.W.mg_of X G ax7, rfl⟩) (.nil), itab_ty (rfl) kt_BadPaper_NoneType (itab_ty (rfl) kt_BadPaper_bool (itab_ty (rfl) kt_BadPaper_int (itab_ty (rfl) kt_BadPaper_str (itab_ty (rfl) kt_BadPaper_list (itab_ty (rfl) kt_BadPaper_tuple (itab_ty (rfl) kt_BadPaper_dict (itab_ty (⟨_, _, rfl, PySem.W.mg_of X G ax0, rfl, XC0⟩) ki_BadPaper_0 (itab_ty (⟨_, _, rfl, PySem.W.mg_of X G ax1, rfl, XC1⟩) ki_BadPaper_1 (itab_ty (⟨_, _, rfl, PySem.W.mg_of X G ax2, rfl, XC2⟩) ki_BadPaper_2 (itab_ty (⟨_, _, rfl, PySem.W.mg_of X G ax3, rfl, XC3⟩) ki_BadPaper_3 (itab_ty (⟨_, _, rfl, PySem.W.mg_of X G ax4, rfl, XC4⟩) ki_BadPaper_4 (itab_ty (⟨_, _, rfl, PySem.W.mg_of X G ax5, rfl, XC5⟩) ki_BadPaper_5 (itab_ty (⟨_, _, rfl, PySem.W.mg_of X G ax6, rfl, XC6⟩) ki_BadPaper_6 (itab_ty (⟨_, _, rfl, PySem.W.mg_of X G ax7, rfl, XC7⟩) ki_BadPaper_7 (itab_ty (⟨_, _, rfl, PySem.W.mg_of X G ax8, rfl, XC8⟩) ki_BadPaper_8 (itab_ty (⟨_, _, rfl, PySem.W.mg_of X G ax9, rfl, XC9⟩) ki_BadPaper_9 (itab_ty (⟨_, _, rfl, PySem.W.mg_of X G ax10, rfl, XC10⟩) ki_BadPaper_10 (itab_ty (⟨_, _, rfl, PySem.W.mg_of X G ax11, rfl, XC11⟩) ki_BadPaper_11 (itab_ty (⟨_, _, rfl, PySem.W.mg_of X G ax12, rfl, XC12⟩) ki_BadPaper_12 (itab_ty (⟨_, _, rfl, PySem.W.mg_of X G ax13, rfl, XC13⟩) ki_BadPaper_13 (itab_nil)))))))))))))))))))))⟩,
    is_BadName := ⟨_, .cons (.inl ⟨_, PySem.W.mg_of X G ax6, rfl⟩) (.nil), itab_ty (rfl) kt_BadName_NoneType (itab_ty (rfl) kt_BadName_bool (itab_ty (rfl) kt_BadName_int (itab_ty (rfl) kt_BadName_str (itab_ty (rfl) kt_BadName_list (itab_ty (rfl) kt_BadName_tuple (itab_ty (rfl) kt_BadName_dict (itab_ty (⟨_, _, rfl, PySem.W.mg_of X G ax0, rfl, XC0⟩) ki_BadName_0 (itab_ty (⟨_, _, rfl, PySem.W.mg_of X G ax1, rfl, XC1⟩) ki_BadName_1 (itab_ty (⟨_, _, rfl, PySem.W.mg_of X G ax2, rfl, XC2⟩) ki_BadName_2 (itab_ty (⟨_, _, rfl, PySem.W.mg_of X G ax3, rfl, XC3⟩) ki_BadName_3 (itab_ty (⟨_, _, rfl, PySem.W.mg_of X G ax4, rfl, XC4⟩) ki_BadName_4 (itab_ty (⟨_, _, rfl, PySem.W.mg_of X G ax5, rfl, XC5⟩) ki_BadName_5 (itab_ty (⟨_, _, rfl, PySem.W.mg_of X G ax6, rfl, XC6⟩) ki_BadName_6 (itab_ty (⟨_, _, rfl, PySem.W.mg_of X G ax7, rfl, XC7⟩) ki_BadName_7 (itab_ty (⟨_, _, rfl, PySem.W.mg_of X G ax8, rfl, XC8⟩) ki_BadName_8 (itab_ty (⟨_, _, rfl, PySem.W.mg_of X G ax9, rfl, XC9⟩) ki_BadName_9 (itab_ty (⟨_, _, rfl, PySem.W.mg_of X G ax10, rfl, XC10⟩) ki_BadName_10 (itab_ty (⟨_, _, rfl, PySem.W.mg_of X G ax11, rfl, XC11⟩) ki_BadName_11 (itab_ty (⟨_, _, rfl, PySem.W.mg_of X G ax12, rfl, XC12⟩) ki_BadName_12 (itab_ty (⟨_, _, rfl, PySem.W.mg_of X G ax13, rfl, XC13⟩) ki_BadName_13 (itab_nil)))))))))))))))))))))⟩,
    is_BadLog := ⟨_, .cons (.inl ⟨_, PySem.W.mg_of X G ax5, rfl⟩) (.nil), itab_ty (rfl) kt_BadLog_NoneType (itab_ty (rfl) kt_BadLog_bool (itab_ty (rfl) kt_BadLog_int (itab_ty (rfl) kt_BadLog_str (itab_ty (rfl) kt_BadLog_list (itab_ty (rfl) kt_BadLog_tuple (itab_ty (rfl) kt_BadLog_dict (itab_ty (⟨_, _, rfl, PySem.W.mg_of X G ax0, rfl, XC0⟩) ki_BadLog_0 (itab_ty (⟨_, _, rfl, PySem.W.mg_of X G ax1, rfl, XC1⟩) ki_BadLog_1 (itab_ty (⟨_, _, rfl, PySem.W.mg_of X G ax2, rfl, XC2⟩) ki_BadLog_2 (itab_ty (⟨_, _, rfl, PySem.W.mg_of X G ax3, rfl, XC3⟩) ki_BadLog_3 (itab_ty (⟨_, _, rfl, PySem.W.mg_of X G ax4, rfl, XC4⟩) ki_BadLog_4 (itab_ty (⟨_, _, rfl, PySem.W.mg_of X G ax5, rfl, XC5⟩) ki_BadLog_5 (itab_ty (⟨_, _, rfl, PySem.W.mg_of X G ax6, rfl, XC6⟩) ki_BadLog_6 (itab_ty (⟨_, _, rfl, PySem.W.mg_of X G ax7, rfl, XC7⟩) ki_BadLog_7 (itab_ty (⟨_, _, rfl, PySem.W.mg_of X G ax8, rfl, XC8⟩) ki_BadLog_8 (itab_ty (⟨_, _, rfl, PySem.W.mg_of X G ax9, rfl, XC9⟩) ki_BadLog_9 (itab_ty (⟨_, _, rfl, PySem.W.mg_of X G ax10, rfl, XC10⟩) ki_BadLog_10 (itab_ty (⟨_, _, rfl, PySem.W.mg_of X G ax11, rfl, XC11⟩) ki_BadLog_11 (itab_ty (⟨_, _, rfl, PySem.W.mg_of X G ax12, rfl, XC12⟩) ki_BadLog_12 (itab_ty (⟨_, _, rfl, PySem.W.mg_of X G ax13, rfl, XC13⟩) ki_BadLog_13 (itab_nil)))))))))))))))))))))⟩,
    is_RoundOn := ⟨_, .cons (.inl ⟨_, PySem.W.mg_of X G ax12, rfl⟩) (.nil), itab_ty (rfl) kt_RoundOn_NoneType (itab_ty (rfl) kt_RoundOn_bool (itab_ty (rfl) kt_RoundOn_int (itab_ty (rfl) kt_RoundOn_str (itab_ty (rfl) kt_RoundOn_list (itab_ty (rfl) kt_RoundOn_tuple (itab_ty (rfl) kt_RoundOn_dict (itab_ty (⟨_, _, rfl, PySem.W.mg_of X G ax0, rfl, XC0⟩) ki_RoundOn_0 (itab_ty (⟨_, _, rfl, PySem.W.mg_of X G ax1, rfl, XC1⟩) ki_RoundOn_1 (itab_ty (⟨_, _, rfl, PySem.W.mg_of X G ax2, rfl, XC2⟩) ki_RoundOn_2 (itab_ty (⟨_, _, rfl, PySem.W.mg_of X G ax3, rfl, XC3⟩) ki_RoundOn_3 (itab_ty (⟨_, _, rfl, PySem.W.mg_of X G ax4, rfl, XC4⟩) ki_RoundOn_4 (itab_ty (⟨_, _, rfl, PySem.W.mg_of X G ax5, rfl, XC5⟩) ki_RoundOn_5 (itab_ty (⟨_, _, rfl, PySem.W.mg_of X G ax6, rfl, XC6⟩) ki_RoundOn_6 (itab_ty (⟨_, _, rfl, PySem.W.mg_of X G ax7, rfl, XC7⟩) ki_RoundOn_7 (itab_ty (⟨_, _, rfl, PySem.W.mg_of X G ax8, rfl, XC8⟩) ki_RoundOn_8 (itab_ty (⟨_, _, rfl, PySem.W.mg_of X G ax9, rfl, XC9⟩) ki_RoundOn_9 (itab_ty (⟨_, _, rfl, PySem.W.mg_of X G ax10, rfl, XC10⟩) ki_RoundOn_10 (itab_ty (⟨_, _, rfl, PySem.W.mg_of X G ax11, rfl, XC11⟩) ki_RoundOn_11 (itab_ty (⟨_, _, rfl, PySem.W.mg_of X G ax12, rfl, XC12⟩) ki_RoundOn_12 (itab_ty (⟨_, _, rfl, PySem.W.mg_of X G ax13, rfl, XC13⟩) ki_RoundOn_13 (itab_nil)))))))))))))))))))))⟩,
    is_NoRound := ⟨_, .cons (.inl ⟨_, PySem.W.mg_of X G ax11, rfl⟩) (.nil), itab_ty (rfl) kt_NoRound_NoneType (itab_ty (rfl) kt_NoRound_bool (itab_ty (rfl) kt_NoRound_int (itab_ty (rfl) kt_NoRound_str (itab_ty (rfl) kt_NoRound_list (itab_ty (rfl) kt_NoRound_tuple (itab_ty (rfl) kt_NoRound_dict (itab_ty (⟨_, _, rfl, PySem.W.mg_of X G ax0, rfl, XC0⟩) ki_NoRound_0 (itab_ty (⟨_, _, rfl, PySem.W.mg_of X G ax1, rfl, XC1⟩) ki_NoRound_1 (itab_ty (⟨_, _, rfl, PySem.W.mg_of X G ax2, rfl, XC2⟩) ki_NoRound_2 (itab_ty (⟨_, _, rfl, PySem.W.mg_of X G ax3, rfl, XC3⟩) ki_NoRound_3 (itab_ty (⟨_, _, rfl, PySem.W.mg_of X G ax4, rfl, XC4⟩) ki_NoRound_4 (itab_ty (⟨_, _, rfl, PySem.W.mg_of X G ax5, rfl, XC5⟩) ki_NoRound_5 (itab_ty (⟨_, _, rfl, PySem.W.mg_of X G ax6, rfl, XC6⟩) ki_NoRound_6 (itab_ty (⟨_, _, rfl, PySem.W.mg_of X G ax7, rfl, XC7⟩) ki_NoRound_7 (itab_ty (⟨_, _, rfl, PySem.W.mg_of X G ax8, rfl, XC8⟩) ki_NoRound_8 (itab_ty (⟨_, _, rfl, PySem.W.mg_of X G ax9, rfl, XC9⟩) ki_NoRound_9 (itab_ty (⟨_, _, rfl, PySem.W.mg_of X G ax10, rfl, XC10⟩) ki_NoRound_10 (itab_ty (⟨_, _, rfl, PySem.W.mg_of X G ax11, rfl, XC11⟩) ki_NoRound_11 (itab_ty (⟨_, _, rfl, PySem.W.mg_of X G ax12, rfl, XC12⟩) ki_NoRound_12 (itab_ty (⟨_, _, rfl, PySem.W.mg_of X G ax13, rfl, XC13⟩) ki_NoRound_13 (itab_nil)))))))))))))))))))))⟩,
    is_NoRoom := ⟨_, .cons (.inl ⟨_, PySem.W.mg_of X G ax10, rfl⟩) (.nil), itab_ty (rfl) kt_NoRoom_NoneType (itab_ty (rfl) kt_NoRoom_bool (itab_ty (rfl) kt_NoRoom_int (itab_ty (rfl) kt_NoRoom_str (itab_ty (rfl) kt_NoRoom_list (itab_ty (rfl) kt_NoRoom_tuple (itab_ty (rfl) kt_NoRoom_dict (itab_ty (⟨_, _, rfl, PySem.W.mg_of X G ax0, rfl, XC0⟩) ki_NoRoom_0 (itab_ty (⟨_, _, rfl, PySem.W.mg_of X G ax1, rfl, XC1⟩) ki_NoRoom_1 (itab_ty (⟨_, _, rfl, PySem.W.mg_of X G ax2, rfl, XC2⟩) ki_NoRoom_2 (itab_ty (⟨_, _, rfl, PySem.W.mg_of X G ax3, rfl, XC3⟩) ki_NoRoom_3 (itab_ty (⟨_, _, rfl, PySem.W.mg_of X G ax4, rfl, XC4⟩) ki_NoRoom_4 (itab_ty (⟨_, _, rfl, PySem.W.mg_of X G ax5, rfl, XC5⟩) ki_NoRoom_5 (itab_ty (⟨_, _, rfl, PySem.W.mg_of X G ax6, rfl, XC6⟩) ki_NoRoom_6 (itab_ty (⟨_, _, rfl, PySem.W.mg_of X G ax7, rfl, XC7⟩) ki_NoRoom_7 (itab_ty (⟨_, _, rfl, PySem.W.mg_of X G ax8, rfl, XC8⟩) ki_NoRoom_8 (itab_ty (⟨_, _, rfl, PySem.W.mg_of X G ax9, rfl, XC9⟩) ki_NoRoom_9 (itab_ty (⟨_, _, rfl, PySem.W.mg_of X G ax10, rfl, XC10⟩) ki_NoRoom_10 (itab_ty (⟨_, _, rfl, PySem.W.mg_of X G ax11, rfl, XC11⟩) ki_NoRoom_11 (itab_ty (⟨_, _, rfl, PySem.W.mg_of X G ax12, rfl, XC12⟩) ki_NoRoom_12 (itab_ty (⟨_, _, rfl, PySem.W.mg_of X G ax13, rfl, XC13⟩) ki_NoRoom_13 (itab_nil)))))))))))))))))))))⟩,
    is_BadView := ⟨_, .cons (.inl ⟨_, PySem.W.mg_of X G ax9, rfl⟩) (.nil), itab_ty (rfl) kt_BadView_NoneType (itab_ty (rfl) kt_BadView_bool (itab_ty (rfl) kt_BadView_int (itab_ty (rfl) kt_BadView_str (itab_ty (rfl) kt_BadView_list (itab_ty (rfl) kt_BadView_tuple (itab_ty (rfl) kt_BadView_dict (itab_ty (⟨_, _, rfl, PySem.W.mg_of X G ax0, rfl, XC0⟩) ki_BadView_0 (itab_ty (⟨_, _, rfl, PySem.W.mg_of X G ax1, rfl, XC1⟩) ki_BadView_1 (itab_ty (⟨_, _, rfl, PySem.W.mg_of X G ax2, rfl, XC2⟩) ki_BadView_2 (itab_ty (⟨_, _, rfl, PySem.W.mg_of X G ax3, rfl, XC3⟩) ki_BadView_3 (itab_ty (⟨_, _, rfl, PySem.W.mg_of X G ax4, rfl, XC4⟩) ki_BadView_4 (itab_ty (⟨_, _, rfl, PySem.W.mg_of X G ax5, rfl, XC5⟩) ki_BadView_5 (itab_ty (⟨_, _, rfl, PySem.W.mg_of X G ax6, rfl, XC6⟩) ki_BadView_6 (itab_ty (⟨_, _, rfl, PySem.W.mg_of X G ax7, rfl, XC7⟩) ki_BadView_7 (itab_ty (⟨_, _, rfl, PySem.W.mg_of X G ax8, rfl, XC8⟩) ki_BadView_8 (itab_ty (⟨_, _, rfl, PySem.W.mg_of X G ax9, rfl, XC9⟩) ki_BadView_9 (itab_ty (⟨_, _, rfl, PySem.W.mg_of X G ax10, rfl, XC10⟩) ki_BadView_10 (itab_ty (⟨_, _, rfl, PySem.W.mg_of X G ax11, rfl, XC11⟩) ki_BadView_11 (itab_ty (⟨_, _, rfl, PySem.W.mg_of X G ax12, rfl, XC12⟩) ki_BadView_12 (itab_ty (⟨_, _, rfl, PySem.W.mg_of X G ax13, rfl, XC13⟩) ki_BadView_13 (itab_nil)))))))))))))))))))))⟩,
    is_TooManyWords := ⟨_, .cons (.inl ⟨_, PySem.W.mg_of X G ax13, rfl⟩) (.nil), itab_ty (rfl) kt_TooManyWords_NoneType (itab_ty (rfl) kt_TooManyWords_bool (itab_ty (rfl) kt_TooManyWords_int (itab_ty (rfl) kt_TooManyWords_str (itab_ty (rfl) kt_TooManyWords_list (itab_ty (rfl) kt_TooManyWords_tuple (itab_ty (rfl) kt_TooManyWords_dict (itab_ty (⟨_, _, rfl, PySem.W.mg_of X G ax0, rfl, XC0⟩) ki_TooManyWords_0 (itab_ty (⟨_, _, rfl, PySem.W.mg_of X G ax1, rfl, XC1⟩) ki_TooManyWords_1 (itab_ty (⟨_, _, rfl, PySem.W.mg_of X G ax2, rfl, XC2⟩) ki_TooManyWords_2 (itab_ty (⟨_, _, rfl, PySem.W.mg_of X G ax3, rfl, XC3⟩) ki_TooManyWords_3 (itab_ty (⟨_, _, rfl, PySem.W.mg_of X G ax4, rfl, XC4⟩) ki_TooManyWords_4 (itab_ty (⟨_, _, rfl, PySem.W.mg_of X G ax5, rfl, XC5⟩) ki_TooManyWords_5 (itab_ty (⟨_, _, rfl, PySem.W.mg_of X G ax6, rfl, XC6⟩) ki_TooManyWords_6 (itab_ty (⟨_, _, rfl, PySem.W.mg_of X G ax7, rfl, XC7⟩) ki_TooManyWords_7 (itab_ty (⟨_, _, rfl, PySem.W.mg_of X G ax8, rfl, XC8⟩) ki_TooManyWords_8 (itab_ty (⟨_, _, rfl, PySem.W.mg_of X G ax9, rfl, XC9⟩) ki_TooManyWords_9 (itab_ty (⟨_, _, rfl, PySem.W.mg_of X G ax10, rfl, XC10⟩) ki_TooManyWords_10 (itab_ty (⟨_, _, rfl, PySem.W.mg_of X G ax11, rfl, XC11⟩) ki_TooManyWords_11 (itab_ty (⟨_, _, rfl, PySem.W.mg_of X G ax12, rfl, XC12⟩) ki_TooManyWords_12 (itab_ty (⟨_, _, rfl, PySem.W.mg_of X G ax13, rfl, XC13⟩) ki_TooManyWords_13 (itab_nil)))))))))))))))))))))⟩,
    is_tuple := ⟨_, .cons (.inr ⟨_, PySem.W.mg_none_of X G zb_tuple, by decide +kernel, rfl⟩) (.nil), itab_ty (rfl) kt_tuple_NoneType (itab_ty (rfl) kt_tuple_bool (itab_ty (rfl) kt_tuple_int (itab_ty (rfl) kt_tuple_str (itab_ty (rfl) kt_tuple_list (itab_ty (rfl) kt_tuple_tuple (itab_ty (rfl) kt_tuple_dict (itab_ty (⟨_, _, rfl, PySem.W.mg_of X G ax0, rfl, XC0⟩) ki_tuple_0 (itab_ty (⟨_, _, rfl, PySem.W.mg_of X G ax1, rfl, XC1⟩) ki_tuple_1 (itab_ty (⟨_, _, rfl, PySem.W.mg_of X G ax2, rfl, XC2⟩) ki_tuple_2 (itab_ty (⟨_, _, rfl, PySem.W.mg_of X G ax3, rfl, XC3⟩) ki_tuple_3 (itab_ty (⟨_, _, rfl, PySem.W.mg_of X G ax4, rfl, XC4⟩) ki_tuple_4 (itab_ty (⟨_, _, rfl, PySem.W.mg_of X G ax5, rfl, XC5⟩) ki_tuple_5 (itab_ty (⟨_, _, rfl, PySem.W.mg_of X G ax6, rfl, XC6⟩) ki_tuple_6 (itab_ty (⟨_, _, rfl, PySem.W.mg_of X G ax7, rfl, XC7⟩) ki_tuple_7 (itab_ty (⟨_, _, rfl, PySem.W.mg_of X G ax8, rfl, XC8⟩) ki_tuple_8 (itab_ty (⟨_, _, rfl, PySem.W.mg_of X G ax9, rfl, XC9⟩) ki_tuple_9 (itab_ty (⟨_, _, rfl, PySem.W.mg_of X G ax10, rfl, XC10⟩) ki_tuple_10 (itab_ty (⟨_, _, rfl, PySem.W.mg_of X G ax11, rfl, XC11⟩) ki_tuple_11 (itab_ty (⟨_, _, rfl, PySem.W.mg_of X G ax12, rfl, XC12⟩) ki_tuple_12 (itab_ty (⟨_, _, rfl, PySem.W.mg_of X G ax13, rfl, XC13⟩) ki_tuple_13 (itab_nil)))))))))))))))))))))⟩,
    is_ValueError := ⟨_, .cons (.inr ⟨_, PySem.W.mg_none_of X G zb_ValueError, by decide +kernel, rfl⟩) (.nil), itab_ty (rfl) kt_ValueError_NoneType (itab_ty (rfl) kt_ValueError_bool (itab_ty (rfl) kt_ValueError_int (itab_ty (rfl) kt_ValueError_str (itab_ty (rfl) kt_ValueError_list (itab_ty (rfl) kt_ValueError_tuple (itab_ty (rfl) kt_ValueError_dict (itab_ty (⟨_, _, rfl, PySem.W.mg_of X G ax0, rfl, XC0⟩) ki_ValueError_0 (itab_ty (⟨_, _, rfl, PySem.W.mg_of X G ax1, rfl, XC1⟩) ki_ValueError_1 (itab_ty (⟨_, _, rfl, PySem.W.mg_of X G ax2, rfl, XC2⟩) ki_ValueError_2 (itab_ty (⟨_, _, rfl, PySem.W.mg_of X G ax3, rfl, XC3⟩) ki_ValueError_3 (itab_ty (⟨_, _, rfl, PySem.W.mg_of X G ax4, rfl, XC4⟩) ki_ValueError_4 (itab_ty (⟨_, _, rfl, PySem.W.mg_of X G ax5, rfl, XC5⟩) ki_ValueError_5 (itab_ty (⟨_, _, rfl, PySem.W.mg_of X G ax6, rfl, XC6⟩) ki_ValueError_6 (itab_ty (⟨_, _, rfl, PySem.W.mg_of X G ax7, rfl, XC7⟩) ki_ValueError_7 (itab_ty (⟨_, _, rfl, PySem.W.mg_of X G ax8, rfl, XC8⟩) ki_ValueError_8 (itab_ty (⟨_, _, rfl, PySem.W.mg_of X G ax9, rfl, XC9⟩) ki_ValueError_9 (itab_ty (⟨_, _, rfl, PySem.W.mg_of X G ax10, rfl, XC10⟩) ki_ValueError_10 (itab_ty (⟨_, _, rfl, PySem.W.mg_of X G ax11, rfl, XC11⟩) ki_ValueError_11 (itab_ty (⟨_, _, rfl, PySem.W.mg_of X G ax12, rfl, XC12⟩) ki_ValueError_12 (itab_ty (⟨_, _, rfl, PySem.W.mg_of X G ax13, rfl, XC13⟩) ki_ValueError_13 (itab_nil)))))))))))))))))))))⟩,
    cals := ⟨⟨_, X0, fc0, _, (inClass (atTop prog 1) 0), _, _, _, _, rfl, PySem.W.mg_of X G ax0, ex0_1, ex0_2, xc0_a, xc0_i, (fun_mk (st := (inClass (atTop prog 1) 0)) xc0_l xc0_c xc0_k), (fun_mk (st := (inClass (atTop prog 1) 0)) xc0_l xc0_c xc0_k).binds (ps := ["self"]) (fun _ _ _ _ _ _ us hl => match us, hl with | [_], _ => rfl), ⟨rfl, rfl, rfl, by decide +kernel, rfl, by decide +kernel, by decide +kernel⟩, rfl⟩, ⟨⟨_, X1, fc1, _, (inClass (atTop prog 2) 0), _, _, _, _, rfl, PySem.W.mg_of X G ax1, ex1_1, ex1_2, xc1_a, xc1_i, (fun_mk (st := (inClass (atTop prog 2) 0)) xc1_l xc1_c xc1_k), (fun_mk (st := (inClass (atTop prog 2) 0)) xc1_l xc1_c xc1_k).binds (ps := ["self"]) (fun _ _ _ _ _ _ us hl => match us, hl with | [_], _ => rfl), ⟨rfl, rfl, rfl, by decide +kernel, rfl, by decide +kernel, by decide +kernel⟩, rfl⟩, ⟨⟨_, X2, fc2, _, (inClass (atTop prog 3) 0), _, _, _, _, rfl, PySem.W.mg_of X G ax2, ex2_1, ex2_2, xc2_a, xc2_i, (fun_mk (st := (inClass (atTop prog 3) 0)) xc2_l xc2_c xc2_k), (fun_mk (st := (inClass (atTop prog 3) 0)) xc2_l xc2_c xc2_k).binds (ps := ["self"]) (fun _ _ _ _ _ _ us hl => match us, hl with | [_], _ => rfl), ⟨rfl, rfl, rfl, by decide +kernel, rfl, by decide +kernel, by decide +kernel⟩, rfl⟩, ⟨⟨_, X3, fc3, _, (inClass (atTop prog 4) 0), _, _, _, _, rfl, PySem.W.mg_of X G ax3, ex3_1, ex3_2, xc3_a, xc3_i, (fun_mk (st := (inClass (atTop prog 4) 0)) xc3_l xc3_c xc3_k), (fun_mk (st := (inClass (atTop prog 4) 0)) xc3_l xc3_c xc3_k).binds (ps := ["self"]) (fun _ _ _ _ _ _ us hl => match us, hl with | [_], _ => rfl), ⟨rfl, rfl, rfl, by decide +kernel, rfl, by decide +kernel, by decide +kernel⟩, rfl⟩, ⟨⟨_, X4, fc4, _, (inClass (atTop prog 5) 0), _, _, _, _, rfl, PySem.W.mg_of X G ax4, ex4_1, ex4_2, xc4_a, xc4_i, (fun_mk (st := (inClass (atTop prog 5) 0)) xc4_l xc4_c xc4_k), (fun_mk (st := (inClass (atTop prog 5) 0)) xc4_l xc4_c xc4_k).binds (ps := ["self"]) (fun _ _ _ _ _ _ us hl => match us, hl with | [_], _ => rfl), ⟨rfl, rfl, rfl, by decide +kernel, rfl, by decide +kernel, by decide +kernel⟩, rfl⟩, ⟨⟨_, X5, fc5, _, (inClass (atTop prog 6) 1), _, _, _, _, rfl, PySem.W.mg_of X G ax5, ex5_1, ex5_2, xc5_a, xc5_i, (fun_mk (st := (inClass (atTop prog 6) 1)) xc5_l xc5_c xc5_k), (fun_mk (st := (inClass (atTop prog 6) 1)) xc5_l xc5_c xc5_k).binds (ps := ["self"]) (fun _ _ _ _ _ _ us hl => match us, hl with | [_], _ => rfl), ⟨rfl, rfl, rfl, by decide +kernel, rfl, by decide +kernel, by decide +kernel⟩, rfl⟩, ⟨⟨_, X6, fc6, _, (inClass (atTop prog 7) 0), _, _, _, _, rfl, PySem.W.mg_of X G ax6, ex6_1, ex6_2, xc6_a, xc6_i, (fun_mk (st := (inClass (atTop prog 7) 0)) xc6_l xc6_c xc6_k), (fun_mk (st := (inClass (atTop prog 7) 0)) xc6_l xc6_c xc6_k).binds (ps := ["self"]) (fun _ _ _ _ _ _ us hl => match us, hl with | [_], _ => rfl), ⟨rfl, rfl, rfl, by decide +kernel, rfl, by decide +kernel, by decide +kernel⟩, rfl⟩, ⟨⟨_, X7, fc7, _, (inClass (atTop prog 8) 0), _, _, _, _, rfl, PySem.W.mg_of X G ax7, ex7_1, ex7_2, xc7_a, xc7_i, (fun_mk (st := (inClass (atTop prog 8) 0)) xc7_l xc7_c xc7_k), (fun_mk (st := (inClass (atTop prog 8) 0)) xc7_l xc7_c xc7_k).binds (ps := ["self"]) (fun _ _ _ _ _ _ us hl => match us, hl with | [_], _ => rfl), ⟨rfl, rfl, rfl, by decide +kernel, rfl, by decide +kernel, by decide +kernel⟩, rfl⟩, ⟨⟨_, X8, fc8, _, (inClass (atTop prog 9) 1), _, _, _, _, rfl, PySem.W.mg_of X G ax8, ex8_1, ex8_2, xc8_a, xc8_i, (fun_mk (st := (inClass (atTop prog 9) 1)) xc8_l xc8_c xc8_k), (fun_mk (st := (inClass (atTop prog 9) 1)) xc8_l xc8_c xc8_k).binds (ps := ["self"]) (fun _ _ _ _ _ _ us hl => match us, hl with | [_], _ => rfl), ⟨rfl, rfl, rfl, by decide +kernel, rfl, by decide +kernel, by decide +kernel⟩, rfl⟩, ⟨⟨_, X9, fc9, _, (inClass (atTop prog 10) 0), _, _, _, _, rfl, PySem.W.mg_of X G ax9, ex9_1, ex9_2, xc9_a, xc9_i, (fun_mk (st := (inClass (atTop prog 10) 0)) xc9_l xc9_c xc9_k), (fun_mk (st := (inClass (atTop prog 10) 0)) xc9_l xc9_c xc9_k).binds (ps := ["self"]) (fun _ _ _ _ _ _ us hl => match us, hl with | [_], _ => rfl), ⟨rfl, rfl, rfl, by decide +kernel, rfl, by decide +kernel, by decide +kernel⟩, rfl⟩, ⟨⟨_, X10, fc10, _, (inClass (atTop prog 11) 0), _, _, _, _, rfl, PySem.W.mg_of X G ax10, ex10_1, ex10_2, xc10_a, xc10_i, (fun_mk (st := (inClass (atTop prog 11) 0)) xc10_l xc10_c xc10_k), (fun_mk (st := (inClass (atTop prog 11) 0)) xc10_l xc10_c xc10_k).binds (ps := ["self"]) (fun _ _ _ _ _ _ us hl => match us, hl with | [_], _ => rfl), ⟨rfl, rfl, rfl, by decide +kernel, rfl, by decide +kernel, by decide +kernel⟩, rfl⟩, ⟨⟨_, X11, fc11, _, (inClass (atTop prog 12) 0), _, _, _, _, rfl, PySem.W.mg_of X G ax11, ex11_1, ex11_2, xc11_a, xc11_i, (fun_mk (st := (inClass (atTop prog 12) 0)) xc11_l xc11_c xc11_k), (fun_mk (st := (inClass (atTop prog 12) 0)) xc11_l xc11_c xc11_k).binds (ps := ["self"]) (fun _ _ _ _ _ _ us hl => match us, hl with | [_], _ => rfl), ⟨rfl, rfl, rfl, by decide +kernel, rfl, by decide +kernel, by decide +kernel⟩, rfl⟩, ⟨⟨_, X12, fc12, _, (inClass (atTop prog 13) 0), _, _, _, _, rfl, PySem.W.mg_of X G ax12, ex12_1, ex12_2, xc12_a, xc12_i, (fun_mk (st := (inClass (atTop prog 13) 0)) xc12_l xc12_c xc12_k), (fun_mk (st := (inClass (atTop prog 13) 0)) xc12_l xc12_c xc12_k).binds (ps := ["self"]) (fun _ _ _ _ _ _ us hl => match us, hl with | [_], _ => rfl), ⟨rfl, rfl, rfl, by decide +kernel, rfl, by decide +kernel, by decide +kernel⟩, rfl⟩, ⟨⟨_, X13, fc13, _, (inClass (atTop prog 14) 0), _, _, _, _, rfl, PySem.W.mg_of X G ax13, ex13_1, ex13_2, xc13_a, xc13_i, (fun_mk (st := (inClass (atTop prog 14) 0)) xc13_l xc13_c xc13_k), (fun_mk (st := (inClass (atTop prog 14) 0)) xc13_l xc13_c xc13_k).binds (ps := ["self"]) (fun _ _ _ _ _ _ us hl => match us, hl with | [_], _ => rfl), ⟨rfl, rfl, rfl, by decide +kernel, rfl, by decide +kernel, by decide +kernel⟩, rfl⟩, trivial⟩⟩⟩⟩⟩⟩⟩⟩⟩⟩⟩⟩⟩⟩ }
  have F0 := fun_mk (st := (atTop prog 19)) l0 c0 k0
  have b0 := F0.binds (ps := ["value"]) fun _ _ _ _ _ _ us hl => match us, hl with | [_], _ => rfl
  have F1 := fun_mk (st := (atTop prog 17)) l1 c1 k1
  have b1 := F1.binds (ps := ["x"]) fun _ _ _ _ _ _ us hl => match us, hl with | [_], _ => rfl
  have F2 := fun_mk (st := (atTop prog 21)) l2 c2 k2
  have b2 := F2.binds (ps := ["found"]) fun _ _ _ _ _ _ us hl => match us, hl with | [_], _ => rfl
  have F3 := fun_mk (st := (atTop prog 23)) l3 c3 k3
  have b3 := F3.binds (ps := ["found", "word", "x"]) fun _ _ _ _ _ _ us hl => match us, hl with | [_, _, _], _ => rfl
  have F4 := fun_mk (st := (atTop prog 22)) l4 c4 k4
  have b4 := F4.binds (ps := ["e"]) fun _ _ _ _ _ _ us hl => match us, hl with | [_], _ => rfl
  have F5 := fun_mk (st := (atTop prog 24)) l5 c5 k5
  have b5 := F5.binds (ps := ["x"]) fun _ _ _ _ _ _ us hl => match us, hl with | [_], _ => rfl
  have F6 := fun_mk (st := (atTop prog 18)) l6 c6 k6
  have b6 := F6.binds (ps := ["t"]) fun _ _ _ _ _ _ us hl => match us, hl with | [_], _ => rfl
  have F7 := fun_mk (st := (atTop prog 25)) l7 c7 k7
  have b7 := F7.binds (ps := ["script"]) fun _ _ _ _ _ _ us hl => match us, hl with | [_], _ => rfl
  refine ⟨PySem.W.fnOf "law" "law" (defArgs (atTop prog 25)) (defBody (atTop prog 25)) (defScope (atTop prog 25)) .none kV7 dc7 pm7 an7 cd7 ct7, fun s v => .of_eq rfl, fun base _ _ => ?_⟩
  have O0 := ok_f_kind_of (w := w) (base := base) Q  F0
  have N0 := fnF_of (T := T) (PySem.W.mg_of X G a0) k0 b0 O0
  have O1 := ok_f_number_value (w := w) (base := base) Q  F1
  have N1 := fnF_of (T := T) (PySem.W.mg_of X G a1) k1 b1 O1
  have O2 := ok_f_law_whole (w := w) (base := base) Q  F2
  have N2 := fnF_of (T := T) (PySem.W.mg_of X G a2) k2 b2 O2
  have O3 := ok_f_law_pair (w := w) (base := base) Q N2 F3
  have N3 := fnF_of (T := T) (PySem.W.mg_of X G a3) k3 b3 O3
  have O4 := ok_f_law_flags (w := w) (base := base) Q  F4
  have N4 := fnF_of (T := T) (PySem.W.mg_of X G a4) k4 b4 O4
  have O5 := ok_f_law_refused (w := w) (base := base) Q N1 N4 F5
  have N5 := fnF_of (T := T) (PySem.W.mg_of X G a5) k5 b5 O5
  have O6 := ok_f_thing_value (w := w) (base := base) Q  F6
  have N6 := fnF_of (T := T) (PySem.W.mg_of X G a6) k6 b6 O6
  have O7 := ok_f_law (w := w) (base := base) Q N0 N1 N3 N5 N6 F7
  have N7 := fnF_of (T := T) (PySem.W.mg_of X G a7) k7 b7 O7
  exact O7
end Lw

namespace Lw
open PySem PySem.Spec L2 Mi
def far : Int := 1000000000000000000000000000000000000000000000000000000000000
theorem far_pow : (10 : Int) ^ (60 : Int).toNat = far := by decide
theorem kind_non {S : Sto} : f_kind_of [.non] S = .ok (.str "none") S := by simp [f_kind_of]
theorem kind_tup {S : Sto} {i : Nat} {x : Str} {v : V} (h : S[i]? = some (.tup [.str x, v])) : f_kind_of [.ref i] S = .ok (.str x) S := by
  simp [f_kind_of, oIx_tup h (show atI [V.str x, v] 0 = some (.str x) from rfl)]
theorem value_ok {x : Int} {S : Sto} (h : -far ≤ x ∧ x ≤ far) : f_number_value [.int x] S = .ok (.ref S.length) (S ++ [.tup [.str "number", .int x]]) := by
  unfold far at h
  simp [f_number_value, show ¬ x < -1000000000000000000000000000000000000000000000000000000000000 by omega, show ¬ 1000000000000000000000000000000000000000000000000000000000000 < x by omega, kTup, sizeLine]
theorem value_bad {x : Int} {S : Sto} (h : x < -far ∨ far < x) : f_number_value [.int x] S = .exc 2 none S := by
  unfold far at h
  rcases h with h | h
  · simp [f_number_value, h]
  · simp [f_number_value, h, show ¬ x < -1000000000000000000000000000000000000000000000000000000000000 by omega]
theorem thing_ok {x : Int} {S : Sto} : f_thing_value [.int x] S = .ok (.ref S.length) (S ++ [.tup [.str "thing", .int x]]) := by
  simp [f_thing_value, kTup, sizeLine]
theorem whole_ok {n : Int} {S : Sto} : f_law_whole [.int n] S = .ok (.bl true) S := by
  simp [f_law_whole, lookT, it_int, it_bool]
theorem pair_ok {S : Sto} {i : Nat} {w : Str} {x : Int} (h : S[i]? = some (.tup [.str w, .int x])) (hw : (PyData.str w).canLay0 = true) : f_law_pair [.ref i, .str w, .int x] S = .ok (.bl true) S := by
  simp [f_law_pair, kApp, oIsi_tup h, lookT, it_tuple, oLen_tup h, oIx_tup h (show atI [V.str w, V.int x] 0 = some (.str w) from rfl), oIx_tup h (show atI [V.str w, V.int x] 1 = some (.int x) from rfl), oEqD_str _ _ w w hw hw, whole_ok]
def bl (c : Nat) (l : List Nat) : List V := l.map fun k => .bl (k == c)
def flagsEx (c : Nat) : Sto := [.lst (bl c [1, 2, 3, 4]), .lst (bl c [5, 6, 7, 8]), .lst (bl c [1, 2, 3, 4, 5, 6, 7, 8]), .lst (bl c [9, 10, 11, 12]), .lst (bl c [1, 2, 3, 4, 5, 6, 7, 8, 9, 10, 11, 12]), .lst (bl c [13]), .lst (bl c [1, 2, 3, 4, 5, 6, 7, 8, 9, 10, 11, 12, 13])]
theorem flags_ok {i c : Nat} {S : Sto} (hc : c ≤ 13) (h : S[i]? = some (.exc c none)) : f_law_flags [.ref i] S = .ok (.ref (S.length + 6)) (S ++ flagsEx c) := by
  have hi : i < S.length := (List.getElem?_eq_some_iff.mp h).1
  have e : c = 0 ∨ c = 1 ∨ c = 2 ∨ c = 3 ∨ c = 4 ∨ c = 5 ∨ c = 6 ∨ c = 7 ∨ c = 8 ∨ c = 9 ∨ c = 10 ∨ c = 11 ∨ c = 12 ∨ c = 13 := by omega
  rcases e with rfl | rfl | rfl | rfl | rfl | rfl | rfl | rfl | rfl | rfl | rfl | rfl | rfl | rfl <;>
  simp [f_law_flags, kLst, oIsi_exc h, oIsi_exc (get_old h _), oAdd, rdL, lookT, it_BadAddress, it_BadCount, it_BadField, it_BadHand, it_BadLog, it_BadName, it_BadPaper, it_BadText, it_BadView, it_NoRoom, it_NoRound, it_RoundOn, it_TooManyWords, sizeLine, List.getElem?_append, flagsEx, bl]
theorem flags_count {c : Nat} {S : Sto} (h1 : 1 ≤ c) (h2 : c ≤ 13) : tyS "list" (S ++ flagsEx c) (.ref (S.length + 6)) = true ∧ oCount (.ref (S.length + 6)) [.bl true] (S ++ flagsEx c) = .ok (.int 1) (S ++ flagsEx c) := by
  have e2 : (S ++ flagsEx c)[S.length + 6]? = some (.lst (bl c [1, 2, 3, 4, 5, 6, 7, 8, 9, 10, 11, 12, 13])) := by rw [get_new]; rfl
  refine ⟨ty_lst e2, ?_⟩
  rw [oCount_of _ (rdL_lst _ e2) rfl rfl]
  have e : c = 1 ∨ c = 2 ∨ c = 3 ∨ c = 4 ∨ c = 5 ∨ c = 6 ∨ c = 7 ∨ c = 8 ∨ c = 9 ∨ c = 10 ∨ c = 11 ∨ c = 12 ∨ c = 13 := by omega
  rcases e with rfl | rfl | rfl | rfl | rfl | rfl | rfl | rfl | rfl | rfl | rfl | rfl | rfl <;> rfl
theorem refused_ok {x : Int} {S : Sto} (h : x < -far ∨ far < x) : ∃ ex, f_law_refused [.int x] S = .ok (.bl true) (S ++ ex) := by
  refine ⟨[.exc 2 none] ++ flagsEx 2, ?_⟩
  have a1 : (S ++ [Ob.exc 2 none])[S.length]? = some (Ob.exc 2 none) := by rw [get_new0]; rfl
  have q := flags_count (c := 2) (S := S ++ [Ob.exc 2 none]) (by decide) (by decide)
  have es : oNe (.str "BadCount") (.str "BadCount") (S ++ [Ob.exc 2 none]) = .ok (.bl false) (S ++ [Ob.exc 2 none]) := (oEqD_str _ true "BadCount" "BadCount" (by decide +kernel) (by decide +kernel)).trans (by simp)
  simp [-mRet_ap, f_law_refused, kApp, value_bad h, kCatch_as, sub_HeapError, oIsi_exc a1, lookT, it_BadCount, it_ValueError, oCalled_exc a1 (show look cal_tab 2 = some "BadCount" from rfl), es]
  simp only [mRet_ap, mBin_ap, mBM_ap, mApp_ap, mCons_ap, mNil_ap, mVar_ap, mC_ap, bind_ok, kApp, List.getElem?_cons_succ, List.getElem?_cons_zero, opV_some, List.length_cons, List.length_nil, if_pos, flags_ok (c := 2) (by decide) a1, q.1, q.2]
  simp
theorem law_true (ns : List Int) (hl : ns.length ≤ 63) (hb : ∀ z ∈ ns, Builtin.Int.intBits z ≤ 1048576) : ∃ S, f_law [.ref 0] [.lck (.lst (ns.map V.int))] = .ok (.bl true) S := by
  unfold f_law
  rw [fnOf_fr [some (.ref 0), none, none, none, none, none] rfl]
  show Ends _ _
  have en : oNe (.str "none") (.str "none") [Ob.lck (.lst (ns.map V.int))] = .ok (.bl false) [Ob.lck (.lst (ns.map V.int))] := (oEqD_str _ true "none" "none" (by decide +kernel) (by decide +kernel)).trans (by simp)
  rw [mSeq_ap, mSet_ap, mBin_ap]
  simp only [mC_ap, bind_ok, oPow_int _ 10 60 (by decide), far_pow, lift_ok, seq_nx, List.set_cons_succ, List.set_cons_zero]
  rw [mSeq_ap, mIfS_ap]
  simp only [mB_ap, mBin_ap, mApp_ap, mCons_ap, mC_ap, mNil_ap, bind_ok, kApp, List.length_cons, List.length_nil, if_pos, kind_non, en, kB_bl, lift_ok, if_neg Bool.false_ne_true, mSkip_ap, seq_nx]
  rw [mSeq_ap]
  have e0 : ([Ob.lck (.lst (ns.map V.int))] ++ [Ob.lst [V.int 0]])[1]? = some (.lst [V.int 0]) := rfl
  have e1 : ([Ob.lck (.lst (ns.map V.int))] ++ [Ob.lst [V.int 0]])[0]? = some (.lck (.lst (ns.map V.int))) := rfl
  have hz : [V.int 0].length + (ns.map V.int).length ≤ sizeLine := by
    rw [List.length_map, sizeLine_eq]
    show 1 + ns.length ≤ _
    omega
  have sNe : ∀ (S : Sto) (w : Str), (PyData.str w).canLay0 = true → oNe (.str w) (.str w) S = .ok (.bl false) S := fun S w h => (oEqD_str _ true w w h h).trans (by simp)
  obtain ⟨σ2, S2, e2, ⟨a, b, c, d, es2⟩, p2⟩ := for_alloc (j := 2) (i := 2) (σ := [some (.ref 0), some (.int far), none, none, none, none]) (S := [Ob.lck (.lst (ns.map V.int))]) (S1 := [Ob.lck (.lst (ns.map V.int)), .lst [.int 0], .lst (.int 0 :: ns.map V.int)])
    (m := mBin oAdd (mLst (mCons (mC (.int 0)) (mNil))) (mVar 0))
    (b := (mSeq (mSet 3 (mBin oMod (mVar 2) (mBin oPow (mC (.int 10)) (mC (.int 50))))) (mSeq (mFor (mWalk (mLst (mCons (mBin oSub (mBin oMod (mVar 2) (mBin oAdd (mBin oMul (mC (.int 2)) (mVar 1)) (mC (.int 1)))) (mVar 1)) (mCons (mBin oSub (mBin oMod (mVar 2) (mC (.int 9))) (mC (.int 4))) (mCons (mVar 1) (mCons (mUn oNeg (mVar 1)) (mNil))))))) (tgName 4) (mSeq (mSet 5 (mApp 1 f_number_value (mCons (mVar 4) (mNil)))) (mIfS (mOr (mNot (mB (mApp 3 f_law_pair (mCons (mVar 5) (mCons (mC (.str "number")) (mCons (mVar 4) (mNil))))))) (mB (mBin oNe (mApp 1 f_kind_of (mCons (mVar 5) (mNil))) (mC (.str "number"))))) (mRet (mC (.bl false))) (mSkip)))) (mSeq (mFor (mWalk (mLst (mCons (mBin oAdd (mVar 1) (mC (.int 1))) (mCons (mBin oSub (mUn oNeg (mVar 1)) (mC (.int 1))) (mCons (mBin oAdd (mBin oAdd (mVar 1) (mC (.int 1))) (mVar 3)) (mCons (mBin oSub (mBin oSub (mUn oNeg (mVar 1)) (mC (.int 1))) (mVar 3)) (mNil))))))) (tgName 4) (mIfS (mNot (mB (mApp 1 f_law_refused (mCons (mVar 4) (mNil))))) (mRet (mC (.bl false))) (mSkip))) (mSeq (mSet 5 (mApp 1 f_thing_value (mCons (mVar 3) (mNil)))) (mIfS (mOr (mNot (mB (mApp 3 f_law_pair (mCons (mVar 5) (mCons (mC (.str "thing")) (mCons (mVar 3) (mNil))))))) (mB (mBin oNe (mApp 1 f_kind_of (mCons (mVar 5) (mNil))) (mC (.str "thing"))))) (mRet (mC (.bl false))) (mSkip)))))))
    (fun σ => ∃ a b c d, σ = [some (.ref 0), some (.int far), a, b, c, d]) (by
      rw [mBin_ap, mLst_ap]
      simp only [mCons_ap, mC_ap, mNil_ap, bind_ok, kLst, List.length_cons, List.length_nil, if_pos (show 0 + 1 ≤ sizeLine by decide), mVar_ap, List.getElem?_cons_zero, opV_some]
      exact oAdd_lst _ (rdL_lst _ e0) (rdL_lck _ e1) hz) rfl ⟨_, _, _, _, rfl⟩ (fun x hx σ S' ⟨a, b, c, d, eσ⟩ p => by
      obtain ⟨z, ez⟩ : ∃ z, x = .int z := by
        rcases List.mem_cons.mp hx with h | h
        · exact ⟨_, h⟩
        · obtain ⟨z, _, rfl⟩ := List.mem_map.mp h
          exact ⟨z, rfl⟩
      subst ez eσ
      rw [mSeq_ap, mSet_ap, mBin_ap]
      simp only [mVar_ap, mBin_ap, mC_ap, List.set_cons_succ, List.set_cons_zero, List.getElem?_cons_succ, List.getElem?_cons_zero, opV_some, bind_ok, oPow_int _ 10 50 (by decide), oMod_int _ z _ (show (0:Int) < 10 ^ (50:Int).toNat by decide), lift_ok, seq_nx]
      have hq0 : 0 ≤ z % 10 ^ (50:Int).toNat := Int.emod_nonneg _ (by decide)
      generalize z % 10 ^ (50:Int).toNat = q at hq0
      rw [mSeq_ap]
      have m1 : 0 ≤ z % (2 * far + 1) := Int.emod_nonneg _ (by decide)
      have m2 : z % (2 * far + 1) < 2 * far + 1 := Int.emod_lt_of_pos _ (by decide)
      have m3 : 0 ≤ z % 9 := Int.emod_nonneg _ (by decide)
      have m4 : z % 9 < 9 := Int.emod_lt_of_pos _ (by decide)
      obtain ⟨σ3, S3, e3, ⟨c3, d3, es3⟩, p3⟩ := for_alloc (j := 4) (i := S'.length) (σ := [some (.ref 0), some (.int far), some (.int z), some (.int q), c, d]) (S := S') (S1 := S' ++ [.lst [.int (z % (2 * far + 1) - far), .int (z % 9 - 4), .int far, .int (-far)]])
        (m := mLst (mCons (mBin oSub (mBin oMod (mVar 2) (mBin oAdd (mBin oMul (mC (.int 2)) (mVar 1)) (mC (.int 1)))) (mVar 1)) (mCons (mBin oSub (mBin oMod (mVar 2) (mC (.int 9))) (mC (.int 4))) (mCons (mVar 1) (mCons (mUn oNeg (mVar 1)) (mNil))))))
        (b := mSeq (mSet 5 (mApp 1 f_number_value (mCons (mVar 4) (mNil)))) (mIfS (mOr (mNot (mB (mApp 3 f_law_pair (mCons (mVar 5) (mCons (mC (.str "number")) (mCons (mVar 4) (mNil))))))) (mB (mBin oNe (mApp 1 f_kind_of (mCons (mVar 5) (mNil))) (mC (.str "number"))))) (mRet (mC (.bl false))) (mSkip)))
        (fun σ => ∃ c d, σ = [some (.ref 0), some (.int far), some (.int z), some (.int q), c, d])
        (by simp [kLst, sizeLine, oMul_int _ 2 far (by decide), oMod_int _ z (2 * far + 1) (by decide), oMod_int _ z 9 (by decide)]) (by rw [get_new0]; rfl) ⟨_, _, rfl⟩ (fun x hx σ S' ⟨c, d, eσ⟩ p => by
          obtain ⟨y, ey, hy⟩ : ∃ y : Int, x = .int y ∧ -far ≤ y ∧ y ≤ far := by
            have hf : (0 : Int) ≤ far := by decide
            have hf2 : (4 : Int) ≤ far := by decide
            simp only [List.mem_cons, List.not_mem_nil, or_false] at hx
            rcases hx with h | h | h | h <;> exact ⟨_, h, by omega, by omega⟩
          subst ey eσ
          have en : (S' ++ [Ob.tup [.str "number", .int y]])[S'.length]? = some (.tup [.str "number", .int y]) := by rw [get_new0]; rfl
          refine ⟨[some (.ref 0), some (.int far), some (.int z), some (.int q), some (.int y), some (.ref S'.length)], S' ++ [.tup [.str "number", .int y]], ?_, ⟨_, _, rfl⟩, pre_add _ _⟩
          simp [kApp, value_ok hy, pair_ok en (by decide +kernel), kind_tup en, sNe _ "number" (by decide +kernel)])
      subst es3
      rw [e3, seq_nx, mSeq_ap]
      obtain ⟨σ4, S4, e4, ⟨c4, d4, es4⟩, p4⟩ := for_alloc (j := 4) (i := S3.length) (σ := [some (.ref 0), some (.int far), some (.int z), some (.int q), c3, d3]) (S := S3) (S1 := S3 ++ [.lst [.int (far + 1), .int (-far - 1), .int (far + 1 + q), .int (-far - 1 - q)]])
        (m := mLst (mCons (mBin oAdd (mVar 1) (mC (.int 1))) (mCons (mBin oSub (mUn oNeg (mVar 1)) (mC (.int 1))) (mCons (mBin oAdd (mBin oAdd (mVar 1) (mC (.int 1))) (mVar 3)) (mCons (mBin oSub (mBin oSub (mUn oNeg (mVar 1)) (mC (.int 1))) (mVar 3)) (mNil))))))
        (b := mIfS (mNot (mB (mApp 1 f_law_refused (mCons (mVar 4) (mNil))))) (mRet (mC (.bl false))) (mSkip)) (fun σ => ∃ c d, σ = [some (.ref 0), some (.int far), some (.int z), some (.int q), c, d])
        (by simp [kLst, sizeLine]) (by rw [get_new0]; rfl) ⟨_, _, rfl⟩ (fun x hx σ S' ⟨c, d, eσ⟩ p => by
          obtain ⟨y, ey, hy⟩ : ∃ y : Int, x = .int y ∧ (y < -far ∨ far < y) := by
            simp only [List.mem_cons, List.not_mem_nil, or_false] at hx
            rcases hx with h | h | h | h <;> exact ⟨_, h, by omega⟩
          subst ey eσ
          obtain ⟨ex, er⟩ := refused_ok (x := y) (S := S') hy
          refine ⟨[some (.ref 0), some (.int far), some (.int z), some (.int q), some (.int y), d], S' ++ ex, ?_, ⟨_, _, rfl⟩, pre_add _ _⟩
          simp [kApp, er])
      subst es4
      rw [e4, seq_nx]
      have en : (S4 ++ [Ob.tup [.str "thing", .int q]])[S4.length]? = some (.tup [.str "thing", .int q]) := by rw [get_new0]; rfl
      refine ⟨[some (.ref 0), some (.int far), some (.int z), some (.int q), c4, some (.ref S4.length)], S4 ++ [.tup [.str "thing", .int q]], ?_, ⟨_, _, _, _, rfl⟩, (((pre_add _ _).trans p3).trans (pre_add _ _)).trans (p4.trans (pre_add _ _))⟩
      simp [kApp, thing_ok, pair_ok en (by decide +kernel), kind_tup en, sNe _ "thing" (by decide +kernel)])
  subst es2
  rw [e2, seq_nx, mRet_ap, mC_ap, lift_ok]
  exact Ends.rt
end Lw

open PySem PySem.W PyProof.Rows
set_option maxRecDepth 100000 in
set_option maxHeartbeats 0 in
theorem PySem.Challenge.cw_stillheap_k02_values_as_data_holds : PySem.Challenge.rw_stillheap_k02_values_as_data.Holds := by
  w_on; o_law; k_head; (case hw => w_witness2)
  k_fill
  refine Mi.walk_end (l := PySem.Challenge.rw_stillheap_k02_values_as_data) (k := 3) (x := "script") (T := Lw.T) (f := Lw.f_law) rfl rfl ⟨rfl, by decide, by decide⟩ (fun w h Y => PySem.W.kIn_of Y) ?L ?F Lw.law_true
  case L => intro p; kernel_rfl
  case F =>
    intro w mg fa h KX G hmg
    refine' Lw.all_mk KX G hmg ?ax0 ?ax1 ?ax2 ?ax3 ?ax4 ?ax5 ?ax6 ?ax7 ?ax8 ?ax9 ?ax10 ?ax11 ?ax12 ?ax13 ?zb_isinstance ?zb_len ?zg0 ?zb_int ?zb_bool ?zb_tuple ?zb_ValueError ?jc1 ?jc2 ?ex0_1 ?ex0_2 ?ex0_3 ?ex0_4 ?ex0_5 ?ex0_6 ?ex1_1 ?ex1_2 ?ex1_3 ?ex1_4 ?ex1_5 ?ex1_6 ?ex2_1 ?ex2_2 ?ex2_3 ?ex2_4 ?ex2_5 ?ex2_6 ?ex3_1 ?ex3_2 ?ex3_3 ?ex3_4 ?ex3_5 ?ex3_6 ?ex4_1 ?ex4_2 ?ex4_3 ?ex4_4 ?ex4_5 ?ex4_6 ?ex5_1 ?ex5_2 ?ex5_3 ?ex5_4 ?ex5_5 ?ex5_6 ?ex6_1 ?ex6_2 ?ex6_3 ?ex6_4 ?ex6_5 ?ex6_6 ?ex7_1 ?ex7_2 ?ex7_3 ?ex7_4 ?ex7_5 ?ex7_6 ?ex8_1 ?ex8_2 ?ex8_3 ?ex8_4 ?ex8_5 ?ex8_6 ?ex9_1 ?ex9_2 ?ex9_3 ?ex9_4 ?ex9_5 ?ex9_6 ?ex10_1 ?ex10_2 ?ex10_3 ?ex10_4 ?ex10_5 ?ex10_6 ?ex11_1 ?ex11_2 ?ex11_3 ?ex11_4 ?ex11_5 ?ex11_6 ?ex12_1 ?ex12_2 ?ex12_3 ?ex12_4 ?ex12_5 ?ex12_6 ?ex13_1 ?ex13_2 ?ex13_3 ?ex13_4 ?ex13_5 ?ex13_6 ?ki_int_0 ?ki_int_1 ?ki_int_2 ?ki_int_3 ?ki_int_4 ?ki_int_5 ?ki_int_6 ?ki_int_7 ?ki_int_8 ?ki_int_9 ?ki_int_10 ?ki_int_11 ?ki_int_12 ?ki_int_13 ?kt_int_NoneType ?kt_int_bool ?kt_int_int ?kt_int_str ?kt_int_list ?kt_int_tuple ?kt_int_dict ?ki_bool_0 ?ki_bool_1 ?ki_bool_2 ?ki_bool_3 ?ki_bool_4 ?ki_bool_5 ?ki_bool_6 ?ki_bool_7 ?ki_bool_8 ?ki_bool_9 ?ki_bool_10 ?ki_bool_11 ?ki_bool_12 ?ki_bool_13 ?kt_bool_NoneType ?kt_bool_bool ?kt_bool_int ?kt_bool_str ?kt_bool_list ?kt_bool_tuple ?kt_bool_dict ?ki_BadHand_0 ?ki_BadHand_1 ?ki_BadHand_2 ?ki_BadHand_3 ?ki_BadHand_4 ?ki_BadHand_5 ?ki_BadHand_6 ?ki_BadHand_7 ?ki_BadHand_8 ?ki_BadHand_9 ?ki_BadHand_10 ?ki_BadHand_11 ?ki_BadHand_12 ?ki_BadHand_13 ?kt_BadHand_NoneType ?kt_BadHand_bool ?kt_BadHand_int ?kt_BadHand_str ?kt_BadHand_list ?kt_BadHand_tuple ?kt_BadHand_dict ?ki_BadField_0 ?ki_BadField_1 ?ki_BadField_2 ?ki_BadField_3 ?ki_BadField_4 ?ki_BadField_5 ?ki_BadField_6 ?ki_BadField_7 ?ki_BadField_8 ?ki_BadField_9 ?ki_BadField_10 ?ki_BadField_11 ?ki_BadField_12 ?ki_BadField_13 ?kt_BadField_NoneType ?kt_BadField_bool ?kt_BadField_int ?kt_BadField_str ?kt_BadField_list ?kt_BadField_tuple ?kt_BadField_dict ?ki_BadCount_0 ?ki_BadCount_1 ?ki_BadCount_2 ?ki_BadCount_3 ?ki_BadCount_4 ?ki_BadCount_5 ?ki_BadCount_6 ?ki_BadCount_7 ?ki_BadCount_8 ?ki_BadCount_9 ?ki_BadCount_10 ?ki_BadCount_11 ?ki_BadCount_12 ?ki_BadCount_13 ?kt_BadCount_NoneType ?kt_BadCount_bool ?kt_BadCount_int ?kt_BadCount_str ?kt_BadCount_list ?kt_BadCount_tuple ?kt_BadCount_dict ?ki_BadAddress_0 ?ki_BadAddress_1 ?ki_BadAddress_2 ?ki_BadAddress_3 ?ki_BadAddress_4 ?ki_BadAddress_5 ?ki_BadAddress_6 ?ki_BadAddress_7 ?ki_BadAddress_8 ?ki_BadAddress_9 ?ki_BadAddress_10 ?ki_BadAddress_11 ?ki_BadAddress_12 ?ki_BadAddress_13 ?kt_BadAddress_NoneType ?kt_BadAddress_bool ?kt_BadAddress_int ?kt_BadAddress_str ?kt_BadAddress_list ?kt_BadAddress_tuple ?kt_BadAddress_dict ?ki_BadText_0 ?ki_BadText_1 ?ki_BadText_2 ?ki_BadText_3 ?ki_BadText_4 ?ki_BadText_5 ?ki_BadText_6 ?ki_BadText_7 ?ki_BadText_8 ?ki_BadText_9 ?ki_BadText_10 ?ki_BadText_11 ?ki_BadText_12 ?ki_BadText_13 ?kt_BadText_NoneType ?kt_BadText_bool ?kt_BadText_int ?kt_BadText_str ?kt_BadText_list ?kt_BadText_tuple ?kt_BadText_dict ?ki_BadPaper_0 ?ki_BadPaper_1 ?ki_BadPaper_2 ?ki_BadPaper_3 ?ki_BadPaper_4 ?ki_BadPaper_5 ?ki_BadPaper_6 ?ki_BadPaper_7 ?ki_BadPaper_8 ?ki_BadPaper_9 ?ki_BadPaper_10 ?ki_BadPaper_11 ?ki_BadPaper_12 ?ki_BadPaper_13 ?kt_BadPaper_NoneType ?kt_BadPaper_bool ?kt_BadPaper_int ?kt_BadPaper_str ?kt_BadPaper_list ?kt_BadPaper_tuple ?kt_BadPaper_dict ?ki_BadName_0 ?ki_BadName_1 ?ki_BadName_2 ?ki_BadName_3 ?ki_BadName_4 ?ki_BadName_5 ?ki_BadName_6 ?ki_BadName_7 ?ki_BadName_8 ?ki_BadName_9 ?ki_BadName_10 ?ki_BadName_11 ?ki_BadName_12 ?ki_BadName_13 ?kt_BadName_NoneType ?kt_BadName_bool ?kt_BadName_int ?kt_BadName_str ?kt_BadName_list ?kt_BadName_tuple ?kt_BadName_dict ?ki_BadLog_0 ?ki_BadLog_1 ?ki_BadLog_2 ?ki_BadLog_3 ?ki_BadLog_4 ?ki_BadLog_5 ?ki_BadLog_6 ?ki_BadLog_7 ?ki_BadLog_8 ?ki_BadLog_9 ?ki_BadLog_10 ?ki_BadLog_11 ?ki_BadLog_12 ?ki_BadLog_13 ?kt_BadLog_NoneType ?kt_BadLog_bool ?kt_BadLog_int ?kt_BadLog_str ?kt_BadLog_list ?kt_BadLog_tuple ?kt_BadLog_dict ?ki_RoundOn_0 ?ki_RoundOn_1 ?ki_RoundOn_2 ?ki_RoundOn_3 ?ki_RoundOn_4 ?ki_RoundOn_5 ?ki_RoundOn_6 ?ki_RoundOn_7 ?ki_RoundOn_8 ?ki_RoundOn_9 ?ki_RoundOn_10 ?ki_RoundOn_11 ?ki_RoundOn_12 ?ki_RoundOn_13 ?kt_RoundOn_NoneType ?kt_RoundOn_bool ?kt_RoundOn_int ?kt_RoundOn_str ?kt_RoundOn_list ?kt_RoundOn_tuple ?kt_RoundOn_dict ?ki_NoRound_0 ?ki_NoRound_1 ?ki_NoRound_2 ?ki_NoRound_3 ?ki_NoRound_4 ?ki_NoRound_5 ?ki_NoRound_6 ?ki_NoRound_7 ?ki_NoRound_8 ?ki_NoRound_9 ?ki_NoRound_10 ?ki_NoRound_11 ?ki_NoRound_12 ?ki_NoRound_13 ?kt_NoRound_NoneType ?kt_NoRound_bool ?kt_NoRound_int ?kt_NoRound_str ?kt_NoRound_list ?kt_NoRound_tuple ?kt_NoRound_dict ?ki_NoRoom_0 ?ki_NoRoom_1 ?ki_NoRoom_2 ?ki_NoRoom_3 ?ki_NoRoom_4 ?ki_NoRoom_5 ?ki_NoRoom_6 ?ki_NoRoom_7 ?ki_NoRoom_8 ?ki_NoRoom_9 ?ki_NoRoom_10 ?ki_NoRoom_11 ?ki_NoRoom_12 ?ki_NoRoom_13 ?kt_NoRoom_NoneType ?kt_NoRoom_bool ?kt_NoRoom_int ?kt_NoRoom_str ?kt_NoRoom_list ?kt_NoRoom_tuple ?kt_NoRoom_dict ?ki_BadView_0 ?ki_BadView_1 ?ki_BadView_2 ?ki_BadView_3 ?ki_BadView_4 ?ki_BadView_5 ?ki_BadView_6 ?ki_BadView_7 ?ki_BadView_8 ?ki_BadView_9 ?ki_BadView_10 ?ki_BadView_11 ?ki_BadView_12 ?ki_BadView_13 ?kt_BadView_NoneType ?kt_BadView_bool ?kt_BadView_int ?kt_BadView_str ?kt_BadView_list ?kt_BadView_tuple ?kt_BadView_dict ?ki_TooManyWords_0 ?ki_TooManyWords_1 ?ki_TooManyWords_2 ?ki_TooManyWords_3 ?ki_TooManyWords_4 ?ki_TooManyWords_5 ?ki_TooManyWords_6 ?ki_TooManyWords_7 ?ki_TooManyWords_8 ?ki_TooManyWords_9 ?ki_TooManyWords_10 ?ki_TooManyWords_11 ?ki_TooManyWords_12 ?ki_TooManyWords_13 ?kt_TooManyWords_NoneType ?kt_TooManyWords_bool ?kt_TooManyWords_int ?kt_TooManyWords_str ?kt_TooManyWords_list ?kt_TooManyWords_tuple ?kt_TooManyWords_dict ?ki_tuple_0 ?ki_tuple_1 ?ki_tuple_2 ?ki_tuple_3 ?ki_tuple_4 ?ki_tuple_5 ?ki_tuple_6 ?ki_tuple_7 ?ki_tuple_8 ?ki_tuple_9 ?ki_tuple_10 ?ki_tuple_11 ?ki_tuple_12 ?ki_tuple_13 ?kt_tuple_NoneType ?kt_tuple_bool ?kt_tuple_int ?kt_tuple_str ?kt_tuple_list ?kt_tuple_tuple ?kt_tuple_dict ?ki_ValueError_0 ?ki_ValueError_1 ?ki_ValueError_2 ?ki_ValueError_3 ?ki_ValueError_4 ?ki_ValueError_5 ?ki_ValueError_6 ?ki_ValueError_7 ?ki_ValueError_8 ?ki_ValueError_9 ?ki_ValueError_10 ?ki_ValueError_11 ?ki_ValueError_12 ?ki_ValueError_13 ?kt_ValueError_NoneType ?kt_ValueError_bool ?kt_ValueError_int ?kt_ValueError_str ?kt_ValueError_list ?kt_ValueError_tuple ?kt_ValueError_dict ?es_HeapError_0 ?es_HeapError_1 ?es_HeapError_2 ?es_HeapError_3 ?es_HeapError_4 ?es_HeapError_5 ?es_HeapError_6 ?es_HeapError_7 ?es_HeapError_8 ?es_HeapError_9 ?es_HeapError_10 ?es_HeapError_11 ?es_HeapError_12 ?es_HeapError_13 ?xi_BadCount ?xk_BadCount ?xt_BadCount ?xc0_a ?xc0_i ?xc0_l ?xc0_c ?xc0_k ?xc1_a ?xc1_i ?xc1_l ?xc1_c ?xc1_k ?xc2_a ?xc2_i ?xc2_l ?xc2_c ?xc2_k ?xc3_a ?xc3_i ?xc3_l ?xc3_c ?xc3_k ?xc4_a ?xc4_i ?xc4_l ?xc4_c ?xc4_k ?xc5_a ?xc5_i ?xc5_l ?xc5_c ?xc5_k ?xc6_a ?xc6_i ?xc6_l ?xc6_c ?xc6_k ?xc7_a ?xc7_i ?xc7_l ?xc7_c ?xc7_k ?xc8_a ?xc8_i ?xc8_l ?xc8_c ?xc8_k ?xc9_a ?xc9_i ?xc9_l ?xc9_c ?xc9_k ?xc10_a ?xc10_i ?xc10_l ?xc10_c ?xc10_k ?xc11_a ?xc11_i ?xc11_l ?xc11_c ?xc11_k ?xc12_a ?xc12_i ?xc12_l ?xc12_c ?xc12_k ?xc13_a ?xc13_i ?xc13_l ?xc13_c ?xc13_k ?a0 ?l0 ?c0 ?k0 ?a1 ?l1 ?c1 ?k1 ?a2 ?l2 ?c2 ?k2 ?a3 ?l3 ?c3 ?k3 ?a4 ?l4 ?c4 ?k4 ?a5 ?l5 ?c5 ?k5 ?a6 ?l6 ?c6 ?k6 ?a7 ?l7 ?c7 ?k7
    (case ax0 => k_is)
    (case ax1 => k_is)
    (case ax2 => k_is)
    (case ax3 => k_is)
    (case ax4 => k_is)
    (case ax5 => k_is)
    (case ax6 => k_is)
    (case ax7 => k_is)
    (case ax8 => k_is)
    (case ax9 => k_is)
    (case ax10 => k_is)
    (case ax11 => k_is)
    (case ax12 => k_is)
    (case ax13 => k_is)
    (case zb_isinstance => k_is)
    (case zb_len => k_is)
    (case zg0 => k_is)
    (case zb_int => k_is)
    (case zb_bool => k_is)
    (case zb_tuple => k_is)
    (case zb_ValueError => k_is)
    (case jc1 => k_is)
    (case jc2 => k_is)
    (case ex0_1 => k_is)
    (case ex0_2 => k_is)
    (case ex0_3 => k_is)
    (case ex0_4 => k_is)
    (case ex0_5 => k_is)
    (case ex0_6 => k_is)
    (case ex1_1 => k_is)
    (case ex1_2 => k_is)
    (case ex1_3 => k_is)
    (case ex1_4 => k_is)
    (case ex1_5 => k_is)
    (case ex1_6 => k_is)
    (case ex2_1 => k_is)
    (case ex2_2 => k_is)
    (case ex2_3 => k_is)
    (case ex2_4 => k_is)
    (case ex2_5 => k_is)
    (case ex2_6 => k_is)
    (case ex3_1 => k_is)
    (case ex3_2 => k_is)
    (case ex3_3 => k_is)
    (case ex3_4 => k_is)
    (case ex3_5 => k_is)
    (case ex3_6 => k_is)
    (case ex4_1 => k_is)
    (case ex4_2 => k_is)
    (case ex4_3 => k_is)
    (case ex4_4 => k_is)
    (case ex4_5 => k_is)
    (case ex4_6 => k_is)
    (case ex5_1 => k_is)
    (case ex5_2 => k_is)
    (case ex5_3 => k_is)
    (case ex5_4 => k_is)
    (case ex5_5 => k_is)
    (case ex5_6 => k_is)
    (case ex6_1 => k_is)
    (case ex6_2 => k_is)
    (case ex6_3 => k_is)
    (case ex6_4 => k_is)
    (case ex6_5 => k_is)
    (case ex6_6 => k_is)
    (case ex7_1 => k_is)
    (case ex7_2 => k_is)
    (case ex7_3 => k_is)
    (case ex7_4 => k_is)
    (case ex7_5 => k_is)
    (case ex7_6 => k_is)
    (case ex8_1 => k_is)
    (case ex8_2 => k_is)
    (case ex8_3 => k_is)
    (case ex8_4 => k_is)
    (case ex8_5 => k_is)
    (case ex8_6 => k_is)
    (case ex9_1 => k_is)
    (case ex9_2 => k_is)
    (case ex9_3 => k_is)
    (case ex9_4 => k_is)
    (case ex9_5 => k_is)
    (case ex9_6 => k_is)
    (case ex10_1 => k_is)
    (case ex10_2 => k_is)
    (case ex10_3 => k_is)
    (case ex10_4 => k_is)
    (case ex10_5 => k_is)
    (case ex10_6 => k_is)
    (case ex11_1 => k_is)
    (case ex11_2 => k_is)
    (case ex11_3 => k_is)
    (case ex11_4 => k_is)
    (case ex11_5 => k_is)
    (case ex11_6 => k_is)
    (case ex12_1 => k_is)
    (case ex12_2 => k_is)
    (case ex12_3 => k_is)
    (case ex12_4 => k_is)
    (case ex12_5 => k_is)
    (case ex12_6 => k_is)
    (case ex13_1 => k_is)
    (case ex13_2 => k_is)
    (case ex13_3 => k_is)
    (case ex13_4 => k_is)
    (case ex13_5 => k_is)
    (case ex13_6 => k_is)
    (case ki_int_0 => kernel_rfl)
    (case ki_int_1 => kernel_rfl)
    (case ki_int_2 => kernel_rfl)
    (case ki_int_3 => kernel_rfl)
    (case ki_int_4 => kernel_rfl)
    (case ki_int_5 => kernel_rfl)
    (case ki_int_6 => kernel_rfl)
    (case ki_int_7 => kernel_rfl)
    (case ki_int_8 => kernel_rfl)
    (case ki_int_9 => kernel_rfl)
    (case ki_int_10 => kernel_rfl)
    (case ki_int_11 => kernel_rfl)
    (case ki_int_12 => kernel_rfl)
    (case ki_int_13 => kernel_rfl)
    (case kt_int_NoneType => kernel_rfl)
    (case kt_int_bool => kernel_rfl)
    (case kt_int_int => kernel_rfl)
    (case kt_int_str => kernel_rfl)
    (case kt_int_list => kernel_rfl)
    (case kt_int_tuple => kernel_rfl)
    (case kt_int_dict => kernel_rfl)
    (case ki_bool_0 => kernel_rfl)
    (case ki_bool_1 => kernel_rfl)
    (case ki_bool_2 => kernel_rfl)
    (case ki_bool_3 => kernel_rfl)
    (case ki_bool_4 => kernel_rfl)
    (case ki_bool_5 => kernel_rfl)
    (case ki_bool_6 => kernel_rfl)
    (case ki_bool_7 => kernel_rfl)
    (case ki_bool_8 => kernel_rfl)
    (case ki_bool_9 => kernel_rfl)
    (case ki_bool_10 => kernel_rfl)
    (case ki_bool_11 => kernel_rfl)
    (case ki_bool_12 => kernel_rfl)
    (case ki_bool_13 => kernel_rfl)
    (case kt_bool_NoneType => kernel_rfl)
    (case kt_bool_bool => kernel_rfl)
    (case kt_bool_int => kernel_rfl)
    (case kt_bool_str => kernel_rfl)
    (case kt_bool_list => kernel_rfl)
    (case kt_bool_tuple => kernel_rfl)
    (case kt_bool_dict => kernel_rfl)
    (case ki_BadHand_0 => kernel_rfl)
    (case ki_BadHand_1 => kernel_rfl)
    (case ki_BadHand_2 => kernel_rfl)
    (case ki_BadHand_3 => kernel_rfl)
    (case ki_BadHand_4 => kernel_rfl)
    (case ki_BadHand_5 => kernel_rfl)
    (case ki_BadHand_6 => kernel_rfl)
    (case ki_BadHand_7 => kernel_rfl)
    (case ki_BadHand_8 => kernel_rfl)
    (case ki_BadHand_9 => kernel_rfl)
    (case ki_BadHand_10 => kernel_rfl)
    (case ki_BadHand_11 => kernel_rfl)
    (case ki_BadHand_12 => kernel_rfl)
    (case ki_BadHand_13 => kernel_rfl)
    (case kt_BadHand_NoneType => kernel_rfl)
    (case kt_BadHand_bool => kernel_rfl)
    (case kt_BadHand_int => kernel_rfl)
    (case kt_BadHand_str => kernel_rfl)
    (case kt_BadHand_list => kernel_rfl)
    (case kt_BadHand_tuple => kernel_rfl)
    (case kt_BadHand_dict => kernel_rfl)
    (case ki_BadField_0 => kernel_rfl)
    (case ki_BadField_1 => kernel_rfl)
    (case ki_BadField_2 => kernel_rfl)
    (case ki_BadField_3 => kernel_rfl)
    (case ki_BadField_4 => kernel_rfl)
    (case ki_BadField_5 => kernel_rfl)
    (case ki_BadField_6 => kernel_rfl)
    (case ki_BadField_7 => kernel_rfl)
    (case ki_BadField_8 => kernel_rfl)
    (case ki_BadField_9 => kernel_rfl)
    (case ki_BadField_10 => kernel_rfl)
    (case ki_BadField_11 => kernel_rfl)
    (case ki_BadField_12 => kernel_rfl)
    (case ki_BadField_13 => kernel_rfl)
    (case kt_BadField_NoneType => kernel_rfl)
    (case kt_BadField_bool => kernel_rfl)
    (case kt_BadField_int => kernel_rfl)
    (case kt_BadField_str => kernel_rfl)
    (case kt_BadField_list => kernel_rfl)
    (case kt_BadField_tuple => kernel_rfl)
    (case kt_BadField_dict => kernel_rfl)
    (case ki_BadCount_0 => kernel_rfl)
    (case ki_BadCount_1 => kernel_rfl)
    (case ki_BadCount_2 => kernel_rfl)
    (case ki_BadCount_3 => kernel_rfl)
    (case ki_BadCount_4 => kernel_rfl)
    (case ki_BadCount_5 => kernel_rfl)
    (case ki_BadCount_6 => kernel_rfl)
    (case ki_BadCount_7 => kernel_rfl)
    (case ki_BadCount_8 => kernel_rfl)
    (case ki_BadCount_9 => kernel_rfl)
    (case ki_BadCount_10 => kernel_rfl)
    (case ki_BadCount_11 => kernel_rfl)
    (case ki_BadCount_12 => kernel_rfl)
    (case ki_BadCount_13 => kernel_rfl)
    (case kt_BadCount_NoneType => kernel_rfl)
    (case kt_BadCount_bool => kernel_rfl)
    (case kt_BadCount_int => kernel_rfl)
    (case kt_BadCount_str => kernel_rfl)
    (case kt_BadCount_list => kernel_rfl)
    (case kt_BadCount_tuple => kernel_rfl)
    (case kt_BadCount_dict => kernel_rfl)
    (case ki_BadAddress_0 => kernel_rfl)
    (case ki_BadAddress_1 => kernel_rfl)
    (case ki_BadAddress_2 => kernel_rfl)
    (case ki_BadAddress_3 => kernel_rfl)
    (case ki_BadAddress_4 => kernel_rfl)
    (case ki_BadAddress_5 => kernel_rfl)
    (case ki_BadAddress_6 => kernel_rfl)
    (case ki_BadAddress_7 => kernel_rfl)
    (case ki_BadAddress_8 => kernel_rfl)
    (case ki_BadAddress_9 => kernel_rfl)
    (case ki_BadAddress_10 => kernel_rfl)
    (case ki_BadAddress_11 => kernel_rfl)
    (case ki_BadAddress_12 => kernel_rfl)
    (case ki_BadAddress_13 => kernel_rfl)
    (case kt_BadAddress_NoneType => kernel_rfl)
    (case kt_BadAddress_bool => kernel_rfl)
    (case kt_BadAddress_int => kernel_rfl)
    (case kt_BadAddress_str => kernel_rfl)
    (case kt_BadAddress_list => kernel_rfl)
    (case kt_BadAddress_tuple => kernel_rfl)
    (case kt_BadAddress_dict => kernel_rfl)
    (case ki_BadText_0 => kernel_rfl)
    (case ki_BadText_1 => kernel_rfl)
    (case ki_BadText_2 => kernel_rfl)
    (case ki_BadText_3 => kernel_rfl)
    (case ki_BadText_4 => kernel_rfl)
    (case ki_BadText_5 => kernel_rfl)
    (case ki_BadText_6 => kernel_rfl)
    (case ki_BadText_7 => kernel_rfl)
    (case ki_BadText_8 => kernel_rfl)
    (case ki_BadText_9 => kernel_rfl)
    (case ki_BadText_10 => kernel_rfl)
    (case ki_BadText_11 => kernel_rfl)
    (case ki_BadText_12 => kernel_rfl)
    (case ki_BadText_13 => kernel_rfl)
    (case kt_BadText_NoneType => kernel_rfl)
    (case kt_BadText_bool => kernel_rfl)
    (case kt_BadText_int => kernel_rfl)
    (case kt_BadText_str => kernel_rfl)
    (case kt_BadText_list => kernel_rfl)
    (case kt_BadText_tuple => kernel_rfl)
    (case kt_BadText_dict => kernel_rfl)
    (case ki_BadPaper_0 => kernel_rfl)
    (case ki_BadPaper_1 => kernel_rfl)
    (case ki_BadPaper_2 => kernel_rfl)
    (case ki_BadPaper_3 => kernel_rfl)
    (case ki_BadPaper_4 => kernel_rfl)
    (case ki_BadPaper_5 => kernel_rfl)
    (case ki_BadPaper_6 => kernel_rfl)
    (case ki_BadPaper_7 => kernel_rfl)
    (case ki_BadPaper_8 => kernel_rfl)
    (case ki_BadPaper_9 => kernel_rfl)
    (case ki_BadPaper_10 => kernel_rfl)
    (case ki_BadPaper_11 => kernel_rfl)
    (case ki_BadPaper_12 => kernel_rfl)
    (case ki_BadPaper_13 => kernel_rfl)
    (case kt_BadPaper_NoneType => kernel_rfl)
    (case kt_BadPaper_bool => kernel_rfl)
    (case kt_BadPaper_int => kernel_rfl)
    (case kt_BadPaper_str => kernel_rfl)
    (case kt_BadPaper_list => kernel_rfl)
    (case kt_BadPaper_tuple => kernel_rfl)
    (case kt_BadPaper_dict => kernel_rfl)
    (case ki_BadName_0 => kernel_rfl)
    (case ki_BadName_1 => kernel_rfl)
    (case ki_BadName_2 => kernel_rfl)
    (case ki_BadName_3 => kernel_rfl)
    (case ki_BadName_4 => kernel_rfl)
    (case ki_BadName_5 => kernel_rfl)
    (case ki_BadName_6 => kernel_rfl)
    (case ki_BadName_7 => kernel_rfl)
    (case ki_BadName_8 => kernel_rfl)
    (case ki_BadName_9 => kernel_rfl)
    (case ki_BadName_10 => kernel_rfl)
    (case ki_BadName_11 => kernel_rfl)
    (case ki_BadName_12 => kernel_rfl)
    (case ki_BadName_13 => kernel_rfl)
    (case kt_BadName_NoneType => kernel_rfl)
    (case kt_BadName_bool => kernel_rfl)
    (case kt_BadName_int => kernel_rfl)
    (case kt_BadName_str => kernel_rfl)
    (case kt_BadName_list => kernel_rfl)
    (case kt_BadName_tuple => kernel_rfl)
    (case kt_BadName_dict => kernel_rfl)
    (case ki_BadLog_0 => kernel_rfl)
    (case ki_BadLog_1 => kernel_rfl)
    (case ki_BadLog_2 => kernel_rfl)
    (case ki_BadLog_3 => kernel_rfl)
    (case ki_BadLog_4 => kernel_rfl)
    (case ki_BadLog_5 => kernel_rfl)
    (case ki_BadLog_6 => kernel_rfl)
    (case ki_BadLog_7 => kernel_rfl)
    (case ki_BadLog_8 => kernel_rfl)
    (case ki_BadLog_9 => kernel_rfl)
    (case ki_BadLog_10 => kernel_rfl)
    (case ki_BadLog_11 => kernel_rfl)
    (case ki_BadLog_12 => kernel_rfl)
    (case ki_BadLog_13 => kernel_rfl)
    (case kt_BadLog_NoneType => kernel_rfl)
    (case kt_BadLog_bool => kernel_rfl)
    (case kt_BadLog_int => kernel_rfl)
    (case kt_BadLog_str => kernel_rfl)
    (case kt_BadLog_list => kernel_rfl)
    (case kt_BadLog_tuple => kernel_rfl)
    (case kt_BadLog_dict => kernel_rfl)
    (case ki_RoundOn_0 => kernel_rfl)
    (case ki_RoundOn_1 => kernel_rfl)
    (case ki_RoundOn_2 => kernel_rfl)
    (case ki_RoundOn_3 => kernel_rfl)
    (case ki_RoundOn_4 => kernel_rfl)
    (case ki_RoundOn_5 => kernel_rfl)
    (case ki_RoundOn_6 => kernel_rfl)
    (case ki_RoundOn_7 => kernel_rfl)
    (case ki_RoundOn_8 => kernel_rfl)
    (case ki_RoundOn_9 => kernel_rfl)
    (case ki_RoundOn_10 => kernel_rfl)
    (case ki_RoundOn_11 => kernel_rfl)
    (case ki_RoundOn_12 => kernel_rfl)
    (case ki_RoundOn_13 => kernel_rfl)
    (case kt_RoundOn_NoneType => kernel_rfl)
    (case kt_RoundOn_bool => kernel_rfl)
    (case kt_RoundOn_int => kernel_rfl)
    (case kt_RoundOn_str => kernel_rfl)
    (case kt_RoundOn_list => kernel_rfl)
    (case kt_RoundOn_tuple => kernel_rfl)
    (case kt_RoundOn_dict => kernel_rfl)
    (case ki_NoRound_0 => kernel_rfl)
    (case ki_NoRound_1 => kernel_rfl)
    (case ki_NoRound_2 => kernel_rfl)
    (case ki_NoRound_3 => kernel_rfl)
    (case ki_NoRound_4 => kernel_rfl)
    (case ki_NoRound_5 => kernel_rfl)
    (case ki_NoRound_6 => kernel_rfl)
    (case ki_NoRound_7 => kernel_rfl)
    (case ki_NoRound_8 => kernel_rfl)
    (case ki_NoRound_9 => kernel_rfl)
    (case ki_NoRound_10 => kernel_rfl)
    (case ki_NoRound_11 => kernel_rfl)
    (case ki_NoRound_12 => kernel_rfl)
    (case ki_NoRound_13 => kernel_rfl)
    (case kt_NoRound_NoneType => kernel_rfl)
    (case kt_NoRound_bool => kernel_rfl)
    (case kt_NoRound_int => kernel_rfl)
    (case kt_NoRound_str => kernel_rfl)
    (case kt_NoRound_list => kernel_rfl)
    (case kt_NoRound_tuple => kernel_rfl)
    (case kt_NoRound_dict => kernel_rfl)
    (case ki_NoRoom_0 => kernel_rfl)
    (case ki_NoRoom_1 => kernel_rfl)
    (case ki_NoRoom_2 => kernel_rfl)
    (case ki_NoRoom_3 => kernel_rfl)
    (case ki_NoRoom_4 => kernel_rfl)
    (case ki_NoRoom_5 => kernel_rfl)
    (case ki_NoRoom_6 => kernel_rfl)
    (case ki_NoRoom_7 => kernel_rfl)
    (case ki_NoRoom_8 => kernel_rfl)
    (case ki_NoRoom_9 => kernel_rfl)
    (case ki_NoRoom_10 => kernel_rfl)
    (case ki_NoRoom_11 => kernel_rfl)
    (case ki_NoRoom_12 => kernel_rfl)
    (case ki_NoRoom_13 => kernel_rfl)
    (case kt_NoRoom_NoneType => kernel_rfl)
    (case kt_NoRoom_bool => kernel_rfl)
    (case kt_NoRoom_int => kernel_rfl)
    (case kt_NoRoom_str => kernel_rfl)
    (case kt_NoRoom_list => kernel_rfl)
    (case kt_NoRoom_tuple => kernel_rfl)
    (case kt_NoRoom_dict => kernel_rfl)
    (case ki_BadView_0 => kernel_rfl)
    (case ki_BadView_1 => kernel_rfl)
    (case ki_BadView_2 => kernel_rfl)
    (case ki_BadView_3 => kernel_rfl)
    (case ki_BadView_4 => kernel_rfl)
    (case ki_BadView_5 => kernel_rfl)
    (case ki_BadView_6 => kernel_rfl)
    (case ki_BadView_7 => kernel_rfl)
    (case ki_BadView_8 => kernel_rfl)
    (case ki_BadView_9 => kernel_rfl)
    (case ki_BadView_10 => kernel_rfl)
    (case ki_BadView_11 => kernel_rfl)
    (case ki_BadView_12 => kernel_rfl)
    (case ki_BadView_13 => kernel_rfl)
    (case kt_BadView_NoneType => kernel_rfl)
    (case kt_BadView_bool => kernel_rfl)
    (case kt_BadView_int => kernel_rfl)
    (case kt_BadView_str => kernel_rfl)
    (case kt_BadView_list => kernel_rfl)
    (case kt_BadView_tuple => kernel_rfl)
    (case kt_BadView_dict => kernel_rfl)
    (case ki_TooManyWords_0 => kernel_rfl)
    (case ki_TooManyWords_1 => kernel_rfl)
    (case ki_TooManyWords_2 => kernel_rfl)
    (case ki_TooManyWords_3 => kernel_rfl)
    (case ki_TooManyWords_4 => kernel_rfl)
    (case ki_TooManyWords_5 => kernel_rfl)
    (case ki_TooManyWords_6 => kernel_rfl)
    (case ki_TooManyWords_7 => kernel_rfl)
    (case ki_TooManyWords_8 => kernel_rfl)
    (case ki_TooManyWords_9 => kernel_rfl)
    (case ki_TooManyWords_10 => kernel_rfl)
    (case ki_TooManyWords_11 => kernel_rfl)
    (case ki_TooManyWords_12 => kernel_rfl)
    (case ki_TooManyWords_13 => kernel_rfl)
    (case kt_TooManyWords_NoneType => kernel_rfl)
    (case kt_TooManyWords_bool => kernel_rfl)
    (case kt_TooManyWords_int => kernel_rfl)
    (case kt_TooManyWords_str => kernel_rfl)
    (case kt_TooManyWords_list => kernel_rfl)
    (case kt_TooManyWords_tuple => kernel_rfl)
    (case kt_TooManyWords_dict => kernel_rfl)
    (case ki_tuple_0 => kernel_rfl)
    (case ki_tuple_1 => kernel_rfl)
    (case ki_tuple_2 => kernel_rfl)
    (case ki_tuple_3 => kernel_rfl)
    (case ki_tuple_4 => kernel_rfl)
    (case ki_tuple_5 => kernel_rfl)
    (case ki_tuple_6 => kernel_rfl)
    (case ki_tuple_7 => kernel_rfl)
    (case ki_tuple_8 => kernel_rfl)
    (case ki_tuple_9 => kernel_rfl)
    (case ki_tuple_10 => kernel_rfl)
    (case ki_tuple_11 => kernel_rfl)
    (case ki_tuple_12 => kernel_rfl)
    (case ki_tuple_13 => kernel_rfl)
    (case kt_tuple_NoneType => kernel_rfl)
    (case kt_tuple_bool => kernel_rfl)
    (case kt_tuple_int => kernel_rfl)
    (case kt_tuple_str => kernel_rfl)
    (case kt_tuple_list => kernel_rfl)
    (case kt_tuple_tuple => kernel_rfl)
    (case kt_tuple_dict => kernel_rfl)
    (case ki_ValueError_0 => kernel_rfl)
    (case ki_ValueError_1 => kernel_rfl)
    (case ki_ValueError_2 => kernel_rfl)
    (case ki_ValueError_3 => kernel_rfl)
    (case ki_ValueError_4 => kernel_rfl)
    (case ki_ValueError_5 => kernel_rfl)
    (case ki_ValueError_6 => kernel_rfl)
    (case ki_ValueError_7 => kernel_rfl)
    (case ki_ValueError_8 => kernel_rfl)
    (case ki_ValueError_9 => kernel_rfl)
    (case ki_ValueError_10 => kernel_rfl)
    (case ki_ValueError_11 => kernel_rfl)
    (case ki_ValueError_12 => kernel_rfl)
    (case ki_ValueError_13 => kernel_rfl)
    (case kt_ValueError_NoneType => kernel_rfl)
    (case kt_ValueError_bool => kernel_rfl)
    (case kt_ValueError_int => kernel_rfl)
    (case kt_ValueError_str => kernel_rfl)
    (case kt_ValueError_list => kernel_rfl)
    (case kt_ValueError_tuple => kernel_rfl)
    (case kt_ValueError_dict => kernel_rfl)
    (case es_HeapError_0 => kernel_rfl)
    (case es_HeapError_1 => kernel_rfl)
    (case es_HeapError_2 => kernel_rfl)
    (case es_HeapError_3 => kernel_rfl)
    (case es_HeapError_4 => kernel_rfl)
    (case es_HeapError_5 => kernel_rfl)
    (case es_HeapError_6 => kernel_rfl)
    (case es_HeapError_7 => kernel_rfl)
    (case es_HeapError_8 => kernel_rfl)
    (case es_HeapError_9 => kernel_rfl)
    (case es_HeapError_10 => kernel_rfl)
    (case es_HeapError_11 => kernel_rfl)
    (case es_HeapError_12 => kernel_rfl)
    (case es_HeapError_13 => kernel_rfl)
    (case xi_BadCount => kernel_rfl)
    (case xk_BadCount => k_is)
    (case xt_BadCount => k_is)
    (case xc0_a => k_is)
    (case xc0_i => k_is)
    (case xc0_l => k_is)
    (case xc0_c => k_is)
    (case xc0_k => k_is)
    (case xc1_a => k_is)
    (case xc1_i => k_is)
    (case xc1_l => k_is)
    (case xc1_c => k_is)
    (case xc1_k => k_is)
    (case xc2_a => k_is)
    (case xc2_i => k_is)
    (case xc2_l => k_is)
    (case xc2_c => k_is)
    (case xc2_k => k_is)
    (case xc3_a => k_is)
    (case xc3_i => k_is)
    (case xc3_l => k_is)
    (case xc3_c => k_is)
    (case xc3_k => k_is)
    (case xc4_a => k_is)
    (case xc4_i => k_is)
    (case xc4_l => k_is)
    (case xc4_c => k_is)
    (case xc4_k => k_is)
    (case xc5_a => k_is)
    (case xc5_i => k_is)
    (case xc5_l => k_is)
    (case xc5_c => k_is)
    (case xc5_k => k_is)
    (case xc6_a => k_is)
    (case xc6_i => k_is)
    (case xc6_l => k_is)
    (case xc6_c => k_is)
    (case xc6_k => k_is)
    (case xc7_a => k_is)
    (case xc7_i => k_is)
    (case xc7_l => k_is)
    (case xc7_c => k_is)
    (case xc7_k => k_is)
    (case xc8_a => k_is)
    (case xc8_i => k_is)
    (case xc8_l => k_is)
    (case xc8_c => k_is)
    (case xc8_k => k_is)
    (case xc9_a => k_is)
    (case xc9_i => k_is)
    (case xc9_l => k_is)
    (case xc9_c => k_is)
    (case xc9_k => k_is)
    (case xc10_a => k_is)
    (case xc10_i => k_is)
    (case xc10_l => k_is)
    (case xc10_c => k_is)
    (case xc10_k => k_is)
    (case xc11_a => k_is)
    (case xc11_i => k_is)
    (case xc11_l => k_is)
    (case xc11_c => k_is)
    (case xc11_k => k_is)
    (case xc12_a => k_is)
    (case xc12_i => k_is)
    (case xc12_l => k_is)
    (case xc12_c => k_is)
    (case xc12_k => k_is)
    (case xc13_a => k_is)
    (case xc13_i => k_is)
    (case xc13_l => k_is)
    (case xc13_c => k_is)
    (case xc13_k => k_is)
    (case a0 => k_is)
    (case l0 => k_is)
    (case c0 => k_is)
    (case k0 => k_is)
    (case a1 => k_is)
    (case l1 => k_is)
    (case c1 => k_is)
    (case k1 => k_is)
    (case a2 => k_is)
    (case l2 => k_is)
    (case c2 => k_is)
    (case k2 => k_is)
    (case a3 => k_is)
    (case l3 => k_is)
    (case c3 => k_is)
    (case k3 => k_is)
    (case a4 => k_is)
    (case l4 => k_is)
    (case c4 => k_is)
    (case k4 => k_is)
    (case a5 => k_is)
    (case l5 => k_is)
    (case c5 => k_is)
    (case k5 => k_is)
    (case a6 => k_is)
    (case l6 => k_is)
    (case c6 => k_is)
    (case k6 => k_is)
    (case a7 => k_is)
    (case l7 => k_is)
    (case c7 => k_is)
    (case k7 => k_is)

