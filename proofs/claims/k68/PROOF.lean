import PyProof.Rows.All
import Wide.All
import OpenK.AllK
import Wide.FinOn
import HandS.ForMost
import HandS.ForExc
import HandS.Comp
import HandS.Wide
import HandS.SortInts
import HandS.IsInst
import HandS.TryOnly
import HandS.ExcIs
import HandS.ExcField
import HandS.Deep
import HandS.SetFor
import HandS.Small
import HandS.NoneIn
import HandS.EndBits
import HandS.RaiseMore
import PySem.Challenge.RW_stillheap_k68_name_table
set_option Elab.async false
set_option linter.all false
set_option maxRecDepth 100000
set_option maxHeartbeats 4000000
set_option autoImplicit false
/-! Mi: programs as plain functions over a store of numbered objects; each rule says that the text does what the function tells. -/
namespace Mi
open PySem PySem.Spec L2

/-- an object of the store; a reference in it is a place of the store -/
inductive Ob where
  | lst (xs : List V) | tup (xs : List V) | dK (kvs : List (Key × V)) | dT (kvs : List (List Key × V))
  | ins (c : Nat) (fs : List (Option V)) | exc (c : Nat) (d : Option V) | lck (o : Ob)
  deriving DecidableEq
abbrev Sto := List Ob
/-- how an expression ends -/
inductive R (α : Type) where
  | ok (a : α) (S : Sto) | exc (c : Nat) (d : Option V) (S : Sto) | bad
/-- how a statement ends -/
inductive RS where
  | nx (σ : St) (S : Sto) | rt (v : V) (S : Sto) | bk (σ : St) (S : Sto) | ct (σ : St) (S : Sto) | exc (c : Nat) (d : Option V) (σ : St) (S : Sto) | bad
abbrev ME := St → Sto → R V
abbrev MT := St → Sto → R Bool
abbrev MA := St → Sto → R (List V)
abbrev MS := St → Sto → RS

/-! ### the store and the heap -/
def VR (ρ : List Addr) : V → V → Prop
  | .ref i, w => ∃ a, ρ[i]? = some a ∧ w = .ref a
  | v, w => w = v
def OR (ρ : List Addr) : Option V → Option V → Prop
  | none, _ => True
  | some v, some w => VR ρ v w
  | some _, none => False
abbrev VsR (ρ : List Addr) : List V → List V → Prop := Paired (VR ρ)
abbrev LR (ρ : List Addr) : St → St → Prop := Paired (OR ρ)
abbrev FR {κ : Type} (ρ : List Addr) : List (κ × V) → List (κ × V) → Prop := Paired fun p q => p.1 = q.1 ∧ VR ρ p.2 q.2
/-- what is fixed: the written part, the module's names; the classes with their attributes' names in order; the classes of exceptions -/
structure Gm where
  K : PySem.W.Frag
  mg : Str → Option Value
  cs : List (Str × List Str)
  xs : List Str
def Gm.cls (G : Gm) (c : Nat) (C : Addr) : Prop := ∃ x L, G.cs[c]? = some (x, L) ∧ G.mg x = some (.ref C)
def Gm.xcls (G : Gm) (c : Nat) (C : Addr) : Prop := ∃ x, G.xs[c]? = some x ∧ G.mg x = some (.ref C)
/-- the attributes of an instance, in the class's order -/
structure AR (ρ : List Addr) (L : List Str) (fs : List (Option V)) (gs : List (Str × V)) : Prop where
  len : fs.length = L.length
  at_ : ∀ (j : Nat) (x : Str) (v : V), L[j]? = some x → fs[j]? = some (some v) → ∃ w, gs.lookup x = some w ∧ VR ρ v w
  nd : (gs.map (·.1)).Nodup
  sub : ∀ x ∈ gs.map (·.1), x ∈ L
/-- what is told of an exception object -/
def ExK (C : Addr) (d : Option Addr) (a : Addr) : HO := .ext fun h => ∃ (oe : Obj) (vs : Array Value), h.get? a = some oe ∧ oe.cls = .ref C ∧ oe.dict = d ∧ oe.data = .fields vs
/-- an exception's own dict: none, or its one field "row" -/
def DR (ρ : List Addr) (H : Hp) : Option V → Option Addr → Prop
  | none, d => d = none
  | some v, d => ∃ a w, d = some a ∧ VR ρ v w ∧ H a = some (.xd [(("row" : Str), w)])
def ObU (G : Gm) (ρ : List Addr) (H : Hp) (a : Addr) : Ob → HO → Prop
  | .lst xs, u => ∃ ys, u = .lst ys ∧ VsR ρ xs ys
  | .tup xs, u => ∃ ys, u = .tup ys ∧ VsR ρ xs ys
  | .dK kvs, u => ∃ vs, u = .dK vs ∧ FR ρ kvs vs
  | .dT kvs, u => ∃ vs, u = .dT vs ∧ FR ρ kvs vs
  | .ins c fs, u => ∃ x L C dx gs, G.cs[c]? = some (x, L) ∧ G.mg x = some (.ref C) ∧ u = .ins C dx gs ∧ AR ρ L fs gs
  | .exc c d, u => ∃ C dd, G.xcls c C ∧ u = ExK C dd a ∧ DR ρ H d dd
  | .lck o, u => ∃ ob u', u = .frz ob u' ∧ ObU G ρ H a o u'
structure Rep (G : Gm) (ρ : List Addr) (S : Sto) (H : Hp) : Prop where
  nd : ρ.Nodup
  len : ρ.length = S.length
  at_ : ∀ (i : Nat) (o : Ob) (a : Addr), S[i]? = some o → ρ[i]? = some a → ∃ u, H a = some u ∧ ObU G ρ H a o u

section
variable {G : Gm} {ρ ρ' : List Addr} {S S' : Sto} {H H' : Hp} {v w : V} {a : Addr} {o : Ob} {u : HO} {i : Nat}
theorem VR.mono (h : VR ρ v w) (p : ρ <+: ρ') : VR ρ' v w := by
  cases v with
  | ref i =>
    obtain ⟨a, e, r⟩ := h
    exact ⟨a, (List.prefix_iff_getElem?.mp p i (List.getElem?_eq_some_iff.mp e).1).trans (by rw [List.getElem?_eq_getElem (List.getElem?_eq_some_iff.mp e).1] at e; exact e), r⟩
  | _ => exact h
theorem OR.mono {x y : Option V} (h : OR ρ x y) (p : ρ <+: ρ') : OR ρ' x y := by
  cases x with
  | none => trivial
  | some v =>
    cases y with
    | none => exact h
    | some w => exact VR.mono (v := v) (w := w) h p
theorem VsR.mono {xs ys : List V} (h : VsR ρ xs ys) (p : ρ <+: ρ') : VsR ρ' xs ys := Paired.mapP h fun _ _ r => r.mono p
theorem LR.mono {xs ys : St} (h : LR ρ xs ys) (p : ρ <+: ρ') : LR ρ' xs ys := Paired.mapP h fun _ _ r => r.mono p
theorem FR.mono {κ : Type} {xs ys : List (κ × V)} (h : FR ρ xs ys) (p : ρ <+: ρ') : FR ρ' xs ys := Paired.mapP h fun _ _ r => ⟨r.1, r.2.mono p⟩
theorem DR.mono {d : Option V} {dd : Option Addr} (h : DR ρ H d dd) (p : ρ <+: ρ') (k : ∀ b fs, H b = some (.xd fs) → H' b = some (.xd fs)) : DR ρ' H' d dd := by
  cases d with
  | none => exact h
  | some v =>
    obtain ⟨b, w, e, r, q⟩ := h
    exact ⟨b, w, e, r.mono p, k _ _ q⟩
theorem AR.mono {L : List Str} {fs : List (Option V)} {gs : List (Str × V)} (h : AR ρ L fs gs) (p : ρ <+: ρ') : AR ρ' L fs gs :=
  ⟨h.len, fun j x v e1 e2 => let ⟨w, e, r⟩ := h.at_ j x v e1 e2; ⟨w, e, r.mono p⟩, h.nd, h.sub⟩
theorem ObU.mono (p : ρ <+: ρ') (k : ∀ b fs, H b = some (.xd fs) → H' b = some (.xd fs)) : ∀ {o : Ob} {u : HO}, ObU G ρ H a o u → ObU G ρ' H' a o u
  | .lst _, _, ⟨ys, e, r⟩ => ⟨ys, e, VsR.mono r p⟩
  | .tup _, _, ⟨ys, e, r⟩ => ⟨ys, e, VsR.mono r p⟩
  | .dK _, _, ⟨ys, e, r⟩ => ⟨ys, e, FR.mono r p⟩
  | .dT _, _, ⟨ys, e, r⟩ => ⟨ys, e, FR.mono r p⟩
  | .ins _ _, _, ⟨x, L, C, dx, gs, m, n, e, r⟩ => ⟨x, L, C, dx, gs, m, n, e, r.mono p⟩
  | .exc _ _, _, ⟨C, dd, m, e, r⟩ => ⟨C, dd, m, e, DR.mono r p k⟩
  | .lck _, _, ⟨ob, u', e, r⟩ => ⟨ob, u', e, ObU.mono p k r⟩
theorem pre_get (p : ρ <+: ρ') (e : ρ[i]? = some a) : ρ'[i]? = some a := by
  have h := (VR.mono (v := .ref i) (w := .ref a) ⟨a, e, rfl⟩ p)
  obtain ⟨b, e', r⟩ := h
  cases r
  exact e'
theorem Rep.addr (r : Rep G ρ S H) (h : S[i]? = some o) : ∃ a, ρ[i]? = some a := by
  have := (List.getElem?_eq_some_iff.mp h).1
  exact ⟨_, List.getElem?_eq_getElem (by rw [r.len]; exact this)⟩
theorem Rep.obj (r : Rep G ρ S H) (e : ρ[i]? = some a) : ∃ o, S[i]? = some o := by
  have := (List.getElem?_eq_some_iff.mp e).1
  exact ⟨_, List.getElem?_eq_getElem (by rw [← r.len]; exact this)⟩
theorem Rep.tracked (r : Rep G ρ S H) (e : a ∈ ρ) : ∃ u, H a = some u := by
  obtain ⟨i, hi, e⟩ := List.mem_iff_getElem.mp e
  have e' : ρ[i]? = some a := by rw [List.getElem?_eq_getElem hi, e]
  obtain ⟨o, ho⟩ := r.obj e'
  obtain ⟨u, h, _⟩ := r.at_ i o a ho e'
  exact ⟨u, h⟩
theorem Rep.fresh (r : Rep G ρ S H) (n : H a = none) : a ∉ ρ := fun h => by
  obtain ⟨u, e⟩ := r.tracked h
  rw [n] at e
  cases e
/-- what is in the store stands in another heap -/
theorem Rep.heap (r : Rep G ρ S H) (k : ∀ b u, H b = some u → H' b = some u) : Rep G ρ S H' :=
  ⟨r.nd, r.len, fun i o a h e => by
    obtain ⟨u, q, x⟩ := r.at_ i o a h e
    exact ⟨u, k _ _ q, x.mono (List.prefix_refl _) fun b fs z => k _ _ z⟩⟩
/-- something new beside the store -/
theorem Rep.beside (r : Rep G ρ S H) (n : H a = none) : Rep G ρ S (upd H a u) := r.heap fun b u q => by rw [upd_ne (ne_of_none q n)]; exact q
/-- a new object -/
theorem Rep.alloc (r : Rep G ρ S H) (n : H a = none) (x : ObU G (ρ ++ [a]) (upd H a u) a o u) : Rep G (ρ ++ [a]) (S ++ [o]) (upd H a u) := by
  refine ⟨?_, by simp [r.len], fun i o' a' h e => ?_⟩
  · rw [List.nodup_append]
    exact ⟨r.nd, by simp, fun b hb c hc => by
      rw [List.mem_singleton] at hc
      subst hc
      exact fun z => r.fresh n (z ▸ hb)⟩
  · by_cases hi : i < S.length
    · rw [List.getElem?_append_left hi] at h
      rw [List.getElem?_append_left (by rw [r.len]; exact hi)] at e
      obtain ⟨u', q, y⟩ := r.at_ i o' a' h e
      refine ⟨u', by rw [upd_ne (ne_of_none q n)]; exact q, y.mono (List.prefix_append _ _) fun b fs z => by rw [upd_ne (ne_of_none z n)]; exact z⟩
    · rw [List.getElem?_append_right (by omega)] at h
      rw [List.getElem?_append_right (by rw [r.len]; omega)] at e
      have e0 : i - S.length = 0 := by
        have := (List.getElem?_eq_some_iff.mp h).1
        simp at this
        omega
      rw [e0] at h
      rw [r.len, e0] at e
      cases h
      cases e
      exact ⟨u, upd_same, x⟩
/-- an object written -/
theorem Rep.write (r : Rep G ρ S H) (h : S[i]? = some o) (e : ρ[i]? = some a) (nx : ∀ fs, H a ≠ some (.xd fs)) {o' : Ob} {u' : HO} (x : ObU G ρ (upd H a u') a o' u') : Rep G ρ (S.set i o') (upd H a u') := by
  refine ⟨r.nd, by rw [List.length_set]; exact r.len, fun j oj b hj ej => ?_⟩
  by_cases z : j = i
  · subst z
    rw [List.getElem?_set_self (List.getElem?_eq_some_iff.mp h).1] at hj
    cases hj
    rw [e] at ej
    cases ej
    exact ⟨u', upd_same, x⟩
  · rw [List.getElem?_set_ne (Ne.symm z)] at hj
    have ne : b ≠ a := fun q => z (by
      subst q
      have h1 := List.getElem?_eq_some_iff.mp ej
      have h2 := List.getElem?_eq_some_iff.mp e
      exact (List.getElem_inj r.nd).mp (h1.2.trans h2.2.symm))
    obtain ⟨u, q, y⟩ := r.at_ j oj b hj ej
    exact ⟨u, by rw [upd_ne ne]; exact q, y.mono (List.prefix_refl _) fun c fs z' => by rw [upd_ne (fun q => nx fs (by rw [← q]; exact z'))]; exact z'⟩
theorem Rep.ref (r : Rep G ρ S H) (h : S[i]? = some o) (x : VR ρ (.ref i) w) : ∃ a u, w = .ref a ∧ ρ[i]? = some a ∧ H a = some u ∧ ObU G ρ H a o u := by
  obtain ⟨a, e, q⟩ := x
  obtain ⟨u, hu, y⟩ := r.at_ i o a h e
  exact ⟨a, u, q, e, hu, y⟩
end
/-- Paired's parts -/
theorem prd_get {α β : Type} {F : α → β → Prop} : ∀ {xs : List α} {ys : List β} {i : Nat} {x : α}, Paired F xs ys → xs[i]? = some x → ∃ y, ys[i]? = some y ∧ F x y
  | _, _, _, _, .nil, e => by simp at e
  | _, _, 0, _, .cons r _, e => by simp at e; subst e; exact ⟨_, rfl, r⟩
  | _, _, i + 1, x, .cons _ t, e => by
    obtain ⟨u, h1, h2⟩ := prd_get (i := i) (x := x) t (by simpa using e)
    exact ⟨u, by simpa using h1, h2⟩
theorem prd_len {α β : Type} {F : α → β → Prop} : ∀ {xs : List α} {ys : List β}, Paired F xs ys → xs.length = ys.length
  | _, _, .nil => rfl
  | _, _, .cons _ t => by rw [List.length_cons, List.length_cons, prd_len t]
theorem prd_set {α β : Type} {F : α → β → Prop} {x : α} {y : β} (r : F x y) : ∀ {xs : List α} {ys : List β} (i : Nat), Paired F xs ys → Paired F (xs.set i x) (ys.set i y)
  | _, _, _, .nil => .nil
  | _, _, 0, .cons _ t => .cons r t
  | _, _, i + 1, .cons q t => .cons q (prd_set r i t)
theorem prd_app {α β : Type} {F : α → β → Prop} : ∀ {xs xs' : List α} {ys ys' : List β}, Paired F xs ys → Paired F xs' ys' → Paired F (xs ++ xs') (ys ++ ys')
  | _, _, _, _, .nil, s => s
  | _, _, _, _, .cons r t, s => .cons r (prd_app t s)
theorem prd_take {α β : Type} {F : α → β → Prop} : ∀ {xs : List α} {ys : List β} (n : Nat), Paired F xs ys → Paired F (xs.take n) (ys.take n)
  | _, _, 0, _ => .nil
  | _, _, _ + 1, .nil => .nil
  | _, _, n + 1, .cons r t => .cons r (prd_take n t)
theorem prd_drop {α β : Type} {F : α → β → Prop} : ∀ {xs : List α} {ys : List β} (n : Nat), Paired F xs ys → Paired F (xs.drop n) (ys.drop n)
  | _, _, 0, r => r
  | _, _, _ + 1, .nil => .nil
  | _, _, n + 1, .cons _ t => prd_drop n t
theorem prd_rev {α β : Type} {F : α → β → Prop} {xs : List α} {ys : List β} (r : Paired F xs ys) : Paired F xs.reverse ys.reverse := by
  induction r with
  | nil => exact .nil
  | cons r t ih => rw [List.reverse_cons, List.reverse_cons]; exact prd_app ih (.cons r .nil)
theorem prd_rep {α β : Type} {F : α → β → Prop} {x : α} {y : β} (r : F x y) : ∀ n, Paired F (List.replicate n x) (List.replicate n y)
  | 0 => .nil
  | n + 1 => .cons r (prd_rep r n)

/-! ### what a function tells, as a reading -/
def R.bind {α β : Type} : R α → (α → Sto → R β) → R β
  | .ok a S, f => f a S
  | .exc c d S, _ => .exc c d S
  | .bad, _ => .bad
/-- a later moment: more objects; what was locked is locked as it was -/
structure Ext (ρ : List Addr) (H : Hp) (ρ' : List Addr) (H' : Hp) : Prop where
  pre : ρ <+: ρ'
  kp : ∀ b o u, H b = some (.frz o u) → H' b = some (.frz o u)
theorem Ext.refl {ρ : List Addr} {H : Hp} : Ext ρ H ρ H := ⟨List.prefix_refl _, fun _ _ _ h => h⟩
theorem Ext.trans {ρ ρ1 ρ2 : List Addr} {H H1 H2 : Hp} (a : Ext ρ H ρ1 H1) (b : Ext ρ1 H1 ρ2 H2) : Ext ρ H ρ2 H2 := ⟨a.pre.trans b.pre, fun c o u h => b.kp c o u (a.kp c o u h)⟩
theorem Ext.new {ρ : List Addr} {H : Hp} {p : Addr} {u : HO} (n : H p = none) : Ext ρ H (ρ ++ [p]) (upd H p u) := ⟨List.prefix_append _ _, fun b o u h => by rw [upd_ne (ne_of_none h n)]; exact h⟩
theorem Ext.aside {ρ : List Addr} {H : Hp} {p : Addr} {u : HO} (n : H p = none) : Ext ρ H ρ (upd H p u) := ⟨List.prefix_refl _, fun b o u h => by rw [upd_ne (ne_of_none h n)]; exact h⟩
theorem Ext.put {ρ : List Addr} {H : Hp} {p : Addr} {u u' : HO} (n : H p = some u) (k : ∀ o u', u ≠ .frz o u') : Ext ρ H ρ (upd H p u') := ⟨List.prefix_refl _, fun b o u h => by
  rw [upd_ne (fun q => by rw [q, n] at h; cases h; exact k _ _ rfl)]; exact h⟩
/-- what is wanted behind an end -/
def Post {α β : Type} (G : Gm) (W : WX) (rel : List Addr → α → β → Prop) (ρ : List Addr) (H : Hp) (σ : St) (Q : β → Hp → Prop) : R α → Prop
  | .ok v S2 => ∀ (ρ2 : List Addr) (H2 : Hp) (w : β), Ext ρ H ρ2 H2 → Rep G ρ2 S2 H2 → rel ρ2 v w → Q w H2
  | .exc c d S2 => ∀ (ρ2 : List Addr) (H2 : Hp) (C : Addr) (dd : Option Addr), Ext ρ H ρ2 H2 → Rep G ρ2 S2 H2 → G.xcls c C → DR ρ2 H2 d dd → W (.ref C) dd σ H2
  | .bad => False
def den {α β : Type} (G : Gm) (W : WX) (rel : List Addr → α → β → Prop) (m : St → Sto → R α) : St → Hp → (β → Hp → Prop) → Prop := fun σ H Q => ∃ ρ S τ, Rep G ρ S H ∧ LR ρ τ σ ∧ Post G W rel ρ H σ Q (m τ S)
abbrev BR : List Addr → Bool → Bool → Prop := fun _ a b => b = a
def PostS (G : Gm) (W : WX) (ρ : List Addr) (H : Hp) (D : Ends) : RS → Prop
  | .nx τ2 S2 => ∀ (ρ2 : List Addr) (H2 : Hp) (σ2 : St), Ext ρ H ρ2 H2 → Rep G ρ2 S2 H2 → LR ρ2 τ2 σ2 → D.nx σ2 H2
  | .rt v S2 => ∀ (ρ2 : List Addr) (H2 : Hp) (w : V), Ext ρ H ρ2 H2 → Rep G ρ2 S2 H2 → VR ρ2 v w → D.rt w H2
  | .bk τ2 S2 => ∀ (ρ2 : List Addr) (H2 : Hp) (σ2 : St), Ext ρ H ρ2 H2 → Rep G ρ2 S2 H2 → LR ρ2 τ2 σ2 → D.bk σ2 H2
  | .ct τ2 S2 => ∀ (ρ2 : List Addr) (H2 : Hp) (σ2 : St), Ext ρ H ρ2 H2 → Rep G ρ2 S2 H2 → LR ρ2 τ2 σ2 → D.ct σ2 H2
  | .exc c d τ2 S2 => ∀ (ρ2 : List Addr) (H2 : Hp) (σ2 : St) (C : Addr) (dd : Option Addr), Ext ρ H ρ2 H2 → Rep G ρ2 S2 H2 → LR ρ2 τ2 σ2 → G.xcls c C → DR ρ2 H2 d dd → W (.ref C) dd σ2 H2
  | .bad => False
def denS (G : Gm) (W : WX) (m : MS) : TS := fun D σ H => ∃ ρ S τ, Rep G ρ S H ∧ LR ρ τ σ ∧ PostS G W ρ H D (m τ S)
/-- the tables of a program: its classes, its exceptions -/
structure Tab where
  cs : List (Str × List Str)
  xs : List Str
abbrev gm (T : Tab) (X : Cx) : Gm := ⟨X.K, X.mg, T.cs, T.xs⟩
abbrev DE (T : Tab) (X : Cx) (W : WX) (e : Expr) (m : ME) : Prop := PE X e (den (gm T X) W VR m)
abbrev DT (T : Tab) (X : Cx) (W : WX) (e : Expr) (m : MT) : Prop := PT X e (den (gm T X) W BR m)
abbrev DA (T : Tab) (X : Cx) (W : WX) (es : List Expr) (m : MA) : Prop := PA X es (den (gm T X) W VsR m)
abbrev DS (T : Tab) (X : Cx) (W : WX) (st : Stmt) (m : MS) : Prop := PS X st (denS (gm T X) W m)
abbrev DSs (T : Tab) (X : Cx) (W : WX) (st : List Stmt) (m : MS) : Prop := PSs X st (denS (gm T X) W m)

theorem _root_.L2.PE.imp {X : Cx} {e : Expr} {t t' : TE} (h : PE X e t) (k : ∀ σ H Q, t' σ H Q → t σ H Q) : PE X e t' := ⟨fun pins s σ H Q I q => h.run pins s σ H Q I (k _ _ _ q)⟩
theorem _root_.L2.PT.imp {X : Cx} {e : Expr} {t t' : TT} (h : PT X e t) (k : ∀ σ H Q, t' σ H Q → t σ H Q) : PT X e t' := ⟨fun pins s σ H Q I q => h.run pins s σ H Q I (k _ _ _ q)⟩
theorem _root_.L2.PA.imp {X : Cx} {e : List Expr} {t t' : TA} (h : PA X e t) (k : ∀ σ H Q, t' σ H Q → t σ H Q) : PA X e t' := ⟨fun pos pins s σ H Q I q => h.run pos pins s σ H Q I (k _ _ _ q)⟩
theorem _root_.L2.PS.imp {X : Cx} {e : Stmt} {t t' : TS} (h : PS X e t) (k : ∀ D σ H, t' D σ H → t D σ H) : PS X e t' := ⟨fun pins s σ H D I q => h.run pins s σ H D I (k _ _ _ q)⟩
theorem _root_.L2.PSs.imp {X : Cx} {e : List Stmt} {t t' : TS} (h : PSs X e t) (k : ∀ D σ H, t' D σ H → t D σ H) : PSs X e t' := ⟨fun pins s σ H D I q => h.run pins s σ H D I (k _ _ _ q)⟩

section
variable {G : Gm} {W : WX} {α β γ δ : Type} {rel1 : List Addr → α → β → Prop} {rel2 : List Addr → γ → δ → Prop} {ρ ρ' : List Addr} {H H' : Hp} {σ : St}
theorem Post.mono {Q : δ → Hp → Prop} {r : R γ} (h : Post G W rel2 ρ H σ Q r) (p : Ext ρ H ρ' H') : Post G W rel2 ρ' H' σ Q r := by
  cases r with
  | ok v S2 => exact fun ρ2 H2 w p2 => h ρ2 H2 w (p.trans p2)
  | exc c d S2 => exact fun ρ2 H2 C dd p2 => h ρ2 H2 C dd (p.trans p2)
  | bad => exact h
theorem Post.imp {Q Q' : δ → Hp → Prop} {r : R γ} (h : Post G W rel2 ρ H σ Q r) (k : ∀ w H, Q w H → Q' w H) : Post G W rel2 ρ H σ Q' r := by
  cases r with
  | ok v S2 => exact fun ρ2 H2 w p2 r2 x => k _ _ (h ρ2 H2 w p2 r2 x)
  | exc c d S2 => exact h
  | bad => exact h
/-- one part, then another -/
theorem Post.bind {Q : δ → Hp → Prop} {T : β → Hp → Prop} {r : R α} {f : α → Sto → R γ} (h : Post G W rel2 ρ H σ Q (r.bind f))
    (hf : ∀ (ρ1 : List Addr) (S1 : Sto) (H1 : Hp) (a : α) (b : β), Ext ρ H ρ1 H1 → Rep G ρ1 S1 H1 → rel1 ρ1 a b → Post G W rel2 ρ1 H1 σ Q (f a S1) → T b H1) : Post G W rel1 ρ H σ T r := by
  cases r with
  | ok v S2 => exact fun ρ2 H2 w p2 r2 x => hf ρ2 S2 H2 v w p2 r2 x (Post.mono (show Post G W rel2 ρ H σ Q (f v S2) from h) p2)
  | exc c d S2 => exact h
  | bad => exact h
end
theorem PostS.mono {G : Gm} {W : WX} {ρ ρ' : List Addr} {H H' : Hp} {D : Ends} {r : RS} (h : PostS G W ρ H D r) (p : Ext ρ H ρ' H') : PostS G W ρ' H' D r := by
  cases r with
  | nx τ S2 => exact fun ρ2 H2 w p2 => h ρ2 H2 w (p.trans p2)
  | rt v S2 => exact fun ρ2 H2 w p2 => h ρ2 H2 w (p.trans p2)
  | bk τ S2 => exact fun ρ2 H2 w p2 => h ρ2 H2 w (p.trans p2)
  | ct τ S2 => exact fun ρ2 H2 w p2 => h ρ2 H2 w (p.trans p2)
  | exc c d τ S2 => exact fun ρ2 H2 w C dd p2 => h ρ2 H2 w C dd (p.trans p2)
  | bad => exact h

/-! ### expressions -/
def mVar (i : Nat) : ME := fun σ S => match σ[i]? with
  | some (some v) => .ok v S
  | _ => .bad
def mC (v : V) : ME := fun _ S => .ok v S
def mUn (o : V → Sto → R V) (a : ME) : ME := fun σ S => (a σ S).bind o
def mBin (o : V → V → Sto → R V) (a b : ME) : ME := fun σ S => (a σ S).bind fun x S1 => (b σ S1).bind fun y S2 => o x y S2
def mNil : MA := fun _ S => .ok [] S
def mCons (a : ME) (r : MA) : MA := fun σ S => (a σ S).bind fun x S1 => (r σ S1).bind fun xs S2 => .ok (x :: xs) S2
/-- a call by values -/
def mCall (f : List V → Sto → R V) (a : MA) : ME := fun σ S => (a σ S).bind f
/-- a value as a test: a bool -/
def mB (a : ME) : MT := fun σ S => (a σ S).bind fun x S1 => match x with
  | .bl b => .ok b S1
  | _ => .bad
def mNot (a : MT) : MT := fun σ S => (a σ S).bind fun b S1 => .ok (!b) S1
def mAnd (a b : MT) : MT := fun σ S => (a σ S).bind fun x S1 => if x = true then b σ S1 else .ok false S1
def mOr (a b : MT) : MT := fun σ S => (a σ S).bind fun x S1 => if x = true then .ok true S1 else b σ S1
/-- a test as a value -/
def mV (a : MT) : ME := fun σ S => (a σ S).bind fun b S1 => .ok (.bl b) S1
def mIf (c : MT) (a b : ME) : ME := fun σ S => (c σ S).bind fun x S1 => if x = true then a σ S1 else b σ S1

section
variable {T : Tab} {W : WX} {X : Cx} {a b c : Expr} {ma mb : ME} {mt mu : MT} {pos : Pos} {rest : List Expr}
theorem de_var (i : Nat) {x : Str} (hN : X.N[i]? = some x := by rfl) (hv : Vis X.env.scope x := by first | exact Or.inl rfl | exact Or.inr (Or.inl rfl) | exact Or.inr (Or.inr rfl)) (hd : (x == ("__debug__" : Str)) = false := by decide)
    (hcd : (x == ("__classdict__" : Str)) = false := by decide) : DE T X W (.Name x pos) (mVar i) := by
  refine (pe_var hN hv hd hcd).imp fun σ H Q h => ?_
  obtain ⟨ρ, S, τ, r, l, h⟩ := h
  unfold mVar at h
  cases e : τ[i]? with
  | none => rw [e] at h; exact h.elim
  | some o =>
    rw [e] at h
    cases o with
    | none => exact h.elim
    | some v =>
      obtain ⟨y, ey, ry⟩ := prd_get l e
      cases y with
      | none => exact ry.elim
      | some w => exact ⟨w, ey, h ρ H w (Ext.refl) r ry⟩
theorem de_c {v : V} (h : PE X a (tC v)) (hv : ∀ i, v ≠ .ref i) : DE T X W a (mC v) := by
  refine h.imp fun σ H Q h => ?_
  obtain ⟨ρ, S, τ, r, l, h⟩ := h
  refine h ρ H v (Ext.refl) r ?_
  cases v with
  | ref i => exact absurd rfl (hv i)
  | _ => rfl
theorem de_int {i : Int} {j} : DE T X W (.Constant (.int i) j pos) (mC (.int i)) := de_c pe_int (fun _ h => by cases h)
theorem de_bl {i : Bool} {j} : DE T X W (.Constant (.bool i) j pos) (mC (.bl i)) := de_c pe_bl (fun _ h => by cases h)
theorem de_non {j} : DE T X W (.Constant .none j pos) (mC .non) := de_c pe_non (fun _ h => by cases h)
theorem de_str {x : Str} {j} : DE T X W (.Constant (.str x) j pos) (mC (.str x)) := de_c pe_str (fun _ h => by cases h)
theorem de_glob {x : Str} {v : V} {u : Value} (hg : Gl X x) (hm : X.mg x = some u) (r : RelV v u) (hv : ∀ i, v ≠ .ref i := by exact fun _ h => nomatch h) (hd : (x == ("__debug__" : Str)) = false := by decide) : DE T X W (.Name x pos) (mC v) := de_c (pe_glob hg hm r hd) hv

/-- an operation of two values in the store: what its function tells is what the machine does -/
def denR (G : Gm) (o : V → V → Sto → R V) : R2 := fun x y H Q => ∃ ρ S v u σ, Rep G ρ S H ∧ VR ρ v x ∧ VR ρ u y ∧ Post G (fun _ _ _ _ => False) VR ρ H σ Q (o v u S)
def denU (G : Gm) (o : V → Sto → R V) : V → Hp → VK → Prop := fun x H Q => ∃ ρ S v σ, Rep G ρ S H ∧ VR ρ v x ∧ Post G (fun _ _ _ _ => False) VR ρ H σ Q (o v S)
def denC (G : Gm) (o : List V → Sto → R V) : List V → Hp → VK → Prop := fun xs H Q => ∃ ρ S vs σ, Rep G ρ S H ∧ VsR ρ vs xs ∧ Post G (fun _ _ _ _ => False) VR ρ H σ Q (o vs S)
/-- an operation that lets no exception out -/
def R.quiet {α : Type} : R α → Prop
  | .exc _ _ _ => False
  | _ => True
theorem Post.still {α β : Type} {G : Gm} {W W' : WX} {rel : List Addr → α → β → Prop} {ρ : List Addr} {H : Hp} {σ σ' : St} {Q : β → Hp → Prop} {r : R α} (h : Post G W rel ρ H σ Q r) (k : r.quiet) : Post G W' rel ρ H σ' Q r := by
  cases r with
  | ok v S2 => exact h
  | exc c d S2 => exact k.elim
  | bad => exact h
abbrev Op2 (T : Tab) (X : Cx) (f : Value → Value → Sem Value) (o : V → V → Sto → R V) : Prop := OpR X f (denR (gm T X) o) ∧ ∀ x y S, (o x y S).quiet
theorem den_bin {G : Gm} {o : V → V → Sto → R V} {σ : St} {H : Hp} {Q : VK} (ho : ∀ x y S, (o x y S).quiet) (h : den G W VR (mBin o ma mb) σ H Q) : tOp (denR G o) (den G W VR ma) (den G W VR mb) σ H Q := by
  obtain ⟨ρ, S, τ, r, l, h⟩ := h
  refine ⟨ρ, S, τ, r, l, Post.bind h fun ρ1 S1 H1 x w p1 r1 x1 h1 => ?_⟩
  refine ⟨ρ1, S1, τ, r1, l.mono p1.pre, Post.bind h1 fun ρ2 S2 H2 y u p2 r2 y2 h2 => ?_⟩
  exact ⟨ρ2, S2, x, y, σ, r2, x1.mono p2.pre, y2, h2.still (ho _ _ _)⟩
theorem de_bin {op : Operator} {o : V → V → Sto → R V} (ho : Op2 T X (binaryOp op) o) (ha : DE T X W a ma) (hb : DE T X W b mb) : DE T X W (.BinOp a op b pos) (mBin o ma mb) := (pe_op ho.1 ha hb).imp fun _ _ _ h => den_bin ho.2 h
theorem de_cmp {op : CmpOp} {o : V → V → Sto → R V} (ho : Op2 T X (compareOp op) o) (ha : DE T X W a ma) (hb : DE T X W b mb) (hm : behindInMarks op b = false) : DE T X W (.Compare a [op] [b] pos) (mBin o ma mb) := (pe_cmpR ho.1 ha hb hm).imp fun _ _ _ h => den_bin ho.2 h
theorem Post.toB {G : Gm} {ρ : List Addr} {H : Hp} {σ : St} {Q : Bool → Hp → Prop} {r : R V} (h : Post G W BR ρ H σ Q (r.bind fun x S1 => match x with
  | .bl b => .ok b S1
  | _ => .bad)) : Post G W VR ρ H σ (fun x H' => ∃ k, x = .bl k ∧ Q k H') r := Post.bind h fun ρ1 S1 H1 x w p1 r1 x1 h1 => by
  cases x with
  | bl b =>
    cases x1
    exact ⟨b, rfl, h1 ρ1 H1 b (Ext.refl) r1 rfl⟩
  | _ => exact h1.elim
theorem Post.toB' {G : Gm} {ρ : List Addr} {H : Hp} {σ : St} {Q : Bool → Hp → Prop} {r : R V} (h : Post G W VR ρ H σ (fun x H' => ∃ k, x = .bl k ∧ Q k H') r) : Post G W VR ρ H σ (fun x H' => ∃ k, x = .bl k ∧ Q k H') r := h
theorem R.bind_bind {α β γ : Type} (r : R α) (f : α → Sto → R β) (g : β → Sto → R γ) : (r.bind f).bind g = r.bind fun a S => (f a S).bind g := by cases r <;> rfl
theorem den_toB {G : Gm} {m : ME} {σ : St} {H : Hp} {Q : Bool → Hp → Prop} (h : den G W BR (mB m) σ H Q) : den G W VR m σ H (fun x H' => ∃ k, x = .bl k ∧ Q k H') := by
  obtain ⟨ρ, S, τ, r, l, h⟩ := h
  exact ⟨ρ, S, τ, r, l, Post.toB h⟩
theorem dt_cmp {op : CmpOp} {o : V → V → Sto → R V} (ho : Op2 T X (compareOp op) o) (ha : DE T X W a ma) (hb : DE T X W b mb) (hm : behindInMarks op b = false) : DT T X W (.Compare a [op] [b] pos) (mB (mBin o ma mb)) :=
  (pt_cmpR ho.1 ha hb hm).imp fun σ H Q h => den_bin ho.2 (den_toB h)
theorem dt_val (h : DE T X W a ma) (he : ∀ whole, isTrue a X.env whole = (do let v ← whole; standAt a.pos; holding [v] (truthy v)) := by intro _; rfl) : DT T X W a (mB ma) := (pt_val h he).imp fun _ _ _ h => den_toB h
theorem dt_not (ha : DT T X W a mt) : DT T X W (.UnaryOp .Not a pos) (mNot mt) := (pt_not ha).imp fun σ H Q h => by
  obtain ⟨ρ, S, τ, r, l, h⟩ := h
  refine ⟨ρ, S, τ, r, l, Post.bind h fun ρ1 S1 H1 x w p1 r1 x1 h1 => ?_⟩
  cases x1
  exact h1 ρ1 H1 _ (Ext.refl) r1 rfl
abbrev DW (T : Tab) (X : Cx) (W : WX) (e : Expr) (m : MT) : Prop := PW X e (den (gm T X) W BR m)
theorem _root_.L2.PW.imp {e : Expr} {t t' : TT} (h : PW X e t) (k : ∀ σ H Q, t' σ H Q → t σ H Q) : PW X e t' := ⟨fun wh pins s σ H Q I q => h.run wh pins s σ H Q I (k _ _ _ q)⟩
theorem dw_and1 (ha : DT T X W a mt) : DW T X W (.BoolOp .And [a] pos) mt := pw_and1 ha
theorem dw_or1 (ha : DT T X W a mt) : DW T X W (.BoolOp .Or [a] pos) mt := pw_or1 ha
theorem dw_and (ha : DT T X W a mt) (hb : DW T X W (.BoolOp .And (b :: rest) pos) mu) : DW T X W (.BoolOp .And (a :: b :: rest) pos) (mAnd mt mu) := (pw_and ha hb).imp fun σ H Q h => by
  obtain ⟨ρ, S, τ, r, l, h⟩ := h
  refine ⟨ρ, S, τ, r, l, Post.bind h fun ρ1 S1 H1 x w p1 r1 x1 h1 => ?_⟩
  cases x1
  cases x with
  | true => exact ⟨ρ1, S1, τ, r1, l.mono p1.pre, h1⟩
  | false => exact h1 ρ1 H1 _ (Ext.refl) r1 rfl
theorem dw_or (ha : DT T X W a mt) (hb : DW T X W (.BoolOp .Or (b :: rest) pos) mu) : DW T X W (.BoolOp .Or (a :: b :: rest) pos) (mOr mt mu) := (pw_or ha hb).imp fun σ H Q h => by
  obtain ⟨ρ, S, τ, r, l, h⟩ := h
  refine ⟨ρ, S, τ, r, l, Post.bind h fun ρ1 S1 H1 x w p1 r1 x1 h1 => ?_⟩
  cases x1
  cases x with
  | true => exact h1 ρ1 H1 _ (Ext.refl) r1 rfl
  | false => exact ⟨ρ1, S1, τ, r1, l.mono p1.pre, h1⟩
theorem dt_w (h : DW T X W a mt) : DT T X W a mt := h.pt
end
end Mi

namespace Mi
open PySem PySem.Spec L2
open PyProof.Rows hiding St

/-! ### values by and, or, not, if; displays -/
def mAndV (a b : ME) : ME := fun σ S => (a σ S).bind fun x S1 => match x with
  | .bl true => b σ S1
  | .bl false => .ok (.bl false) S1
  | _ => .bad
def mOrV (a b : ME) : ME := fun σ S => (a σ S).bind fun x S1 => match x with
  | .bl true => .ok (.bl true) S1
  | .bl false => b σ S1
  | _ => .bad
def mNotV (a : ME) : ME := fun σ S => (a σ S).bind fun x S1 => match x with
  | .bl b => .ok (.bl (!b)) S1
  | _ => .bad
def mTup (a : MA) : ME := fun σ S => (a σ S).bind fun xs S1 => if xs.length ≤ sizeLine then .ok (.ref S1.length) (S1 ++ [.tup xs]) else .bad
def mLst (a : MA) : ME := fun σ S => (a σ S).bind fun xs S1 => if xs.length ≤ sizeLine then .ok (.ref S1.length) (S1 ++ [.lst xs]) else .bad

section
variable {T : Tab} {W : WX} {X : Cx} {a b c : Expr} {ma mb : ME} {mt mu : MT} {ms : MA} {pos : Pos} {rest es : List Expr}
theorem de_one {op : BoolOp} (ha : DE T X W a ma) : DE T X W (.BoolOp op [a] pos) ma := pe_one ha
theorem de_and (ha : DE T X W a ma) (hb : DE T X W (.BoolOp .And (b :: rest) pos) mb) : DE T X W (.BoolOp .And (a :: b :: rest) pos) (mAndV ma mb) := (pe_and ha hb).imp fun σ H Q h => by
  obtain ⟨ρ, S, τ, r, l, h⟩ := h
  refine ⟨ρ, S, τ, r, l, Post.bind h fun ρ1 S1 H1 x w p1 r1 x1 h1 => ?_⟩
  cases x with
  | bl k =>
    cases x1
    refine ⟨k, rfl, ?_⟩
    cases k with
    | true => exact ⟨ρ1, S1, τ, r1, l.mono p1.pre, h1⟩
    | false => exact h1 ρ1 H1 _ (Ext.refl) r1 rfl
  | _ => exact h1.elim
theorem de_or (ha : DE T X W a ma) (hb : DE T X W (.BoolOp .Or (b :: rest) pos) mb) : DE T X W (.BoolOp .Or (a :: b :: rest) pos) (mOrV ma mb) := (pe_or ha hb).imp fun σ H Q h => by
  obtain ⟨ρ, S, τ, r, l, h⟩ := h
  refine ⟨ρ, S, τ, r, l, Post.bind h fun ρ1 S1 H1 x w p1 r1 x1 h1 => ?_⟩
  cases x with
  | bl k =>
    cases x1
    refine ⟨k, rfl, ?_⟩
    cases k with
    | true => exact h1 ρ1 H1 _ (Ext.refl) r1 rfl
    | false => exact ⟨ρ1, S1, τ, r1, l.mono p1.pre, h1⟩
  | _ => exact h1.elim
theorem de_not (ha : DE T X W a ma) : DE T X W (.UnaryOp .Not a pos) (mNotV ma) := (pe_not ha).imp fun σ H Q h => by
  obtain ⟨ρ, S, τ, r, l, h⟩ := h
  refine ⟨ρ, S, τ, r, l, Post.bind h fun ρ1 S1 H1 x w p1 r1 x1 h1 => ?_⟩
  cases x with
  | bl k =>
    cases x1
    exact ⟨k, rfl, h1 ρ1 H1 _ (Ext.refl) r1 rfl⟩
  | _ => exact h1.elim
theorem de_if (hc : DT T X W c mt) (ha : DE T X W a ma) (hb : DE T X W b mb) : DE T X W (.IfExp c a b pos) (mIf mt ma mb) := (pe_ifExp hc ha hb).imp fun σ H Q h => by
  obtain ⟨ρ, S, τ, r, l, h⟩ := h
  refine ⟨ρ, S, τ, r, l, Post.bind h fun ρ1 S1 H1 x w p1 r1 x1 h1 => ?_⟩
  cases x1
  cases x with
  | true => exact ⟨ρ1, S1, τ, r1, l.mono p1.pre, h1⟩
  | false => exact ⟨ρ1, S1, τ, r1, l.mono p1.pre, h1⟩
theorem da_nil : DA T X W [] mNil := pa_nil.imp fun σ H Q h => by
  obtain ⟨ρ, S, τ, r, l, h⟩ := h
  exact h ρ H [] (Ext.refl) r .nil
theorem da_cons (ha : DE T X W a ma) (hr : DA T X W es ms) (hs : starEach (a :: es) X.env = (false, eval a X.env) :: starEach es X.env := by rfl) : DA T X W (a :: es) (mCons ma ms) := (pa_cons ha hr hs).imp fun σ H Q h => by
  obtain ⟨ρ, S, τ, r, l, h⟩ := h
  refine ⟨ρ, S, τ, r, l, Post.bind h fun ρ1 S1 H1 x w p1 r1 x1 h1 => ?_⟩
  refine ⟨ρ1, S1, τ, r1, l.mono p1.pre, Post.bind h1 fun ρ2 S2 H2 xs ws p2 r2 x2 h2 => ?_⟩
  exact h2 ρ2 H2 _ (Ext.refl) r2 (.cons (x1.mono p2.pre) x2)
theorem new_ref {ρ : List Addr} {S : Sto} {p : Addr} (h : ρ.length = S.length) : VR (ρ ++ [p]) (.ref S.length) (.ref p) := ⟨p, by rw [← h, List.getElem?_append_right (Nat.le_refl _), Nat.sub_self]; rfl, rfl⟩
theorem de_tup {k} (h : DA T X W es ms) : DE T X W (.Tuple es k pos) (mTup ms) := (pe_tup h).imp fun σ H Q h => by
  obtain ⟨ρ, S, τ, r, l, h⟩ := h
  refine ⟨ρ, S, τ, r, l, Post.bind h fun ρ1 S1 H1 xs ws p1 r1 x1 h1 => ?_⟩
  by_cases z : xs.length ≤ sizeLine
  · rw [if_pos z] at h1
    refine ⟨by rw [← prd_len x1]; exact z, fun p np => h1 (ρ1 ++ [p]) _ _ (Ext.new np) (r1.alloc np ⟨ws, rfl, VsR.mono x1 (List.prefix_append _ _)⟩) (new_ref r1.len)⟩
  · rw [if_neg z] at h1
    exact h1.elim
theorem de_lst (h : DA T X W es ms) : DE T X W (.List es pos) (mLst ms) := (pe_lst h).imp fun σ H Q h => by
  obtain ⟨ρ, S, τ, r, l, h⟩ := h
  refine ⟨ρ, S, τ, r, l, Post.bind h fun ρ1 S1 H1 xs ws p1 r1 x1 h1 => ?_⟩
  by_cases z : xs.length ≤ sizeLine
  · rw [if_pos z] at h1
    refine ⟨by rw [← prd_len x1]; exact z, fun p np => h1 (ρ1 ++ [p]) _ _ (Ext.new np) (r1.alloc np ⟨ws, rfl, VsR.mono x1 (List.prefix_append _ _)⟩) (new_ref r1.len)⟩
  · rw [if_neg z] at h1
    exact h1.elim
end

/-! ### the context -/
structure Ctx (X : Cx) (W : WX) (k : Nat) : Prop where
  calm : X.calm = true
  nd : X.N.Nodup
  room : Room k X.A
  tk : Takes X W ∨ ∀ c d σ H, ¬ W c d σ H
  own : PassesOwn (model X.prog X.w) X.A X.env X.xe
theorem Ctx.pass {X : Cx} {W : WX} {k : Nat} (C : Ctx X W k) : ∀ σ, PassesAt (L2.CX X.prog X.w) X σ (WE W σ) := fun σ => by
  rcases C.tk with h | h
  · exact passAt h σ
  · intro _ _ _ _ _ _ c
    obtain ⟨_, _, _, _, _, _, _, _, _, _, _, _, z⟩ := c
    exact (h _ _ _ _ z).elim
/-- .. of a statement: what is raised is taken -/
structure CtS (X : Cx) (W : WX) (k : Nat) : Prop extends Ctx X W k where
  takes : Takes X W
  stk : X.stack = X.env :: X.outer
  frm : X.env.frame = some X.env.locals
  ex : X.ex = []

/-! ### defs -/
abbrev Fn := List V → Sto → R V
/-- a def keeps to its function -/
def spOf (G : Gm) (n : Nat) (f : Fn) : Sp := fun vs H Q E => vs.length = n ∧ ∃ ρ S args σ, Rep G ρ S H ∧ VsR ρ args vs ∧ Post G (fun cls d _ H => E cls d H) VR ρ H σ Q (f args S)
/-- the module's def x is the function f -/
def FnF (T : Tab) (P : Program) (w : World) (K : PySem.W.Frag) (mg : Str → Option Value) (base : Heap) (x : Str) (n k : Nat) (f : Fn) : Prop :=
  ∃ (a : Addr) (fd : FuncData) (ps : List Str), mg x = some (.ref a) ∧ PySem.W.keepIn K (.ref a) = true ∧ Binds K fd ps [] ∧ FnOk P w K mg base (L2.CX P w) k a fd ps (spOf ⟨K, mg, T.cs, T.xs⟩ n f)
abbrev FnX (T : Tab) (X : Cx) (x : Str) (n k : Nat) (f : Fn) : Prop := FnF T X.prog X.w X.K X.mg X.base x n k f
/-- the method m of the class c is the function f -/
def MeF (T : Tab) (P : Program) (w : World) (K : PySem.W.Frag) (mg : Str → Option Value) (base : Heap) (c : Nat) (m : Str) (n k : Nat) (f : Fn) : Prop :=
  ∃ (x : Str) (L : List Str) (C a : Addr) (fd : FuncData) (ps : List Str), T.cs[c]? = some (x, L) ∧ mg x = some (.ref C) ∧ Cls K C ∧ Meth K C m a ∧ m ∉ L ∧ Binds K fd ps [] ∧ FnOk P w K mg base (L2.CX P w) k a fd ps (spOf ⟨K, mg, T.cs, T.xs⟩ n f)
abbrev MeX (T : Tab) (X : Cx) (c : Nat) (m : Str) (n k : Nat) (f : Fn) : Prop := MeF T X.prog X.w X.K X.mg X.base c m n k f
section
variable {T : Tab} {W : WX} {X : Cx} {e o : Expr} {ma : ME} {ms : MA} {x m : Str} {p pos apos : Pos} {es : List Expr} {n j k : Nat} {f : Fn}
theorem run_f {a : Addr} {fd : FuncData} {ps : List Str} {pins : List (Addr × Obj)} {σ : St} {H : Hp} {s : Shared} {Q : VK} {us : List Value} {vs : List V} {S : Sto} {ρ : List Addr} {args : List V} (C : Ctx X W k)
    (F : FnOk X.prog X.w X.K X.mg X.base (L2.CX X.prog X.w) j a fd ps (spOf (gm T X) n f)) (hj : j ≤ k) (hb : Binds X.K fd ps []) (I : Inv X pins σ H s) (r : Vals vs us) (hn : vs.length = n)
    (rp : Rep (gm T X) ρ S H) (ra : VsR ρ args vs) (h : Post (gm T X) W VR ρ H σ Q (f args S)) : wpAny (model X.prog X.w) X.A (call (.ref a) us) (EP X pins σ Q) X.xe s := by
  refine run_fnS (E := WE W) (F.mono hj) C.room hb (C.pass σ) I r ⟨hn, ρ, S, args, σ, rp, ra, ?_⟩
  cases e : f args S with
  | ok v S2 => rw [e] at h; exact h
  | exc c d S2 => rw [e] at h; exact h
  | bad => rw [e] at h; exact h.elim
theorem args_len {xs ws : List V} {ρ : List Addr} (h : VsR ρ xs ws) : ws.length = xs.length := (prd_len h).symm
/-- f(..): the number of arguments is looked at -/
def mApp (n : Nat) (f : Fn) (a : MA) : ME := fun σ S => (a σ S).bind fun xs S1 => if xs.length = n then f xs S1 else .bad
theorem de_call (C : Ctx X W k) (F : FnX T X x n j f) (hj : j ≤ k) (ha : DA T X W (e :: es) ms) (hg : Gl X x := by rfl) (hdb : (x == ("__debug__" : Str)) = false := by decide)
    (he : starEach (e :: es) X.env = (false, eval e X.env) :: starEach es X.env := by rfl) (hpl : (backTo pos (starEach es X.env)).any (·.1) = false := by rfl) : DE T X W (.Call (.Name x p) (e :: es) [] pos) (mApp n f ms) := by
  obtain ⟨a, fd, ps, hm, hk, hb, F⟩ := F
  refine ⟨fun pins s σ H Q I h => ?_⟩
  obtain ⟨ρ, S, τ, r, l, h⟩ := h
  refine wpAny_Call_Name_kw (ld_glob I hg hm ?_ hdb)
  have h' : den (gm T X) W VsR ms σ H (fun vs H1 => vs.length = n ∧ ∃ ρ1 S1 args, Rep (gm T X) ρ1 S1 H1 ∧ VsR ρ1 args vs ∧ Post (gm T X) W VR ρ1 H1 σ Q (f args S1)) := by
    refine ⟨ρ, S, τ, r, l, Post.bind h fun ρ1 S1 H1 xs ws p1 r1 x1 h1 => ?_⟩
    by_cases z : xs.length = n
    · rw [if_pos z] at h1
      exact ⟨(args_len x1).trans z, ρ1, S1, xs, r1, x1, h1⟩
    · rw [if_neg z] at h1
      exact h1.elim
  refine PySem.W.callWith_K (h₀ := X.base) I.ok.mod.kin hk (thn (ha.run pos pins s σ H _ I h') fun us s1 ⟨vs, H1, I1, r, q⟩ => ⟨I1.kIn, ?_⟩) he hpl
  obtain ⟨hn, ρ1, S1, args, r1, x1, h1⟩ := q
  exact run_f C F hj hb I1 r hn r1 x1 h1
theorem de_call0 (C : Ctx X W k) (F : FnX T X x 0 j f) (hj : j ≤ k) (hg : Gl X x := by rfl) (hdb : (x == ("__debug__" : Str)) = false := by decide) : DE T X W (.Call (.Name x p) [] [] pos) (mApp 0 f mNil) := by
  obtain ⟨a, fd, ps, hm, hk, hb, F⟩ := F
  refine ⟨fun pins s σ H Q I h => ?_⟩
  obtain ⟨ρ, S, τ, r, l, h⟩ := h
  refine wpAny_Call_Name_kw (ld_glob I hg hm ?_ hdb)
  exact PySem.W.callWith_K0 I.kIn hk (run_f (us := []) C F hj hb I .nil rfl r .nil h)

/-! ### methods: by the class of the object -/
def look {α : Type} : List (Nat × α) → Nat → Option α
  | [], _ => none
  | (c, f) :: r, d => if c = d then some f else look r d
def mMeth (n : Nat) (tab : List (Nat × Fn)) (o : ME) (a : MA) : ME := fun σ S => (o σ S).bind fun x S1 => match x with
  | .ref i => match S1[i]? with
    | some (.ins c _) => match look tab c with
      | some f => (a σ S1).bind fun xs S2 => if xs.length + 1 = n then f (.ref i :: xs) S2 else .bad
      | none => .bad
    | _ => .bad
  | _ => .bad
def MTabF (T : Tab) (P : Program) (w : World) (K : PySem.W.Frag) (mg : Str → Option Value) (base : Heap) (m : Str) (n k : Nat) : List (Nat × Fn) → Prop
  | [] => True
  | (c, f) :: r => MeF T P w K mg base c m n k f ∧ MTabF T P w K mg base m n k r
abbrev MTab (T : Tab) (X : Cx) (m : Str) (n k : Nat) (tab : List (Nat × Fn)) : Prop := MTabF T X.prog X.w X.K X.mg X.base m n k tab
theorem MTab.get {tab : List (Nat × Fn)} : ∀ {tab : List (Nat × Fn)} {c : Nat}, MTab T X m n k tab → look tab c = some f → MeX T X c m n k f
  | [], _, _, e => by cases e
  | (d, g) :: r, c, h, e => by
    unfold look at e
    by_cases z : d = c
    · rw [if_pos z] at e
      cases e
      rw [← z]
      exact h.1
    · rw [if_neg z] at e
      exact MTab.get (tab := tab) h.2 e
theorem AR.no {ρ : List Addr} {L : List Str} {fs : List (Option V)} {gs : List (Str × V)} (h : AR ρ L fs gs) (n : m ∉ L) : gs.lookup m = none := by
  cases e : gs.lookup m with
  | none => rfl
  | some v =>
    have := PySem.mem_of_lookup e
    exact absurd (h.sub m (List.mem_map_of_mem (f := (·.1)) this)) n
theorem de_meth {pl : Sem Bool} {tab : List (Nat × Fn)} (C : Ctx X W k) (M : MTab T X m n j tab) (hj : j ≤ k) (ho : DE T X W o ma) (ha : DA T X W (e :: es) ms)
    (hst : starEach (e :: es) X.env = (false, eval e X.env) :: starEach es X.env := by rfl) (hpl : (backTo pos (starEach es X.env)).any (·.1) = false := by rfl)
    (ht : eval (.Call (.Attribute o m apos) (e :: es) [] pos) X.env = (do
      let ov ← eval o X.env
      standAt apos.atName
      let (f, first) ← holding [ov] (getMethod ov m pl)
      callWith pos f first (backTo pos (starEach (e :: es) X.env)) (backToKw pos (keywordEach [] X.env))) := by rfl) :
    DE T X W (.Call (.Attribute o m apos) (e :: es) [] pos) (mMeth n tab ma ms) := by
  refine ⟨fun pins s σ H Q I h => ?_⟩
  obtain ⟨ρ, S, τ, r, l, h⟩ := h
  have h' : den (gm T X) W VR ma σ H (fun w H1 => ∃ ρ1 S1 i c fs f, Rep (gm T X) ρ1 S1 H1 ∧ LR ρ1 τ σ ∧ VR ρ1 (.ref i) w ∧ S1[i]? = some (.ins c fs) ∧ look tab c = some f ∧
      Post (gm T X) W VR ρ1 H1 σ Q ((ms τ S1).bind fun xs S2 => if xs.length + 1 = n then f (.ref i :: xs) S2 else .bad)) := by
    refine ⟨ρ, S, τ, r, l, Post.bind h fun ρ1 S1 H1 x w p1 r1 x1 h1 => ?_⟩
    split at h1
    · split at h1
      · split at h1
        · rename_i i _ c fs es _ f ef
          exact ⟨ρ1, S1, i, c, fs, f, r1, l.mono p1.pre, x1, es, ef, h1⟩
        · exact h1.elim
      · exact h1.elim
    · exact h1.elim
  refine PySem.W.methodCall_KW (pl := pl) (thn (ho.run pins s σ H _ I h') fun u s1 ⟨w, H1, I1, rx, ρ1, S1, i, c, fs, f, r1, l1, x1, es1, ef, h1⟩ => ?_) ht
  obtain ⟨ad, u', ew, er, eh, ob⟩ := r1.ref es1 x1
  subst ew
  obtain rfl : u = Value.ref ad := rx
  obtain ⟨x', L', C', a, fd, ps, hc, hm, hcl, hme, hnl, hb, F⟩ := M.get (tab := tab) ef
  obtain ⟨x2, L2, C2, dx, gs, hc2, hm2, e2, ar⟩ := ob
  subst e2
  have q1 : some (x', L') = some (x2, L2) := hc.symm.trans hc2
  cases q1
  have q2 : some (Value.ref C') = some (Value.ref C2) := hm.symm.trans hm2
  cases q2
  refine getmeth_ok I1 eh hcl hme (ar.no hnl) ?_
  have h2 : den (gm T X) W VsR ms σ H1 (fun vs H2 => vs.length + 1 = n ∧ ∃ ρ2 S2 args, Ext ρ1 H1 ρ2 H2 ∧ Rep (gm T X) ρ2 S2 H2 ∧ VsR ρ2 args vs ∧ Post (gm T X) W VR ρ2 H2 σ Q (f (.ref i :: args) S2)) := by
    refine ⟨ρ1, S1, τ, r1, l1, Post.bind h1 fun ρ2 S2 H2 xs ws p2 r2 x2 h2 => ?_⟩
    by_cases z : xs.length + 1 = n
    · rw [if_pos z] at h2
      exact ⟨by rw [args_len x2]; exact z, ρ2, S2, xs, p2, r2, x2, h2⟩
    · rw [if_neg z] at h2
      exact h2.elim
  refine PySem.W.callWith_K (first := [.ref ad]) (h₀ := X.base) I.ok.mod.kin hme.kp (thn (ha.run pos pins s1 σ H1 _ I1 h2) fun us s2 ⟨vs, H2, I2, rv, q⟩ => ⟨I2.kIn, ?_⟩) hst hpl
  obtain ⟨hn, ρ2, S2, args, p2, r2, xa, h3⟩ := q
  exact run_f (us := .ref ad :: us) (vs := .ref ad :: vs) C F hj hb I2 (.cons rfl rv) hn r2 (.cons (x1.mono p2.pre) xa) h3
theorem de_meth0 {pl : Sem Bool} {tab : List (Nat × Fn)} (C : Ctx X W k) (M : MTab T X m 1 j tab) (hj : j ≤ k) (ho : DE T X W o ma)
    (ht : eval (.Call (.Attribute o m apos) [] [] pos) X.env = (do
      let ov ← eval o X.env
      standAt apos.atName
      let (f, first) ← holding [ov] (getMethod ov m pl)
      callWith pos f first (backTo pos (starEach [] X.env)) (backToKw pos (keywordEach [] X.env))) := by rfl) :
    DE T X W (.Call (.Attribute o m apos) [] [] pos) (mMeth 1 tab ma mNil) := by
  refine ⟨fun pins s σ H Q I h => ?_⟩
  obtain ⟨ρ, S, τ, r, l, h⟩ := h
  have h' : den (gm T X) W VR ma σ H (fun w H1 => ∃ ρ1 S1 i c fs f, Rep (gm T X) ρ1 S1 H1 ∧ LR ρ1 τ σ ∧ VR ρ1 (.ref i) w ∧ S1[i]? = some (.ins c fs) ∧ look tab c = some f ∧
      Post (gm T X) W VR ρ1 H1 σ Q (f [.ref i] S1)) := by
    refine ⟨ρ, S, τ, r, l, Post.bind h fun ρ1 S1 H1 x w p1 r1 x1 h1 => ?_⟩
    split at h1
    · split at h1
      · split at h1
        · rename_i i _ c fs es _ f ef
          exact ⟨ρ1, S1, i, c, fs, f, r1, l.mono p1.pre, x1, es, ef, h1⟩
        · exact h1.elim
      · exact h1.elim
    · exact h1.elim
  refine PySem.W.methodCall_KW (pl := pl) (thn (ho.run pins s σ H _ I h') fun u s1 ⟨w, H1, I1, rx, ρ1, S1, i, c, fs, f, r1, l1, x1, es1, ef, h1⟩ => ?_) ht
  obtain ⟨ad, u', ew, er, eh, ob⟩ := r1.ref es1 x1
  subst ew
  obtain rfl : u = Value.ref ad := rx
  obtain ⟨x', L', C', a, fd, ps, hc, hm, hcl, hme, hnl, hb, F⟩ := M.get (tab := tab) ef
  obtain ⟨x2, L2, C2, dx, gs, hc2, hm2, e2, ar⟩ := ob
  subst e2
  have q1 : some (x', L') = some (x2, L2) := hc.symm.trans hc2
  cases q1
  have q2 : some (Value.ref C') = some (Value.ref C2) := hm.symm.trans hm2
  cases q2
  refine getmeth_ok I1 eh hcl hme (ar.no hnl) ?_
  exact PySem.W.callWith_K0 (first := [.ref ad]) I1.kIn hme.kp (run_f (us := [.ref ad]) (vs := [.ref ad]) C F hj hb I1 (.cons rfl .nil) rfl r1 (.cons x1 .nil) h1)

/-! ### instances: made, read, written -/
/-- the class x is made by f, its number c, its attributes' names L -/
def MkF (T : Tab) (P : Program) (w : World) (K : PySem.W.Frag) (mg : Str → Option Value) (base : Heap) (x : Str) (c n k l : Nat) (f : Fn) : Prop :=
  ∃ (L : List Str) (C a : Addr) (fd : FuncData) (ps : List Str), T.cs[c]? = some (x, L) ∧ L.length = l ∧ mg x = some (.ref C) ∧ Mk K C a ∧ Binds K fd ps [] ∧ FnOk P w K mg base (L2.CX P w) k a fd ps (spOf ⟨K, mg, T.cs, T.xs⟩ n f)
abbrev MkX (T : Tab) (X : Cx) (x : Str) (c n k l : Nat) (f : Fn) : Prop := MkF T X.prog X.w X.K X.mg X.base x c n k l f
def mMake (c n l : Nat) (f : Fn) (a : MA) : ME := fun σ S => (a σ S).bind fun xs S1 => if xs.length + 1 = n then (f (.ref S1.length :: xs) (S1 ++ [.ins c (List.replicate l none)])).bind fun v S2 => match v with
    | .non => .ok (.ref S1.length) S2
    | _ => .bad
  else .bad
theorem run_mk {pins : List (Addr × Obj)} {σ : St} {H : Hp} {s : Shared} {Q : VK} {us : List Value} {vs args : List V} {S : Sto} {ρ : List Addr} {L : List Str} {c l : Nat} {C a : Addr} {fd : FuncData} {ps : List Str} (Cx : Ctx X W k) (hL : L.length = l) (hc : T.cs[c]? = some (x, L)) (hm : X.mg x = some (.ref C))
    (M : Mk X.K C a) (F : FnOk X.prog X.w X.K X.mg X.base (L2.CX X.prog X.w) j a fd ps (spOf (gm T X) n f)) (hj : j + 1 ≤ k) (hb : Binds X.K fd ps []) (I : Inv X pins σ H s) (r : Vals vs us) (hn : vs.length + 1 = n) (rp : Rep (gm T X) ρ S H) (ra : VsR ρ args vs)
    (h : Post (gm T X) W VR ρ H σ Q ((f (.ref S.length :: args) (S ++ [.ins c (List.replicate l none)])).bind fun v S2 => match v with
    | .non => .ok (.ref S.length) S2
    | _ => .bad)) : wpAny (model X.prog X.w) X.A (call (.ref C) us) (EP X pins σ Q) X.xe s := by
  have np : H (s.heap.objs.size + 1) = none := I.hok.fresh (Nat.le_succ _)
  have nd : H s.heap.objs.size = none := I.hok.fresh (Nat.le_refl _)
  have ne : s.heap.objs.size ≠ s.heap.objs.size + 1 := Nat.ne_of_lt (Nat.lt_succ_self _)
  have I2 := Inv.made (C := C) I
  have r2 : Vals (V.ref (s.heap.objs.size + 1) :: vs) (Value.ref (s.heap.objs.size + 1) :: us) := .cons rfl r
  have rp1 : Rep (gm T X) ρ S (upd H s.heap.objs.size (.own (s.heap.objs.size + 1))) := rp.beside nd
  have np1 : upd H s.heap.objs.size (.own (s.heap.objs.size + 1)) (s.heap.objs.size + 1) = none := by rw [upd_ne (Ne.symm ne)]; exact np
  have rp2 : Rep (gm T X) (ρ ++ [s.heap.objs.size + 1]) (S ++ [.ins c (List.replicate l none)]) (upd (upd H s.heap.objs.size (.own (s.heap.objs.size + 1))) (s.heap.objs.size + 1) (.ins C s.heap.objs.size [])) := by
    refine rp1.alloc np1 ⟨x, L, C, _, [], hc, hm, rfl, ⟨by rw [List.length_replicate, hL], fun i y v _ e2 => ?_, List.nodup_nil, fun y hy => by cases hy⟩⟩
    rw [List.getElem?_replicate] at e2
    split at e2 <;> cases e2
  have hq : spOf (gm T X) n f (V.ref (s.heap.objs.size + 1) :: vs) (upd (upd H s.heap.objs.size (.own (s.heap.objs.size + 1))) (s.heap.objs.size + 1) (.ins C s.heap.objs.size [])) (fun v H2 => v = .non ∧ Q (.ref (s.heap.objs.size + 1)) H2) (WE W σ) := by
    refine ⟨hn, _, _, .ref S.length :: args, σ, rp2, .cons (new_ref rp.len) (VsR.mono ra (List.prefix_append _ _)), ?_⟩
    have h := Post.mono h ((Ext.aside (u := .own (s.heap.objs.size + 1)) nd).trans (Ext.new (u := .ins C s.heap.objs.size []) np1))
    cases e : f (.ref S.length :: args) (S ++ [.ins c (List.replicate l none)]) with
    | ok v S2 =>
      rw [e] at h
      intro ρ2 H2 w p2 r2 x2
      cases v with
      | non =>
        refine ⟨x2, h ρ2 H2 _ p2 r2 ?_⟩
        exact VR.mono (new_ref rp.len) p2.pre
      | _ => exact h.elim
    | exc c d S2 => rw [e] at h; exact h
    | bad => rw [e] at h; exact h.elim
  have hl : (Value.ref (s.heap.objs.size + 1) :: us).length = ps.length := by
    have e := r2.length
    rw [F.len _ _ _ _ hq] at e
    exact e.symm
  refine wpAny_call (make_map (f := a) I.kIn M.makes M.init (beq_iff_eq.mp M.fn) (codeAny_mono ((F.mono (Nat.le_refl _)).run _ X.stack _ _ ⟨Value.ref (s.heap.objs.size + 1) :: us, []⟩ (Value.ref (s.heap.objs.size + 1) :: us) _ _ (WE W σ) ((Cx.room.mono hj).make C us [])
    (I2.env0.make C us []) ?_ r2 hq) fun r s' hq' => ?_))
  · have b := hb { s with heap := (s.heap.push PySem.W.emptyDict).push (PySem.W.instObj C s.heap.objs.size) } (Value.ref (s.heap.objs.size + 1) :: us) I2.kIn (by rw [List.append_nil]; exact hl)
    rw [List.append_nil] at b
    exact b
  · cases r with
    | error e => exact (Ctx.pass Cx) σ pins _ _ e s' I2 hq'
    | ok fl =>
      cases fl with
      | ret u =>
        obtain ⟨v, H', I3, rv, ev, q3⟩ := I2.after hq'
        subst ev
        exact ⟨rv, ⟨V.ref (s.heap.objs.size + 1), H', I3, rfl, q3⟩⟩
      | next => exact False.elim hq'
      | brk => exact False.elim hq'
      | cont => exact False.elim hq'
theorem de_make {c l : Nat} (C : Ctx X W k) (F : MkX T X x c n j l f) (hj : j + 1 ≤ k) (ha : DA T X W (e :: es) ms) (hg : Gl X x := by rfl) (hdb : (x == ("__debug__" : Str)) = false := by decide)
    (he : starEach (e :: es) X.env = (false, eval e X.env) :: starEach es X.env := by rfl) (hpl : (backTo pos (starEach es X.env)).any (·.1) = false := by rfl) : DE T X W (.Call (.Name x p) (e :: es) [] pos) (mMake c n l f ms) := by
  obtain ⟨L, Ca, a, fd, ps, hc, hL, hm, M, hb, F⟩ := F
  refine ⟨fun pins s σ H Q I h => ?_⟩
  obtain ⟨ρ, S, τ, r, l', h⟩ := h
  refine wpAny_Call_Name_kw (ld_glob I hg hm ?_ hdb)
  have h' : den (gm T X) W VsR ms σ H (fun vs H1 => vs.length + 1 = n ∧ ∃ ρ1 S1 args, Rep (gm T X) ρ1 S1 H1 ∧ VsR ρ1 args vs ∧ Post (gm T X) W VR ρ1 H1 σ Q ((f (.ref S1.length :: args) (S1 ++ [.ins c (List.replicate l none)])).bind fun v S2 => match v with
    | .non => .ok (.ref S1.length) S2
    | _ => .bad)) := by
    refine ⟨ρ, S, τ, r, l', Post.bind h fun ρ1 S1 H1 xs ws p1 r1 x1 h1 => ?_⟩
    by_cases z : xs.length + 1 = n
    · rw [if_pos z] at h1
      exact ⟨by rw [args_len x1]; exact z, ρ1, S1, xs, r1, x1, h1⟩
    · rw [if_neg z] at h1
      exact h1.elim
  refine PySem.W.callWith_K (h₀ := X.base) I.ok.mod.kin M.kp (thn (ha.run pos pins s σ H _ I h') fun us s1 ⟨vs, H1, I1, r, q⟩ => ⟨I1.kIn, ?_⟩) he hpl
  obtain ⟨hn, ρ1, S1, args, r1, x1, h1⟩ := q
  exact run_mk C hL hc hm M F hj hb I1 r hn r1 x1 h1
theorem de_make0 {c l : Nat} (C : Ctx X W k) (F : MkX T X x c 1 j l f) (hj : j + 1 ≤ k) (hg : Gl X x := by rfl) (hdb : (x == ("__debug__" : Str)) = false := by decide) : DE T X W (.Call (.Name x p) [] [] pos) (mMake c 1 l f mNil) := by
  obtain ⟨L, Ca, a, fd, ps, hc, hL, hm, M, hb, F⟩ := F
  refine ⟨fun pins s σ H Q I h => ?_⟩
  obtain ⟨ρ, S, τ, r, l', h⟩ := h
  refine wpAny_Call_Name_kw (ld_glob I hg hm ?_ hdb)
  exact PySem.W.callWith_K0 I.kIn M.kp (run_mk (us := []) C hL hc hm M F hj hb I .nil rfl r .nil h)

/-- e.f: the classes that have it, each with its place -/
def mFld (tab : List (Nat × Nat)) (a : ME) : ME := fun σ S => (a σ S).bind fun x S1 => match x with
  | .ref i => match S1[i]? with
    | some (.ins c fs) => match look tab c with
      | some j => match fs[j]? with
        | some (some v) => .ok v S1
        | _ => .bad
      | none => .bad
    | _ => .bad
  | _ => .bad
/-- the classes of the table have the attribute at its place -/
def FTabF (T : Tab) (K : PySem.W.Frag) (mg : Str → Option Value) (f : Str) : List (Nat × Nat) → Prop
  | [] => True
  | (c, j) :: r => (∃ x L C, T.cs[c]? = some (x, L) ∧ L[j]? = some f ∧ L.Nodup ∧ L.length < 1000 ∧ mg x = some (.ref C) ∧ Cls K C ∧ NoAttr K C f) ∧ FTabF T K mg f r
abbrev FTab (T : Tab) (X : Cx) (f : Str) (tab : List (Nat × Nat)) : Prop := FTabF T X.K X.mg f tab
theorem FTab.get : ∀ {tab : List (Nat × Nat)} {c i : Nat}, FTab T X m tab → look tab c = some i → ∃ x L C, T.cs[c]? = some (x, L) ∧ L[i]? = some m ∧ L.Nodup ∧ L.length < 1000 ∧ X.mg x = some (.ref C) ∧ Cls X.K C ∧ NoAttr X.K C m
  | [], _, _, _, e => by cases e
  | (d, g) :: r, c, i, h, e => by
    unfold look at e
    by_cases z : d = c
    · rw [if_pos z] at e
      cases e
      rw [← z]
      exact h.1
    · rw [if_neg z] at e
      exact FTab.get h.2 e
theorem de_fld {tab : List (Nat × Nat)} (F : FTab T X m tab) (ho : DE T X W o ma) (hb : attributeBase o m X.env (eval o X.env) = eval o X.env := by rfl) : DE T X W (.Attribute o m pos) (mFld tab ma) := (pe_fld ho hb).imp fun σ H Q h => by
  obtain ⟨ρ, S, τ, r, l, h⟩ := h
  refine ⟨ρ, S, τ, r, l, Post.bind h fun ρ1 S1 H1 x w p1 r1 x1 h1 => ?_⟩
  split at h1
  · split at h1
    · split at h1
      · split at h1
        · rename_i i _ c fs es _ j ej _ v ev
          obtain ⟨ad, u, ew, er, eh, ob⟩ := r1.ref es x1
          obtain ⟨y, L, C, hc, hL, hnd, hlen, hm, hcl, hna⟩ := F.get ej
          obtain ⟨x2, L2, C2, dx, gs, hc2, hm2, e2, ar⟩ := ob
          subst e2
          have q1 : some (y, L) = some (x2, L2) := hc.symm.trans hc2
          cases q1
          have q2 : some (Value.ref C) = some (Value.ref C2) := hm.symm.trans hm2
          cases q2
          obtain ⟨w', lw, rw'⟩ := ar.at_ j m v hL ev
          exact ⟨ad, C, dx, gs, w', ew, eh, hcl, hna, lw, h1 ρ1 H1 w' (Ext.refl) r1 rw'⟩
        · exact h1.elim
      · exact h1.elim
    · exact h1.elim
  · exact h1.elim
end
end Mi

namespace Mi
open PySem PySem.Spec L2
open PyProof.Rows hiding St

/-! ### statements -/
def R.lift {α : Type} : R α → St → (α → Sto → RS) → RS
  | .ok a S, _, f => f a S
  | .exc c d S, σ, _ => .exc c d σ S
  | .bad, _, _ => .bad
def RS.seq : RS → (St → Sto → RS) → RS
  | .nx σ S, f => f σ S
  | r, _ => r
def mSkip : MS := fun σ S => .nx σ S
def mSeq (a b : MS) : MS := fun σ S => (a σ S).seq b
def mExpr (a : ME) : MS := fun σ S => (a σ S).lift σ fun _ S1 => .nx σ S1
def mSet (i : Nat) (a : ME) : MS := fun σ S => (a σ S).lift σ fun v S1 => .nx (σ.set i (some v)) S1
def mRet (a : ME) : MS := fun σ S => (a σ S).lift σ fun v S1 => .rt v S1
def mRetN : MS := fun _ S => .rt .non S
def mBrk : MS := fun σ S => .bk σ S
def mCnt : MS := fun σ S => .ct σ S
def mIfS (c : MT) (a b : MS) : MS := fun σ S => (c σ S).lift σ fun x S1 => if x = true then a σ S1 else b σ S1
def mAug (i : Nat) (o : V → V → Sto → R V) (a : ME) : MS := fun σ S => (mVar i σ S).lift σ fun x S0 => (a σ S0).lift σ fun y S1 => (o x y S1).lift σ fun z S2 => .nx (σ.set i (some z)) S2
/-- o.f = e: the value first -/
def mSetF (tab : List (Nat × Nat)) (o a : ME) : MS := fun σ S => (a σ S).lift σ fun v S1 => (o σ S1).lift σ fun x S2 => match x with
  | .ref i => match S2[i]? with
    | some (.ins c fs) => match look tab c with
      | some j => .nx σ (S2.set i (.ins c (fs.set j (some v))))
      | none => .bad
    | _ => .bad
  | _ => .bad
def mAugF (tab : List (Nat × Nat)) (op : V → V → Sto → R V) (o a : ME) : MS := fun σ S => (o σ S).lift σ fun x S1 => match x with
  | .ref i => match S1[i]? with
    | some (.ins c fs) => match look tab c with
      | some j => match fs[j]? with
        | some (some v) => (a σ S1).lift σ fun y S2 => (op v y S2).lift σ fun z S3 => match S3[i]? with
          | some (.ins c' fs') => if c' = c then .nx σ (S3.set i (.ins c (fs'.set j (some z)))) else .bad
          | _ => .bad
        | _ => .bad
      | none => .bad
    | _ => .bad
  | _ => .bad
/-- o[i] = e by a store's function -/
abbrev Op3 := V → V → V → Sto → R Unit
def mSetI (t : Op3) (o i a : ME) : MS := fun σ S => (a σ S).lift σ fun v S1 => (o σ S1).lift σ fun x S2 => (i σ S2).lift σ fun y S3 => (t x y v S3).lift σ fun _ S4 => .nx σ S4

section
variable {G : Gm} {W : WX} {α β : Type} {rel : List Addr → α → β → Prop} {ρ : List Addr} {H : Hp} {σ τ : St} {D : Ends}
theorem PostS.lift {T : β → Hp → Prop} {r : R α} {f : α → Sto → RS} (h : PostS G W ρ H D (r.lift τ f)) (l : LR ρ τ σ)
    (hf : ∀ (ρ1 : List Addr) (S1 : Sto) (H1 : Hp) (a : α) (b : β), Ext ρ H ρ1 H1 → Rep G ρ1 S1 H1 → rel ρ1 a b → LR ρ1 τ σ → PostS G W ρ1 H1 D (f a S1) → T b H1) : Post G W rel ρ H σ T r := by
  cases r with
  | ok v S2 => exact fun ρ2 H2 w p2 r2 x => hf ρ2 S2 H2 v w p2 r2 x (l.mono p2.pre) (PostS.mono (show PostS G W ρ H D (f v S2) from h) p2)
  | exc c d S2 => exact fun ρ2 H2 C dd p2 r2 => h ρ2 H2 σ C dd p2 r2 (l.mono p2.pre)
  | bad => exact h
end

section
variable {T : Tab} {W : WX} {X : Cx} {e o c i : Expr} {ma mb mo mi : ME} {mt : MT} {ms mu : MS} {x m : Str} {p pos pos' apos : Pos} {st : Stmt} {sts sts' : List Stmt} {n j k : Nat} {f : Fn}
theorem ds_nil : DSs T X W [] mSkip := pss_nil.imp fun D σ H h => by
  obtain ⟨ρ, S, τ, r, l, h⟩ := h
  exact h ρ H σ (Ext.refl) r l
theorem ds_one (h : DS T X W st ms) : DSs T X W [st] ms := pss_one h
theorem ds_cons (h : DS T X W st ms) (hr : DSs T X W sts mu) : DSs T X W (st :: sts) (mSeq ms mu) := (pss_cons h hr).imp fun D σ H h => by
  obtain ⟨ρ, S, τ, r, l, h⟩ := h
  refine ⟨ρ, S, τ, r, l, ?_⟩
  unfold mSeq at h
  cases e : ms τ S with
  | nx τ2 S2 =>
    rw [e] at h
    exact fun ρ2 H2 σ2 p2 r2 l2 => ⟨ρ2, S2, τ2, r2, l2, PostS.mono (show PostS _ W ρ H D (mu τ2 S2) from h) p2⟩
  | rt v S2 => rw [e] at h; exact h
  | bk τ2 S2 => rw [e] at h; exact h
  | ct τ2 S2 => rw [e] at h; exact h
  | exc c d τ2 S2 => rw [e] at h; exact h
  | bad => rw [e] at h; exact h.elim
theorem ds_pass : DS T X W (.Pass pos) mSkip := ps_pass.imp fun D σ H h => by
  obtain ⟨ρ, S, τ, r, l, h⟩ := h
  exact h ρ H σ (Ext.refl) r l
theorem ds_doc {z : Str} {j pos'} : DS T X W (.Expr (.Constant (.str z) j pos) pos') mSkip := ps_doc.imp fun D σ H h => by
  obtain ⟨ρ, S, τ, r, l, h⟩ := h
  exact h ρ H σ (Ext.refl) r l
theorem ds_brk : DS T X W (.Break pos) mBrk := ps_break.imp fun D σ H h => by
  obtain ⟨ρ, S, τ, r, l, h⟩ := h
  exact h ρ H σ (Ext.refl) r l
theorem ds_cnt : DS T X W (.Continue pos) mCnt := ps_continue.imp fun D σ H h => by
  obtain ⟨ρ, S, τ, r, l, h⟩ := h
  exact h ρ H σ (Ext.refl) r l
theorem ds_expr (he : DE T X W e ma) (hs : swapsWith e none pos.line X.env = pure false := by rfl) : DS T X W (.Expr e pos) (mExpr ma) := (ps_expr he hs).imp fun D σ H h => by
  obtain ⟨ρ, S, τ, r, l, h⟩ := h
  refine ⟨ρ, S, τ, r, l, PostS.lift h l fun ρ1 S1 H1 v w p1 r1 x1 l1 h1 => ?_⟩
  exact h1 ρ1 H1 σ (Ext.refl) r1 l1
theorem ds_ret (he : DE T X W e ma) : DS T X W (.Return (some e) pos) (mRet ma) := (ps_ret he).imp fun D σ H h => by
  obtain ⟨ρ, S, τ, r, l, h⟩ := h
  refine ⟨ρ, S, τ, r, l, PostS.lift h l fun ρ1 S1 H1 v w p1 r1 x1 l1 h1 => ?_⟩
  exact h1 ρ1 H1 w (Ext.refl) r1 x1
theorem ds_retN : DS T X W (.Return none pos) mRetN := ps_retN.imp fun D σ H h => by
  obtain ⟨ρ, S, τ, r, l, h⟩ := h
  exact h ρ H .non (Ext.refl) r rfl
theorem ds_if (hc : DT T X W c mt) (ha : DSs T X W sts ms) (hb : DSs T X W sts' mu) : DS T X W (.If c sts sts' pos) (mIfS mt ms mu) := (ps_if hc ha hb).imp fun D σ H h => by
  obtain ⟨ρ, S, τ, r, l, h⟩ := h
  refine ⟨ρ, S, τ, r, l, PostS.lift h l fun ρ1 S1 H1 v w p1 r1 x1 l1 h1 => ?_⟩
  cases x1
  cases v with
  | true => exact ⟨ρ1, S1, τ, r1, l1, h1⟩
  | false => exact ⟨ρ1, S1, τ, r1, l1, h1⟩
theorem lr_set {ρ : List Addr} {τ σ : St} {v w : V} (l : LR ρ τ σ) (h : VR ρ v w) (i : Nat) : LR ρ (τ.set i (some v)) (σ.set i (some w)) := prd_set (F := OR ρ) (x := some v) (y := some w) h i l
theorem ds_set {i : Nat} (C : X.N.Nodup) (he : DE T X W e ma) (hi : X.N[i]? = some x := by rfl) (hx : Loc X.env.scope x := by first | exact Or.inl rfl | exact Or.inr rfl) (hs : swapsWith e (some (.Name x pos')) pos.line X.env = pure false := by rfl)
    (hf : X.fn x = true ∨ X.env.scope.names.lookup x = some .local := by first | exact .inl rfl | exact .inr rfl) : DS T X W (.Assign [.Name x pos'] e pos) (mSet i ma) := (ps_set (i := i) C hi hx he hs hf).imp fun D σ H h => by
  obtain ⟨ρ, S, τ, r, l, h⟩ := h
  refine ⟨ρ, S, τ, r, l, PostS.lift h l fun ρ1 S1 H1 v w p1 r1 x1 l1 h1 => ?_⟩
  exact h1 ρ1 H1 _ (Ext.refl) r1 (lr_set l1 x1 i)
theorem ds_aug {i : Nat} {op : Operator} {oo : V → V → Sto → R V} (C : X.N.Nodup) (ho : Op2 T X (inplaceOp op) oo) (he : DE T X W e mb) (hi : X.N[i]? = some x := by rfl) (hx : Loc X.env.scope x := by first | exact Or.inl rfl | exact Or.inr rfl)
    (hf : X.fn x = true ∨ X.env.scope.names.lookup x = some .local := by first | exact .inl rfl | exact .inr rfl) : DS T X W (.AugAssign (.Name x pos') op e pos) (mAug i oo mb) := by
  refine (ps_aug (i := i) (op := op) (ti := denR (gm T X) oo) C hi hx he (fun pins s σ H x y v u Q I rx ry h => ho.1 pins s σ H x y v u Q I rx ry h) hf).imp fun D σ H h => ?_
  obtain ⟨ρ, S, τ, r, l, h⟩ := h
  unfold mAug mVar at h
  cases ev : τ[i]? with
  | none => rw [ev] at h; exact h.elim
  | some ov =>
    rw [ev] at h
    cases ov with
    | none => exact h.elim
    | some v =>
      obtain ⟨y, ey, ry⟩ := prd_get l ev
      cases y with
      | none => exact ry.elim
      | some w =>
        refine ⟨w, ey, ⟨ρ, S, τ, r, l, PostS.lift h l fun ρ1 S1 H1 u z p1 r1 x1 l1 h1 => ?_⟩⟩
        refine ⟨ρ1, S1, v, u, σ, r1, VR.mono (v := v) (w := w) ry p1.pre, x1, Post.still (PostS.lift (rel := VR) h1 l1 fun ρ2 S2 H2 a b p2 r2 x2 l2 h2 => ?_) (ho.2 _ _ _)⟩
        exact h2 ρ2 H2 _ (Ext.refl) r2 (lr_set l2 x2 i)
theorem AR.put {ρ : List Addr} {L : List Str} {fs : List (Option V)} {gs : List (Str × V)} {j : Nat} {v w : V} (h : AR ρ L fs gs) (hn : L.Nodup) (hj : L[j]? = some m) (r : VR ρ v w) : AR ρ L (fs.set j (some v)) (putF m w gs) := by
  have keys : ∀ gs : List (Str × V), (putF m w gs).map (·.1) = if m ∈ gs.map (·.1) then gs.map (·.1) else gs.map (·.1) ++ [m] := by
    intro gs
    induction gs with
    | nil => rfl
    | cons q gs ih =>
      obtain ⟨g, y⟩ := q
      show (if g = m then (g, w) :: gs else (g, y) :: putF m w gs).map (·.1) = _
      by_cases z : g = m
      · rw [if_pos z, if_pos (by rw [List.map_cons, ← z]; exact List.mem_cons_self)]
        rfl
      · rw [if_neg z, List.map_cons, ih, List.map_cons]
        by_cases z2 : m ∈ gs.map (·.1)
        · rw [if_pos z2, if_pos (List.mem_cons_of_mem _ z2)]
        · rw [if_neg z2, if_neg (fun q => by
            rcases List.mem_cons.mp q with e | e
            · exact z e.symm
            · exact z2 e)]
          rfl
  refine ⟨by rw [List.length_set]; exact h.len, fun i y u hi hu => ?_, ?_, fun y hy => ?_⟩
  · rw [lookup_putF]
    by_cases z : i = j
    · subst z
      rw [hj] at hi
      cases hi
      have hlt : i < fs.length := by rw [h.len]; exact (List.getElem?_eq_some_iff.mp hj).1
      rw [List.getElem?_set_self hlt] at hu
      cases hu
      rw [if_pos rfl]
      exact ⟨w, rfl, r⟩
    · rw [List.getElem?_set_ne (Ne.symm z)] at hu
      have ne : y ≠ m := fun q => z (by
        subst q
        have h1 := List.getElem?_eq_some_iff.mp hi
        have h2 := List.getElem?_eq_some_iff.mp hj
        exact (List.getElem_inj hn).mp (h1.2.trans h2.2.symm))
      rw [if_neg ne]
      exact h.at_ i y u hi hu
  · rw [keys]
    by_cases z : m ∈ gs.map (·.1)
    · rw [if_pos z]; exact h.nd
    · rw [if_neg z, List.nodup_append]
      exact ⟨h.nd, by simp, fun a ha b hb q => by
        rw [List.mem_singleton] at hb
        exact z (by rw [← hb, ← q]; exact ha)⟩
  · rw [keys] at hy
    by_cases z : m ∈ gs.map (·.1)
    · rw [if_pos z] at hy; exact h.sub y hy
    · rw [if_neg z] at hy
      rcases List.mem_append.mp hy with q | q
      · exact h.sub y q
      · rw [List.mem_singleton] at q
        rw [q]
        exact List.mem_iff_getElem?.mpr ⟨j, hj⟩
theorem nodup_sub_len : ∀ {l L : List Str}, l.Nodup → (∀ x ∈ l, x ∈ L) → l.length ≤ L.length
  | [], _, _, _ => Nat.zero_le _
  | a :: l, L, h, s => by
    have h1 := List.nodup_cons.mp h
    have h2 : ∀ x ∈ l, x ∈ L.erase a := fun x hx => (List.mem_erase_of_ne (fun e => h1.1 (by rw [← e]; exact hx))).mpr (s x (List.mem_cons_of_mem _ hx))
    have h3 := nodup_sub_len h1.2 h2
    have h4 : a ∈ L := s a List.mem_cons_self
    rw [List.length_erase_of_mem h4] at h3
    have h5 := List.length_pos_of_mem h4
    rw [List.length_cons]
    omega
theorem AR.small {ρ : List Addr} {L : List Str} {fs : List (Option V)} {gs : List (Str × V)} (h : AR ρ L fs gs) (hl : L.length < 1000) : gs.length < 1000 := by
  have := nodup_sub_len h.nd h.sub
  rw [List.length_map] at this
  omega
theorem ds_setF {tab : List (Nat × Nat)} (F : FTab T X m tab) (ho : DE T X W o mo) (he : DE T X W e ma) (hs : swapsWith e (some (.Attribute o m pos')) pos.line X.env = pure false := by rfl) : DS T X W (.Assign [.Attribute o m pos'] e pos) (mSetF tab mo ma) := (ps_fld ho he hs).imp fun D σ H h => by
  obtain ⟨ρ, S, τ, r, l, h⟩ := h
  refine ⟨ρ, S, τ, r, l, PostS.lift h l fun ρ1 S1 H1 v w p1 r1 x1 l1 h1 => ?_⟩
  refine ⟨ρ1, S1, τ, r1, l1, PostS.lift h1 l1 fun ρ2 S2 H2 y z p2 r2 x2 l2 h2 => ?_⟩
  split at h2
  · split at h2
    · split at h2
      · rename_i i _ c fs es _ j ej
        obtain ⟨ad, u, ew, er, eh, ob⟩ := r2.ref es x2
        obtain ⟨y, L, C, hc, hL, hnd, hlen, hm, hcl, hna⟩ := F.get ej
        obtain ⟨x3, L3, C3, dx, gs, hc3, hm3, e3, ar⟩ := ob
        subst e3
        have q1 : some (y, L) = some (x3, L3) := hc.symm.trans hc3
        cases q1
        have q2 : some (Value.ref C) = some (Value.ref C3) := hm.symm.trans hm3
        cases q2
        refine ⟨ad, C, dx, gs, ew, eh, hcl, hna, ar.small hlen, ?_⟩
        exact h2 ρ2 _ σ (Ext.put eh (fun _ _ q => nomatch q)) (r2.write es er (fun fs q => by rw [eh] at q; cases q) ⟨y, L, C, dx, _, hc, hm, rfl, ar.put hnd hL (x1.mono p2.pre)⟩) l2
      · exact h2.elim
    · exact h2.elim
  · exact h2.elim
theorem ds_augF {tab : List (Nat × Nat)} {op : Operator} {oo : V → V → Sto → R V} (F : FTab T X m tab) (hop : Op2 T X (inplaceOp op) oo) (ho : DE T X W o mo) (he : DE T X W e ma) : DS T X W (.AugAssign (.Attribute o m pos') op e pos) (mAugF tab oo mo ma) := by
  refine (ps_fldaug (rd := denR (gm T X) oo) ho he (fun pins s σ H x y u v Q I rx ry h => hop.1 pins s σ H x y u v Q I rx ry h)).imp fun D σ H h => ?_
  obtain ⟨ρ, S, τ, r, l, h⟩ := h
  refine ⟨ρ, S, τ, r, l, PostS.lift h l fun ρ1 S1 H1 y z p1 r1 x1 l1 h1 => ?_⟩
  split at h1
  · split at h1
    · split at h1
      · split at h1
        · rename_i i _ c fs es _ j ej _ v ev
          obtain ⟨ad, u, ew, er, eh, ob⟩ := r1.ref es x1
          obtain ⟨y, L, C, hc, hL, hnd, hlen, hm, hcl, hna⟩ := F.get ej
          obtain ⟨x3, L3, C3, dx, gs, hc3, hm3, e3, ar⟩ := ob
          subst e3
          have q1 : some (y, L) = some (x3, L3) := hc.symm.trans hc3
          cases q1
          have q2 : some (Value.ref C) = some (Value.ref C3) := hm.symm.trans hm3
          cases q2
          obtain ⟨w', lw, rw'⟩ := ar.at_ j m v hL ev
          refine ⟨ad, C, dx, gs, w', ew, eh, hcl, hna, lw, ?_⟩
          refine ⟨ρ1, S1, τ, r1, l1, PostS.lift h1 l1 fun ρ2 S2 H2 u' z' p2 r2 x2 l2 h2 => ?_⟩
          refine ⟨ρ2, S2, v, u', σ, r2, rw'.mono p2.pre, x2, Post.still (PostS.lift (rel := VR) h2 l2 fun ρ3 S3 H3 a b p3 r3 x3 l3 h3 => ?_) (hop.2 _ _ _)⟩
          split at h3
          · rename_i c' fs' es3
            split at h3
            · rename_i ecc
              subst ecc
              have x1' : VR ρ3 (.ref i) (.ref ad) := ⟨ad, pre_get (p2.trans p3).pre er, rfl⟩
              obtain ⟨ad', u3, ew3, er3, eh3, ob3⟩ := r3.ref es3 x1'
              cases ew3
              obtain ⟨x4, L4, C4, dx4, gs4, hc4, hm4, e4, ar4⟩ := ob3
              subst e4
              have q1 : some (y, L) = some (x4, L4) := hc.symm.trans hc4
              cases q1
              have q2 : some (Value.ref C) = some (Value.ref C4) := hm.symm.trans hm4
              cases q2
              refine ⟨dx4, gs4, eh3, ar4.small hlen, ?_⟩
              exact h3 ρ3 _ σ ((Ext.put eh3 (fun _ _ q => nomatch q))) (r3.write es3 er3 (fun fs q => by rw [eh3] at q; cases q) ⟨y, L, C, dx4, _, hc, hm, rfl, ar4.put hnd hL x3⟩) l3
            · exact h3.elim
          · exact h3.elim
        · exact h1.elim
      · exact h1.elim
    · exact h1.elim
  · exact h1.elim
/-- a store o[i] = v in the store, as its function tells -/
def denI3 (G : Gm) (t : Op3) : TSet := fun o i v H Q => ∃ ρ S x y z σ, Rep G ρ S H ∧ VR ρ x o ∧ VR ρ y i ∧ VR ρ z v ∧ Post G (fun _ _ _ _ => False) (fun _ (_ : Unit) (_ : Unit) => True) ρ H σ (fun _ H' => Q H') (t x y z S)
abbrev St3 (T : Tab) (X : Cx) (t : Op3) : Prop := PSet X (denI3 (gm T X) t) ∧ ∀ x y z S, (t x y z S).quiet
theorem ds_setI {t : Op3} (ht : St3 T X t) (ho : DE T X W o mo) (hi : DE T X W i mi) (he : DE T X W e ma)
    (ha : ∀ v, assign (.Subscript o i pos') X.env v = (do
      let ov ← holding [v] (eval o X.env)
      let iv ← holding [v, ov] (eval i X.env)
      standAt pos'
      holding [v, ov, iv] (setItem ov iv v)
      release [v, ov, iv] []) := by intro _; rfl)
    (hs : swapsWithSole [.Subscript o i pos'] e pos.line X.env = pure false := by rfl) (hw : swappedStores [.Subscript o i pos'] e X.env = pure none := by rfl)
    (h1 : (assignEach [.Subscript o i pos'] X.env).map (·.2) = [assign (.Subscript o i pos') X.env] := by rfl) : DS T X W (.Assign [.Subscript o i pos'] e pos) (mSetI t mo mi ma) :=
  (ps_asg he (pg_sub ho hi ht.1 ha) hs hw h1).imp fun D σ H h => by
    obtain ⟨ρ, S, τ, r, l, h⟩ := h
    refine ⟨ρ, S, τ, r, l, PostS.lift h l fun ρ1 S1 H1 v w p1 r1 x1 l1 h1 => ?_⟩
    refine ⟨ρ1, S1, τ, r1, l1, PostS.lift h1 l1 fun ρ2 S2 H2 ov ow p2 r2 x2 l2 h2 => ?_⟩
    refine ⟨ρ2, S2, τ, r2, l2, PostS.lift h2 l2 fun ρ3 S3 H3 iv iw p3 r3 x3 l3 h3 => ?_⟩
    refine ⟨ρ3, S3, ov, iv, v, σ, r3, x2.mono p3.pre, x3, x1.mono (p2.trans p3).pre, Post.still (PostS.lift (rel := fun _ _ _ => True) h3 l3 fun ρ4 S4 H4 a b p4 r4 x4 l4 h4 => ?_) (ht.2 _ _ _ _)⟩
    exact h4 ρ4 H4 σ (Ext.refl) r4 l4
end

/-! ### while -/
def mWhile (c : MT) (b : MS) : Nat → MS
  | 0 => fun _ _ => .bad
  | n + 1 => fun σ S => (c σ S).lift σ fun x S1 => if x = true then (match b σ S1 with
      | .nx σ2 S2 => mWhile c b n σ2 S2
      | .ct σ2 S2 => mWhile c b n σ2 S2
      | .bk σ2 S2 => .nx σ2 S2
      | r => r) else .nx σ S1
section
variable {T : Tab} {W : WX} {X : Cx} {c : Expr} {mt : MT} {ms : MS} {pos : Pos} {sts : List Stmt} {k : Nat}
theorem ds_while (n : Nat) (C : Ctx X W k) (hc : DT T X W c mt) (hb : DSs T X W sts ms) : DS T X W (.While c sts [] pos) (mWhile mt ms n) := (ps_while C.own hc hb).imp fun D σ H h => by
  obtain ⟨ρ, S, τ, r, l, h⟩ := h
  refine ⟨fun m σ H => ∃ ρ S τ, Rep (gm T X) ρ S H ∧ LR ρ τ σ ∧ PostS (gm T X) W ρ H D (mWhile mt ms m τ S), ⟨n, ρ, S, τ, r, l, h⟩, fun m σ H hW => ?_⟩
  obtain ⟨ρ, S, τ, r, l, h⟩ := hW
  cases m with
  | zero => exact h.elim
  | succ m =>
    refine ⟨ρ, S, τ, r, l, PostS.lift h l fun ρ1 S1 H1 v w p1 r1 x1 l1 h1 => ?_⟩
    cases x1
    cases v with
    | false => exact h1 ρ1 H1 σ (Ext.refl) r1 l1
    | true =>
      refine ⟨fun σ' H' => ∃ ρ S τ, Rep (gm T X) ρ S H' ∧ LR ρ τ σ' ∧ PostS (gm T X) W ρ H' D (mWhile mt ms m τ S), fun σ' H' hN => ⟨m, Nat.lt_succ_self _, hN⟩, ρ1, S1, τ, r1, l1, ?_⟩
      have h1 : PostS (gm T X) W ρ1 H1 D (match ms τ S1 with
      | .nx σ2 S2 => mWhile mt ms m σ2 S2
      | .ct σ2 S2 => mWhile mt ms m σ2 S2
      | .bk σ2 S2 => .nx σ2 S2
      | r => r) := h1
      cases e : ms τ S1 with
      | nx τ2 S2 => rw [e] at h1; exact fun ρ2 H2 σ2 p2 r2 l2 => ⟨ρ2, S2, τ2, r2, l2, PostS.mono h1 p2⟩
      | ct τ2 S2 => rw [e] at h1; exact fun ρ2 H2 σ2 p2 r2 l2 => ⟨ρ2, S2, τ2, r2, l2, PostS.mono h1 p2⟩
      | bk τ2 S2 => rw [e] at h1; exact h1
      | rt v S2 => rw [e] at h1; exact h1
      | exc c d τ2 S2 => rw [e] at h1; exact h1
      | bad => rw [e] at h1; exact h1
end

/-! ### what is walked -/
/-- an item of a walk: a value; or a new tuple of some values -/
inductive Itv where
  | v (x : V) | t (xs : List V)
def ItvR (ρ : List Addr) (H : Hp) : Itv → V → Prop
  | .v x, w => VR ρ x w
  | .t xs, w => ∃ p ws, w = .ref p ∧ H p = some (.tup ws) ∧ VsR ρ xs ws
abbrev Tg := Itv → St → Sto → Option St
def tgName (i : Nat) : Tg := fun it σ _ => match it with
  | .v x => some (σ.set i (some x))
  | .t _ => none
def setAll : List Nat → List V → St → Option St
  | [], [], σ => some σ
  | i :: is, x :: xs, σ => setAll is xs (σ.set i (some x))
  | _, _, _ => none
def rdT (S : Sto) : V → Option (List V)
  | .ref i => match S[i]? with
    | some (.tup xs) => some xs
    | _ => none
  | _ => none
def tgTup (is : List Nat) : Tg := fun it σ S => match it with
  | .t xs => setAll is xs σ
  | .v x => match rdT S x with
    | some xs => setAll is xs σ
    | none => none
/-- but for the places of a list as it was -/
def Bt (is : List Nat) (σ σ2 : St) : Prop := σ2.length = σ.length ∧ ∀ j, j ∉ is → σ2[j]? = σ[j]?
theorem Bt.refl (is : List Nat) (σ : St) : Bt is σ σ := ⟨rfl, fun _ _ => rfl⟩
theorem Bt.set {is : List Nat} {σ σ2 : St} {i : Nat} {v : Option V} (h : Bt is (σ.set i v) σ2) : Bt (i :: is) σ σ2 := ⟨by rw [h.1, List.length_set], fun j hj => by
  rw [h.2 j fun z => hj (List.mem_cons_of_mem _ z), List.getElem?_set_ne fun z => hj (by rw [z]; exact List.mem_cons_self)]⟩
def TgOk (G : Gm) (g : TG) (is : List Nat) (tg : Tg) : Prop := ∀ (ρ : List Addr) (S : Sto) (H : Hp) (τ σ : St) (it : Itv) (w : V) (τ2 : St) (Q : St → Hp → Prop), Rep G ρ S H → LR ρ τ σ → ItvR ρ H it w → tg it τ S = some τ2 → (∀ σ2, LR ρ τ2 σ2 → Bt is σ σ2 → Q σ2 H) → g w σ H Q
def DG (T : Tab) (X : Cx) (e : Expr) (is : List Nat) (tg : Tg) : Prop := ∃ g : TG, PG X e g ∧ TgOk (gm T X) g is tg
theorem Rep.rdT {G : Gm} {ρ : List Addr} {S : Sto} {H : Hp} {v w : V} {xs : List V} (r : Rep G ρ S H) (h : rdT S v = some xs) (x : VR ρ v w) : ∃ a ws, w = .ref a ∧ H a = some (.tup ws) ∧ VsR ρ xs ws := by
  unfold Mi.rdT at h
  split at h
  · split at h
    · rename_i i _ ys es
      cases h
      obtain ⟨a, u, ew, _, eh, ys, eu, vr⟩ := r.ref es x
      subst eu
      exact ⟨a, ys, ew, eh, vr⟩
    · cases h
  · cases h
section
variable {T : Tab} {W : WX} {X : Cx} {x : Str} {pos : Pos} {k : Nat}
theorem lr_set' : True := trivial
theorem tgok_name {G : Gm} {i : Nat} : TgOk G (gName i) [i] (tgName i) := fun ρ S H τ σ it w τ2 Q r l x e q => by
  cases it with
  | v y => cases e; exact q _ (lr_set l x i) (Bt.refl [] _).set
  | t ys => cases e
def gAll : List Nat → TGs
  | [] => gNil
  | i :: is => gCons (gName i) (gAll is)
theorem gAll_of {ρ : List Addr} {H : Hp} : ∀ {is : List Nat} {τ σ : St} {xs ws : List V} {τ2 : St} {Q : St → Hp → Prop}, LR ρ τ σ → VsR ρ xs ws → setAll is xs τ = some τ2 → (∀ σ2, LR ρ τ2 σ2 → Bt is σ σ2 → Q σ2 H) → gAll is ws σ H Q
  | [], _, _, _, _, _, _, l, .nil, e, q => by cases e; exact ⟨rfl, q _ l (Bt.refl _ _)⟩
  | [], _, _, _, _, _, _, l, .cons _ _, e, q => by cases e
  | _ :: _, _, _, _, _, _, _, l, .nil, e, q => by cases e
  | i :: is, _, _, _, _, _, _, l, .cons r rr, e, q => ⟨_, _, rfl, gAll_of (lr_set l r i) rr e fun σ2 l2 b2 => q σ2 l2 b2.set⟩
theorem setAll_len : ∀ {is : List Nat} {xs : List V} {σ τ : St}, setAll is xs σ = some τ → xs.length = is.length
  | [], [], _, _, _ => rfl
  | [], _ :: _, _, _, h => by cases h
  | _ :: _, [], _, _, h => by cases h
  | i :: is, x :: xs, σ, τ, h => by
    have := setAll_len (is := is) (xs := xs) (show setAll is xs (σ.set i (some x)) = some τ from h)
    rw [List.length_cons, List.length_cons, this]
theorem tgok_tup {G : Gm} {is : List Nat} : TgOk G (gTup G.K is.length (gAll is)) is (tgTup is) := fun ρ S H τ σ it w τ2 Q r l x e q => by
  cases it with
  | t xs =>
    obtain ⟨p, ws, ew, hp, vr⟩ := x
    refine ⟨p, ws, ew, .inl (.inl hp), ?_, gAll_of l vr e q⟩
    rw [← prd_len vr]
    exact setAll_len e
  | v y =>
    unfold tgTup at e
    dsimp only at e
    cases er : Mi.rdT S y with
    | none => rw [er] at e; cases e
    | some xs =>
      rw [er] at e
      obtain ⟨a, ws, ew, hp, vr⟩ := r.rdT er x
      refine ⟨a, ws, ew, .inl (.inl hp), ?_, gAll_of l vr e q⟩
      rw [← prd_len vr]
      exact setAll_len e
theorem dg_name {i : Nat} (C : X.N.Nodup) (hi : X.N[i]? = some x := by rfl) (hx : Loc X.env.scope x := by first | exact Or.inl rfl | exact Or.inr rfl) (hf : X.fn x = true ∨ X.env.scope.names.lookup x = some .local := by first | exact .inl rfl | exact .inr rfl) : DG T X (.Name x pos) [i] (tgName i) :=
  ⟨gName i, pg_name C hi hx hf, tgok_name⟩
theorem dg_tup {es : List Expr} {is : List Nat} {kk : Nat} (hc : X.calm = true) (h : PGs X es (gAll is)) (hn : (assignEach es X.env).length = is.length := by rfl) (hst : (assignEach es X.env).findIdx? (·.1) = none := by rfl) : DG T X (.Tuple es kk pos) is (tgTup is) :=
  ⟨_, pg_tup hc h hn hst, tgok_tup⟩
end

/-- items and a look at the store that must hold at each turn -/
structure Src where
  its : List Itv
  chk : Sto → Bool
def IsIt (G : Gm) (H : Hp) (ρ : List Addr) (s : Src) (J : It) : Prop := ∀ ρ2 S2 H2, Ext ρ H ρ2 H2 → Rep G ρ2 S2 H2 → s.chk S2 = true → J.stop s.its.length H2 ∧ ∀ i it, s.its[i]? = some it → J.go i H2 ∧ ∀ x H3, J.yld i H2 x H3 → Ext ρ2 H2 ρ2 H3 ∧ Rep G ρ2 S2 H3 ∧ ItvR ρ2 H3 it x
def denI (G : Gm) (W : WX) (m : St → Sto → R Src) : TI := fun σ H Q => den G W (fun ρ1 (a : Src) (b : List Addr × Src) => b = (ρ1, a)) m σ H fun b H1 => ∀ J, IsIt G H1 b.1 b.2 J → Q J H1
abbrev DI (T : Tab) (X : Cx) (W : WX) (tg e : Expr) (m : St → Sto → R Src) : Prop := PI X tg e (denI (gm T X) W m)
def mFor1 (chk : Sto → Bool) (tg : Tg) (b : MS) : List Itv → MS
  | [], σ, S => if chk S = true then .nx σ S else .bad
  | it :: r, σ, S => if chk S = true then (match tg it σ S with
    | some σ1 => (match b σ1 S with
      | .nx σ2 S2 => mFor1 chk tg b r σ2 S2
      | .ct σ2 S2 => mFor1 chk tg b r σ2 S2
      | .bk σ2 S2 => .nx σ2 S2
      | r => r)
    | none => .bad) else .bad
def mFor (src : St → Sto → R Src) (tg : Tg) (b : MS) : MS := fun σ S => (src σ S).lift σ fun s S1 => mFor1 s.chk tg b s.its σ S1
section
variable {T : Tab} {W : WX} {X : Cx} {tge iter : Expr} {is : List Nat} {tg : Tg} {src : St → Sto → R Src} {ms : MS} {pos : Pos} {sts : List Stmt} {k : Nat}
theorem ds_for (C : Ctx X W k) (hi : DI T X W tge iter src) (hg : DG T X tge is tg) (hb : DSs T X W sts ms) (hs : ∀ x, foldedSetIterable iter X.env x = pure x := by intro _; rfl) : DS T X W (.For tge iter sts [] pos) (mFor src tg ms) := by
  obtain ⟨g, hg, hq⟩ := hg
  refine (ps_for C.own C.calm hi hg hb hs).imp fun D σ H h => ?_
  obtain ⟨ρ, S, τ, r, l, h⟩ := h
  refine ⟨ρ, S, τ, r, l, PostS.lift h l fun ρ1 S1 H1 s b p1 r1 xb l1 h1 => ?_⟩
  subst xb
  intro J x1
  refine ⟨fun i m σ H => m = s.its.length - i ∧ i ≤ s.its.length ∧ ∃ ρ S τ, Ext ρ1 H1 ρ H ∧ Rep (gm T X) ρ S H ∧ LR ρ τ σ ∧ PostS (gm T X) W ρ H D (mFor1 s.chk tg ms (s.its.drop i) τ S), ⟨_, rfl, Nat.zero_le _, ρ1, S1, τ, Ext.refl, r1, l1, h1⟩, fun i m σ H hW => ?_⟩
  obtain ⟨em, hi, ρ2, S2, τ2, p2, r2, l2, h2⟩ := hW
  by_cases z : i < s.its.length
  · rw [List.drop_eq_getElem_cons z] at h2
    unfold mFor1 at h2
    by_cases hc : s.chk S2 = true
    · rw [if_pos hc] at h2
      obtain ⟨hgo, hy⟩ := (x1 ρ2 S2 H p2 r2 hc).2 i _ (List.getElem?_eq_getElem z)
      refine .inr ⟨hgo, fun σ' H' => ∃ ρ S τ, Ext ρ1 H1 ρ H' ∧ Rep (gm T X) ρ S H' ∧ LR ρ τ σ' ∧ PostS (gm T X) W ρ H' D (mFor1 s.chk tg ms (s.its.drop (i + 1)) τ S), fun σ' H' hN => ⟨s.its.length - (i + 1), by omega, rfl, z, hN⟩, fun x H3 hy3 => ?_⟩
      obtain ⟨p3, r3, x3⟩ := hy x H3 hy3
      cases et : tg s.its[i] τ2 S2 with
      | none => rw [et] at h2; exact h2.elim
      | some τ3 =>
        rw [et] at h2
        refine hq ρ2 S2 H3 τ2 σ _ x τ3 _ r3 l2 x3 et fun σ3 l3 _ => ⟨ρ2, S2, τ3, r3, l3, ?_⟩
        have h2 : PostS (gm T X) W ρ2 H D (match ms τ3 S2 with
          | .nx σ2 S2 => mFor1 s.chk tg ms (s.its.drop (i + 1)) σ2 S2
          | .ct σ2 S2 => mFor1 s.chk tg ms (s.its.drop (i + 1)) σ2 S2
          | .bk σ2 S2 => .nx σ2 S2
          | r => r) := h2
        have h2 := PostS.mono h2 p3
        cases e : ms τ3 S2 with
        | nx τ4 S4 => rw [e] at h2; exact fun ρ4 H4 σ4 p4 r4 l4 => ⟨ρ4, S4, τ4, (p2.trans p3).trans p4, r4, l4, PostS.mono h2 p4⟩
        | ct τ4 S4 => rw [e] at h2; exact fun ρ4 H4 σ4 p4 r4 l4 => ⟨ρ4, S4, τ4, (p2.trans p3).trans p4, r4, l4, PostS.mono h2 p4⟩
        | bk τ4 S4 => rw [e] at h2; exact h2
        | rt v S4 => rw [e] at h2; exact h2
        | exc c d τ4 S4 => rw [e] at h2; exact h2
        | bad => rw [e] at h2; exact h2
    · rw [if_neg hc] at h2
      exact h2.elim
  · have ei : i = s.its.length := by omega
    rw [ei, List.drop_length] at h2
    unfold mFor1 at h2
    by_cases hc : s.chk S2 = true
    · rw [if_pos hc] at h2
      rw [ei]
      exact .inl ⟨(x1 ρ2 S2 H p2 r2 hc).1, h2 ρ2 H σ (Ext.refl) r2 l2⟩
    · rw [if_neg hc] at h2
      exact h2.elim
end
end Mi

namespace Mi
open PySem PySem.Spec L2
open PyProof.Rows hiding St

/-! ### lists, tuples, dicts of the store, read -/
def rdL (S : Sto) : V → Option (List V)
  | .ref i => match S[i]? with
    | some (.lst xs) => some xs
    | some (.lck (.lst xs)) => some xs
    | _ => none
  | _ => none
def rdK (S : Sto) : V → Option (List (Key × V))
  | .ref i => match S[i]? with
    | some (.dK kvs) => some kvs
    | some (.lck (.dK kvs)) => some kvs
    | _ => none
  | _ => none
section
variable {G : Gm} {ρ : List Addr} {S : Sto} {H : Hp} {v w : V}
theorem Rep.rdL {xs : List V} (r : Rep G ρ S H) (h : rdL S v = some xs) (x : VR ρ v w) : ∃ a ws, w = .ref a ∧ Rd H a (.lst ws) ∧ VsR ρ xs ws := by
  unfold Mi.rdL at h
  split at h
  · split at h
    · rename_i i _ ys es
      cases h
      obtain ⟨a, u, ew, _, eh, ys, eu, vr⟩ := r.ref es x
      subst eu
      exact ⟨a, ys, ew, .inl eh, vr⟩
    · rename_i i _ ys es
      cases h
      obtain ⟨a, u, ew, _, eh, ob, u', eu, ys, eu', vr⟩ := r.ref es x
      subst eu
      subst eu'
      exact ⟨a, ys, ew, .inr ⟨ob, eh⟩, vr⟩
    · cases h
  · cases h
theorem Rep.rdK {xs : List (Key × V)} (r : Rep G ρ S H) (h : rdK S v = some xs) (x : VR ρ v w) : ∃ a ws, w = .ref a ∧ Rd H a (.dK ws) ∧ FR ρ xs ws := by
  unfold Mi.rdK at h
  split at h
  · split at h
    · rename_i i _ ys es
      cases h
      obtain ⟨a, u, ew, _, eh, ys, eu, vr⟩ := r.ref es x
      subst eu
      exact ⟨a, ys, ew, .inl eh, vr⟩
    · rename_i i _ ys es
      cases h
      obtain ⟨a, u, ew, _, eh, ob, u', eu, ys, eu', vr⟩ := r.ref es x
      subst eu
      subst eu'
      exact ⟨a, ys, ew, .inr ⟨ob, eh⟩, vr⟩
    · cases h
  · cases h
end

/-! ### two rules for one piece of text -/
theorem pi_or {X : Cx} {tg e : Expr} {t t' : TI} (h : PI X tg e t) (h' : PI X tg e t') : PI X tg e (fun σ H R => t σ H R ∨ t' σ H R) := ⟨fun pins s σ H R I q => q.elim (h.run pins s σ H R I) (h'.run pins s σ H R I)⟩
theorem pe_or2 {X : Cx} {e : Expr} {t t' : TE} (h : PE X e t) (h' : PE X e t') : PE X e (fun σ H R => t σ H R ∨ t' σ H R) := ⟨fun pins s σ H R I q => q.elim (h.run pins s σ H R I) (h'.run pins s σ H R I)⟩
theorem ps_or2 {X : Cx} {e : Stmt} {t t' : TS} (h : PS X e t) (h' : PS X e t') : PS X e (fun D σ H => t D σ H ∨ t' D σ H) := ⟨fun pins s σ H R I q => q.elim (h.run pins s σ H R I) (h'.run pins s σ H R I)⟩
theorem _root_.L2.PI.imp {X : Cx} {tg e : Expr} {t t' : TI} (h : PI X tg e t) (k : ∀ σ H Q, t' σ H Q → t σ H Q) : PI X tg e t' := ⟨fun pins s σ H Q I q => h.run pins s σ H Q I (k _ _ _ q)⟩

/-! ### walks -/
def walkOf (S : Sto) : V → Option Src
  | .ref i => match S[i]? with
    | some (.lst xs) => some ⟨xs.map .v, fun S' => decide (S'[i]? = some (.lst xs))⟩
    | some (.lck (.lst xs)) => some ⟨xs.map .v, fun S' => decide (S'[i]? = some (.lck (.lst xs)))⟩
    | some (.tup xs) => some ⟨xs.map .v, fun S' => decide (S'[i]? = some (.tup xs))⟩
    | some (.lck (.dK kvs)) => some ⟨kvs.map fun p => .v (kV p.1), fun S' => decide (S'[i]? = some (.lck (.dK kvs)))⟩
    | _ => none
  | .str z => some ⟨z.cps.toList.map fun c => .v (.str ⟨#[c]⟩), fun _ => true⟩
  | _ => none
def mWalk (m : ME) : St → Sto → R Src := fun σ S => (m σ S).bind fun v S1 => match walkOf S1 v with
  | some s => .ok s S1
  | none => .bad
section
variable {T : Tab} {W : WX} {X : Cx} {tg e e2 : Expr} {m : ME} {ms : MA} {pos p : Pos} {es : List Expr}
theorem kv_vr {ρ : List Addr} {k : Key} : VR ρ (kV k) (kV k) := by
  cases k <;> rfl
theorem map_get {α β : Type} {f : α → β} {xs : List α} {i : Nat} {y : β} (h : (xs.map f)[i]? = some y) : ∃ x, xs[i]? = some x ∧ f x = y := by
  rw [List.getElem?_map] at h
  cases e : xs[i]? with
  | none => rw [e] at h; cases h
  | some x => rw [e] at h; exact ⟨x, rfl, Option.some.inj h⟩
theorem isIt_vals {G : Gm} {H : Hp} {ρ : List Addr} {J : It} {chk : Sto → Bool} {xs : List V}
    (ho : ∀ (ρ2 : List Addr) (S2 : Sto) (H2 : Hp), Ext ρ H ρ2 H2 → Rep G ρ2 S2 H2 → chk S2 = true → ∃ ws, VsR ρ2 xs ws ∧ J.stop ws.length H2 ∧ ∀ (i : Nat) (w : V), ws[i]? = some w → J.go i H2 ∧ ∀ x H3, J.yld i H2 x H3 → H3 = H2 ∧ x = w) : IsIt G H ρ ⟨xs.map .v, chk⟩ J := by
  intro ρ2 S2 H2 p2 r2 hc
  obtain ⟨ws, vr, hs, hw⟩ := ho ρ2 S2 H2 p2 r2 hc
  refine ⟨by show J.stop (xs.map Itv.v).length H2; rw [List.length_map, prd_len vr]; exact hs, fun j it hj => ?_⟩
  obtain ⟨x, hx, ex⟩ := map_get hj
  subst ex
  obtain ⟨w, hw2, rw'⟩ := prd_get vr hx
  obtain ⟨g, y⟩ := hw j w hw2
  refine ⟨g, fun y' H3 hy => ?_⟩
  obtain ⟨e1, e2⟩ := y y' H3 hy
  subst e1
  subst e2
  exact ⟨Ext.refl, r2, rw'⟩
theorem itl_of {K : PySem.W.Frag} {H : Hp} {a : Addr} {ws : List V} (h : SqL K H a ws) : (Itl K a).stop ws.length H ∧ ∀ (i : Nat) (w : V), ws[i]? = some w → (Itl K a).go i H ∧ ∀ x H3, (Itl K a).yld i H x H3 → H3 = H ∧ x = w :=
  ⟨⟨ws, h, Nat.le_refl _⟩, fun i w hw => ⟨⟨ws, w, h, hw⟩, fun x H3 hy => ⟨hy.1, by have := hy.2 ws h; rw [hw] at this; cases this; rfl⟩⟩⟩
theorem itt_of {K : PySem.W.Frag} {H : Hp} {a : Addr} {ws : List V} (h : SqT K H a ws) : (Itt K a).stop ws.length H ∧ ∀ (i : Nat) (w : V), ws[i]? = some w → (Itt K a).go i H ∧ ∀ x H3, (Itt K a).yld i H x H3 → H3 = H ∧ x = w :=
  ⟨⟨ws, h, Nat.le_refl _⟩, fun i w hw => ⟨⟨ws, w, h, hw⟩, fun x H3 hy => ⟨hy.1, by have := hy.2 ws h; rw [hw] at this; cases this; rfl⟩⟩⟩
theorem fr_keys {ρ : List Addr} : ∀ {kvs ws : List (Key × V)}, FR ρ kvs ws → ws.map (·.1) = kvs.map (·.1)
  | _, _, .nil => rfl
  | _, _, .cons r t => by rw [List.map_cons, List.map_cons, fr_keys t, r.1]
theorem fr_vals {ρ : List Addr} : ∀ {kvs ws : List (Key × V)}, FR ρ kvs ws → VsR ρ (kvs.map (·.2)) (ws.map (·.2))
  | _, _, .nil => .nil
  | _, _, .cons r t => .cons r.2 (fr_vals t)
theorem keys_vsr {ρ : List Addr} : ∀ ks : List Key, VsR ρ (ks.map kV) (ks.map kV)
  | [] => .nil
  | _ :: r => .cons kv_vr (keys_vsr r)
theorem mapmap {α β γ : Type} (f : α → β) (g : β → γ) (xs : List α) : (xs.map fun x => g (f x)) = (xs.map f).map g := by rw [List.map_map]; rfl
theorem sgn_vsr {ρ : List Addr} : ∀ cs : List Nat, VsR ρ (cs.map fun c => V.str ⟨#[c]⟩) (cs.map fun c => V.str ⟨#[c]⟩)
  | [] => .nil
  | _ :: r => .cons rfl (sgn_vsr r)
/-- by the way of the value -/
theorem di_walk (he : DE T X W e m) : DI T X W tg e (mWalk m) := by
  refine ⟨fun pins s σ H R I h => ?_⟩
  obtain ⟨ρ, S, τ, r, l, h⟩ := h
  unfold mWalk at h
  cases ee : m τ S with
  | exc c d S1 =>
    rw [ee] at h
    exact (pi_list he).run pins s σ H R I ⟨ρ, S, τ, r, l, by rw [ee]; exact h⟩
  | bad => rw [ee] at h; exact h.elim
  | ok v S1 =>
    rw [ee] at h
    have h : Post (gm T X) W (fun ρ1 (a : Src) (b : List Addr × Src) => b = (ρ1, a)) ρ H σ (fun b H1 => ∀ J, IsIt (gm T X) H1 b.1 b.2 J → R J H1) (match walkOf S1 v with
      | some s => .ok s S1
      | none => .bad) := h
    cases ew : walkOf S1 v with
    | none => rw [ew] at h; exact h.elim
    | some s0 =>
      rw [ew] at h
      have h : ∀ ρ1 H1, Ext ρ H ρ1 H1 → Rep (gm T X) ρ1 S1 H1 → ∀ J, IsIt (gm T X) H1 ρ1 s0 J → R J H1 := fun ρ1 H1 p1 r1 J hJ => h ρ1 H1 _ p1 r1 rfl J hJ
      unfold walkOf at ew
      split at ew
      · rename_i i
        split at ew
        · rename_i xs es
          cases ew
          refine (pi_list he).run pins s σ H R I ⟨ρ, S, τ, r, l, ?_⟩
          rw [ee]
          intro ρ1 H1 w p1 r1 x1
          obtain ⟨a, u, e1, e2, eh, ws, eu, vr⟩ := r1.ref es x1
          subst eu
          refine ⟨a, e1, ⟨ws, .inl (.inl eh)⟩, h ρ1 H1 p1 r1 _ (isIt_vals fun ρ2 S2 H2 p2 r2 hc => ?_)⟩
          obtain ⟨a', u', e1', e2', eh', ws', eu', vr'⟩ := r2.ref (of_decide_eq_true hc) (show VR ρ2 (.ref i) (.ref a) from ⟨a, pre_get p2.pre e2, rfl⟩)
          cases e1'
          subst eu'
          exact ⟨ws', vr', itl_of (.inl (.inl eh'))⟩
        · rename_i xs es
          cases ew
          refine (pi_list he).run pins s σ H R I ⟨ρ, S, τ, r, l, ?_⟩
          rw [ee]
          intro ρ1 H1 w p1 r1 x1
          obtain ⟨a, u, e1, e2, eh, ob, u', eu, ws, eu', vr⟩ := r1.ref es x1
          subst eu
          subst eu'
          refine ⟨a, e1, ⟨ws, .inl (.inr ⟨ob, eh⟩)⟩, h ρ1 H1 p1 r1 _ (isIt_vals fun ρ2 S2 H2 p2 r2 hc => ?_)⟩
          obtain ⟨a', u', e1', e2', eh', ob', u'', eu', ws', eu'', vr'⟩ := r2.ref (of_decide_eq_true hc) (show VR ρ2 (.ref i) (.ref a) from ⟨a, pre_get p2.pre e2, rfl⟩)
          cases e1'
          subst eu'
          subst eu''
          exact ⟨ws', vr', itl_of (.inl (.inr ⟨_, eh'⟩))⟩
        · rename_i xs es
          cases ew
          refine (pi_tup he).run pins s σ H R I ⟨ρ, S, τ, r, l, ?_⟩
          rw [ee]
          intro ρ1 H1 w p1 r1 x1
          obtain ⟨a, u, e1, e2, eh, ws, eu, vr⟩ := r1.ref es x1
          subst eu
          refine ⟨a, e1, ⟨ws, .inl (.inl eh)⟩, h ρ1 H1 p1 r1 _ (isIt_vals fun ρ2 S2 H2 p2 r2 hc => ?_)⟩
          obtain ⟨a', u', e1', e2', eh', ws', eu', vr'⟩ := r2.ref (of_decide_eq_true hc) (show VR ρ2 (.ref i) (.ref a) from ⟨a, pre_get p2.pre e2, rfl⟩)
          cases e1'
          subst eu'
          exact ⟨ws', vr', itt_of (.inl (.inl eh'))⟩
        · rename_i kvs es
          cases ew
          refine (pi_keys he).run pins s σ H R I ⟨ρ, S, τ, r, l, ?_⟩
          rw [ee]
          intro ρ1 H1 w p1 r1 x1
          obtain ⟨a, u, e1, e2, eh, ob, u', eu, ws, eu', vr⟩ := r1.ref es x1
          subst eu
          subst eu'
          refine ⟨a, ob, e1, .inl ⟨ws, eh, h ρ1 H1 p1 r1 _ ?_⟩⟩
          rw [mapmap (fun p : Key × V => kV p.1) Itv.v]
          refine isIt_vals fun ρ2 S2 H2 p2 r2 hc => ?_
          have eh2 := p2.kp _ _ _ eh
          refine ⟨ws.map fun q => kV q.1, ?_, ⟨eh2, by rw [List.length_map]; exact Nat.le_refl _⟩, fun j w hw => ?_⟩
          · rw [mapmap (fun p : Key × V => p.1) kV, mapmap (fun p : Key × V => p.1) kV, fr_keys vr]
            exact keys_vsr _
          · obtain ⟨q, hq, eq⟩ := map_get hw
            subst eq
            refine ⟨⟨eh2, (List.getElem?_eq_some_iff.mp hq).1⟩, fun x H3 hy => ⟨hy.1, ?_⟩⟩
            obtain ⟨k, v, h1, h2⟩ := hy.2
            rw [hq] at h1
            cases h1
            exact h2
        · cases ew
      · rename_i z
        cases ew
        refine (pi_str he).run pins s σ H R I ⟨ρ, S, τ, r, l, ?_⟩
        rw [ee]
        intro ρ1 H1 w p1 r1 x1
        cases x1
        refine ⟨z, rfl, h ρ1 H1 p1 r1 _ ?_⟩
        rw [mapmap (fun c : Nat => V.str ⟨#[c]⟩) Itv.v]
        refine isIt_vals fun ρ2 S2 H2 p2 r2 hc => ⟨_, sgn_vsr _, by show z.cps.size ≤ _; rw [List.length_map]; exact Nat.le_refl _, fun j w hw => ?_⟩
        obtain ⟨c, hx, ex⟩ := map_get hw
        subst ex
        have hx : z.cps[j]? = some c := by rw [← Array.getElem?_toList]; exact hx
        refine ⟨(Array.getElem?_eq_some_iff.mp hx).1, fun y H3 hy => ⟨hy.1, ?_⟩⟩
        obtain ⟨c', hc', ey⟩ := hy.2
        rw [hx] at hc'
        cases hc'
        exact ey
      · cases ew
/-- range(n), range(a, b) -/
def intsFrom (lo : Int) (n : Nat) : List Itv := (List.range n).map fun k => .v (.int (lo + (k : Nat)))
def mRange1 (ms : MA) : St → Sto → R Src := fun σ S => (ms σ S).bind fun vs S1 => match vs with
  | [.int j] => if -(2 ^ 62) ≤ j ∧ j < 2 ^ 62 then .ok ⟨intsFrom 0 j.toNat, fun _ => true⟩ S1 else .bad
  | _ => .bad
def mRange2 (ms : MA) : St → Sto → R Src := fun σ S => (ms σ S).bind fun vs S1 => match vs with
  | [.int i, .int j] => if -(2 ^ 62) ≤ i ∧ i < 2 ^ 62 ∧ -(2 ^ 62) ≤ j ∧ j < 2 ^ 62 then .ok ⟨intsFrom i (j - i).toNat, fun _ => true⟩ S1 else .bad
  | _ => .bad
theorem isIt_range {G : Gm} {H : Hp} {ρ : List Addr} {lo : Int} {n : Nat} : IsIt G H ρ ⟨intsFrom lo n, fun _ => true⟩ (Itr lo n) := by
  have e : intsFrom lo n = ((List.range n).map fun k => V.int (lo + (k : Nat))).map Itv.v := mapmap (fun k : Nat => V.int (lo + (k : Nat))) Itv.v _
  rw [e]
  refine isIt_vals fun ρ2 S2 H2 p2 r2 hc => ⟨(List.range n).map fun k => V.int (lo + (k : Nat)), ?_, by show n ≤ _; rw [List.length_map, List.length_range]; exact Nat.le_refl _, fun j w hw => ?_⟩
  · generalize List.range n = l
    induction l with
    | nil => exact .nil
    | cons a l ih => exact .cons rfl ih
  · obtain ⟨k, hk, ek⟩ := map_get hw
    subst ek
    have h1 := List.getElem?_eq_some_iff.mp hk
    obtain ⟨h1, h2⟩ := h1
    rw [List.getElem_range] at h2
    rw [List.length_range] at h1
    subst h2
    exact ⟨h1, fun x H3 hy => hy⟩
theorem di_range1 (hm : X.mg "range" = none) (ha : DA T X W [e] ms) (hg : Gl X "range" := by rfl) (hs : starEach [e] X.env = [(false, eval e X.env)] := by rfl) : DI T X W tg (.Call (.Name "range" p) [e] [] pos) (mRange1 ms) := (pi_range1 hg hm ha hs).imp fun σ H R h => by
  obtain ⟨ρ, S, τ, r, l, h⟩ := h
  refine ⟨ρ, S, τ, r, l, Post.bind h fun ρ1 S1 H1 vs ws p1 r1 x1 h1 => ?_⟩
  split at h1
  · rename_i j
    split at h1
    · rename_i hj
      cases x1 with
      | cons a b =>
        cases b
        cases a
        exact ⟨j, rfl, hj.1, hj.2, h1 ρ1 H1 _ Ext.refl r1 rfl _ isIt_range⟩
    · exact h1.elim
  · exact h1.elim
theorem di_range2 (hm : X.mg "range" = none) (ha : DA T X W [e, e2] ms) (hg : Gl X "range" := by rfl) (hs : starEach [e, e2] X.env = [(false, eval e X.env), (false, eval e2 X.env)] := by rfl) (hs2 : starEach [e2] X.env = [(false, eval e2 X.env)] := by rfl) : DI T X W tg (.Call (.Name "range" p) [e, e2] [] pos) (mRange2 ms) := (pi_range2 hg hm ha hs hs2).imp fun σ H R h => by
  obtain ⟨ρ, S, τ, r, l, h⟩ := h
  refine ⟨ρ, S, τ, r, l, Post.bind h fun ρ1 S1 H1 vs ws p1 r1 x1 h1 => ?_⟩
  split at h1
  · rename_i i j
    split at h1
    · rename_i hj
      cases x1 with
      | cons a b =>
        cases b with
        | cons a' b' =>
          cases b'
          cases a
          cases a'
          exact ⟨i, j, rfl, hj, h1 ρ1 H1 _ Ext.refl r1 rfl _ isIt_range⟩
    · exact h1.elim
  · exact h1.elim

/-! ### enumerate, zip, reversed of lists -/
def enumFrom : Nat → List V → List Itv
  | _, [] => []
  | n, x :: xs => .t [.int (n : Int), x] :: enumFrom (n + 1) xs
theorem enumFrom_get : ∀ (n : Nat) (xs : List V) (i : Nat) (it : Itv), (enumFrom n xs)[i]? = some it → ∃ x, xs[i]? = some x ∧ it = .t [.int ((n + i : Nat) : Int), x]
  | _, [], _, _, h => by simp [enumFrom] at h
  | n, x :: xs, 0, it, h => ⟨x, rfl, by
    have : Itv.t [.int (n : Int), x] = it := Option.some.inj h
    exact this.symm⟩
  | n, x :: xs, i + 1, it, h => by
    obtain ⟨y, h1, h2⟩ := enumFrom_get (n + 1) xs i it h
    exact ⟨y, h1, by rw [h2, show n + 1 + i = n + (i + 1) by omega]⟩
theorem enumFrom_len : ∀ (n : Nat) (xs : List V), (enumFrom n xs).length = xs.length
  | _, [] => rfl
  | n, x :: xs => by
    show (enumFrom (n + 1) xs).length + 1 = xs.length + 1
    rw [enumFrom_len]
/-- a list that is walked: its place; what it holds must stay -/
def lstOf (S : Sto) : V → Option (List V × (Sto → Bool))
  | .ref i => match S[i]? with
    | some (.lst xs) => some (xs, fun S' => decide (S'[i]? = some (.lst xs)))
    | some (.lck (.lst xs)) => some (xs, fun S' => decide (S'[i]? = some (.lck (.lst xs))))
    | _ => none
  | _ => none
theorem Rep.lstOf {G : Gm} {H : Hp} {ρ : List Addr} {S : Sto} {v w : V} {xs : List V} {chk : Sto → Bool} (r : Rep G ρ S H) (h : Mi.lstOf S v = some (xs, chk)) (x : VR ρ v w) :
    ∃ a ws, w = .ref a ∧ Rd H a (.lst ws) ∧ VsR ρ xs ws ∧ ∀ ρ2 S2 H2, Ext ρ H ρ2 H2 → Rep G ρ2 S2 H2 → chk S2 = true → ∃ ws2, Rd H2 a (.lst ws2) ∧ VsR ρ2 xs ws2 := by
  unfold Mi.lstOf at h
  split at h
  · rename_i i
    split at h
    · rename_i ys es
      cases h
      obtain ⟨a, u, e1, e2, eh, ws, eu, vr⟩ := r.ref es x
      subst eu
      refine ⟨a, ws, e1, .inl eh, vr, fun ρ2 S2 H2 p2 r2 hc => ?_⟩
      obtain ⟨a', u', e1', e2', eh', ws', eu', vr'⟩ := r2.ref (of_decide_eq_true hc) (show VR ρ2 (.ref i) (.ref a) from ⟨a, pre_get p2.pre e2, rfl⟩)
      cases e1'
      subst eu'
      exact ⟨ws', .inl eh', vr'⟩
    · rename_i ys es
      cases h
      obtain ⟨a, u, e1, e2, eh, ob, u', eu, ws, eu', vr⟩ := r.ref es x
      subst eu
      subst eu'
      refine ⟨a, ws, e1, .inr ⟨ob, eh⟩, vr, fun ρ2 S2 H2 p2 r2 hc => ?_⟩
      obtain ⟨a', u', e1', e2', eh', ob', u'', eu', ws', eu'', vr'⟩ := r2.ref (of_decide_eq_true hc) (show VR ρ2 (.ref i) (.ref a) from ⟨a, pre_get p2.pre e2, rfl⟩)
      cases e1'
      subst eu'
      subst eu''
      exact ⟨ws', .inr ⟨_, eh'⟩, vr'⟩
    · cases h
  · cases h
def mEnum (ms : MA) : St → Sto → R Src := fun σ S => (ms σ S).bind fun vs S1 => match vs with
  | [v] => match lstOf S1 v with
    | some (xs, chk) => .ok ⟨enumFrom 0 xs, chk⟩ S1
    | none => .bad
  | _ => .bad
def zipT : List V → List V → List Itv
  | x :: xs, y :: ys => .t [x, y] :: zipT xs ys
  | _, _ => []
theorem zipT_get : ∀ (xs ys : List V) (i : Nat) (it : Itv), (zipT xs ys)[i]? = some it → ∃ x y, xs[i]? = some x ∧ ys[i]? = some y ∧ it = .t [x, y]
  | [], _, _, _, h => by simp [zipT] at h
  | _ :: _, [], _, _, h => by simp [zipT] at h
  | x :: xs, y :: ys, 0, it, h => ⟨x, y, rfl, rfl, by
    have : Itv.t [x, y] = it := Option.some.inj h
    exact this.symm⟩
  | x :: xs, y :: ys, i + 1, it, h => by
    obtain ⟨a, b, h1, h2, h3⟩ := zipT_get xs ys i it h
    exact ⟨a, b, h1, h2, h3⟩
theorem zipT_len : ∀ (xs ys : List V), xs.length ≤ (zipT xs ys).length ∨ ys.length ≤ (zipT xs ys).length
  | [], _ => .inl (Nat.zero_le _)
  | _ :: _, [] => .inr (Nat.zero_le _)
  | x :: xs, y :: ys => by
    rcases zipT_len xs ys with h | h
    · exact .inl (Nat.succ_le_succ h)
    · exact .inr (Nat.succ_le_succ h)
def mZip (ms : MA) : St → Sto → R Src := fun σ S => (ms σ S).bind fun vs S1 => match vs with
  | [v, u] => match lstOf S1 v, lstOf S1 u with
    | some (xs, chk), some (ys, chk2) => .ok ⟨zipT xs ys, fun S' => chk S' && chk2 S'⟩ S1
    | _, _ => .bad
  | _ => .bad
def mRevs (ms : MA) : St → Sto → R Src := fun σ S => (ms σ S).bind fun vs S1 => match vs with
  | [v] => match lstOf S1 v with
    | some (xs, chk) => .ok ⟨xs.reverse.map .v, chk⟩ S1
    | none => .bad
  | _ => .bad
theorem di_enum {elts : List Expr} {kk : Nat} {tpos : Pos} (hm : X.mg "enumerate" = none) (ha : DA T X W [e] ms) (hg : Gl X "enumerate" := by rfl) (hs : starEach [e] X.env = [(false, eval e X.env)] := by rfl) :
    DI T X W (.Tuple elts kk tpos) (.Call (.Name "enumerate" p) [e] [] pos) (mEnum ms) := (pi_enum hg hm ha hs).imp fun σ H R h => by
  obtain ⟨ρ, S, τ, r, l, h⟩ := h
  refine ⟨ρ, S, τ, r, l, Post.bind h fun ρ1 S1 H1 vs ws p1 r1 x1 h1 => ?_⟩
  split at h1
  · rename_i v
    cases x1 with
    | cons a b =>
      cases b
      cases el : Mi.lstOf S1 v with
      | none => rw [el] at h1; exact h1.elim
      | some q =>
        obtain ⟨xs, chk⟩ := q
        rw [el] at h1
        obtain ⟨ad, ws, e1, rd, vr, hk⟩ := r1.lstOf el a
        subst e1
        refine ⟨ad, ws, rfl, .inl rd, h1 ρ1 H1 _ Ext.refl r1 rfl _ fun ρ2 S2 H2 p2 r2 hc => ?_⟩
        obtain ⟨ws2, rd2, vr2⟩ := hk ρ2 S2 H2 p2 r2 hc
        refine ⟨⟨ws2, .inl rd2, by rw [enumFrom_len, prd_len vr2]; exact Nat.le_refl _⟩, fun i it hi => ?_⟩
        obtain ⟨x, hx, ei⟩ := enumFrom_get 0 xs i it hi
        subst ei
        obtain ⟨w, hw, rw'⟩ := prd_get vr2 hx
        refine ⟨⟨ws2, w, .inl rd2, hw⟩, fun y H3 hy => ?_⟩
        obtain ⟨p, x', ey, nT, eH, fx⟩ := hy
        subst ey
        subst eH
        have := fx ws2 (.inl rd2)
        rw [hw] at this
        cases this
        exact ⟨Ext.aside nT, r2.beside nT, p, _, rfl, upd_same, .cons (by rw [Nat.zero_add]; rfl) (.cons rw' .nil)⟩
  · exact h1.elim
theorem di_zip {elts : List Expr} {kk : Nat} {tpos : Pos} (hm : X.mg "zip" = none) (ha : DA T X W [e, e2] ms) (hg : Gl X "zip" := by rfl) (hs : starEach [e, e2] X.env = (false, eval e X.env) :: starEach [e2] X.env := by rfl) (hpl : (backTo pos (starEach [e2] X.env)).any (·.1) = false := by rfl) :
    DI T X W (.Tuple elts kk tpos) (.Call (.Name "zip" p) [e, e2] [] pos) (mZip ms) := (pi_zip hg hm ha hs hpl).imp fun σ H R h => by
  obtain ⟨ρ, S, τ, r, l, h⟩ := h
  refine ⟨ρ, S, τ, r, l, Post.bind h fun ρ1 S1 H1 vs ws p1 r1 x1 h1 => ?_⟩
  split at h1
  · rename_i v u
    cases x1 with
    | cons a b =>
      cases b with
      | cons a' b' =>
        cases b'
        split at h1
        · rename_i xs chk ys chk2 el el2
          obtain ⟨ad, ws, e1, rd, vr, hk⟩ := r1.lstOf el a
          obtain ⟨ad2, us, e2, rd2, vr2, hk2⟩ := r1.lstOf el2 a'
          subst e1
          subst e2
          refine ⟨ad, ad2, ws, us, rfl, .inl rd, .inl rd2, h1 ρ1 H1 _ Ext.refl r1 rfl _ fun ρ2 S2 H2 p2 r2 hc => ?_⟩
          have hc := (Bool.and_eq_true _ _).mp hc
          obtain ⟨ws2, rda, vra⟩ := hk ρ2 S2 H2 p2 r2 hc.1
          obtain ⟨us2, rdb, vrb⟩ := hk2 ρ2 S2 H2 p2 r2 hc.2
          refine ⟨⟨ws2, us2, .inl rda, .inl rdb, by rw [← prd_len vra, ← prd_len vrb]; exact zipT_len xs ys⟩, fun i it hi => ?_⟩
          obtain ⟨x, y, hx, hy, ei⟩ := zipT_get xs ys i it hi
          subst ei
          obtain ⟨w, hw, rw1⟩ := prd_get vra hx
          obtain ⟨z, hz, rz⟩ := prd_get vrb hy
          refine ⟨⟨ws2, us2, w, z, .inl rda, .inl rdb, hw, hz⟩, fun q H3 hq => ?_⟩
          obtain ⟨p, x', y', ey, nT, eH, fx, fy⟩ := hq
          subst ey
          subst eH
          have h1 := fx ws2 (.inl rda)
          rw [hw] at h1
          cases h1
          have h2 := fy us2 (.inl rdb)
          rw [hz] at h2
          cases h2
          exact ⟨Ext.aside nT, r2.beside nT, p, _, rfl, upd_same, .cons rw1 (.cons rz .nil)⟩
        · exact h1.elim
  · exact h1.elim
theorem di_rev (hm : X.mg "reversed" = none) (ha : DA T X W [e] ms) (hg : Gl X "reversed" := by rfl) (hs : starEach [e] X.env = [(false, eval e X.env)] := by rfl) : DI T X W tg (.Call (.Name "reversed" p) [e] [] pos) (mRevs ms) := (pi_reversed hg hm ha hs).imp fun σ H R h => by
  obtain ⟨ρ, S, τ, r, l, h⟩ := h
  refine ⟨ρ, S, τ, r, l, Post.bind h fun ρ1 S1 H1 vs ws p1 r1 x1 h1 => ?_⟩
  split at h1
  · rename_i v
    cases x1 with
    | cons a b =>
      cases b
      cases el : Mi.lstOf S1 v with
      | none => rw [el] at h1; exact h1.elim
      | some q =>
        obtain ⟨xs, chk⟩ := q
        rw [el] at h1
        obtain ⟨ad, ws, e1, rd, vr, hk⟩ := r1.lstOf el a
        subst e1
        refine ⟨ad, ws, rfl, .inl rd, h1 ρ1 H1 _ Ext.refl r1 rfl _ (isIt_vals fun ρ2 S2 H2 p2 r2 hc => ?_)⟩
        obtain ⟨ws2, rd2, vr2⟩ := hk ρ2 S2 H2 p2 r2 hc
        have el : ws2.length = ws.length := by rw [← prd_len vr2, prd_len vr]
        refine ⟨ws2.reverse, prd_rev vr2, by show ws.length ≤ _; rw [List.length_reverse, el]; exact Nat.le_refl _, fun i w hw => ?_⟩
        have hi : i < ws2.length := by
          have := (List.getElem?_eq_some_iff.mp hw).1
          rw [List.length_reverse] at this
          exact this
        have hw' : ws2[ws.length - 1 - i]? = some w := by
          rw [List.getElem?_reverse hi] at hw
          rw [← el]
          exact hw
        refine ⟨⟨by rw [← el]; exact hi, ws2, w, .inl rd2, hw'⟩, fun x H3 hy => ⟨hy.1, ?_⟩⟩
        have := hy.2 ws2 (.inl rd2)
        rw [hw'] at this
        cases this
        rfl
  · exact h1.elim
end

/-! ### items, values of a locked dict -/
section
variable {T : Tab} {W : WX} {X : Cx} {tg e : Expr} {m : ME} {pos apos cpos : Pos}
def itemT : List (Key × V) → List Itv := fun kvs => kvs.map fun p => .t [kV p.1, p.2]
def mItems (m : ME) : St → Sto → R Src := fun σ S => (m σ S).bind fun v S1 => match v with
  | .ref i => match S1[i]? with
    | some (.lck (.dK kvs)) => .ok ⟨itemT kvs, fun S' => decide (S'[i]? = some (.lck (.dK kvs)))⟩ S1
    | _ => .bad
  | _ => .bad
def mVals (m : ME) : St → Sto → R Src := fun σ S => (m σ S).bind fun v S1 => match v with
  | .ref i => match S1[i]? with
    | some (.lck (.dK kvs)) => .ok ⟨(kvs.map (·.2)).map .v, fun S' => decide (S'[i]? = some (.lck (.dK kvs)))⟩ S1
    | _ => .bad
  | _ => .bad
theorem di_items {elts : List Expr} {kk : Nat} {tpos : Pos} (he : DE T X W e m) (hbase : attributeBase e "items" X.env (eval e X.env) = eval e X.env := by rfl) (hline : (apos.endLine == cpos.line) = true := by rfl) :
    DI T X W (.Tuple elts kk tpos) (.Call (.Attribute e "items" apos) [] [] cpos) (mItems m) := (pi_items he hbase hline).imp fun σ H R h => by
  obtain ⟨ρ, S, τ, r, l, h⟩ := h
  refine ⟨ρ, S, τ, r, l, Post.bind h fun ρ1 S1 H1 v w p1 r1 x1 h1 => ?_⟩
  split at h1
  · rename_i i
    split at h1
    · rename_i kvs es
      obtain ⟨a, u, e1, e2, eh, ob, u', eu, ws, eu', vr⟩ := r1.ref es x1
      subst eu
      subst eu'
      refine ⟨a, ob, ws, e1, eh, h1 ρ1 H1 _ Ext.refl r1 rfl _ fun ρ2 S2 H2 p2 r2 hc => ?_⟩
      have eh2 := p2.kp _ _ _ eh
      have vr2 := FR.mono vr p2.pre
      refine ⟨⟨eh2, by show ws.length ≤ (kvs.map _).length; rw [List.length_map, prd_len vr]; exact Nat.le_refl _⟩, fun j it hj => ?_⟩
      obtain ⟨x, hx, ex⟩ := map_get hj
      subst ex
      obtain ⟨q, hq, rq⟩ := prd_get vr2 hx
      refine ⟨⟨eh2, (List.getElem?_eq_some_iff.mp hq).1⟩, fun y H3 hy => ?_⟩
      obtain ⟨p, k, v, h1, ey, nT, eH⟩ := hy
      rw [hq] at h1
      cases h1
      subst ey
      subst eH
      exact ⟨Ext.aside nT, r2.beside nT, p, _, rfl, upd_same, .cons (by rw [rq.1]; exact kv_vr) (.cons rq.2 .nil)⟩
    · exact h1.elim
  · exact h1.elim
theorem di_vals (he : DE T X W e m) (hbase : attributeBase e "values" X.env (eval e X.env) = eval e X.env := by rfl) (hline : (apos.endLine == cpos.line) = true := by rfl) : DI T X W tg (.Call (.Attribute e "values" apos) [] [] cpos) (mVals m) := (pi_values he hbase hline).imp fun σ H R h => by
  obtain ⟨ρ, S, τ, r, l, h⟩ := h
  refine ⟨ρ, S, τ, r, l, Post.bind h fun ρ1 S1 H1 v w p1 r1 x1 h1 => ?_⟩
  split at h1
  · rename_i i
    split at h1
    · rename_i kvs es
      obtain ⟨a, u, e1, e2, eh, ob, u', eu, ws, eu', vr⟩ := r1.ref es x1
      subst eu
      subst eu'
      refine ⟨a, ob, ws, e1, eh, h1 ρ1 H1 _ Ext.refl r1 rfl _ (isIt_vals fun ρ2 S2 H2 p2 r2 hc => ?_)⟩
      have eh2 := p2.kp _ _ _ eh
      refine ⟨_, fr_vals (FR.mono vr p2.pre), ⟨eh2, by rw [List.length_map]; exact Nat.le_refl _⟩, fun j w hw => ?_⟩
      obtain ⟨q, hq, eq⟩ := map_get hw
      subst eq
      refine ⟨⟨eh2, (List.getElem?_eq_some_iff.mp hq).1⟩, fun x H3 hy => ⟨hy.1, ?_⟩⟩
      obtain ⟨k, h1⟩ := hy.2
      rw [hq] at h1
      cases h1
      rfl
    · exact h1.elim
  · exact h1.elim
end
end Mi

namespace Mi
open PySem PySem.Spec L2
open PyProof.Rows hiding St

/-! ### comprehensions -/
abbrev W0 : WX := fun _ _ _ _ => False
theorem Ctx.blk {X : Cx} {W : WX} {k : Nat} (C : Ctx X W k) {s : Shared} {H : Hp} {scope : Scope} {cenv : Env} {fp : List Addr} : Ctx (X.blk s H scope cenv fp) W0 k :=
  ⟨C.calm, C.nd, C.room, .inr fun _ _ _ _ h => h, PassesOwn.never⟩
def lcGo (n : Nat) (chk : Sto → Bool) (tg : Tg) (c : MT) (e : ME) (σ : St) : List Itv → Sto → Option Sto
  | [], S => if chk S = true then some S else none
  | it :: r, S => if chk S = true then (match tg it σ S with
    | some σ1 => (match c σ1 S with
      | .ok b S1 => if b = true then (match e σ1 S1 with
        | .ok v S2 => (match S2[n]? with
          | some (.lst acc) => if acc.length < sizeLine then lcGo n chk tg c e σ r (S2.set n (.lst (acc ++ [v]))) else none
          | _ => none)
        | _ => none) else lcGo n chk tg c e σ r S1
      | _ => none)
    | none => none) else none
def mLc (src : St → Sto → R Src) (own : List Nat) (tg : Tg) (c : MT) (e : ME) : ME := fun σ S => (src σ S).bind fun s S1 => match lcGo S1.length s.chk tg c e (wipe σ own) s.its (S1 ++ [.lst []]) with
  | some S2 => .ok (.ref S1.length) S2
  | none => .bad
def mYes : MT := fun _ S => .ok true S
theorem lr_wipe {ρ : List Addr} {τ σ : St} (l : LR ρ τ σ) : ∀ vs : List Nat, LR ρ (wipe τ vs) (wipe σ vs)
  | [] => l
  | v :: vs => prd_set (F := OR ρ) (x := none) (y := none) trivial v (lr_wipe l vs)
theorem wipe_get {σ : St} {j : Nat} : ∀ {vs : List Nat}, j ∉ vs → (wipe σ vs)[j]? = σ[j]?
  | [], _ => rfl
  | v :: vs, h => by
    show ((wipe σ vs).set v none)[j]? = _
    rw [List.getElem?_set_ne (fun z => h (by rw [z]; exact List.mem_cons_self)), wipe_get fun z => h (List.mem_cons_of_mem _ z)]
theorem wipe_in {σ : St} {j : Nat} : ∀ {vs : List Nat}, j ∈ vs → (wipe σ vs)[j]? = if j < σ.length then some none else none
  | [], h => by cases h
  | v :: vs, h => by
    show ((wipe σ vs).set v none)[j]? = _
    by_cases z : v = j
    · subst z
      rw [List.getElem?_set]
      simp [wipe_length]
    · rw [List.getElem?_set_ne z]
      rcases List.mem_cons.mp h with e | e
      · exact absurd e.symm z
      · exact wipe_in e
theorem bt_wipe {is own : List Nat} {σ σ2 : St} (h : Bt is (wipe σ own) σ2) (hs : ∀ i ∈ is, i ∈ own) : wipe σ2 own = wipe σ own := by
  apply List.ext_getElem?
  intro j
  by_cases z : j ∈ own
  · rw [wipe_in z, wipe_in z, h.1, wipe_length]
  · rw [wipe_get z, h.2 j (fun q => z (hs j q))]
section
variable {T : Tab} {W : WX} {X : Cx} {tg0 elt iter : Expr} {ifs : List Expr} {scope : Scope} {own : List (Str × Nat)} {is : List Nat} {src : St → Sto → R Src} {tg : Tg} {c : MT} {e : ME} {pos : Pos} {k : Nat}
abbrev DTs (T : Tab) (X : Cx) (ifs : List Expr) (m : MT) : Prop := PTs X ifs (den (gm T X) W0 BR m)
theorem dts_nil : DTs T X [] mYes := ⟨fun pins s σ H Q I h => pts_nil.run pins s σ H Q I (by
  obtain ⟨ρ, S, τ, r, l, h⟩ := h
  exact h ρ H true Ext.refl r rfl)⟩
theorem dts_one {e : Expr} (h : DT T X W0 e c) : DTs T X [e] c := pts_one h
theorem tLc_of {Q : VK} {σ : St} {H : Hp} {g : TG}
    (hq : TgOk (gm T X) g is tg)
    (his : ∀ i ∈ is, i ∈ own.map (·.2)) (h : den (gm T X) W VR (mLc src (own.map (·.2)) tg c e) σ H Q) :
    tLc (denI (gm T X) W src) g (den (gm T X) W0 BR c) (den (gm T X) W0 VR e) (own.map (·.2)) σ H Q := by
  obtain ⟨ρ, S, τ, r, l, h⟩ := h
  refine ⟨ρ, S, τ, r, l, Post.bind h fun ρ1 S1 H1 s b p1 r1 xb h1 => ?_⟩
  subst xb
  intro J hJ D nD
  cases eg : lcGo S1.length s.chk tg c e (wipe τ (own.map (·.2))) s.its (S1 ++ [.lst []]) with
  | none => rw [eg] at h1; exact h1.elim
  | some Sf =>
    rw [eg] at h1
    have r1' : Rep (gm T X) (ρ1 ++ [D]) (S1 ++ [.lst []]) (upd H1 D (.lst [])) := r1.alloc nD ⟨[], rfl, .nil⟩
    have eD : VR (ρ1 ++ [D]) (.ref S1.length) (.ref D) := new_ref r1.len
    refine ⟨fun i m H => m = s.its.length - i ∧ i ≤ s.its.length ∧ ∃ ρ S, Ext (ρ1 ++ [D]) (upd H1 D (.lst [])) ρ H ∧ Rep (gm T X) ρ S H ∧ lcGo S1.length s.chk tg c e (wipe τ (own.map (·.2))) (s.its.drop i) S = some Sf,
      ⟨_, rfl, Nat.zero_le _, _, _, Ext.refl, r1', eg⟩, fun i m H hW => ?_⟩
    obtain ⟨em, hi, ρ2, S2, p2, r2, e2⟩ := hW
    have pH : Ext ρ1 H1 ρ2 H := (Ext.new nD).trans p2
    by_cases z : i < s.its.length
    · rw [List.drop_eq_getElem_cons z] at e2
      unfold lcGo at e2
      split at e2
      · rename_i hc
        obtain ⟨hgo, hy⟩ := (hJ ρ2 S2 H pH r2 hc).2 i _ (List.getElem?_eq_getElem z)
        refine .inr ⟨hgo, fun H' => ∃ ρ S, Ext (ρ1 ++ [D]) (upd H1 D (.lst [])) ρ H' ∧ Rep (gm T X) ρ S H' ∧ lcGo S1.length s.chk tg c e (wipe τ (own.map (·.2))) (s.its.drop (i + 1)) S = some Sf, fun H' hN => ⟨s.its.length - (i + 1), by omega, rfl, z, hN⟩, fun x H3 hy3 => ?_⟩
        obtain ⟨p3, r3, x3⟩ := hy x H3 hy3
        split at e2
        · rename_i τ3 et
          refine hq ρ2 S2 H3 _ _ _ x τ3 _ r3 (lr_wipe (l.mono (p1.trans pH).pre) _) x3 et fun σ3 l3 b3 => ⟨bt_wipe b3 his, ?_⟩
          refine ⟨ρ2, S2, τ3, r3, l3, ?_⟩
          split at e2
          · rename_i bb S4 ec
            rw [ec]
            intro ρ4 H4 b4 p4 r4 x4
            cases x4
            split at e2
            · rename_i hb
              rw [if_pos hb]
              refine ⟨ρ4, S4, τ3, r4, l3.mono p4.pre, ?_⟩
              split at e2
              · rename_i v S5 ee
                rw [ee]
                intro ρ5 H5 w p5 r5 x5
                split at e2
                · rename_i acc ea
                  split at e2
                  · rename_i hz
                    have pp := ((p2.trans p3).trans p4).trans p5
                    obtain ⟨a, u, e1, e3, eh, ws, eu, vr⟩ := r5.ref ea (eD.mono pp.pre)
                    cases e1
                    subst eu
                    refine ⟨ws, eh, by rw [← prd_len vr]; exact hz, ρ5, _, pp.trans (Ext.put eh fun _ _ q => nomatch q), r5.write ea e3 (fun fs q => by rw [eh] at q; cases q) (o' := .lst (acc ++ [v])) ⟨_, rfl, prd_app vr (.cons x5 .nil)⟩, e2⟩
                  · cases e2
                · cases e2
              · cases e2
            · rename_i hb
              rw [if_neg hb]
              exact ⟨ρ4, S4, (p2.trans p3).trans p4, r4, e2⟩
          · cases e2
        · cases e2
      · cases e2
    · have ei : i = s.its.length := by omega
      rw [ei, List.drop_length] at e2
      unfold lcGo at e2
      split at e2
      · rename_i hc
        cases e2
        rw [ei]
        refine .inl ⟨(hJ ρ2 _ H pH r2 hc).1, ?_⟩
        exact h1 ρ2 H (.ref D) pH r2 (eD.mono p2.pre)
      · cases e2
theorem de_lc {g : TG} (C : Ctx X W k) (hi : DI T X W tg0 iter src) (ok : BlkOk X.N X.env.scope scope own)
    (hg : ∀ (s : Shared) (H : Hp) (cC : Addr) (cl : List (Str × Addr)) (fp : List Addr), PG (X.blk s H scope (compEnvC scope cl cC X.env) fp) tg0 g) (hq : TgOk (gm T X) g is tg) (his : ∀ i ∈ is, i ∈ own.map (·.2))
    (ht : ∀ (s : Shared) (H : Hp) (cC : Addr) (cl : List (Str × Addr)) (fp : List Addr), Ctx (X.blk s H scope (compEnvC scope cl cC X.env) fp) W0 k → DTs T (X.blk s H scope (compEnvC scope cl cC X.env) fp) ifs c)
    (he : ∀ (s : Shared) (H : Hp) (cC : Addr) (cl : List (Str × Addr)) (fp : List Addr), Ctx (X.blk s H scope (compEnvC scope cl cC X.env) fp) W0 k → DE T (X.blk s H scope (compEnvC scope cl cC X.env) fp) W0 elt e)
    (hs : ∀ x, foldedSetIterable iter X.env x = pure x := by intro _; rfl) : DE T X W (.ListComp elt [⟨tg0, iter, ifs, 0⟩] scope pos) (mLc src (own.map (·.2)) tg c e) :=
  (pe_lc C.calm C.nd hi ok hg (fun s H cC cl fp => ht s H cC cl fp C.blk) (fun s H cC cl fp => he s H cC cl fp C.blk) hs).imp fun σ H Q h => tLc_of hq his h
theorem ds_setLc {g : TG} {i : Nat} {y : Str} {py spos : Pos} (C : Ctx X W k) (hi : DI T X W tg0 iter src) (ok : BlkOk X.N X.env.scope scope own)
    (hg : ∀ (s : Shared) (H : Hp) (cC : Addr) (cl : List (Str × Addr)) (fp : List Addr), PG (X.blk s H scope (compEnvC scope cl cC X.env) fp) tg0 g) (hq : TgOk (gm T X) g is tg) (his : ∀ i ∈ is, i ∈ own.map (·.2))
    (ht : ∀ (s : Shared) (H : Hp) (cC : Addr) (cl : List (Str × Addr)) (fp : List Addr), Ctx (X.blk s H scope (compEnvC scope cl cC X.env) fp) W0 k → DTs T (X.blk s H scope (compEnvC scope cl cC X.env) fp) ifs c)
    (he : ∀ (s : Shared) (H : Hp) (cC : Addr) (cl : List (Str × Addr)) (fp : List Addr), Ctx (X.blk s H scope (compEnvC scope cl cC X.env) fp) W0 k → DE T (X.blk s H scope (compEnvC scope cl cC X.env) fp) W0 elt e)
    (hy : X.N[i]? = some y := by rfl) (hyl : X.env.scope.names.lookup y = some .local := by rfl)
    (hsw : swapsWith (.ListComp elt [⟨tg0, iter, ifs, 0⟩] scope pos) (some (.Name y py)) spos.line X.env = pure true := by exact sw_true rfl rfl rfl (by decide +kernel))
    (hs : ∀ x, foldedSetIterable iter X.env x = pure x := by intro _; rfl) : DS T X W (.Assign [.Name y py] (.ListComp elt [⟨tg0, iter, ifs, 0⟩] scope pos) spos) (mSet i (mLc src (own.map (·.2)) tg c e)) :=
  (ps_setLc C.calm C.nd hy hyl hsw hi ok hg (fun s H cC cl fp => ht s H cC cl fp C.blk) (fun s H cC cl fp => he s H cC cl fp C.blk) hs).imp fun D σ H h => by
    refine tLc_of (c := c) (e := e) hq his ?_
    obtain ⟨ρ, S, τ, r, l, h⟩ := h
    refine ⟨ρ, S, τ, r, l, PostS.lift h l fun ρ1 S1 H1 v w p1 r1 x1 l1 h1 => ?_⟩
    exact h1 ρ1 H1 _ Ext.refl r1 (lr_set l1 x1 i)
end

/-! ### a dict is locked while it is walked -/
def Wl (W : WX) (dd : Addr) (od : Obj) (u : HO) : WX := fun cls d σ H' => H' dd = some (.frz od u) ∧ W cls d σ (upd H' dd u)
theorem XE.unlock {X : Cx} {W : WX} {dd : Addr} {od : Obj} {u : HO} (hn : ∀ o' u', X.H_0 dd ≠ some (.frz o' u')) {v : Value} {s' : Shared} (x : XE X (Wl W dd od u) v s') : XE X W v s' := by
  obtain ⟨a, B, sI, pins, σ, H, cls, d, e, I, nb, up, sky, na, os, ag, hl, w⟩ := x
  exact ⟨a, B, sI, pins, σ, upd H dd u, cls, d, e, I.unlock hl hn, nb, up, sky, by rw [upd_ne (fun z => by rw [z, hl] at na; cases na)]; exact na, os, ag, w⟩
theorem Ctx.lock {X : Cx} {W : WX} {k : Nat} (C : Ctx X W k) {dd : Addr} {od : Obj} {u : HO} (hn : ∀ o' u', X.H_0 dd ≠ some (.frz o' u')) : Ctx X (Wl W dd od u) k :=
  ⟨C.calm, C.nd, C.room, C.tk.elim (fun h => .inl fun v s' x => h v s' (XE.unlock hn x)) (fun h => .inr fun c d σ H q => h _ _ _ _ q.2), C.own⟩
theorem CtS.lock {X : Cx} {W : WX} {k : Nat} (C : CtS X W k) {dd : Addr} {od : Obj} {u : HO} (hn : ∀ o' u', X.H_0 dd ≠ some (.frz o' u')) : CtS X (Wl W dd od u) k :=
  ⟨C.toCtx.lock hn, fun v s' x => C.takes v s' (XE.unlock hn x), C.stk, C.frm, C.ex⟩
/-- which object is locked -/
def pick (m : ME) : St → Sto → Option Nat := fun σ S => match m σ S with
  | .ok (.ref i) _ => some i
  | _ => none
def unl (i : Nat) (kvs : List (Key × V)) (S : Sto) : Option Sto := if S[i]? = some (.lck (.dK kvs)) then some (S.set i (.dK kvs)) else none
def unlS (i : Nat) (kvs : List (Key × V)) : RS → RS
  | .nx σ S => match unl i kvs S with
    | some S' => .nx σ S'
    | none => .bad
  | .rt v S => match unl i kvs S with
    | some S' => .rt v S'
    | none => .bad
  | .bk σ S => match unl i kvs S with
    | some S' => .bk σ S'
    | none => .bad
  | .ct σ S => match unl i kvs S with
    | some S' => .ct σ S'
    | none => .bad
  | .exc c d σ S => match unl i kvs S with
    | some S' => .exc c d σ S'
    | none => .bad
  | .bad => .bad
def mLock (p : St → Sto → Option Nat) (st : MS) : MS := fun σ S => match p σ S with
  | some i => (match S[i]? with
    | some (.dK kvs) => unlS i kvs (st σ (S.set i (.lck (.dK kvs))))
    | _ => st σ S)
  | none => st σ S
def unlR {α : Type} (i : Nat) (kvs : List (Key × V)) : R α → R α
  | .ok v S => match unl i kvs S with
    | some S' => .ok v S'
    | none => .bad
  | .exc c d S => match unl i kvs S with
    | some S' => .exc c d S'
    | none => .bad
  | .bad => .bad
def mLockE (p : St → Sto → Option Nat) (m : ME) : ME := fun σ S => match p σ S with
  | some i => (match S[i]? with
    | some (.dK kvs) => unlR i kvs (m σ (S.set i (.lck (.dK kvs))))
    | _ => m σ S)
  | none => m σ S
section
variable {T : Tab} {W : WX} {X : Cx} {k : Nat}
theorem unl_some {i : Nat} {kvs : List (Key × V)} {S S' : Sto} (h : unl i kvs S = some S') : S[i]? = some (.lck (.dK kvs)) ∧ S' = S.set i (.dK kvs) := by
  unfold unl at h
  split at h
  · rename_i h'
    cases h
    exact ⟨h', rfl⟩
  · cases h
/-- what the lock's end brings -/
theorem lock_end {G : Gm} {ρ ρ2 : List Addr} {H H2 : Hp} {i : Nat} {a : Addr} {od : Obj} {kvs ws : List (Key × V)} {S2 S3 : Sto} (hH : H a = some (.dK ws)) (vr : FR ρ kvs ws) (ea : ρ[i]? = some a) (p2 : Ext ρ (upd H a (.frz od (.dK ws))) ρ2 H2) (r2 : Rep G ρ2 S2 H2) (h : unl i kvs S2 = some S3) :
    H2 a = some (.frz od (.dK ws)) ∧ Ext ρ H ρ2 (upd H2 a (.dK ws)) ∧ Rep G ρ2 S3 (upd H2 a (.dK ws)) := by
  obtain ⟨e1, e2⟩ := unl_some h
  have h2 := p2.kp a od (.dK ws) upd_same
  have ea2 := pre_get p2.pre ea
  refine ⟨h2, ⟨p2.pre, fun b o u hb => ?_⟩, ?_⟩
  · have ne : b ≠ a := fun z => by rw [z, hH] at hb; cases hb
    rw [upd_ne ne]
    exact p2.kp b o u (by rw [upd_ne ne]; exact hb)
  · rw [e2]
    exact r2.write e1 ea2 (fun fs q => by rw [h2] at q; cases q) ⟨ws, rfl, FR.mono vr p2.pre⟩
theorem lock_start {G : Gm} {ρ : List Addr} {H : Hp} {S : Sto} {i : Nat} {a : Addr} {od : Obj} {kvs ws : List (Key × V)} (r : Rep G ρ S H) (es : S[i]? = some (.dK kvs)) (ea : ρ[i]? = some a) (hH : H a = some (.dK ws)) (vr : FR ρ kvs ws) :
    Rep G ρ (S.set i (.lck (.dK kvs))) (upd H a (.frz od (.dK ws))) := r.write es ea (fun fs q => by rw [hH] at q; cases q) ⟨od, _, rfl, ws, rfl, vr⟩
theorem ds_lock {st : Stmt} {ms : MS} {p : St → Sto → Option Nat} (C : CtS X W k) (h : ∀ W', CtS X W' k → DS T X W' st ms) : DS T X W st (mLock p ms) := by
  refine ⟨fun pins s σ H D I hw => ?_⟩
  obtain ⟨ρ, S, τ, r, l, hw⟩ := hw
  unfold mLock at hw
  split at hw
  · rename_i i _
    split at hw
    · rename_i kvs es
      obtain ⟨a, ea⟩ := r.addr es
      obtain ⟨u, eh, ws, eu, vr⟩ := r.at_ i _ a es ea
      subst eu
      have hn := I.nofrz eh trivial
      obtain ⟨od, I1⟩ := I.lock eh trivial
      refine thn ((h (Wl W a od (.dK ws)) (C.lock hn)).run pins s σ _ ⟨fun σ' H' => H' a = some (.frz od (.dK ws)) ∧ D.nx σ' (upd H' a (.dK ws)), fun v H' => H' a = some (.frz od (.dK ws)) ∧ D.rt v (upd H' a (.dK ws)), fun σ' H' => H' a = some (.frz od (.dK ws)) ∧ D.bk σ' (upd H' a (.dK ws)), fun σ' H' => H' a = some (.frz od (.dK ws)) ∧ D.ct σ' (upd H' a (.dK ws))⟩ I1 ?_) fun f s1 q => ?_
      · refine ⟨ρ, _, τ, lock_start r es ea eh vr, l, ?_⟩
        cases e : ms τ (S.set i (.lck (.dK kvs))) with
        | nx τ2 S2 =>
          rw [e] at hw
          intro ρ2 H2 σ2 p2 r2 l2
          dsimp only [unlS] at hw
          cases eu : unl i kvs S2 with
          | none => rw [eu] at hw; exact hw.elim
          | some S3 =>
            rw [eu] at hw
            obtain ⟨h2, p3, r3⟩ := lock_end eh vr ea p2 r2 eu
            exact ⟨h2, hw ρ2 _ σ2 p3 r3 l2⟩
        | rt v S2 =>
          rw [e] at hw
          intro ρ2 H2 w p2 r2 l2
          dsimp only [unlS] at hw
          cases eu : unl i kvs S2 with
          | none => rw [eu] at hw; exact hw.elim
          | some S3 =>
            rw [eu] at hw
            obtain ⟨h2, p3, r3⟩ := lock_end eh vr ea p2 r2 eu
            exact ⟨h2, hw ρ2 _ w p3 r3 l2⟩
        | bk τ2 S2 =>
          rw [e] at hw
          intro ρ2 H2 σ2 p2 r2 l2
          dsimp only [unlS] at hw
          cases eu : unl i kvs S2 with
          | none => rw [eu] at hw; exact hw.elim
          | some S3 =>
            rw [eu] at hw
            obtain ⟨h2, p3, r3⟩ := lock_end eh vr ea p2 r2 eu
            exact ⟨h2, hw ρ2 _ σ2 p3 r3 l2⟩
        | ct τ2 S2 =>
          rw [e] at hw
          intro ρ2 H2 σ2 p2 r2 l2
          dsimp only [unlS] at hw
          cases eu : unl i kvs S2 with
          | none => rw [eu] at hw; exact hw.elim
          | some S3 =>
            rw [eu] at hw
            obtain ⟨h2, p3, r3⟩ := lock_end eh vr ea p2 r2 eu
            exact ⟨h2, hw ρ2 _ σ2 p3 r3 l2⟩
        | exc c d τ2 S2 =>
          rw [e] at hw
          intro ρ2 H2 σ2 Cx dd p2 r2 l2 xc dr
          dsimp only [unlS] at hw
          cases eu : unl i kvs S2 with
          | none => rw [eu] at hw; exact hw.elim
          | some S3 =>
            rw [eu] at hw
            obtain ⟨h2, p3, r3⟩ := lock_end eh vr ea p2 r2 eu
            refine ⟨h2, hw ρ2 _ σ2 Cx dd p3 r3 l2 xc (dr.mono (List.prefix_refl _) fun b fs z => ?_)⟩
            rw [upd_ne (fun q => by rw [q, h2] at z; cases z)]
            exact z
        | bad => rw [e] at hw; exact hw.elim
      · cases f with
        | next => obtain ⟨σ', H', I2, e, q⟩ := q; exact ⟨σ', _, I2.unlock e hn, q⟩
        | brk => obtain ⟨σ', H', I2, e, q⟩ := q; exact ⟨σ', _, I2.unlock e hn, q⟩
        | cont => obtain ⟨σ', H', I2, e, q⟩ := q; exact ⟨σ', _, I2.unlock e hn, q⟩
        | ret v => obtain ⟨x, σ', H', I2, r, e, q⟩ := q; exact ⟨x, σ', _, I2.unlock e hn, r, q⟩
    · exact (h W C).run pins s σ H D I ⟨ρ, S, τ, r, l, hw⟩
  · exact (h W C).run pins s σ H D I ⟨ρ, S, τ, r, l, hw⟩
theorem de_lock {e : Expr} {m : ME} {p : St → Sto → Option Nat} (C : Ctx X W k) (h : ∀ W', Ctx X W' k → DE T X W' e m) : DE T X W e (mLockE p m) := by
  refine ⟨fun pins s σ H Q I hw => ?_⟩
  obtain ⟨ρ, S, τ, r, l, hw⟩ := hw
  unfold mLockE at hw
  split at hw
  · rename_i i _
    split at hw
    · rename_i kvs es
      obtain ⟨a, ea⟩ := r.addr es
      obtain ⟨u, eh, ws, eu, vr⟩ := r.at_ i _ a es ea
      subst eu
      have hn := I.nofrz eh trivial
      obtain ⟨od, I1⟩ := I.lock eh trivial
      refine thn ((h (Wl W a od (.dK ws)) (C.lock hn)).run pins s σ _ (fun v H' => H' a = some (.frz od (.dK ws)) ∧ Q v (upd H' a (.dK ws))) I1 ?_) fun v s1 q => ?_
      · refine ⟨ρ, _, τ, lock_start r es ea eh vr, l, ?_⟩
        cases e : m τ (S.set i (.lck (.dK kvs))) with
        | ok v S2 =>
          rw [e] at hw
          intro ρ2 H2 w p2 r2 l2
          dsimp only [unlR] at hw
          cases eu : unl i kvs S2 with
          | none => rw [eu] at hw; exact hw.elim
          | some S3 =>
            rw [eu] at hw
            obtain ⟨h2, p3, r3⟩ := lock_end eh vr ea p2 r2 eu
            exact ⟨h2, hw ρ2 _ w p3 r3 l2⟩
        | exc c d S2 =>
          rw [e] at hw
          intro ρ2 H2 Cx dd p2 r2 xc dr
          dsimp only [unlR] at hw
          cases eu : unl i kvs S2 with
          | none => rw [eu] at hw; exact hw.elim
          | some S3 =>
            rw [eu] at hw
            obtain ⟨h2, p3, r3⟩ := lock_end eh vr ea p2 r2 eu
            refine ⟨h2, hw ρ2 _ Cx dd p3 r3 xc (dr.mono (List.prefix_refl _) fun b fs z => ?_)⟩
            rw [upd_ne (fun q => by rw [q, h2] at z; cases z)]
            exact z
        | bad => rw [e] at hw; exact hw.elim
      · obtain ⟨x, H', I2, r, e, q⟩ := q
        exact ⟨x, _, I2.unlock e hn, r, q⟩
    · exact (h W C).run pins s σ H Q I ⟨ρ, S, τ, r, l, hw⟩
  · exact (h W C).run pins s σ H Q I ⟨ρ, S, τ, r, l, hw⟩
end

/-! ### raise -/
/-- the class of exceptions at the place c: without an own __init__ -/
def XcF (T : Tab) (K : PySem.W.Frag) (mg : Str → Option Value) (c : Nat) (x : Str) : Prop := T.xs[c]? = some x ∧ ∃ C, mg x = some (.ref C) ∧ PySem.W.excIn K C [.type "ValueError", .type "Exception", .type "BaseException", .type "object"] "ValueError.__new__" = true ∧
  PySem.W.keepIn K (.ref C) = true ∧ PySem.W.subIn K (.ref C) (.type "BaseException") = some true ∧ PySem.W.typeIn K (.ref C) = some (.type "type")
def mRaise (c : Nat) : MS := fun σ S => .exc c none σ S
section
variable {T : Tab} {W : WX} {X : Cx} {k : Nat} {pos p p2 pos' : Pos} {x m : Str}
theorem ds_raise {c : Nat} {j} (C : CtS X W k) (F : XcF T X.K X.mg c x) (hg : Gl X x := by rfl) (hdb : (x == ("__debug__" : Str)) = false := by decide) : DS T X W (.Raise (some (.Call (.Name x p) [.Constant (.str m) j p2] [] pos)) none pos') (mRaise c) := by
  obtain ⟨hx, Ca, gC, q, kC, sC, tC⟩ := F
  refine (ps_raise C.calm C.takes (pmk_own PySem.F.excBase_ValueError q gC kC (raises_own sC tC) hg hdb)).imp fun D σ H h => ?_
  obtain ⟨ρ, S, τ, r, l, h⟩ := h
  exact h ρ H σ Ca none Ext.refl r l ⟨x, hx, gC⟩ rfl
end

/-! ### a def keeps to its function -/
def fnOf (n : Nat) (m : MS) : Fn := fun args S => match m (args.map some ++ List.replicate (n - args.length) none) S with
  | .rt v S1 => .ok v S1
  | .nx _ S1 => .ok .non S1
  | .exc c d _ S1 => .exc c d S1
  | _ => .bad
theorem start_lr {ρ : List Addr} {args vs : List V} {N : List Str} (h : VsR ρ args vs) : LR ρ (args.map some ++ List.replicate (N.length - args.length) none) (L2.start N vs) := by
  unfold L2.start
  rw [← prd_len h]
  refine prd_app ?_ (prd_rep (F := OR ρ) (x := none) (y := none) trivial _)
  induction h with
  | nil => exact .nil
  | cons r t ih => exact .cons r ih
section
variable {T : Tab} {P : Program} {w : World} {K : PySem.W.Frag} {mg : Str → Option Value} {base : Heap}
theorem fnOk_of {x qual : Str} {st : Stmt} {a : Addr} {fd : FuncData} {N ps : List Str} {k nn np : Nat} {m : MS} (F : Fun K x qual st a fd) (Sc : FnScope N ps (defScope st)) (hN : N.length = nn) (hp : ps.length = np)
    (hbody : ∀ (X : Cx) (cdv : Value) (A : Around) (outer : List Env) (s : Shared) (H : Hp) (E : XK), X = cxOf (L2.CX P w) P w K mg base N qual (defScope st) a cdv A outer s H E → CtS X (fun cls d _ H => E cls d H) k → DSs T X (fun cls d _ H => E cls d H) (defBody st) m) :
    FnOk P w K mg base (L2.CX P w) (k + 1) a fd ps (spOf ⟨K, mg, T.cs, T.xs⟩ np (fnOf nn m)) := by
  refine F.okX Sc (fun vs H Q E h => by rw [hp]; exact h.1) (fun cdv A outer s H vs Q E hr h => ?_)
  obtain ⟨hl, ρ, S, args, σ, r, va, h⟩ := h
  have tk : Takes (cxOf (L2.CX P w) P w K mg base N qual (defScope st) a cdv A outer s H E) (fun cls d _ H => E cls d H) := takes_of rfl rfl rfl rfl
  refine ⟨_, hbody _ cdv A outer s H E rfl ⟨⟨rfl, Sc.nd, hr, .inl tk, passes_of rfl⟩, tk, rfl, rfl, rfl⟩, ρ, S, _, r, start_lr va, ?_⟩
  unfold fnOf at h
  rw [hN]
  cases e : m (args.map some ++ List.replicate (nn - args.length) none) S with
  | rt v S1 => rw [e] at h; exact h
  | nx τ S1 => rw [e] at h; exact fun ρ2 H2 σ2 p2 r2 l2 => h ρ2 H2 .non p2 r2 rfl
  | exc c d τ S1 => rw [e] at h; exact fun ρ2 H2 σ2 C dd p2 r2 l2 => h ρ2 H2 C dd p2 r2
  | bk τ S1 => rw [e] at h; exact h.elim
  | ct τ S1 => rw [e] at h; exact h.elim
  | bad => rw [e] at h; exact h.elim
end
end Mi

namespace Mi
open PySem PySem.Spec L2
open PyProof.Rows hiding St

instance mulDec (a b : Int) : Decidable (IntMulOk a b) := by unfold IntMulOk; infer_instance
/-- a divisor of the size that is looked at -/
def DivOk (j : Int) : Prop := 0 < j ∧ j < 2 ^ 256
instance (j : Int) : Decidable (DivOk j) := by unfold DivOk; infer_instance

/-! ### arithmetic, lists joined -/
def oAdd : V → V → Sto → R V := fun x y S => match x, y with
  | .int i, .int j => .ok (.int (i + j)) S
  | .str i, .str j => if i.length + j.length ≤ sizeLine then .ok (.str (i ++ j)) S else .bad
  | .ref i, .ref j => match rdL S (.ref i), rdL S (.ref j) with
    | some xs, some ys => if xs.length + ys.length ≤ sizeLine then .ok (.ref S.length) (S ++ [.lst (xs ++ ys)]) else .bad
    | _, _ => match rdT S (.ref i), rdT S (.ref j) with
      | some xs, some ys => if xs ≠ [] ∧ ys ≠ [] ∧ xs.length + ys.length ≤ sizeLine then .ok (.ref S.length) (S ++ [.tup (xs ++ ys)]) else .bad
      | _, _ => .bad
  | _, _ => .bad
def oSub : V → V → Sto → R V := fun x y S => match x, y with
  | .int i, .int j => .ok (.int (i - j)) S
  | _, _ => .bad
def oMul : V → V → Sto → R V := fun x y S => match x, y with
  | .int i, .int j => if IntMulOk i j then .ok (.int (i * j)) S else .bad
  | .ref i, .int k => match S[i]? with
    | some (.lst xs) => if -(2 ^ 63) ≤ k ∧ k < 2 ^ 63 ∧ xs.length * k.toNat ≤ sizeLine then .ok (.ref S.length) (S ++ [.lst (List.replicate k.toNat xs).flatten]) else .bad
    | _ => .bad
  | _, _ => .bad
def oDiv : V → V → Sto → R V := fun x y S => match x, y with
  | .int i, .int j => if DivOk j then .ok (.int (i / j)) S else .bad
  | _, _ => .bad
def oMod : V → V → Sto → R V := fun x y S => match x, y with
  | .int i, .int j => if 0 < j then .ok (.int (i % j)) S else .bad
  | _, _ => .bad
def oPow : V → V → Sto → R V := fun x y S => match x, y with
  | .int i, .int j => if 0 ≤ j ∧ j ≤ 1000000 ∧ i.natAbs < 2 ^ 64 then .ok (.int (i ^ j.toNat)) S else .bad
  | _, _ => .bad
def oNeg : V → Sto → R V := fun x S => match x with
  | .int i => .ok (.int (-i)) S
  | _ => .bad

section
variable {T : Tab} {X : Cx}
/-- an operation's rule at the values at hand -/
theorem opR_of {f : Value → Value → Sem Value} {o : V → V → Sto → R V}
    (h : ∀ (pins : List (Addr × Obj)) (s : Shared) (σ : St) (H : Hp) (x y : V) (v u : Value) (Q : VK) (ρ : List Addr) (S : Sto) (a b : V) (τ : St), Inv X pins σ H s → RelV x v → RelV y u → Rep (gm T X) ρ S H → VR ρ a x → VR ρ b y → Post (gm T X) W0 VR ρ H τ Q (o a b S) →
      wpAny (model X.prog X.w) X.A (f v u) (EP X pins σ Q) X.xe s) : OpR X f (denR (gm T X) o) := fun pins s σ H x y v u Q I rx ry ⟨ρ, S, a, b, τ, r, va, vb, q⟩ => h pins s σ H x y v u Q ρ S a b τ I rx ry r va vb q
theorem quiet_ite {c : Prop} [Decidable c] {α : Type} {r r' : R α} (h : r.quiet) (h' : r'.quiet) : (if c then r else r').quiet := by
  by_cases z : c
  · rw [if_pos z]; exact h
  · rw [if_neg z]; exact h'
theorem cat_any (pins : List (Addr × Obj)) (s : Shared) (σ : St) (H : Hp) (l b : Addr) (xs zs : List V) (Q : VK) (I : Inv X pins σ H s) (hl : SqL X.K H l xs) (hb : SqL X.K H b zs) (hz : xs.length + zs.length ≤ sizeLine)
    (q : ∀ p, H p = none → Q (.ref p) (upd H p (.lst (xs ++ zs)))) : wpAny (model X.prog X.w) X.A (binaryOp .Add (.ref l) (.ref b)) (EP X pins σ Q) X.xe s := by
  obtain ⟨its, r, ⟨⟨cls, dd, data, sl⟩, n, ho, hc, hd, hs⟩, _⟩ := I.list hl
  obtain ⟨its2, r2, ⟨⟨cls2, dd2, data2, sl2⟩, n2, ho2, hc2, hd2, hs2⟩, _⟩ := I.list hb
  have hl1 := r.length
  have hl2 := r2.length
  simp only at hc hd hs hc2 hd2 hs2
  subst hc hd hs hc2 hd2 hs2
  refine concat_meets ⟨_, ho, rfl⟩ ⟨_, ho2, rfl⟩ noFill_list_add seq_list_add PySem.F.slot_list_add PySem.F.entry_list_add (PySem.F.args_list_add_2 _ _) (list_addW l b its.toArray its2.toArray n n2 none none sl sl2 (by rw [List.size_toArray, List.size_toArray]; omega)) ⟨ho, ho2, ?_⟩
  rw [show its.toArray ++ its2.toArray = (its ++ its2).toArray by simp]
  exact ⟨.ref _, _, I.lnew (t' := s.toks) (r.append r2) (by rw [List.length_append]; omega), rfl, q _ I.fresh⟩
theorem op2_add : Op2 T X (binaryOp .Add) oAdd := by
  refine ⟨opR_of fun pins s σ H x y v u Q ρ S a b τ I rx ry r va vb h => ?_, fun x y S => ?_⟩
  · unfold oAdd at h
    split at h
    · cases va
      cases vb
      exact op_add pins s σ H _ _ v u Q I rx ry ⟨_, _, rfl, rfl, h ρ H _ Ext.refl r rfl⟩
    · cases va
      cases vb
      split at h
      · rename_i hz
        exact op_add_str pins s σ H _ _ v u Q I rx ry ⟨_, _, rfl, rfl, hz, h ρ H _ Ext.refl r rfl⟩
      · exact h.elim
    · rename_i i j
      split at h
      · rename_i xs ys e1 e2
        split at h
        · rename_i hz
          obtain ⟨a1, ws1, ew1, eh1, vr1⟩ := r.rdL e1 va
          obtain ⟨a2, ws2, ew2, eh2, vr2⟩ := r.rdL e2 vb
          subst ew1
          subst ew2
          cases rx
          cases ry
          refine cat_any pins s σ H a1 a2 ws1 ws2 Q I (.inl eh1) (.inl eh2) (by rw [← prd_len vr1, ← prd_len vr2]; exact hz) fun p np => ?_
          exact h _ _ _ (Ext.new np) (r.alloc np ⟨_, rfl, VsR.mono (prd_app vr1 vr2) (List.prefix_append _ _)⟩) (new_ref r.len)
        · exact h.elim
      · split at h
        · rename_i xs ys e1 e2
          split at h
          · rename_i hz
            obtain ⟨a1, ws1, ew1, eh1, vr1⟩ := r.rdT e1 va
            obtain ⟨a2, ws2, ew2, eh2, vr2⟩ := r.rdT e2 vb
            subst ew1
            subst ew2
            have ne : ∀ {xs ws : List V}, VsR ρ xs ws → xs ≠ [] → ws ≠ [] := fun t n q => by
              subst q
              cases t
              exact n rfl
            refine op_catT pins s σ H _ _ v u Q I rx ry ⟨a1, a2, ws1, ws2, rfl, rfl, .inl (.inl eh1), .inl (.inl eh2), ne vr1 hz.1, by rw [← prd_len vr1, ← prd_len vr2]; exact hz.2.2, fun q => absurd q (ne vr2 hz.2.1), fun _ p np => ?_⟩
            exact h _ _ _ (Ext.new np) (r.alloc np ⟨_, rfl, VsR.mono (prd_app vr1 vr2) (List.prefix_append _ _)⟩) (new_ref r.len)
          · exact h.elim
        · exact h.elim
    · exact h.elim
  · unfold oAdd
    repeat' split
    all_goals trivial
theorem op2_sub : Op2 T X (binaryOp .Sub) oSub := by
  refine ⟨opR_of fun pins s σ H x y v u Q ρ S a b τ I rx ry r va vb h => ?_, fun x y S => ?_⟩
  · unfold oSub at h
    split at h
    · cases va
      cases vb
      exact op_sub pins s σ H _ _ v u Q I rx ry ⟨_, _, rfl, rfl, h ρ H _ Ext.refl r rfl⟩
    · exact h.elim
  · unfold oSub
    repeat' split
    all_goals trivial
def oIAdd : V → V → Sto → R V := fun x y S => match x, y with
  | .int i, .int j => .ok (.int (i + j)) S
  | _, _ => .bad
theorem ip2_add : Op2 T X (inplaceOp .Add) oIAdd := by
  refine ⟨opR_of fun pins s σ H x y v u Q ρ S a b τ I rx ry r va vb h => ?_, fun x y S => ?_⟩
  · unfold oIAdd at h
    split at h
    · cases va
      cases vb
      exact iop_add pins s σ H _ _ v u Q I rx ry ⟨_, _, rfl, rfl, h ρ H _ Ext.refl r rfl⟩
    · exact h.elim
  · unfold oIAdd
    repeat' split
    all_goals trivial
theorem ip2_sub : Op2 T X (inplaceOp .Sub) oSub := by
  refine ⟨opR_of fun pins s σ H x y v u Q ρ S a b τ I rx ry r va vb h => ?_, fun x y S => ?_⟩
  · unfold oSub at h
    split at h
    · cases va
      cases vb
      exact iop_sub pins s σ H _ _ v u Q I rx ry ⟨_, _, rfl, rfl, h ρ H _ Ext.refl r rfl⟩
    · exact h.elim
  · unfold oSub
    repeat' split
    all_goals trivial
theorem op2_mul : Op2 T X (binaryOp .Mult) oMul := by
  refine ⟨opR_of fun pins s σ H x y v u Q ρ S a b τ I rx ry r va vb h => ?_, fun x y S => ?_⟩
  · unfold oMul at h
    split at h
    · cases va
      cases vb
      split at h
      · rename_i hz
        have om : OpR X (binaryOp .Mult) (rI IntMulOk fun i j => .int (i * j)) := opI fun _ _ _ _ _ _ _ hc q => mul_int q hc
        exact om pins s σ H _ _ v u Q I rx ry ⟨_, _, rfl, rfl, hz, h ρ H _ Ext.refl r rfl⟩
      · exact h.elim
    · cases vb
      split at h
      · rename_i xs e1
        split at h
        · rename_i hz
          obtain ⟨a1, u1, ew1, er1, eh1, ws1, eu1, vr1⟩ := r.ref e1 va
          subst ew1
          subst eu1
          refine op_rep pins s σ H _ _ v u Q I rx ry ⟨a1, _, ws1, rfl, rfl, eh1, hz.1, hz.2.1, by rw [← prd_len vr1]; exact hz.2.2, fun p np => ?_⟩
          refine h _ _ _ (Ext.new np) (r.alloc np ⟨_, rfl, VsR.mono ?_ (List.prefix_append _ _)⟩) (new_ref r.len)
          rename_i k _
          generalize k.toNat = n
          induction n with
          | zero => exact .nil
          | succ n ih => rw [List.replicate_succ, List.replicate_succ, List.flatten_cons, List.flatten_cons]; exact prd_app vr1 ih
        · exact h.elim
      · exact h.elim
    · exact h.elim
  · unfold oMul
    repeat' split
    all_goals trivial
theorem DivOk.wide {i j : Int} (h : DivOk j) : CDivW i j := by
  have : j.natAbs < 2 ^ 256 := by have := h.2; have := h.1; omega
  exact wide_div h.1 this (by decide) (by decide)
theorem op2_div : Op2 T X (binaryOp .FloorDiv) oDiv := by
  refine ⟨opR_of fun pins s σ H x y v u Q ρ S a b τ I rx ry r va vb h => ?_, fun x y S => ?_⟩
  · unfold oDiv at h
    split at h
    · cases va
      cases vb
      split at h
      · rename_i hz
        exact op_fdivW pins s σ H _ _ v u Q I rx ry ⟨_, _, rfl, rfl, hz.wide, h ρ H _ Ext.refl r rfl⟩
      · exact h.elim
    · exact h.elim
  · unfold oDiv
    repeat' split
    all_goals trivial
theorem op2_mod : Op2 T X (binaryOp .Mod) oMod := by
  refine ⟨opR_of fun pins s σ H x y v u Q ρ S a b τ I rx ry r va vb h => ?_, fun x y S => ?_⟩
  · unfold oMod at h
    split at h
    · cases va
      cases vb
      split at h
      · rename_i hz
        exact op_mod pins s σ H _ _ v u Q I rx ry ⟨_, _, rfl, rfl, hz, h ρ H _ Ext.refl r rfl⟩
      · exact h.elim
    · exact h.elim
  · unfold oMod
    repeat' split
    all_goals trivial
theorem op2_pow : Op2 T X (binaryOp .Pow) oPow := by
  refine ⟨opR_of fun pins s σ H x y v u Q ρ S a b τ I rx ry r va vb h => ?_, fun x y S => ?_⟩
  · unfold oPow at h
    split at h
    · cases va
      cases vb
      split at h
      · rename_i hz
        exact op_pow pins s σ H _ _ v u Q I rx ry ⟨_, _, rfl, rfl, hz, h ρ H _ Ext.refl r rfl⟩
      · exact h.elim
    · exact h.elim
  · unfold oPow
    repeat' split
    all_goals trivial
abbrev Op1 (T : Tab) (X : Cx) (f : Value → Sem Value) (o : V → Sto → R V) : Prop := UnR X f (denU (gm T X) o) ∧ ∀ x S, (o x S).quiet
theorem op1_neg : Op1 T X (unaryOp .USub) oNeg := by
  refine ⟨fun pins s σ H x v Q I rx h => ?_, fun x S => ?_⟩
  · obtain ⟨ρ, S, a, τ, r, va, h⟩ := h
    unfold oNeg at h
    split at h
    · cases va
      exact un_neg pins s σ H _ v Q I rx ⟨_, rfl, h ρ H _ Ext.refl r rfl⟩
    · exact h.elim
  · unfold oNeg
    split <;> trivial
theorem de_un {W : WX} {op : UnaryOp} {o : V → Sto → R V} {a : Expr} {ma : ME} {pos : Pos} (ho : Op1 T X (unaryOp op) o) (ha : DE T X W a ma) : DE T X W (.UnaryOp op a pos) (mUn o ma) := (pe_un ho.1 ha).imp fun σ H Q h => by
  obtain ⟨ρ, S, τ, r, l, h⟩ := h
  refine ⟨ρ, S, τ, r, l, Post.bind h fun ρ1 S1 H1 x w p1 r1 x1 h1 => ?_⟩
  exact ⟨ρ1, S1, x, σ, r1, x1, h1.still (ho.2 _ _)⟩

/-! ### order, is -/
def oCmp (p : Int → Int → Bool) : V → V → Sto → R V := fun x y S => match x, y with
  | .int i, .int j => .ok (.bl (p i j)) S
  | _, _ => .bad
theorem op2_cmp {f : Value → Value → Sem Value} {p : Int → Int → Bool} (h0 : OpR X f (rI0 fun i j => .bl (p i j))) : Op2 T X f (oCmp p) := by
  refine ⟨opR_of fun pins s σ H x y v u Q ρ S a b τ I rx ry r va vb h => ?_, fun x y S => ?_⟩
  · unfold oCmp at h
    split at h
    · cases va
      cases vb
      exact h0 pins s σ H _ _ v u Q I rx ry ⟨_, _, rfl, rfl, h ρ H _ Ext.refl r rfl⟩
    · exact h.elim
  · unfold oCmp
    repeat' split
    all_goals trivial
abbrev oLt := oCmp fun i j => decide (i < j)
abbrev oLe := oCmp fun i j => decide (i ≤ j)
abbrev oGt := oCmp fun i j => decide (j < i)
abbrev oGe := oCmp fun i j => decide (j ≤ i)
theorem op2_lt : Op2 T X (compareOp .Lt) oLt := op2_cmp op_lt
theorem op2_le : Op2 T X (compareOp .LtE) oLe := op2_cmp op_le
theorem op2_gt : Op2 T X (compareOp .Gt) oGt := op2_cmp op_gt
theorem op2_ge : Op2 T X (compareOp .GtE) oGe := op2_cmp op_ge
def isNon : V → Bool
  | .non => true
  | _ => false
def oIs : V → V → Sto → R V := fun x y S => match y with
  | .non => .ok (.bl (isNon x)) S
  | _ => .bad
def oIsN : V → V → Sto → R V := fun x y S => match y with
  | .non => .ok (.bl (!isNon x)) S
  | _ => .bad
theorem isNon_vr {ρ : List Addr} {v w : V} (h : VR ρ v w) : decide (w = .non) = isNon v := by
  cases v with
  | ref i => obtain ⟨a, _, e⟩ := h; subst e; rfl
  | _ => cases h; rfl
theorem op2_is : Op2 T X (compareOp .Is) oIs := by
  refine ⟨opR_of fun pins s σ H x y v u Q ρ S a b τ I rx ry r va vb h => ?_, fun x y S => ?_⟩
  · unfold oIs at h
    split at h
    · cases vb
      exact op_isN pins s σ H _ _ v u Q I rx ry ⟨rfl, h ρ H _ Ext.refl r (by rw [isNon_vr va]; rfl)⟩
    · exact h.elim
  · unfold oIs
    split <;> trivial
theorem op2_isN : Op2 T X (compareOp .IsNot) oIsN := by
  refine ⟨opR_of fun pins s σ H x y v u Q ρ S a b τ I rx ry r va vb h => ?_, fun x y S => ?_⟩
  · unfold oIsN at h
    split at h
    · cases vb
      exact op_notN pins s σ H _ _ v u Q I rx ry ⟨rfl, h ρ H _ Ext.refl r (by rw [isNon_vr va]; rfl)⟩
    · exact h.elim
  · unfold oIsN
    split <;> trivial

end
end Mi

namespace Mi
open PySem PySem.Spec L2
open PyProof.Rows hiding St

/-! ### an exception that was caught is an object of the store -/
section
variable {X : Cx} {pins : List (Addr × Obj)} {σ : St} {H : Hp} {s : Shared}
/-- an object that is not tracked is tracked from now on -/
theorem Inv.track {a : Addr} {u : HO} (I : Inv X pins σ H s) (na : H a = none) (n0 : X.s_0.heap.get? a = none) (nL : a ≠ X.env.locals) (hd : ∃ oe vs, s.heap.get? a = some oe ∧ oe.data = .fields vs)
    (hp : ∀ p ∈ X.pn ++ pins, p.1 ≠ a) (new : ObjOk X.prog X.w (upd H a u) s.heap a u) : Inv X pins σ (upd H a u) s := by
  have ne0 : ∀ b o, X.s_0.heap.get? b = some o → b ≠ a := fun b o e z => by rw [z, n0] at e; cases e
  have neT : ∀ b o, H b = some o → b ≠ a := fun b o e z => by rw [z, na] at e; cases e
  have neC : ∀ x c, X.env.cells.lookup x = some c → c ≠ a := fun x c e z => by
    obtain ⟨v, o, ho, hc⟩ := I.cell x c e
    obtain ⟨oe, vs, h1, h2⟩ := hd
    rw [z, h1] at ho
    cases ho
    rw [h2] at hc
    cases hc
  refine ⟨I.ok, I.os, I.bare, ⟨I.base.keep, I.base.slot, fun b o e n hx => ?_, I.base.there, fun b xs e => ?_, fun b o x e => ?_, fun b ps e => ?_⟩, I.loc, I.cell, ?_, fun x c e => ?_, fun p h => ?_, fun b o e => ?_, I.len⟩
  · rw [upd_ne (ne0 b o e)]; exact I.base.free b o e n hx
  · have q := I.base.tups b xs e
    rw [upd_ne (neT b _ q)]; exact q
  · have q := I.base.frzs b o x e
    rw [upd_ne (neT b _ q)]; exact q
  · obtain ⟨m, q⟩ := I.base.tbls b ps e
    exact ⟨m, by rw [upd_ne (neT b _ q)]; exact q⟩
  · rw [upd_ne (Ne.symm nL)]; exact I.free
  · rw [upd_ne (neC x c e)]; exact I.freeC x c e
  · obtain ⟨e, n, r⟩ := I.pin p h
    exact ⟨e, by rw [upd_ne (hp p h)]; exact n, r⟩
  · by_cases z : b = a
    · subst z
      rw [upd_same] at e
      cases e
      exact new
    · rw [upd_ne z] at e
      exact (I.hok b o e).stay (fun c v _ q => q) (fun c q => by rw [upd_ne (neT c _ q)]; exact q) fun c xs q => by rw [upd_ne (neT c _ q)]; exact q
end
section
variable {X : Cx} {pins : List (Addr × Obj)} {σ : St} {H : Hp} {s : Shared}
theorem Inv.hot (I : Inv X pins σ H s) {a : Addr} : Inv (X.suite a (X.pn ++ pins)) [] σ H s :=
  ⟨I.ok.suite _ _, I.os, I.bare, I.base, I.loc, I.cell, I.free, I.freeC, fun p hp => I.pin p (by rw [List.append_nil] at hp; exact hp), I.hok, I.len⟩
theorem Inv.cold {a : Addr} {pn' : List (Addr × Obj)} (I : Inv (X.suite a (X.pn ++ pins)) pn' σ H s) (ok : X.Ok) : Inv X pins σ H s :=
  ⟨ok, I.os, I.bare, I.base, I.loc, I.cell, I.free, I.freeC, fun p hp => I.pin p (List.mem_append_left _ hp), I.hok, I.len⟩
end
theorem exK_ok {P : Program} {w : World} {H : Hp} {h : Heap} {a C : Addr} {d : Option Addr} {oe : Obj} (e : h.get? a = some oe) (hc : oe.cls = .ref C) (hdd : oe.dict = d) (hf : ∃ vs, oe.data = .fields vs) : ObjOk P w H h a (ExK C d a) :=
  ⟨let ⟨vs, q⟩ := hf; ⟨oe, vs, e, hc, hdd, q⟩, ⟨oe, e⟩, fun _ _ ⟨o, v, q, r⟩ k => ⟨o, v, k o q, r⟩⟩

/-- the context of an except suite -/
abbrev Hot (X : Cx) (a : Addr) (pn : List (Addr × Obj)) : Cx := X.suite a pn
structure CtH (X : Cx) (k : Nat) : Prop where
  nd : X.N.Nodup
  dp : X.A.depth + 3 * k + 5 < recursionLimit
  un : X.A.units + 16 * k + 200 < cLine

/-- does the class of exceptions c fall under the clause's class -/
def XSub (T : Tab) (K : PySem.W.Frag) (mg : Str → Option Value) (cv : Value) (sub : Nat → Bool) : Prop := ∀ c x C, T.xs[c]? = some x → mg x = some (.ref C) → PySem.W.exmOne K (.ref C) cv = some (sub c)
/-- try: body / except K (as n): suite -/
def mTry (body : MS) (sub : Nat → Bool) (i : Option Nat) (suite : MS) : MS := fun σ S => match body σ S with
  | .exc c d σ1 S1 => if sub c = true then (match i with
    | some j => (match suite (σ1.set j (some (.ref S1.length))) (S1 ++ [.exc c d]) with
      | .nx σ2 S2 => .nx (σ2.set j none) S2
      | .rt v S2 => .rt v S2
      | .bk σ2 S2 => .bk (σ2.set j none) S2
      | .ct σ2 S2 => .ct (σ2.set j none) S2
      | _ => .bad)
    | none => (match suite σ1 S1 with
      | .exc _ _ _ _ => .bad
      | r => r)) else .exc c d σ1 S1
  | r => r
section
variable {T : Tab} {W : WX} {X : Cx} {k : Nat} {body suite : List Stmt} {b₀ : Stmt} {np pos pos' : Pos} {x n : Str} {cv : Value} {mb ms : MS} {sub : Nat → Bool} {i : Nat}
theorem CtS.tr (C : CtS X W k) {W' : WX} {pn : List (Addr × Obj)} {xe : Value → Shared → Prop} (tk : Takes (X.tr pn xe) W') (ow : PassesOwn (model X.prog X.w) X.A X.env xe) : CtS (X.tr pn xe) W' k :=
  ⟨⟨C.calm, C.nd, C.room, .inl tk, ow⟩, tk, C.stk, C.frm, C.ex⟩
/-- except K as n -/
theorem ds_tryAs (C : CtS X W k) (hc : Names X x cv) (hs : XSub T X.K X.mg cv sub) (hb : ∀ (pn : List (Addr × Obj)) (xe : Value → Shared → Prop) (W' : WX), CtS (X.tr pn xe) W' k → DSs T (X.tr pn xe) W' body mb)
    (hsu : ∀ (a : Addr) (pn : List (Addr × Obj)), CtH (X.suite a pn) k → DSs T (X.suite a pn) W0 (b₀ :: suite) ms) (hi : X.N[i]? = some n := by rfl) (hln : X.env.kindOf n = some .local := by rfl) :
    DS T X W (.Try body [.ExceptHandler (some (.Name x np)) (some n) (b₀ :: suite) pos'] [] [] pos) (mTry mb sub (some i) ms) := by
  refine ⟨fun pins s σ H D I h => ?_⟩
  have ok := I.ok
  have hfr : X.A.frames = some (X.env :: X.outer) := by rw [ok.frames, C.stk]
  have hloc : Loc X.env.scope n := .inl hln
  obtain ⟨ρ, S, τ, r, l, h⟩ := h
  refine wpAny_Try_except ?_
  -- what is wished of the body's exceptions
  let W' : WX := fun cls d σ1 H1 => ∃ b, PySem.W.exmOne X.K cls cv = some b ∧ (b = true → ∃ ρ1 S1 τ1 c dd C0, Ext ρ H ρ1 H1 ∧ Rep (gm T X) ρ1 S1 H1 ∧ LR ρ1 τ1 σ1 ∧ cls = .ref C0 ∧ (gm T X).xcls c C0 ∧ DR ρ1 H1 dd d ∧
      PostS (gm T X) W0 ρ1 H1 ⟨fun σ' H' => D.nx (σ'.set i none) H', D.rt, fun σ' H' => D.bk (σ'.set i none) H', fun σ' H' => D.ct (σ'.set i none) H'⟩ (ms (τ1.set i (some (.ref S1.length))) (S1 ++ [.exc c dd]))) ∧ (b = false → W cls d σ1 H1)
  refine wpAny_mono ((hb (X.pn ++ pins) (fun e s₁ => wpAny (model X.prog X.w) X.A (noteFrame e X.env) (fun _ s₂ => wpAny (model X.prog X.w) X.A (setFlight e none) (fun _ s₃ =>
    wpAny (model X.prog X.w) X.A (handleBy e X.env [.ExceptHandler (some (.Name x np)) (some n) (b₀ :: suite) pos']) (SP X pins D) X.xe s₃) X.xe s₂) X.xe s₁) W' (C.tr (fun u s' xx => ?_) PassesOwn.looking)).run [] s σ H D (I.toTry _) ⟨ρ, S, τ, r, l, ?_⟩) (fun f s1 hsp => ?_) (fun e s1 he => he)
  · -- the catch
    obtain ⟨a, B, sI, pins', σ', H', cls, d, rfl, J', nb, up, sky, na, os, ag, b, hb1, hyes, hno⟩ := xx
    have J : Inv X pins σ' H' sI := J'.ofTry ok
    have sky' : Sky B (X.env :: X.outer) a (Zc cls d) X.env.locals s'.heap := by rw [← C.stk]; exact sky
    show wpAny (model X.prog X.w) X.A (noteFrame (.ref a) X.env) _ _ _
    refine Sky.land Zc.steady hfr C.frm sky' fun h3 fl3 up3 => ?_
    have J3 : Inv X pins σ' H' { s' with heap := h3 } := J.landed nb fl3.1 (up.trans up3) os ag
    obtain ⟨oe3, vs3, he3, hz3, hd3⟩ := fl3.there
    have notFr : ∀ {h : Heap} {o : Obj} {vs : Array Value}, h.FunFrames B (X.env :: X.outer) → h.get? a = some o → o.data = .fields vs → a ∉ frs (X.env :: X.outer) := fun {h o vs} ff e dd hm => by
      obtain ⟨_, o', e', hnf⟩ := ff.mem hm
      rw [e] at e'; cases e'
      exact hnf _ dd
    have nfr := notFr fl3.2.2.1 he3 hd3
    have nL : a ≠ X.env.locals := fun z => nfr (List.mem_filterMap.mpr ⟨X.env, List.mem_cons_self, by rw [C.frm, z]⟩)
    have nF : a ∉ X.fs := fun hm => by
      obtain ⟨e, he, q⟩ := List.mem_filterMap.mp hm
      exact nfr (List.mem_filterMap.mpr ⟨e, List.mem_cons_of_mem _ he, q⟩)
    have S3 := J3.suite he3 hd3 na nL nF
    refine wpAny_handleBy_cons (codeAny_handlers_test ?_) (by intro q; cases q)
    have LT : PySem.W.Looks (model X.prog X.w) h3 (typeOf (.ref a)) cls := fun A Q E s k q => wpAny_typeOf_ref (k _ _ he3) (by rw [hz3.1]; exact q)
    have LM := PySem.W.exm_one (M := model X.prog X.w) (J3.kIn) LT hb1
    have test : ∀ {Q : Value → Shared → Prop} {E : Value → Shared → Prop}, Q cv { s' with heap := h3 } → wpAny (model X.prog X.w) (X.A.mark (some (.ref a))) (eval (.Name x np) X.env) Q E { s' with heap := h3 } := fun {Q E} q => by
      obtain ⟨hg, hdbg, hm | ⟨hm, hv, hnn⟩⟩ := hc
      · exact ld_glob (X := X.suite a ((a, oe3) :: (X.pn ++ pins))) S3 hg hm q hdbg
      · exact ld_blt (X := X.suite a ((a, oe3) :: (X.pn ++ pins))) S3 hg hm hv q hnn hdbg
    refine test (LM.here ?_)
    cases b with
    | true =>
      refine codeAny_handlers_suite_as ?_
      refine HandSPX.lands_againZ fl3 fun h4 fl4 up4 => ?_
      have J4 : Inv X pins σ' H' { s' with heap := h4 } := J.landed nb fl4.1 ((up.trans up3).trans up4) os ag
      obtain ⟨oe4, vs4, he4, hz4, hd4⟩ := fl4.there
      obtain ⟨ρ1, S1, τ1, c, dd, C0, p1, r1, l1, ec, xc, dr, hw⟩ := hyes rfl
      -- the exception is new
      have naB : B.get? a = none := fl4.2.1
      have nsI : sI.heap.get? a = none := by
        cases q : sI.heap.get? a with
        | none => rfl
        | some o =>
          have := nb a o q (by rw [C.stk]; exact nfr)
          rw [naB] at this
          cases this
      have n0 : X.s_0.heap.get? a = none := by
        cases q : X.s_0.heap.get? a with
        | none => rfl
        | some o =>
          obtain ⟨o', e'⟩ := J.base.there a o q (by rw [C.ex]; exact fun z => nomatch z)
          rw [nsI] at e'
          cases e'
      subst ec
      have T4 : Inv (X.suite a (X.pn ++ pins)) [] σ' H' { s' with heap := h4 } := Inv.hot J4
      have new := exK_ok (P := X.prog) (w := X.w) (H := upd H' a (ExK C0 d a)) he4 hz4.1 hz4.2 ⟨_, hd4⟩
      have T5 := Inv.track (u := ExK C0 d a) T4 na n0 nL ⟨_, _, he4, hd4⟩ (fun p hp z => by
        rw [List.append_nil] at hp
        have q := (J.pin p hp).1
        rw [z, nsI] at q
        cases q) new
      have r2 : Rep (gm T X) (ρ1 ++ [a]) (S1 ++ [.exc c dd]) (upd H' a (ExK C0 d a)) := r1.alloc na ⟨C0, d, xc, rfl, dr.mono (List.prefix_append _ _) fun b fs z => by rw [upd_ne (ne_of_none z na)]; exact z⟩
      refine store_ok (X := X.suite a (X.pn ++ pins)) (v := .ref a) T5 C.nd hi hloc rfl (fun s5 S5 => ?_) (.inr hln)
      have CH : CtH (X.suite a (X.pn ++ pins)) k := ⟨C.nd, by have := C.room.dp; exact this, by have := C.room.un; exact this⟩
      refine wpAny_mono ((hsu a (X.pn ++ pins) CH).run [] s5 _ _ ⟨fun σ' H' => D.nx (σ'.set i none) H', D.rt, fun σ' H' => D.bk (σ'.set i none) H', fun σ' H' => D.ct (σ'.set i none) H'⟩ S5
        ⟨_, _, _, r2, lr_set (LR.mono l1 (List.prefix_append _ _)) (new_ref r1.len) i, PostS.mono hw (Ext.new na)⟩) (fun f s6 hsp => ?_) (fun _ _ z => False.elim z)
      have end_ : ∀ {σ6 : St} {H6 : Hp} {Q : Shared → Prop}, Inv (X.suite a (X.pn ++ pins)) [] σ6 H6 s6 → (∀ s7, Inv X pins (σ6.set i none) H6 s7 → Q s7) →
          wpAny (model X.prog X.w) X.A (do bindName X.env n .none; unbindBehindTheSuite X.env n pos') (fun _ s7 => Q s7) X.xe s6 := fun {σ6 H6 Q} S6 hq => gone_ok (Inv.cold S6 ok) C.nd hi hln hq
      cases f with
      | next =>
        obtain ⟨σ6, H6, S6, q6⟩ := hsp
        exact end_ S6 fun s7 J7 => ⟨_, _, J7, q6⟩
      | brk =>
        obtain ⟨σ6, H6, S6, q6⟩ := hsp
        exact end_ S6 fun s7 J7 => ⟨_, _, J7, q6⟩
      | cont =>
        obtain ⟨σ6, H6, S6, q6⟩ := hsp
        exact end_ S6 fun s7 J7 => ⟨_, _, J7, q6⟩
      | ret u =>
        obtain ⟨v6, σ6, H6, S6, r6, q6⟩ := hsp
        exact end_ S6 fun s7 J7 => ⟨_, _, _, J7, r6, q6⟩
    | false =>
      show wpAny _ X.A (handleBy (.ref a) X.env []) _ _ _
      refine wpAny_handleBy_nil ?_
      obtain ⟨k1, k2, k3, oe, vs, T, oT, ts', he, hz, hd, h1, hr⟩ := id fl3
      unfold PySem.passOn
      refine wpAny_bind (wpAny_field he hd h1 ?_)
      rw [if_neg (show ¬ ((Value.ref T == Value.none) = true) from by simp)]
      have fin : wpAny (model X.prog X.w) X.A (setFlight (.ref a) X.env.frame) (fun _ s4 => wpAny (model X.prog X.w) X.A (throw (.ref a) : Sem Flow) (SP X pins D) X.xe s4) X.xe { s' with heap := h3 } := by
        rw [C.frm]
        refine HandSPX.setFlight_upZ fl3 fun h4 hh4 up4 => wpAny_throw (C.takes _ _ ?_)
        exact ⟨a, B, sI, pins, σ', H', cls, d, rfl, J, nb, (up.trans up3).trans up4, .inr (.inr (by rw [C.stk]; exact hh4)), na, os, ag, hno rfl⟩
      first
        | exact wpAny_bind (wpAny_pure (wpAny_bind fin))
        | exact wpAny_bind fin
  · -- the body's own ends
    unfold mTry at h
    cases e : mb τ S with
    | nx τ1 S1 => rw [e] at h; exact h
    | rt v S1 => rw [e] at h; exact h
    | bk τ1 S1 => rw [e] at h; exact h
    | ct τ1 S1 => rw [e] at h; exact h
    | bad => rw [e] at h; exact h.elim
    | exc c d τ1 S1 =>
      rw [e] at h
      intro ρ1 H1 σ1 C0 dd p1 r1 l1 xc dr
      obtain ⟨y, hy, gy⟩ := id xc
      refine ⟨sub c, hs c y C0 hy gy, fun hsb => ⟨ρ1, S1, τ1, c, d, C0, p1, r1, l1, rfl, xc, dr, ?_⟩, fun hsb => ?_⟩
      · have h : PostS (gm T X) W ρ H D (if sub c = true then (match ms (τ1.set i (some (.ref S1.length))) (S1 ++ [.exc c d]) with
          | .nx σ2 S2 => .nx (σ2.set i none) S2
          | .rt v S2 => .rt v S2
          | .bk σ2 S2 => .bk (σ2.set i none) S2
          | .ct σ2 S2 => .ct (σ2.set i none) S2
          | _ => .bad) else .exc c d τ1 S1) := h
        rw [if_pos hsb] at h
        have ls : ∀ {ρ2 : List Addr} {τ2 σ2 : St}, LR ρ2 τ2 σ2 → LR ρ2 (τ2.set i none) (σ2.set i none) := fun l => prd_set (F := OR _) (x := none) (y := none) trivial i l
        cases e2 : ms (τ1.set i (some (.ref S1.length))) (S1 ++ [.exc c d]) with
        | nx τ2 S2 => rw [e2] at h; exact fun ρ2 H2 σ2 p2 r2 l2 => h ρ2 H2 _ (p1.trans p2) r2 (ls l2)
        | bk τ2 S2 => rw [e2] at h; exact fun ρ2 H2 σ2 p2 r2 l2 => h ρ2 H2 _ (p1.trans p2) r2 (ls l2)
        | ct τ2 S2 => rw [e2] at h; exact fun ρ2 H2 σ2 p2 r2 l2 => h ρ2 H2 _ (p1.trans p2) r2 (ls l2)
        | rt v S2 => rw [e2] at h; exact fun ρ2 H2 w p2 r2 l2 => h ρ2 H2 _ (p1.trans p2) r2 l2
        | exc _ _ _ _ => rw [e2] at h; exact h.elim
        | bad => rw [e2] at h; exact h.elim
      · have h : PostS (gm T X) W ρ H D (if sub c = true then (match ms (τ1.set i (some (.ref S1.length))) (S1 ++ [.exc c d]) with
          | .nx σ2 S2 => .nx (σ2.set i none) S2
          | .rt v S2 => .rt v S2
          | .bk σ2 S2 => .bk (σ2.set i none) S2
          | .ct σ2 S2 => .ct (σ2.set i none) S2
          | _ => .bad) else .exc c d τ1 S1) := h
        rw [if_neg (by rw [hsb]; exact Bool.false_ne_true)] at h
        exact h ρ1 H1 σ1 C0 dd p1 r1 l1 xc dr
  · cases f with
    | next =>
      obtain ⟨σ', H', J', q⟩ := hsp
      exact wpAny_execs_nil ⟨σ', H', J'.ofTry ok, q⟩
    | brk =>
      obtain ⟨σ', H', J', q⟩ := hsp
      exact ⟨σ', H', J'.ofTry ok, q⟩
    | cont =>
      obtain ⟨σ', H', J', q⟩ := hsp
      exact ⟨σ', H', J'.ofTry ok, q⟩
    | ret u =>
      obtain ⟨v, σ', H', J', r, q⟩ := hsp
      exact ⟨v, σ', H', J'.ofTry ok, r, q⟩
/-- except K: without a name -/
theorem ds_try (C : CtS X W k) (hc : Names X x cv) (hs : XSub T X.K X.mg cv sub) (hb : ∀ (pn : List (Addr × Obj)) (xe : Value → Shared → Prop) (W' : WX), CtS (X.tr pn xe) W' k → DSs T (X.tr pn xe) W' body mb)
    (hsu : ∀ (a : Addr) (pn : List (Addr × Obj)), CtH (X.suite a pn) k → DSs T (X.suite a pn) W0 (b₀ :: suite) ms) :
    DS T X W (.Try body [.ExceptHandler (some (.Name x np)) none (b₀ :: suite) pos'] [] [] pos) (mTry mb sub none ms) := by
  refine (ps_try_only (tb := fun W' => denS (gm T X) W' mb) (ts := fun a cls d D σ H => denS (gm T X) W0 ms D σ H) C.stk C.frm hc C.takes
    (fun W' pn xe tk ow => hb pn xe W' (C.tr tk ow)) (fun a oe cls d pn hz hf => hsu a _ ⟨C.nd, C.room.dp, C.room.un⟩)).imp fun D σ H h => ?_
  obtain ⟨ρ, S, τ, r, l, h⟩ := h
  refine ⟨ρ, S, τ, r, l, ?_⟩
  unfold mTry at h
  cases e : mb τ S with
  | nx τ1 S1 => rw [e] at h; exact h
  | rt v S1 => rw [e] at h; exact h
  | bk τ1 S1 => rw [e] at h; exact h
  | ct τ1 S1 => rw [e] at h; exact h
  | bad => rw [e] at h; exact h.elim
  | exc c d τ1 S1 =>
    rw [e] at h
    intro ρ1 H1 σ1 C0 dd p1 r1 l1 xc dr
    obtain ⟨y, hy, gy⟩ := id xc
    have h : PostS (gm T X) W ρ H D (if sub c = true then (match ms τ1 S1 with
      | .exc _ _ _ _ => .bad
      | r => r) else .exc c d τ1 S1) := h
    refine ⟨sub c, hs c y C0 hy gy, fun hsb a na => ⟨ρ1, S1, τ1, r1, l1, ?_⟩, fun hsb => ?_⟩
    · rw [if_pos hsb] at h
      have h := PostS.mono h p1
      cases e2 : ms τ1 S1 with
      | nx τ2 S2 => rw [e2] at h; exact h
      | bk τ2 S2 => rw [e2] at h; exact h
      | ct τ2 S2 => rw [e2] at h; exact h
      | rt v S2 => rw [e2] at h; exact h
      | exc _ _ _ _ => rw [e2] at h; exact h.elim
      | bad => rw [e2] at h; exact h.elim
    · rw [if_neg (by rw [hsb]; exact Bool.false_ne_true)] at h
      exact h ρ1 H1 σ1 C0 dd p1 r1 l1 xc dr
end
end Mi

namespace Mi
open PySem PySem.Spec L2
open PyProof.Rows hiding St

/-! ### isinstance: by what a value is -/
inductive Tag where
  | non | bl | int | str | lst | tup | dct | exc (c : Nat) | ins (c : Nat)
  deriving DecidableEq
def tagOf (S : Sto) : V → Option Tag
  | .non => some .non
  | .bl _ => some .bl
  | .int _ => some .int
  | .str _ => some .str
  | .ref i => match S[i]? with
    | some (.lst _) => some .lst
    | some (.lck (.lst _)) => some .lst
    | some (.tup _) => some .tup
    | some (.dK _) => some .dct
    | some (.lck (.dK _)) => some .dct
    | some (.exc c none) => some (.exc c)
    | some (.ins c _) => some (.ins c)
    | _ => none
  | _ => none
def lookT : List (Tag × Bool) → Tag → Option Bool
  | [], _ => none
  | (t, b) :: r, u => if t = u then some b else lookT r u
def mIsi (tab : List (Tag × Bool)) (a : ME) : ME := fun σ S => (a σ S).bind fun v S1 => match tagOf S1 v with
  | some t => match lookT tab t with
    | some b => .ok (.bl b) S1
    | none => .bad
  | none => .bad
/-- what a tag's class is to the machine -/
def TagV (T : Tab) (K : PySem.W.Frag) (mg : Str → Option Value) : Tag → Value → Prop
  | .non, t => t = .type "NoneType"
  | .bl, t => t = .type "bool"
  | .int, t => t = .type "int"
  | .str, t => t = .type "str"
  | .lst, t => t = .type "list"
  | .tup, t => t = .type "tuple"
  | .dct, t => t = .type "dict"
  | .exc c, t => ∃ x C, T.xs[c]? = some x ∧ mg x = some (.ref C) ∧ t = .ref C ∧ ExcC K C
  | .ins c, t => ∃ x L C, T.cs[c]? = some (x, L) ∧ mg x = some (.ref C) ∧ t = .ref C ∧ Cls K C ∧ PySem.W.findIn K (.ref C) "__class__" = some (some (.builtin "object.__class__")) ∧
      PySem.W.specialIn K (.builtin "object.__class__") "__get__" = some (some (.builtin "getset_descriptor.__get__")) ∧ PySem.W.takesIn K (.builtin "object.__class__") = some true ∧ PySem.W.mroIn K C (.type "object") = some true
/-- the table tells what the machine's look at the classes cs tells -/
def ITab (T : Tab) (K : PySem.W.Frag) (mg : Str → Option Value) (cs : List Value) : List (Tag × Bool) → Prop
  | [] => True
  | (t, b) :: r => (∃ u, TagV T K mg t u ∧ PySem.W.kitAny K u cs = some b) ∧ ITab T K mg cs r
section
variable {T : Tab} {W : WX} {X : Cx} {pins : List (Addr × Obj)} {σ : St} {H : Hp} {s : Shared} {k : Nat}
theorem ITab.get {cs : List Value} : ∀ {tab : List (Tag × Bool)} {t : Tag} {b : Bool}, ITab T X.K X.mg cs tab → lookT tab t = some b → ∃ u, TagV T X.K X.mg t u ∧ PySem.W.kitAny X.K u cs = some b
  | [], _, _, _, e => by cases e
  | (d, g) :: r, t, b, h, e => by
    unfold lookT at e
    by_cases z : d = t
    · rw [if_pos z] at e
      cases e
      rw [← z]
      exact h.1
    · rw [if_neg z] at e
      exact ITab.get h.2 e
theorem exK_inst {a C : Addr} {d : Option Addr} (I : Inv X pins σ H s) (h : H a = some (ExK C d a)) : ∃ oe vs, s.heap.get? a = some oe ∧ oe.cls = .ref C ∧ oe.dict = d ∧ oe.data = .fields vs := by
  obtain ⟨⟨oe, vs, h1, h2, h3, h4⟩, _⟩ := (show ObjOk X.prog X.w H s.heap a (ExK C d a) from I.hok a _ h)
  exact ⟨oe, vs, h1, h2, h3, h4⟩
theorem kit_tag {ρ : List Addr} {S : Sto} {v w : V} {u t : Value} {g : Tag} (I : Inv X pins σ H s) (r : Rep (gm T X) ρ S H) (x : VR ρ v w) (rw' : RelV w u) (e : tagOf S v = some g) (ht : TagV T X.K X.mg g t) :
    ∃ P : Heap → Prop, PySem.W.KitX X.K u t P ∧ P s.heap ∧ u ≠ .builtin "__main__.__loader__#opaque" := by
  unfold tagOf at e
  split at e
  · cases e; cases x; cases ht; exact kit_of I rw' (.base .non)
  · cases e; cases x; cases ht; exact kit_of I rw' (.base (.bl _))
  · cases e; cases x; cases ht; exact kit_of I rw' (.base (.int _))
  · cases e; cases x; cases ht; exact kit_of I rw' (.base (.str _))
  · rename_i i
    split at e
    · rename_i es; cases e; cases ht
      obtain ⟨a, u', ew, er, eh, ws, eu, vr⟩ := r.ref es x
      subst ew; subst eu
      exact kit_of I rw' (.base (.lst eh))
    · rename_i es; cases e; cases ht
      obtain ⟨a, u', ew, er, eh, ob, u2, eu, ws, eu2, vr⟩ := r.ref es x
      subst ew; subst eu; subst eu2
      exact kit_of I rw' (.base (.frz eh))
    · rename_i es; cases e; cases ht
      obtain ⟨a, u', ew, er, eh, ws, eu, vr⟩ := r.ref es x
      subst ew; subst eu
      exact kit_of I rw' (.base (.tup eh))
    · rename_i es; cases e; cases ht
      obtain ⟨a, u', ew, er, eh, ws, eu, vr⟩ := r.ref es x
      subst ew; subst eu
      exact kit_of I rw' (.base (.dK eh))
    · rename_i es; cases e; cases ht
      obtain ⟨a, u', ew, er, eh, ob, u2, eu, ws, eu2, vr⟩ := r.ref es x
      subst ew; subst eu; subst eu2
      exact kit_of I rw' (.fDict eh)
    · rename_i c es; cases e
      obtain ⟨y, C, hx, hm, et, xc⟩ := ht
      subst et
      obtain ⟨a, u', ew, er, eh, C2, dd, xc2, eu, dr⟩ := r.ref es x
      subst ew
      obtain ⟨y2, hx2, hm2⟩ := xc2
      have q1 : some y = some y2 := hx.symm.trans hx2
      cases q1
      have q2 : some (Value.ref C) = some (Value.ref C2) := hm.symm.trans hm2
      cases q2
      have dn : dd = none := dr
      subst dn
      subst eu
      obtain ⟨oe, vs, h1, h2, h3, h4⟩ := exK_inst I eh
      cases rw'
      refine ⟨_, PySem.W.handS_kitx_exc (ox := oe) xc.hg xc.hk xc.hs xc.hd xc.ha xc.hn xc.ht xc.hm, ⟨h1, h2, by unfold PySem.W.notCls; rw [h4] <;> rfl, by rw [h3]; trivial⟩, fun z => nomatch z⟩
    · rename_i c fs es; cases e
      obtain ⟨y, L, C, hc, hm, et, cl, q1, q2, q3, q4⟩ := ht
      subst et
      obtain ⟨a, u', ew, er, eh, y2, L2', C2, dx, gs, hc2, hm2, eu, ar⟩ := r.ref es x
      subst ew
      have z1 : some (y, L) = some (y2, L2') := hc.symm.trans hc2
      cases z1
      have z2 : some (Value.ref C) = some (Value.ref C2) := hm.symm.trans hm2
      cases z2
      subst eu
      exact kit_of I rw' (.base (.ins eh cl q1 q2 q3 q4))
    · cases e
  · cases e
variable {e ce : Expr} {ces : List Expr} {m : ME} {p pos tpos : Pos}
/-- isinstance(e, K) -/
theorem de_isi {cw : V} {cv : Value} {tab : List (Tag × Bool)} (hm : X.mg "isinstance" = none) (he : DE T X W e m) (hc : PE X ce (tC cw)) (hcv : ClsV cw cv) (ht : ITab T X.K X.mg [cv] tab) (hg : Gl X "isinstance" := by rfl)
    (hs1 : starEach [e, ce] X.env = (false, eval e X.env) :: starEach [ce] X.env := by rfl) (hs2 : starEach [ce] X.env = (false, eval ce X.env) :: starEach [] X.env := by rfl) (hpl : (backTo pos (starEach [ce] X.env)).any (·.1) = false := by rfl) :
    DE T X W (.Call (.Name "isinstance" p) [e, ce] [] pos) (mIsi tab m) := by
  have hcall : CallR X (.builtin "isinstance") (fun xs H Q => ∃ ρ S v x g b, xs = [x, cw] ∧ Rep (gm T X) ρ S H ∧ VR ρ v x ∧ tagOf S v = some g ∧ lookT tab g = some b ∧ Q (.bl b) H) := by
    intro pins s σ H xs us Q I r h
    obtain ⟨ρ, S, v, x, g, b, rfl, rp, vx, eg, el, q⟩ := h
    obtain ⟨u1, u2, rfl, r1, r2⟩ := vals2 r
    have e2 := hcv.eq r2
    subst e2
    obtain ⟨t, tv, ka⟩ := ht.get el
    obtain ⟨P, Z, pp, hx⟩ := kit_tag I rp vx r1 eg tv
    have ko : PySem.W.kitOne X.K t u2 = some b := by
      unfold PySem.W.kitAny at ka
      cases h1 : PySem.W.kitOne X.K t u2 with
      | none => rw [h1] at ka; cases ka
      | some c =>
        rw [h1] at ka
        cases c with
        | true => exact ka
        | false => exact ka
    exact PySem.W.kia_one Z I.kIn pp ko hx fun tk => ⟨.bl b, H, I.tok tk, rfl, q⟩
  refine (pe_callB hcall hg hm (by decide +kernel) (pa_cons he (pa_cons hc pa_nil hs2) hs1) (by decide) (by decide) hs1 hpl).imp fun σ H Q h => ?_
  obtain ⟨ρ, S, τ, r, l, h⟩ := h
  refine ⟨ρ, S, τ, r, l, Post.bind h fun ρ1 S1 H1 v w p1 r1 x1 h1 => ?_⟩
  split at h1
  · rename_i g eg
    split at h1
    · rename_i b eb
      exact ⟨ρ1, S1, v, w, g, b, rfl, r1, x1, eg, eb, h1 ρ1 H1 _ Ext.refl r1 rfl⟩
    · exact h1.elim
  · exact h1.elim
/-- isinstance(e, (K1, K2, ..)) -/
theorem de_isiT {cws : List V} {cvs : List Value} {tab : List (Tag × Bool)} {kk : Nat} {tc : TA} (hm : X.mg "isinstance" = none) (he : DE T X W e m) (hc : PA X ces tc) (htc : ∀ σ H Q, Q cws H → tc σ H Q) (hcv : Paired ClsV cws cvs) (hz : cws.length ≤ sizeLine) (ht : ITab T X.K X.mg cvs tab) (hg : Gl X "isinstance" := by rfl)
    (hs1 : starEach [e, .Tuple ces kk tpos] X.env = (false, eval e X.env) :: starEach [.Tuple ces kk tpos] X.env := by rfl) (hs2 : starEach [.Tuple ces kk tpos] X.env = (false, eval (.Tuple ces kk tpos) X.env) :: starEach [] X.env := by rfl) (hpl : (backTo pos (starEach [.Tuple ces kk tpos] X.env)).any (·.1) = false := by rfl) :
    DE T X W (.Call (.Name "isinstance" p) [e, .Tuple ces kk tpos] [] pos) (mIsi tab m) := by
  have hcall : CallR X (.builtin "isinstance") (fun xs H Q => ∃ ρ S v x g b tp, xs = [x, .ref tp] ∧ H tp = some (.tup cws) ∧ Rep (gm T X) ρ S H ∧ VR ρ v x ∧ tagOf S v = some g ∧ lookT tab g = some b ∧ Q (.bl b) H) := by
    intro pins s σ H xs us Q I r h
    obtain ⟨ρ, S, v, x, g, b, tp, rfl, hT, rp, vx, eg, el, q⟩ := h
    obtain ⟨u1, u2, rfl, r1, r2⟩ := vals2 r
    cases (show u2 = Value.ref tp from r2)
    obtain ⟨t, tv, ka⟩ := ht.get el
    obtain ⟨P, Z, pp, hx⟩ := kit_tag I rp vx r1 eg tv
    obtain ⟨_, its, rv, o, h1, h2, n, h3⟩ := (show ObjOk X.prog X.w H s.heap tp (.tup cws) from I.hok tp _ hT)
    have e3 := ClsV.all hcv rv
    subst e3
    obtain ⟨oc, od, dt, sl⟩ := o
    simp only at h2 h3
    subst h2 h3
    exact PySem.W.kia_tup Z I.kIn pp h1 ka hx fun tk => ⟨.bl b, H, I.tok tk, rfl, q⟩
  refine (pe_callB hcall hg hm (by decide +kernel) (pa_cons he (pa_cons (pe_tup hc) pa_nil hs2) hs1) (by decide) (by decide) hs1 hpl).imp fun σ H Q h => ?_
  obtain ⟨ρ, S, τ, r, l, h⟩ := h
  refine ⟨ρ, S, τ, r, l, Post.bind h fun ρ1 S1 H1 v w p1 r1 x1 h1 => ?_⟩
  refine htc _ _ _ ⟨hz, fun tp np => ?_⟩
  split at h1
  · rename_i g eg
    split at h1
    · rename_i b eb
      exact ⟨ρ1, S1, v, w, g, b, tp, rfl, upd_same, r1.beside np, x1, eg, eb, h1 ρ1 _ _ (Ext.aside np) (r1.beside np) rfl⟩
    · exact h1.elim
  · exact h1.elim
end

end Mi

namespace Mi
open PySem PySem.Spec L2
open PyProof.Rows hiding St

/-! ### data of the store -/
def allSome {α : Type} : List (Option α) → Option (List α)
  | [] => some []
  | none :: _ => none
  | some a :: r => (allSome r).map (a :: ·)
def rdD (S : Sto) : Nat → V → Option PyData
  | 0, _ => none
  | n + 1, v => match v with
    | .non => some .none
    | .bl b => some (.bool b)
    | .int i => some (.int i)
    | .str x => some (.str x)
    | .ref i => match S[i]? with
      | some (.lst xs) => (allSome (xs.map (rdD S n))).map .list
      | some (.lck (.lst xs)) => (allSome (xs.map (rdD S n))).map .list
      | some (.tup xs) => (allSome (xs.map (rdD S n))).map .tuple
      | _ => none
    | _ => none
def eqDepth : Nat := 12
def oEqD (neg : Bool) : V → V → Sto → R V := fun x y S => match rdD S eqDepth x, rdD S eqDepth y with
  | some d, some e => if SeqAt.shaped d = true ∧ SeqAt.shaped e = true then .ok (.bl (neg != PyData.eqv d e)) S else .bad
  | _, _ => .bad
abbrev oEq := oEqD false
abbrev oNe := oEqD true
section
variable {T : Tab} {X : Cx} {G : Gm} {ρ : List Addr} {S : Sto} {H : Hp}
theorem rdD_all (n : Nat) (ih : ∀ v w d, VR ρ v w → rdD S n v = some d → Dp G.K H w d) : ∀ {xs ws : List V} {ds : List PyData}, VsR ρ xs ws → allSome (xs.map (rdD S n)) = some ds → DpAll G.K H ws ds
  | _, _, _, .nil, e => by cases e; exact .nil
  | _, _, ds, .cons (l₁ := xs) r t, e => by
    rw [List.map_cons] at e
    unfold allSome at e
    split at e
    · rename_i h; cases h
    · cases e
    · rename_i a' r' h
      injection h with h1 h2
      subst h2
      cases e2 : allSome (xs.map (rdD S n)) with
      | none => rw [e2] at e; cases e
      | some es =>
        rw [e2] at e
        cases e
        exact .cons (ih _ _ _ r h1) (rdD_all n ih t e2)
theorem rdD_dp (r : Rep G ρ S H) : ∀ (n : Nat) (v w : V) (d : PyData), VR ρ v w → rdD S n v = some d → Dp G.K H w d
  | 0, _, _, _, _, e => by cases e
  | n + 1, v, w, d, x, e => by
    have ih := rdD_dp r n
    unfold rdD at e
    split at e
    · cases e; cases x; exact .non
    · cases e; cases x; exact .bl _
    · cases e; cases x; exact .int _
    · cases e; cases x; exact .str _
    · split at e
      · rename_i xs es
        obtain ⟨a, u, ew, _, eh, ws, eu, vr⟩ := r.ref es x
        subst ew; subst eu
        cases e2 : allSome (xs.map (rdD S n)) with
        | none => rw [e2] at e; cases e
        | some ds =>
          rw [e2] at e
          cases e
          exact .lst (.inl (.inl eh)) (rdD_all n ih vr e2)
      · rename_i xs es
        obtain ⟨a, u, ew, _, eh, ob, u2, eu, ws, eu2, vr⟩ := r.ref es x
        subst ew; subst eu; subst eu2
        cases e2 : allSome (xs.map (rdD S n)) with
        | none => rw [e2] at e; cases e
        | some ds =>
          rw [e2] at e
          cases e
          exact .lst (.inl (.inr ⟨ob, eh⟩)) (rdD_all n ih vr e2)
      · rename_i xs es
        obtain ⟨a, u, ew, _, eh, ws, eu, vr⟩ := r.ref es x
        subst ew; subst eu
        cases e2 : allSome (xs.map (rdD S n)) with
        | none => rw [e2] at e; cases e
        | some ds =>
          rw [e2] at e
          cases e
          exact .tup (.inl (.inl eh)) (rdD_all n ih vr e2)
      · cases e
    · cases e
theorem op2_eqD {op : CmpOp} {neg : Bool} (rule : OpR X (compareOp op) (fun x y H Q => ∃ d e, Dp X.K H x d ∧ Dp X.K H y e ∧ SeqAt.shaped d = true ∧ SeqAt.shaped e = true ∧ Q (.bl (neg != PyData.eqv d e)) H)) : Op2 T X (compareOp op) (oEqD neg) := by
  refine ⟨opR_of fun pins s σ H x y v u Q ρ S a b τ I rx ry r va vb h => ?_, fun x y S => ?_⟩
  · unfold oEqD at h
    split at h
    · rename_i d e ed ee
      split at h
      · rename_i hz
        exact rule pins s σ H _ _ v u Q I rx ry ⟨d, e, rdD_dp r _ _ _ _ va ed, rdD_dp r _ _ _ _ vb ee, hz.1, hz.2, h ρ H _ Ext.refl r rfl⟩
      · exact h.elim
    · exact h.elim
  · unfold oEqD
    repeat' split
    all_goals trivial
theorem op2_eq (hu : X.A.units + 64 < cLine) : Op2 T X (compareOp .Eq) oEq := op2_eqD fun pins s σ H x y v u Q I rx ry ⟨d, e, h1, h2, h3, h4, q⟩ => op_eqD hu pins s σ H x y v u Q I rx ry ⟨d, e, h1, h2, h3, h4, by simpa using q⟩
theorem op2_ne (hu : X.A.units + 64 < cLine) : Op2 T X (compareOp .NotEq) oNe := op2_eqD fun pins s σ H x y v u Q I rx ry ⟨d, e, h1, h2, h3, h4, q⟩ => op_neD hu pins s σ H x y v u Q I rx ry ⟨d, e, h1, h2, h3, h4, by simpa using q⟩
end

end Mi

namespace Mi
open PySem PySem.Spec L2
open PyProof.Rows hiding St

/-! ### either of two readings of one text -/
def mAlt (a b : ME) : ME := fun σ S => match a σ S with
  | .bad => b σ S
  | r => r
section
variable {T : Tab} {W : WX} {X : Cx} {e : Expr} {ma mb : ME}
theorem de_alt (ha : DE T X W e ma) (hb : DE T X W e mb) : DE T X W e (mAlt ma mb) := (pe_or2 ha hb).imp fun σ H Q h => by
  obtain ⟨ρ, S, τ, r, l, h⟩ := h
  unfold mAlt at h
  cases e : ma τ S with
  | bad => rw [e] at h; exact .inr ⟨ρ, S, τ, r, l, h⟩
  | ok v S2 => rw [e] at h; exact .inl ⟨ρ, S, τ, r, l, by rw [e]; exact h⟩
  | exc c d S2 => rw [e] at h; exact .inl ⟨ρ, S, τ, r, l, by rw [e]; exact h⟩
end

/-! ### dicts under the relation -/
def keyOf : V → Option Key
  | .int i => some (.inl i)
  | .str x => some (.inr x)
  | _ => none
theorem keyOf_kV {v : V} {k : Key} (h : keyOf v = some k) : v = kV k := by
  unfold keyOf at h
  split at h <;> first | (cases h; rfl) | cases h
section
variable {ρ : List Addr} {kvs ws : List (Key × V)} {k : Key}
theorem fr_val {κ : Type} [DecidableEq κ] {kvs ws : List (κ × V)} {k : κ} (h : FR ρ kvs ws) : OR ρ (valV kvs k) (valV ws k) ∧ (valV kvs k = none → valV ws k = none) := by
  induction h with
  | nil => exact ⟨trivial, fun _ => rfl⟩
  | @cons p q ps qs r t ih =>
    by_cases z : p.1 = k
    · rw [valV_pos z, valV_pos (r.1.symm.trans z)]
      exact ⟨r.2, fun e => by cases e⟩
    · rw [valV_neg z, valV_neg (fun q => z (r.1.trans q))]
      exact ih
theorem fr_get {κ : Type} [DecidableEq κ] {kvs ws : List (κ × V)} {k : κ} {v : V} (h : FR ρ kvs ws) (e : valV kvs k = some v) : ∃ w, valV ws k = some w ∧ VR ρ v w := by
  have q := (fr_val (k := k) h).1
  rw [e] at q
  cases e2 : valV ws k with
  | none => rw [e2] at q; exact q.elim
  | some w => rw [e2] at q; exact ⟨w, rfl, q⟩
theorem fr_has {κ : Type} [DecidableEq κ] {kvs ws : List (κ × V)} {k : κ} (h : FR ρ kvs ws) : (valV ws k).isSome = (valV kvs k).isSome := by
  cases e : valV kvs k with
  | none => rw [(fr_val h).2 e]
  | some v => obtain ⟨w, e2, _⟩ := fr_get h e; rw [e2]; rfl
theorem fr_put {κ : Type} [DecidableEq κ] {kvs ws : List (κ × V)} {k : κ} {v w : V} (h : FR ρ kvs ws) (r : VR ρ v w) : FR ρ (putK kvs k v) (putK ws k w) := by
  unfold putK
  rw [valV_any, valV_any, fr_has h]
  by_cases z : (valV kvs k).isSome = true
  · rw [if_pos z, if_pos z]
    clear z
    induction h with
    | nil => exact .nil
    | @cons p q ps qs hr t ih =>
      refine .cons ?_ ih
      dsimp only
      by_cases z : p.1 = k
      · rw [if_pos z, if_pos (hr.1.symm.trans z)]
        exact ⟨hr.1, r⟩
      · rw [if_neg z, if_neg (fun q => z (hr.1.trans q))]
        exact hr
  · rw [if_neg z, if_neg z]
    exact prd_app h (.cons ⟨rfl, r⟩ .nil)
theorem fr_drop {κ : Type} [DecidableEq κ] {kvs ws : List (κ × V)} {k : κ} (h : FR ρ kvs ws) : FR ρ (dropK kvs k) (dropK ws k) := by
  unfold dropK
  induction h with
  | nil => exact .nil
  | @cons p q ps qs hr t ih =>
    rw [List.filter_cons, List.filter_cons]
    by_cases z : p.1 = k
    · have z2 := hr.1.symm.trans z
      rw [if_neg (by simp [z]), if_neg (by simp [z2])]
      exact ih
    · have z2 : ¬ q.1 = k := fun e => z (hr.1.trans e)
      rw [if_pos (by simp [z]), if_pos (by simp [z2])]
      exact .cons hr ih
theorem key_vr {v w : V} (h : keyOf v = some k) (x : VR ρ v w) : w = kV k := by
  rw [keyOf_kV h] at x
  cases k <;> exact x
end

/-! ### subscripts -/
def oIx : V → V → Sto → R V := fun x y S => match x, y with
  | .str z, .int i => if z.length ≤ sizeLine then (match atI z.cps.toList i with
    | some c => .ok (.str ⟨#[c]⟩) S
    | none => .bad) else .bad
  | x, .int i => match rdL S x with
    | some xs => (match atI xs i with
      | some v => .ok v S
      | none => .bad)
    | none => match rdT S x with
      | some xs => (match atI xs i with
        | some v => .ok v S
        | none => .bad)
      | none => .bad
  | _, _ => .bad
def oDGet : V → V → Sto → R V := fun x y S => match rdK S x, keyOf y with
  | some kvs, some k => (match valV kvs k with
    | some v => .ok v S
    | none => .bad)
  | _, _ => .bad
theorem atI_vr {ρ : List Addr} {xs ws : List V} {i : Int} {v : V} (h : VsR ρ xs ws) (e : atI xs i = some v) : ∃ w, atI ws i = some w ∧ VR ρ v w := by
  unfold atI at e ⊢
  rw [← prd_len h]
  cases e1 : ixN xs.length i with
  | none => rw [e1] at e; cases e
  | some j =>
    rw [e1] at e
    exact prd_get h e
section
variable {T : Tab} {W : WX} {X : Cx} {a b : Expr} {ma mb : ME} {pos : Pos}
theorem de_ix (ha : DE T X W a ma) (hb : DE T X W b mb) (hs : PlainIx b := by exact fun _ _ => rfl) : DE T X W (.Subscript a b pos) (mBin oIx ma mb) := (pe_ix ix_seq ha hb hs).imp fun σ H Q h => by
  obtain ⟨ρ, S, τ, r, l, h⟩ := h
  refine ⟨ρ, S, τ, r, l, Post.bind h fun ρ1 S1 H1 x w p1 r1 x1 h1 => ?_⟩
  refine ⟨ρ1, S1, τ, r1, l.mono p1.pre, Post.bind h1 fun ρ2 S2 H2 y u p2 r2 y2 h2 => ?_⟩
  have x2 := x1.mono p2.pre
  unfold oIx at h2
  split at h2
  · split at h2
    · split at h2
      · rename_i hz _ c ec
        cases x2
        cases y2
        exact .inr (.inr ⟨_, _, c, rfl, rfl, hz, ec, h2 ρ2 H2 _ Ext.refl r2 rfl⟩)
      · exact h2.elim
    · exact h2.elim
  · cases y2
    split at h2
    · rename_i xs el
      obtain ⟨ad, ws, ew, eh, vr⟩ := r2.rdL el x2
      subst ew
      split at h2
      · rename_i v ev
        obtain ⟨w', ew, rw'⟩ := atI_vr vr ev
        exact .inl ⟨ad, ws, _, w', rfl, rfl, .inl eh, ew, h2 ρ2 H2 _ Ext.refl r2 rw'⟩
      · exact h2.elim
    · split at h2
      · rename_i xs el
        obtain ⟨ad, ws, ew, eh, vr⟩ := r2.rdT el x2
        subst ew
        split at h2
        · rename_i v ev
          obtain ⟨w', ew, rw'⟩ := atI_vr vr ev
          exact .inr (.inl ⟨ad, ws, _, w', rfl, rfl, .inl (.inl eh), ew, h2 ρ2 H2 _ Ext.refl r2 rw'⟩)
        · exact h2.elim
      · exact h2.elim
  · exact h2.elim
theorem de_dget (hu : X.A.units + 1 < cLine) (ha : DE T X W a ma) (hb : DE T X W b mb) (hs : NoSl b := by exact fun _ _ => rfl) : DE T X W (.Subscript a b pos) (mBin oDGet ma mb) := (pe_dget hu ha hb hs).imp fun σ H Q h => by
  obtain ⟨ρ, S, τ, r, l, h⟩ := h
  refine ⟨ρ, S, τ, r, l, Post.bind h fun ρ1 S1 H1 x w p1 r1 x1 h1 => ?_⟩
  refine ⟨ρ1, S1, τ, r1, l.mono p1.pre, Post.bind h1 fun ρ2 S2 H2 y u p2 r2 y2 h2 => ?_⟩
  have x2 := x1.mono p2.pre
  unfold oDGet at h2
  split at h2
  · rename_i kvs k ek ey
    obtain ⟨ad, ws, ew, eh, fr⟩ := r2.rdK ek x2
    subst ew
    have eu := key_vr ey y2
    subst eu
    split at h2
    · rename_i v ev
      obtain ⟨w', ew, rw'⟩ := fr_get fr ev
      exact ⟨ad, w', rfl, .inl ⟨ws, k, eh, rfl, ew.symm⟩, h2 ρ2 H2 _ Ext.refl r2 rw'⟩
    · exact h2.elim
  · exact h2.elim
/-- a[b], of a list, a tuple, a text or a dict -/
theorem de_sub (hu : X.A.units + 1 < cLine) (ha : DE T X W a ma) (hb : DE T X W b mb) (hs : PlainIx b := by exact fun _ _ => rfl) : DE T X W (.Subscript a b pos) (mAlt (mBin oIx ma mb) (mBin oDGet ma mb)) := de_alt (de_ix ha hb hs) (de_dget hu ha hb hs)
end

/-! ### slices -/
abbrev MO := St → Sto → R (Option Int)
def mNoP : MO := fun _ S => .ok none S
def mPart (a : ME) : MO := fun σ S => (a σ S).bind fun v S1 => match v with
  | .int i => .ok (some i) S1
  | _ => .bad
def oSl : V → Option Int → Option Int → Sto → R V := fun x lo hi S => match x with
  | .str z => if z.length ≤ sizeLine then .ok (.str (cutS z lo hi)) S else .bad
  | x => match rdL S x with
    | some xs => .ok (.ref S.length) (S ++ [.lst (cutV xs lo hi)])
    | none => match rdT S x with
      | some xs => if (HT.sIx xs.length 0 lo = 0 ∧ HT.sIx xs.length xs.length hi = xs.length) then .bad else .ok (.ref S.length) (S ++ [.tup (cutV xs lo hi)])
      | none => .bad
def mSl (a : ME) (lo hi : MO) : ME := fun σ S => (a σ S).bind fun x S1 => (lo σ S1).bind fun l S2 => (hi σ S2).bind fun u S3 => oSl x l u S3
section
variable {T : Tab} {W : WX} {X : Cx} {e : Expr} {m : ME} {lo hi : Option Expr} {ml mh : MO} {pos p2 : Pos}
abbrev DO (T : Tab) (X : Cx) (W : WX) (e : Option Expr) (m : MO) : Prop := PO X e (fun σ H Q => den (gm T X) W (fun _ (a b : Option Int) => b = a) m σ H Q)
theorem do_none : DO T X W none mNoP := ⟨fun pins s σ H Q I h => po_none.run pins s σ H Q I (by
  obtain ⟨ρ, S, τ, r, l, h⟩ := h
  exact h ρ H none Ext.refl r rfl)⟩
theorem do_some (h : DE T X W e m) : DO T X W (some e) (mPart m) := ⟨fun pins s σ H Q I h' => (po_some h).run pins s σ H Q I (by
  obtain ⟨ρ, S, τ, r, l, h⟩ := h'
  refine ⟨ρ, S, τ, r, l, Post.bind h fun ρ1 S1 H1 x w p1 r1 x1 h1 => ?_⟩
  split at h1
  · cases x1
    exact ⟨_, rfl, h1 ρ1 H1 _ Ext.refl r1 rfl⟩
  · exact h1.elim)⟩
theorem cutV_vr {ρ : List Addr} {xs ws : List V} (h : VsR ρ xs ws) (lo hi : Option Int) : VsR ρ (cutV xs lo hi) (cutV ws lo hi) := by
  unfold cutV
  rw [← prd_len h]
  exact prd_take _ (prd_drop _ h)
theorem de_slice (he : DE T X W e m) (hl : DO T X W lo ml) (hh : DO T X W hi mh) : DE T X W (.Subscript e (.Slice lo hi none p2) pos) (mSl m ml mh) := (pe_slice (sl_list.or (sl_tup.or sl_str)) he hl hh).imp fun σ H Q h => by
  obtain ⟨ρ, S, τ, r, l, h⟩ := h
  refine ⟨ρ, S, τ, r, l, Post.bind h fun ρ1 S1 H1 x w p1 r1 x1 h1 => ?_⟩
  refine ⟨ρ1, S1, τ, r1, l.mono p1.pre, Post.bind h1 fun ρ2 S2 H2 y u p2 r2 y2 h2 => ?_⟩
  refine ⟨ρ2, S2, τ, r2, l.mono (p1.trans p2).pre, Post.bind h2 fun ρ3 S3 H3 z t p3 r3 z3 h3 => ?_⟩
  cases y2
  cases z3
  have x3 := x1.mono (p2.trans p3).pre
  unfold oSl at h3
  split at h3
  · split at h3
    · rename_i hz
      cases x3
      exact .inr (.inr ⟨_, rfl, hz, h3 ρ3 H3 _ Ext.refl r3 rfl⟩)
    · exact h3.elim
  · split at h3
    · rename_i xs el
      obtain ⟨ad, ws, ew, eh, vr⟩ := r3.rdL el x3
      subst ew
      exact .inl ⟨ad, ws, rfl, .inl eh, fun p np => h3 _ _ _ (Ext.new np) (r3.alloc np ⟨_, rfl, VsR.mono (cutV_vr vr _ _) (List.prefix_append _ _)⟩) (new_ref r3.len)⟩
    · split at h3
      · rename_i xs el
        obtain ⟨ad, ws, ew, eh, vr⟩ := r3.rdT el x3
        subst ew
        split at h3
        · exact h3.elim
        · rename_i hz
          exact .inr (.inl ⟨ad, ws, rfl, .inl (.inl eh), by rw [← prd_len vr]; exact hz, fun p np => h3 _ _ _ (Ext.new np) (r3.alloc np ⟨_, rfl, VsR.mono (cutV_vr vr _ _) (List.prefix_append _ _)⟩) (new_ref r3.len)⟩)
      · exact h3.elim
end

/-! ### o[i] = v -/
def tSetI : Op3 := fun x y v S => match x with
  | .ref i => match S[i]? with
    | some (.lst xs) => (match y with
      | .int k => (match ixN xs.length k with
        | some j => .ok () (S.set i (.lst (xs.set j v)))
        | none => .bad)
      | _ => .bad)
    | some (.dK kvs) => (match keyOf y with
      | some k => if kvs.length < sizeLine then .ok () (S.set i (.dK (putK kvs k v))) else .bad
      | none => .bad)
    | _ => .bad
  | _ => .bad
theorem PSet.or {X : Cx} {t t' : TSet} (h : PSet X t) (h' : PSet X t') : PSet X (fun o i v H Q => t o i v H Q ∨ t' o i v H Q) := fun pins s σ H o i v ov iv u Q I ro ri rv q =>
  q.elim (h pins s σ H o i v ov iv u Q I ro ri rv) (h' pins s σ H o i v ov iv u Q I ro ri rv)
theorem set_dct {X : Cx} (hu : X.A.units + 1 < cLine) : PSet X (fun o i v H Q => ∃ a H', o = .ref a ∧ DPut H a i v H' ∧ Q H') := by
  intro pins s σ H o i v ov iv u Q I ro ri rv h
  obtain ⟨a, H', rfl, g, q⟩ := h
  cases ro
  exact d_setItem hu I g ri rv fun s4 I4 => ⟨H', I4, q⟩
theorem st3_set {T : Tab} {X : Cx} (hu : X.A.units + 1 < cLine) : St3 T X tSetI := by
  refine ⟨fun pins s σ H o i v ov iv u Q I ro ri rv h => PSet.or set_list (set_dct hu) pins s σ H o i v ov iv u Q I ro ri rv ?_, fun x y z S => ?_⟩
  · obtain ⟨ρ, S, x, y, z, τ, r, xo, yi, zv, h⟩ := h
    unfold tSetI at h
    split at h
    · rename_i n
      split at h
      · rename_i xs es
        obtain ⟨a, u, ew, er, eh, ws, eu, vr⟩ := r.ref es xo
        subst ew; subst eu
        split at h
        · rename_i k
          cases yi
          split at h
          · rename_i j ej
            refine .inl ⟨a, ws, k, j, rfl, rfl, eh, by rw [← prd_len vr]; exact ej, ?_⟩
            exact h ρ _ () (Ext.put eh (fun _ _ q => nomatch q)) (r.write es er (fun fs q => by rw [eh] at q; cases q) ⟨_, rfl, prd_set zv j vr⟩) trivial
          · exact h.elim
        · exact h.elim
      · rename_i kvs es
        obtain ⟨a, u, ew, er, eh, ws, eu, vr⟩ := r.ref es xo
        subst ew; subst eu
        split at h
        · rename_i k ek
          have e2 := key_vr ek yi
          subst e2
          split at h
          · rename_i hz
            refine .inr ⟨a, _, rfl, .inl ⟨ws, k, eh, rfl, by rw [← prd_len vr]; exact hz, rfl⟩, ?_⟩
            exact h ρ _ () (Ext.put eh (fun _ _ q => nomatch q)) (r.write es er (fun fs q => by rw [eh] at q; cases q) ⟨_, rfl, fr_put vr zv⟩) trivial
          · exact h.elim
        · exact h.elim
      · exact h.elim
    · exact h.elim
  · unfold tSetI
    repeat' split
    all_goals trivial

/-! ### in, not in -/
/-- is x in the list, the tuple, the dict, the text? -/
def isIn (x y : V) (S : Sto) : Option Bool := match y with
  | .str z => (match x with
    | .str w => some (!(Builtin.Str.occurrences z w 0 z.length 1).isEmpty)
    | _ => none)
  | y => match rdL S y with
    | some xs => if flatV x = true ∧ xs.all flatV = true then some (inV x xs) else (match rdD S eqDepth x, rdD S eqDepth y with
      | some d, some (.list ds) => if SeqAt.shaped d = true ∧ SeqAt.shaped (.list ds) = true then some (ds.any fun z => PyData.eqv z d) else none
      | _, _ => none)
    | none => match rdT S y with
      | some xs => if flatV x = true ∧ xs.all flatV = true then some (inV x xs) else none
      | none => match rdK S y with
        | some kvs => (match keyOf x with
          | some k => some (valV kvs k).isSome
          | none => (match x with
            | .non => some false
            | _ => none))
        | none => none
def oInN (neg : Bool) : V → V → Sto → R V := fun x y S => match isIn x y S with
  | some b => .ok (.bl (neg != b)) S
  | none => .bad
abbrev oIn := oInN false
abbrev oNotIn := oInN true
theorem eqV_vr {ρ : List Addr} {x y x' y' : V} (h : VR ρ x x') (h' : VR ρ y y') (fx : flatV x = true) (fy : flatV y = true) : x' = x ∧ y' = y := by
  constructor
  · cases x with
    | ref i => cases fx
    | _ => exact h
  · cases y with
    | ref i => cases fy
    | _ => exact h'
theorem flat_vr {ρ : List Addr} {xs ws : List V} (h : VsR ρ xs ws) (f : xs.all flatV = true) : ws = xs := by
  induction h with
  | nil => rfl
  | @cons a b l1 l2 r t ih =>
    rw [List.all_cons, Bool.and_eq_true] at f
    rw [ih f.2, (eqV_vr r r f.1 f.1).1]
section
variable {T : Tab} {X : Cx}
theorem op2_inN {op : CmpOp} {neg : Bool} (hseq : OpR X (compareOp op) (rIn X.K neg)) (hd : OpR X (compareOp op) (fun x y H Q => ∃ d ds, Dp X.K H x d ∧ Dp X.K H y (.list ds) ∧ SeqAt.shaped d = true ∧ SeqAt.shaped (.list ds) = true ∧ Q (.bl (neg != ds.any fun z => PyData.eqv z d)) H))
    (hdict : OpR X (compareOp op) (fun y x H Q => ∃ a o, x = .ref a ∧ DGet H a y o ∧ Q (.bl (neg != o.isSome)) H)) (hnone : OpR X (compareOp op) (fun x y H Q => ∃ a kvs, x = .non ∧ y = .ref a ∧ Rd H a (.dK kvs) ∧ Q (.bl (neg != false)) H)) (hstr : OpR X (compareOp op) (fun x y H Q => ∃ i j, x = .str i ∧ y = .str j ∧ Q (.bl (neg != !(Builtin.Str.occurrences j i 0 j.length 1).isEmpty)) H)) : Op2 T X (compareOp op) (oInN neg) := by
  refine ⟨opR_of fun pins s σ H x y v u Q ρ S a b τ I rx ry r va vb h => ?_, fun x y S => ?_⟩
  · unfold oInN at h
    cases e : isIn a b S with
    | none => rw [e] at h; exact h.elim
    | some bb =>
      rw [e] at h
      have h := h ρ H _ Ext.refl r rfl
      unfold isIn at e
      split at e
      · split at e
        · cases e
          cases va
          cases vb
          exact hstr pins s σ H _ _ v u Q I rx ry ⟨_, _, rfl, rfl, h⟩
        · cases e
      · split at e
        · rename_i xs el
          obtain ⟨ad, ws, ew, eh, vr⟩ := r.rdL el vb
          subst ew
          split at e
          · rename_i hz
            cases e
            have e2 := flat_vr vr hz.2
            subst e2
            have e3 := (eqV_vr va va hz.1 hz.1).1
            subst e3
            exact hseq pins s σ H _ _ v u Q I rx ry ⟨ad, ws, rfl, .inl (.inl eh), hz.1, hz.2, by cases neg <;> simpa using h⟩
          · split at e
            · rename_i d ds ed ey
              split at e
              · rename_i hz
                cases e
                exact hd pins s σ H _ _ v u Q I rx ry ⟨d, ds, rdD_dp r _ _ _ _ va ed, rdD_dp r _ _ _ _ vb ey, hz.1, hz.2, h⟩
              · cases e
            · cases e
        · split at e
          · rename_i xs el
            obtain ⟨ad, ws, ew, eh, vr⟩ := r.rdT el vb
            subst ew
            split at e
            · rename_i hz
              cases e
              have e2 := flat_vr vr hz.2
              subst e2
              have e3 := (eqV_vr va va hz.1 hz.1).1
              subst e3
              exact hseq pins s σ H _ _ v u Q I rx ry ⟨ad, ws, rfl, .inr (.inl (.inl eh)), hz.1, hz.2, by cases neg <;> simpa using h⟩
            · cases e
          · split at e
            · rename_i kvs el
              obtain ⟨ad, ws, ew, eh, fr⟩ := r.rdK el vb
              subst ew
              split at e
              · rename_i k ek
                cases e
                have e2 := key_vr ek va
                subst e2
                exact hdict pins s σ H _ _ v u Q I rx ry ⟨ad, valV ws k, rfl, .inl ⟨ws, k, eh, rfl, rfl⟩, by rw [fr_has fr]; exact h⟩
              · split at e
                · cases e
                  cases va
                  exact hnone pins s σ H _ _ v u Q I rx ry ⟨ad, ws, rfl, rfl, eh, h⟩
                · cases e
            · cases e
  · unfold oInN
    split <;> trivial
theorem op2_in (hu : X.A.units + 65 < cLine) : Op2 T X (compareOp .In) oIn := op2_inN op_in_seq (fun pins s σ H x y v u Q I rx ry ⟨d, ds, h1, h2, h3, h4, q⟩ => op_inD hu pins s σ H x y v u Q I rx ry ⟨d, ds, h1, h2, h3, h4, by simpa using q⟩)
  (fun pins s σ H y x v u Q I ry rx ⟨a, o, ex, g, q⟩ => by
    subst ex
    cases rx
    exact d_in (by omega) I g ry fun s3 I3 => ⟨.bl o.isSome, H, I3, rfl, by simpa using q⟩)
  (fun pins s σ H x y v u Q I rx ry ⟨a, kvs, ex, ey, e, q⟩ => by
    subst ex ey
    cases rx
    cases ry
    exact L2.d_inNone I e fun s3 I3 => ⟨.bl false, H, I3, rfl, by simpa using q⟩)
  (fun pins s σ H x y v u Q I rx ry ⟨i, j, h1, h2, q⟩ => op_in_str pins s σ H x y v u Q I rx ry ⟨i, j, h1, h2, by simpa using q⟩)
theorem op2_notIn (hu : X.A.units + 65 < cLine) : Op2 T X (compareOp .NotIn) oNotIn := op2_inN op_notIn_seq (fun pins s σ H x y v u Q I rx ry ⟨d, ds, h1, h2, h3, h4, q⟩ => op_notInD hu pins s σ H x y v u Q I rx ry ⟨d, ds, h1, h2, h3, h4, by simpa using q⟩)
  (fun pins s σ H y x v u Q I ry rx ⟨a, o, ex, g, q⟩ => by
    subst ex
    cases rx
    exact d_notIn (by omega) I g ry fun s3 I3 => ⟨.bl (!o.isSome), H, I3, rfl, by simpa using q⟩)
  (fun pins s σ H x y v u Q I rx ry ⟨a, kvs, ex, ey, e, q⟩ => by
    subst ex ey
    cases rx
    cases ry
    exact L2.d_notInNone I e fun s3 I3 => ⟨.bl true, H, I3, rfl, by simpa using q⟩)
  (fun pins s σ H x y v u Q I rx ry ⟨i, j, h1, h2, q⟩ => op_notIn_str pins s σ H x y v u Q I rx ry ⟨i, j, h1, h2, by simpa using q⟩)
end
end Mi

namespace Mi
open PySem PySem.Spec L2
open PyProof.Rows hiding St

/-! ### calls of builtin functions and types by values -/
abbrev CalX (T : Tab) (X : Cx) (f : Value) (o : List V → Sto → R V) : Prop := CallR X f (denC (gm T X) o) ∧ ∀ xs S, (o xs S).quiet
section
variable {T : Tab} {W : WX} {X : Cx} {e : Expr} {es : List Expr} {ms : MA} {x : Str} {p pos : Pos} {id Ty : String} {o : List V → Sto → R V}
theorem den_call {σ : St} {H : Hp} {Q : VK} (ho : ∀ xs S, (o xs S).quiet) (h : den (gm T X) W VR (mCall o ms) σ H Q) : tCB (denC (gm T X) o) (den (gm T X) W VsR ms) σ H Q := by
  obtain ⟨ρ, S, τ, r, l, h⟩ := h
  refine ⟨ρ, S, τ, r, l, Post.bind h fun ρ1 S1 H1 x w p1 r1 x1 h1 => ?_⟩
  exact ⟨ρ1, S1, x, σ, r1, x1, h1.still (ho _ _)⟩
theorem de_callB (hc : CalX T X (.builtin id) o) (hm : X.mg x = none) (hv : bootBuiltins x = some (.builtin id)) (ha : DA T X W (e :: es) ms) (hg : Gl X x := by rfl) (hn : x ≠ "__name__" := by decide) (hdb : (x == ("__debug__" : Str)) = false := by decide)
    (he : starEach (e :: es) X.env = (false, eval e X.env) :: starEach es X.env := by rfl) (hpl : (backTo pos (starEach es X.env)).any (·.1) = false := by rfl) : DE T X W (.Call (.Name x p) (e :: es) [] pos) (mCall o ms) :=
  (pe_callB hc.1 hg hm hv ha hn hdb he hpl).imp fun σ H Q h => den_call hc.2 h
theorem de_callTy (hc : CalX T X (.type Ty) o) (hm : X.mg x = none) (hv : bootBuiltins x = some (.type Ty)) (ha : DA T X W (e :: es) ms) (hg : Gl X x := by rfl) (hn : x ≠ "__name__" := by decide) (hdb : (x == ("__debug__" : Str)) = false := by decide)
    (he : starEach (e :: es) X.env = (false, eval e X.env) :: starEach es X.env := by rfl) (hpl : (backTo pos (starEach es X.env)).any (·.1) = false := by rfl) : DE T X W (.Call (.Name x p) (e :: es) [] pos) (mCall o ms) :=
  (pe_callTy hc.1 hg hm hv ha hn hdb he hpl).imp fun σ H Q h => den_call hc.2 h
end
theorem vsr_one {ρ : List Addr} {x : V} {ws : List V} (h : VsR ρ [x] ws) : ∃ w, ws = [w] ∧ VR ρ x w := by
  cases h with
  | cons r t => cases t; exact ⟨_, rfl, r⟩
theorem vsr_two {ρ : List Addr} {x y : V} {ws : List V} (h : VsR ρ [x, y] ws) : ∃ w z, ws = [w, z] ∧ VR ρ x w ∧ VR ρ y z := by
  cases h with
  | cons r t =>
    obtain ⟨z, e, q⟩ := vsr_one t
    subst e
    exact ⟨_, z, rfl, r, q⟩
section
variable {T : Tab} {X : Cx}
theorem calX_of {f : Value} {o : List V → Sto → R V} (hq : ∀ xs S, (o xs S).quiet)
    (h : ∀ (pins : List (Addr × Obj)) (s : Shared) (σ : St) (H : Hp) (xs : List V) (us : List Value) (Q : VK) (ρ : List Addr) (S : Sto) (vs : List V) (τ : St), Inv X pins σ H s → Vals xs us → Rep (gm T X) ρ S H → VsR ρ vs xs → Post (gm T X) W0 VR ρ H τ Q (o vs S) →
      wpAny (model X.prog X.w) X.A (call f us) (EP X pins σ Q) X.xe s) : CalX T X f o :=
  ⟨fun pins s σ H xs us Q I r ⟨ρ, S, vs, τ, rp, rv, q⟩ => h pins s σ H xs us Q ρ S vs τ I r rp rv q, hq⟩

/-- len -/
def oLen : List V → Sto → R V := fun xs S => match xs with
  | [.str z] => if z.length ≤ sizeLine then .ok (.int z.length) S else .bad
  | [x] => match rdL S x with
    | some ys => .ok (.int ys.length) S
    | none => match rdT S x with
      | some ys => .ok (.int ys.length) S
      | none => match rdK S x with
        | some kvs => .ok (.int kvs.length) S
        | none => .bad
  | _ => .bad
theorem cal_len : CalX T X (.builtin "len") oLen := by
  refine calX_of (fun xs S => ?_) fun pins s σ H xs us Q ρ S vs τ I r rp rv h => ?_
  · unfold oLen
    repeat' split
    all_goals trivial
  · unfold oLen at h
    split at h
    · obtain ⟨w, e, rw'⟩ := vsr_one rv
      subst e
      cases rw'
      split at h
      · rename_i hz
        exact call_len_str pins s σ H _ us Q I r ⟨_, rfl, hz, h ρ H _ Ext.refl rp rfl⟩
      · exact h.elim
    · obtain ⟨w, e, rw'⟩ := vsr_one rv
      subst e
      split at h
      · rename_i el
        obtain ⟨ad, ws, ew, eh, vr⟩ := rp.rdL el rw'
        subst ew
        exact call_len_seq pins s σ H _ us Q I r ⟨ad, ws, rfl, .inl (.inl eh), h ρ H _ Ext.refl rp (by rw [prd_len vr]; rfl)⟩
      · split at h
        · rename_i el
          obtain ⟨ad, ws, ew, eh, vr⟩ := rp.rdT el rw'
          subst ew
          exact call_len_seq pins s σ H _ us Q I r ⟨ad, ws, rfl, .inr (.inl (.inl eh)), h ρ H _ Ext.refl rp (by rw [prd_len vr]; rfl)⟩
        · split at h
          · rename_i el
            obtain ⟨ad, ws, ew, eh, vr⟩ := rp.rdK el rw'
            subst ew
            obtain ⟨u, eu, rx⟩ := vals1 r
            subst eu
            cases rx
            refine d_len I eh fun t s' I' => ⟨.int ws.length, H, I', ⟨t, rfl⟩, h ρ H _ Ext.refl rp ?_⟩
            rw [prd_len vr]
            rfl
          · exact h.elim
    · exact h.elim
/-- list(x) -/
def oList : List V → Sto → R V := fun xs S => match xs with
  | [x] => match rdL S x with
    | some ys => .ok (.ref S.length) (S ++ [.lst ys])
    | none => match rdT S x with
      | some ys => .ok (.ref S.length) (S ++ [.lst ys])
      | none => match rdK S x with
        | some kvs => .ok (.ref S.length) (S ++ [.lst (kvs.map fun kv => kV kv.1)])
        | none => .bad
  | _ => .bad
theorem key_list {ρ : List Addr} {kvs ws : List (Key × V)} (h : FR ρ kvs ws) : VsR ρ (kvs.map fun kv => kV kv.1) (ws.map fun kv => kV kv.1) := by
  induction h with
  | nil => exact .nil
  | @cons p q ps qs r t ih => exact .cons (by dsimp only; rw [← r.1]; exact kv_vr) ih
theorem cal_list (hc : X.calm = true) : CalX T X (.type "list") oList := by
  refine calX_of (fun xs S => ?_) fun pins s σ H xs us Q ρ S vs τ I r rp rv h => ?_
  · unfold oList
    repeat' split
    all_goals trivial
  · unfold oList at h
    split at h
    · obtain ⟨w, e, rw'⟩ := vsr_one rv
      subst e
      split at h
      · rename_i el
        obtain ⟨ad, ws, ew, eh, vr⟩ := rp.rdL el rw'
        subst ew
        exact call_list_of pins s σ H _ us Q I r ⟨ad, ws, rfl, .inl (.inl eh), fun p np => h _ _ _ (Ext.new np) (rp.alloc np ⟨_, rfl, VsR.mono vr (List.prefix_append _ _)⟩) (new_ref rp.len)⟩
      · split at h
        · rename_i el
          obtain ⟨ad, ws, ew, eh, vr⟩ := rp.rdT el rw'
          subst ew
          exact call_list_of pins s σ H _ us Q I r ⟨ad, ws, rfl, .inr (.inl (.inl eh)), fun p np => h _ _ _ (Ext.new np) (rp.alloc np ⟨_, rfl, VsR.mono vr (List.prefix_append _ _)⟩) (new_ref rp.len)⟩
        · split at h
          · rename_i el
            obtain ⟨ad, ws, ew, eh, vr⟩ := rp.rdK el rw'
            subst ew
            exact call_listD hc pins s σ H _ us Q I r ⟨ad, ws, rfl, eh, fun p np => h _ _ _ (Ext.new np) (rp.alloc np ⟨_, rfl, VsR.mono (key_list vr) (List.prefix_append _ _)⟩) (new_ref rp.len)⟩
          · exact h.elim
    · exact h.elim
/-- tuple(x) of a list -/
def oTuple : List V → Sto → R V := fun xs S => match xs with
  | [x] => match rdL S x with
    | some ys => .ok (.ref S.length) (S ++ [.tup ys])
    | none => match rdT S x with
      | some _ => .ok x S
      | none => .bad
  | _ => .bad
theorem cal_tuple : CalX T X (.type "tuple") oTuple := by
  refine calX_of (fun xs S => ?_) fun pins s σ H xs us Q ρ S vs τ I r rp rv h => ?_
  · unfold oTuple
    repeat' split
    all_goals trivial
  · unfold oTuple at h
    split at h
    · obtain ⟨w, e, rw'⟩ := vsr_one rv
      subst e
      split at h
      · rename_i el
        obtain ⟨ad, ws, ew, eh, vr⟩ := rp.rdL el rw'
        subst ew
        exact call_tuple_of pins s σ H _ us Q I r ⟨ad, ws, rfl, .inl ⟨.inl eh, fun p np => h _ _ _ (Ext.new np) (rp.alloc np ⟨_, rfl, VsR.mono vr (List.prefix_append _ _)⟩) (new_ref rp.len)⟩⟩
      · split at h
        · rename_i el
          obtain ⟨ad, ws, ew, eh, vr⟩ := rp.rdT el rw'
          subst ew
          exact call_tuple_of pins s σ H _ us Q I r ⟨ad, ws, rfl, .inr ⟨.inl (.inl eh), h ρ H _ Ext.refl rp rw'⟩⟩
        · exact h.elim
    · exact h.elim
/-! ints of a list -/
def toInt : V → Option Int
  | .int i => some i
  | _ => none
def toBl : V → Option Bool
  | .bl i => some i
  | _ => none
def toStr : V → Option Str
  | .str i => some i
  | _ => none
theorem ints_of {ρ : List Addr} : ∀ {xs ws : List V} {ns : List Int}, VsR ρ xs ws → allSome (xs.map toInt) = some ns → ws = ns.map V.int
  | _, _, _, .nil, e => by cases e; rfl
  | _, _, _, .cons (a := a) r t, e => by
    rw [List.map_cons] at e
    cases a with
    | int i =>
      cases r
      show _
      have e : (allSome _).map (i :: ·) = some _ := e
      cases e2 : allSome (List.map toInt _) with
      | none => rw [e2] at e; cases e
      | some ms => rw [e2] at e; cases e; rw [List.map_cons, ints_of t e2]
    | _ => cases e
theorem bls_of {ρ : List Addr} : ∀ {xs ws : List V} {ns : List Bool}, VsR ρ xs ws → allSome (xs.map toBl) = some ns → ws = ns.map V.bl
  | _, _, _, .nil, e => by cases e; rfl
  | _, _, _, .cons (a := a) r t, e => by
    rw [List.map_cons] at e
    cases a with
    | bl i =>
      cases r
      have e : (allSome _).map (i :: ·) = some _ := e
      cases e2 : allSome (List.map toBl _) with
      | none => rw [e2] at e; cases e
      | some ms => rw [e2] at e; cases e; rw [List.map_cons, bls_of t e2]
    | _ => cases e
theorem strs_of {ρ : List Addr} : ∀ {xs ws : List V} {ns : List Str}, VsR ρ xs ws → allSome (xs.map toStr) = some ns → ws = ns.map V.str
  | _, _, _, .nil, e => by cases e; rfl
  | _, _, _, .cons (a := a) r t, e => by
    rw [List.map_cons] at e
    cases a with
    | str i =>
      cases r
      have e : (allSome _).map (i :: ·) = some _ := e
      cases e2 : allSome (List.map toStr _) with
      | none => rw [e2] at e; cases e
      | some ms => rw [e2] at e; cases e; rw [List.map_cons, strs_of t e2]
    | _ => cases e
def rdInts (S : Sto) (x : V) : Option (List Int) := (rdL S x).bind fun xs => allSome (xs.map toInt)
theorem Rep.rdInts {G : Gm} {ρ : List Addr} {S : Sto} {H : Hp} {v w : V} {ns : List Int} (r : Rep G ρ S H) (h : rdInts S v = some ns) (x : VR ρ v w) : ∃ a, w = .ref a ∧ Rd H a (.lst (ns.map V.int)) := by
  unfold Mi.rdInts at h
  cases e : Mi.rdL S v with
  | none => rw [e] at h; cases h
  | some xs =>
    rw [e] at h
    obtain ⟨a, ws, ew, eh, vr⟩ := r.rdL e x
    have e2 := ints_of vr h
    subst e2
    exact ⟨a, ew, eh⟩
/-- sorting of ints -/
def insI (x : Int) : List Int → List Int
  | [] => [x]
  | y :: r => if x ≤ y then x :: y :: r else y :: insI x r
def sortI : List Int → List Int
  | [] => []
  | x :: r => insI x (sortI r)
theorem insI_perm (x : Int) : ∀ l : List Int, (insI x l).Perm (x :: l)
  | [] => .refl _
  | y :: r => by
    unfold insI
    by_cases h : x ≤ y
    · rw [if_pos h]
    · rw [if_neg h]
      exact ((insI_perm x r).cons y).trans (.swap x y r)
theorem sortI_perm : ∀ l : List Int, (sortI l).Perm l
  | [] => .refl _
  | x :: r => (insI_perm x _).trans ((sortI_perm r).cons x)
theorem insI_sorted (x : Int) : ∀ {l : List Int}, l.Pairwise (· ≤ ·) → (insI x l).Pairwise (· ≤ ·)
  | [], _ => List.pairwise_singleton _ _
  | y :: r, h => by
    unfold insI
    have h1 := List.pairwise_cons.mp h
    by_cases z : x ≤ y
    · rw [if_pos z]
      refine List.pairwise_cons.mpr ⟨fun a ha => ?_, h⟩
      rcases List.mem_cons.mp ha with e | e
      · rw [e]; exact z
      · exact Int.le_trans z (h1.1 a e)
    · rw [if_neg z]
      refine List.pairwise_cons.mpr ⟨fun a ha => ?_, insI_sorted x h1.2⟩
      rcases List.mem_cons.mp ((insI_perm x r).mem_iff.mp ha) with e | e
      · rw [e]; omega
      · exact h1.1 a e
theorem sortI_sorted : ∀ l : List Int, (sortI l).Pairwise (· ≤ ·)
  | [] => .nil
  | x :: r => insI_sorted x (sortI_sorted r)
theorem sorted_uniq : ∀ {xs ys : List Int}, xs.Perm ys → xs.Pairwise (· ≤ ·) → ys.Pairwise (· ≤ ·) → xs = ys
  | [], ys, p, _, _ => (List.nil_perm.mp p).symm
  | x :: xs, [], p, _, _ => absurd p.length_eq (by simp)
  | x :: xs, y :: ys, p, h1, h2 => by
    have a1 := List.pairwise_cons.mp h1
    have a2 := List.pairwise_cons.mp h2
    have e : x = y := by
      have m1 : y ∈ x :: xs := p.mem_iff.mpr List.mem_cons_self
      have m2 : x ∈ y :: ys := p.mem_iff.mp List.mem_cons_self
      rcases List.mem_cons.mp m1 with q | q
      · exact q.symm
      · rcases List.mem_cons.mp m2 with q2 | q2
        · exact q2
        · have b1 := a1.1 _ q
          have b2 := a2.1 _ q2
          omega
    subst e
    rw [sorted_uniq (List.Perm.cons_inv p) a1.2 a2.2]
def keyInts (kvs : List (Key × V)) : Option (List Int) := allSome (kvs.map fun kv => match kv.1 with
  | .inl i => some i
  | .inr _ => none)
theorem keyInts_map : ∀ {kvs : List (Key × V)} {ns : List Int}, keyInts kvs = some ns → kvs.map (·.1) = ns.map Sum.inl
  | [], _, e => by cases e; rfl
  | ⟨k, v⟩ :: r, ns, e => by
    unfold keyInts at e
    rw [List.map_cons] at e
    cases k with
    | inr x => cases e
    | inl i =>
      have e : (keyInts r).map (i :: ·) = some ns := e
      cases e2 : keyInts r with
      | none => rw [e2] at e; cases e
      | some ms => rw [e2] at e; cases e; rw [List.map_cons, List.map_cons, keyInts_map e2]
/-- sorted(x): a list of ints; a dict of fewer than 64 int keys -/
def oSorted : List V → Sto → R V := fun xs S => match xs with
  | [x] => match rdInts S x with
    | some ns => .ok (.ref S.length) (S ++ [.lst ((sortI ns).map V.int)])
    | none => match rdK S x with
      | some kvs => (match keyInts kvs with
        | some ns => if ns.length < 64 then .ok (.ref S.length) (S ++ [.lst ((sortI ns).map V.int)]) else .bad
        | none => .bad)
      | none => .bad
  | _ => .bad
theorem ints_vsr {ρ : List Addr} : ∀ ns : List Int, VsR ρ (ns.map V.int) (ns.map V.int)
  | [] => .nil
  | _ :: r => .cons rfl (ints_vsr r)
theorem cal_sorted (hc : X.calm = true) : CalX T X (.builtin "sorted") oSorted := by
  refine calX_of (fun xs S => ?_) fun pins s σ H xs us Q ρ S vs τ I r rp rv h => ?_
  · unfold oSorted
    repeat' split
    all_goals trivial
  · unfold oSorted at h
    split at h
    · obtain ⟨w, e, rw'⟩ := vsr_one rv
      subst e
      split at h
      · rename_i ns el
        obtain ⟨ad, ew, eh⟩ := rp.rdInts el rw'
        subst ew
        refine cr_sortedI pins s σ H _ us Q I r ⟨ad, ns, rfl, .inl eh, fun ns' p hp hs np => ?_⟩
        have e2 : ns' = sortI ns := sorted_uniq (hp.trans (sortI_perm ns).symm) hs (sortI_sorted ns)
        subst e2
        exact h _ _ _ (Ext.new np) (rp.alloc np ⟨_, rfl, ints_vsr _⟩) (new_ref rp.len)
      · split at h
        · rename_i kvs el
          obtain ⟨ad, ws, ew, eh, vr⟩ := rp.rdK el rw'
          subst ew
          split at h
          · rename_i ns ek
            split at h
            · rename_i hz
              refine call_sortedDI hc pins s σ H _ us Q I r ⟨ad, ws, ns, rfl, eh, (fr_keys vr).trans (keyInts_map ek), hz, fun ns' p hp hs np => ?_⟩
              have e2 : ns' = sortI ns := sorted_uniq (hp.trans (sortI_perm ns).symm) hs (sortI_sorted ns)
              subst e2
              exact h _ _ _ (Ext.new np) (rp.alloc np ⟨_, rfl, ints_vsr _⟩) (new_ref rp.len)
            · exact h.elim
          · exact h.elim
        · exact h.elim
    · exact h.elim
/-- sum, all, any of lists -/
def oSum : List V → Sto → R V := fun xs S => match xs with
  | [x] => match rdInts S x with
    | some ns => .ok (.int ns.sum) S
    | none => .bad
  | _ => .bad
theorem cal_sum (hc : X.calm = true) : CalX T X (.builtin "sum") oSum := by
  refine calX_of (fun xs S => ?_) fun pins s σ H xs us Q ρ S vs τ I r rp rv h => ?_
  · unfold oSum
    repeat' split
    all_goals trivial
  · unfold oSum at h
    split at h
    · obtain ⟨w, e, rw'⟩ := vsr_one rv
      subst e
      split at h
      · rename_i ns el
        obtain ⟨ad, ew, eh⟩ := rp.rdInts el rw'
        subst ew
        exact cr_sum hc pins s σ H _ us Q I r ⟨ad, ns, rfl, .inl eh, h ρ H _ Ext.refl rp rfl⟩
      · exact h.elim
    · exact h.elim
def rdBls (S : Sto) (x : V) : Option (List Bool) := (rdL S x).bind fun xs => allSome (xs.map toBl)
def oAll : List V → Sto → R V := fun xs S => match xs with
  | [x] => match rdBls S x with
    | some bs => .ok (.bl (bs.all id)) S
    | none => .bad
  | _ => .bad
def oAny : List V → Sto → R V := fun xs S => match xs with
  | [x] => match rdBls S x with
    | some bs => .ok (.bl (bs.any id)) S
    | none => .bad
  | _ => .bad
theorem Rep.rdBls {G : Gm} {ρ : List Addr} {S : Sto} {H : Hp} {v w : V} {ns : List Bool} (r : Rep G ρ S H) (h : rdBls S v = some ns) (x : VR ρ v w) : ∃ a, w = .ref a ∧ Rd H a (.lst (ns.map V.bl)) := by
  unfold Mi.rdBls at h
  cases e : Mi.rdL S v with
  | none => rw [e] at h; cases h
  | some xs =>
    rw [e] at h
    obtain ⟨a, ws, ew, eh, vr⟩ := r.rdL e x
    have e2 := bls_of vr h
    subst e2
    exact ⟨a, ew, eh⟩
theorem cal_all (hc : X.calm = true) : CalX T X (.builtin "all") oAll := by
  refine calX_of (fun xs S => ?_) fun pins s σ H xs us Q ρ S vs τ I r rp rv h => ?_
  · unfold oAll
    repeat' split
    all_goals trivial
  · unfold oAll at h
    split at h
    · obtain ⟨w, e, rw'⟩ := vsr_one rv
      subst e
      split at h
      · rename_i ns el
        obtain ⟨ad, ew, eh⟩ := rp.rdBls el rw'
        subst ew
        exact cr_all hc pins s σ H _ us Q I r ⟨ad, ns, rfl, .inl eh, h ρ H _ Ext.refl rp rfl⟩
      · exact h.elim
    · exact h.elim
theorem cal_any (hc : X.calm = true) : CalX T X (.builtin "any") oAny := by
  refine calX_of (fun xs S => ?_) fun pins s σ H xs us Q ρ S vs τ I r rp rv h => ?_
  · unfold oAny
    repeat' split
    all_goals trivial
  · unfold oAny at h
    split at h
    · obtain ⟨w, e, rw'⟩ := vsr_one rv
      subst e
      split at h
      · rename_i ns el
        obtain ⟨ad, ew, eh⟩ := rp.rdBls el rw'
        subst ew
        exact cr_any hc pins s σ H _ us Q I r ⟨ad, ns, rfl, .inl eh, h ρ H _ Ext.refl rp rfl⟩
      · exact h.elim
    · exact h.elim
/-- abs, max, min of two -/
def oAbs : List V → Sto → R V := fun xs S => match xs with
  | [.int i] => .ok (.int (if i < 0 then -i else i)) S
  | _ => .bad
def oMax2 : List V → Sto → R V := fun xs S => match xs with
  | [.int i, .int j] => .ok (.int (if j > i then j else i)) S
  | _ => .bad
def oMin2 : List V → Sto → R V := fun xs S => match xs with
  | [.int i, .int j] => .ok (.int (if j < i then j else i)) S
  | _ => .bad
theorem cal_abs : CalX T X (.builtin "abs") oAbs := by
  refine calX_of (fun xs S => ?_) fun pins s σ H xs us Q ρ S vs τ I r rp rv h => ?_
  · unfold oAbs
    split <;> trivial
  · unfold oAbs at h
    split at h
    · obtain ⟨w, e, rw'⟩ := vsr_one rv
      subst e
      cases rw'
      exact call_abs pins s σ H _ us Q I r ⟨_, rfl, h ρ H _ Ext.refl rp rfl⟩
    · exact h.elim
theorem cal_max2 (hc : X.calm = true) : CalX T X (.builtin "max") oMax2 := by
  refine calX_of (fun xs S => ?_) fun pins s σ H xs us Q ρ S vs τ I r rp rv h => ?_
  · unfold oMax2
    split <;> trivial
  · unfold oMax2 at h
    split at h
    · obtain ⟨w, z, e, r1, r2⟩ := vsr_two rv
      subst e
      cases r1
      cases r2
      exact call_max2 hc pins s σ H _ us Q I r ⟨_, _, rfl, h ρ H _ Ext.refl rp rfl⟩
    · exact h.elim
theorem cal_min2 (hc : X.calm = true) : CalX T X (.builtin "min") oMin2 := by
  refine calX_of (fun xs S => ?_) fun pins s σ H xs us Q ρ S vs τ I r rp rv h => ?_
  · unfold oMin2
    split <;> trivial
  · unfold oMin2 at h
    split at h
    · obtain ⟨w, z, e, r1, r2⟩ := vsr_two rv
      subst e
      cases r1
      cases r2
      exact call_min2 hc pins s σ H _ us Q I r ⟨_, _, rfl, h ρ H _ Ext.refl rp rfl⟩
    · exact h.elim
/-- dict(x): a dict; a list of pairs -/
def rdPair (S : Sto) (v : V) : Option (Key × V) := match rdT S v with
  | some [k, w] => (keyOf k).map fun k => (k, w)
  | _ => none
def oDict : List V → Sto → R V := fun xs S => match xs with
  | [x] => match rdK S x with
    | some kvs => .ok (.ref S.length) (S ++ [.dK kvs])
    | none => match rdL S x with
      | some ps => (match allSome (ps.map (rdPair S)) with
        | some kvs => .ok (.ref S.length) (S ++ [.dK (mergeK [] kvs)])
        | none => .bad)
      | none => .bad
  | _ => .bad
theorem fr_merge {ρ : List Addr} {more more' : List (Key × V)} (h : FR ρ more more') : ∀ {kvs ws : List (Key × V)}, FR ρ kvs ws → FR ρ (mergeK kvs more) (mergeK ws more') := by
  induction h with
  | nil => exact fun h => h
  | @cons p q ps qs r t ih =>
    intro kvs ws h2
    unfold mergeK
    rw [List.foldl_cons, List.foldl_cons, ← r.1]
    exact ih (fr_put h2 r.2)
theorem pairs_rd {G : Gm} {ρ : List Addr} {S : Sto} {H : Hp} (rp : Rep G ρ S H) : ∀ {ps ws : List V} {kvs : List (Key × V)}, VsR ρ ps ws → allSome (ps.map (rdPair S)) = some kvs →
    ∃ (as : List Addr) (kws : List (Key × V)), ws = as.map V.ref ∧ Paired (fun p kv => SqT G.K H p [kV kv.1, kv.2]) as kws ∧ FR ρ kvs kws
  | _, _, _, .nil, e => by cases e; exact ⟨[], [], rfl, .nil, .nil⟩
  | _, _, kvs, .cons (a := a) (l₁ := l) r t, e => by
    rw [List.map_cons] at e
    cases e1 : rdPair S a with
    | none => rw [e1] at e; cases e
    | some kv =>
      rw [e1] at e
      have e : (allSome (l.map (rdPair S))).map (kv :: ·) = some kvs := e
      cases e2 : allSome (l.map (rdPair S)) with
      | none => rw [e2] at e; cases e
      | some rest =>
        rw [e2] at e
        cases e
        obtain ⟨as, kws, h1, h2, h3⟩ := pairs_rd rp t e2
        unfold rdPair at e1
        split at e1
        · rename_i k w et
          obtain ⟨ad, ws, ew, eh, vr⟩ := rp.rdT et r
          subst ew
          obtain ⟨w1, w2, e3, q1, q2⟩ := vsr_two vr
          subst e3
          cases ek : keyOf k with
          | none => rw [ek] at e1; cases e1
          | some kk =>
            rw [ek] at e1
            cases e1
            have e4 := key_vr ek q1
            subst e4
            exact ⟨ad :: as, (kk, w2) :: kws, by rw [h1]; rfl, .cons (.inl (.inl eh)) h2, .cons ⟨rfl, q2⟩ h3⟩
        · cases e1
theorem cal_dict (hc : X.calm = true) : CalX T X (.type "dict") oDict := by
  refine calX_of (fun xs S => ?_) fun pins s σ H xs us Q ρ S vs τ I r rp rv h => ?_
  · unfold oDict
    repeat' split
    all_goals trivial
  · unfold oDict at h
    split at h
    · obtain ⟨w, e, rw'⟩ := vsr_one rv
      subst e
      split at h
      · rename_i kvs el
        obtain ⟨ad, ws, ew, eh, vr⟩ := rp.rdK el rw'
        subst ew
        exact call_dictD pins s σ H _ us Q I r ⟨ad, ws, rfl, eh, fun p np => h _ _ _ (Ext.new np) (rp.alloc np ⟨_, rfl, FR.mono vr (List.prefix_append _ _)⟩) (new_ref rp.len)⟩
      · split at h
        · rename_i ps el
          obtain ⟨ad, ws, ew, eh, vr⟩ := rp.rdL el rw'
          subst ew
          split at h
          · rename_i kvs ek
            obtain ⟨as, kws, h1, h2, h3⟩ := pairs_rd rp vr ek
            subst h1
            exact call_dictP hc pins s σ H _ us Q I r ⟨ad, as, kws, rfl, .inl eh, h2, fun p np => h _ _ _ (Ext.new np) (rp.alloc np ⟨_, rfl, FR.mono (fr_merge h3 .nil) (List.prefix_append _ _)⟩) (new_ref rp.len)⟩
          · exact h.elim
        · exact h.elim
    · exact h.elim
end
end Mi

namespace Mi
open PySem PySem.Spec L2
open PyProof.Rows hiding St

/-! ### methods of lists, dicts, texts -/
def tyS (Ty : String) (S : Sto) : V → Bool
  | .str _ => Ty == "str"
  | .ref i => match S[i]? with
    | some (.lst _) => Ty == "list"
    | some (.lck (.lst _)) => Ty == "list"
    | some (.dK _) => Ty == "dict"
    | some (.lck (.dK _)) => Ty == "dict"
    | _ => false
  | _ => false
abbrev Mth := V → List V → Sto → R V
def denM (G : Gm) (o : Mth) : V → List V → Hp → VK → Prop := fun x xs H Q => ∃ ρ S v vs σ, Rep G ρ S H ∧ VR ρ v x ∧ VsR ρ vs xs ∧ Post G (fun _ _ _ _ => False) VR ρ H σ Q (o v vs S)
abbrev MthX (T : Tab) (X : Cx) (id : String) (o : Mth) : Prop := MtR X id (denM (gm T X) o) ∧ ∀ x xs S, (o x xs S).quiet
def mBM (Ty : String) (o : Mth) (a : ME) (b : MA) : ME := fun σ S => (a σ S).bind fun x S1 => if tyS Ty S1 x = true then (b σ S1).bind fun xs S2 => o x xs S2 else .bad
section
variable {T : Tab} {W : WX} {X : Cx} {o e : Expr} {es : List Expr} {mo : ME} {ms : MA} {name : Str} {apos cpos : Pos} {Ty id : String} {f : Mth}
theorem tyS_is {pins : List (Addr × Obj)} {σ : St} {H : Hp} {s : Shared} {ρ : List Addr} {S : Sto} {a w : V} {v : Value} (I : Inv X pins σ H s) (rp : Rep (gm T X) ρ S H) (x : VR ρ a w) (r : RelV w v) (ty : tyS Ty S a = true) :
    s.TypeIs v Ty ∧ ∀ a, v = .ref a → ∃ ob, s.heap.get? a = some ob ∧ ob.dict = none := by
  unfold tyS at ty
  split at ty
  · cases x
    exact tyV_is I r (show Ty = "str" from of_decide_eq_true ty)
  · split at ty
    · rename_i es
      obtain ⟨ad, u, ew, er, eh, ws, eu, vr⟩ := rp.ref es x
      subst ew; subst eu
      exact tyV_is I r (.inl ⟨of_decide_eq_true ty, ws, .inl (.inl eh)⟩)
    · rename_i es
      obtain ⟨ad, u, ew, er, eh, ob, u2, eu, ws, eu2, vr⟩ := rp.ref es x
      subst ew; subst eu; subst eu2
      exact tyV_is I r (.inl ⟨of_decide_eq_true ty, ws, .inl (.inr ⟨ob, eh⟩)⟩)
    · rename_i es
      obtain ⟨ad, u, ew, er, eh, ws, eu, vr⟩ := rp.ref es x
      subst ew; subst eu
      exact tyV_is I r (.inr (.inr (.inl ⟨of_decide_eq_true ty, .inl ⟨ws, eh⟩⟩)))
    · rename_i es
      obtain ⟨ad, u, ew, er, eh, ob, u2, eu, ws, eu2, vr⟩ := rp.ref es x
      subst ew; subst eu; subst eu2
      cases r
      obtain ⟨t1, t2, _⟩ := isD_at I (.inl ⟨ws, .inr ⟨ob, eh⟩⟩)
      have e : Ty = "dict" := of_decide_eq_true ty
      subst e
      exact ⟨t1, t2⟩
    · cases ty
  · cases ty
theorem de_bm0 (pa : PlainAttrs Ty) (slot : Slot Ty name id) (hty : typeOf (.builtin id) = pure (.type "method_descriptor")) (hm : MthX T X id f) (ho : DE T X W o mo)
    (hbase : attributeBase o name X.env (eval o X.env) = eval o X.env := by rfl) (hline : (apos.endLine == cpos.line) = true := by rfl) : DE T X W (.Call (.Attribute o name apos) [] [] cpos) (mBM Ty f mo mNil) := by
  refine ⟨fun pins s σ H Q I h => ?_⟩
  obtain ⟨ρ, S, τ, r, l, h⟩ := h
  have h' : den (gm T X) W VR mo σ H (fun w H1 => ∃ ρ1 S1 x, Rep (gm T X) ρ1 S1 H1 ∧ VR ρ1 x w ∧ tyS Ty S1 x = true ∧ Post (gm T X) W VR ρ1 H1 σ Q (f x [] S1)) := by
    refine ⟨ρ, S, τ, r, l, Post.bind h fun ρ1 S1 H1 x w p1 r1 x1 h1 => ?_⟩
    by_cases z : tyS Ty S1 x = true
    · rw [if_pos z] at h1
      exact ⟨ρ1, S1, x, r1, x1, z, h1⟩
    · rw [if_neg z] at h1
      exact h1.elim
  refine wpAny_Call_method0_late hbase hline (thn (ho.run pins s σ H _ I h') fun v s1 ⟨w, H1, I1, rv, ρ1, S1, x, r1, x1, ty, h1⟩ => ?_)
  obtain ⟨h2, h3⟩ := tyS_is I1 r1 x1 rv ty
  exact ⟨Ty, id, pa, slot, hty, h2, h3, Calls.callWith_builtin rfl (PySem.evalArgs_none (hm.1 pins s1 σ H1 w [] v [] Q I1 rv .nil ⟨ρ1, S1, x, [], σ, r1, x1, .nil, h1.still (hm.2 _ _ _)⟩))⟩
theorem de_bm (pa : PlainAttrs Ty) (slot : Slot Ty name id) (hty : typeOf (.builtin id) = pure (.type "method_descriptor")) (hm : MthX T X id f) (ho : DE T X W o mo) (ha : DA T X W (e :: es) ms)
    (hbase : attributeBase o name X.env (eval o X.env) = eval o X.env := by rfl)
    (hfew : ((backTo cpos (starEach (e :: es) X.env)).all (fun x => !x.1) && (backToKw cpos (keywordEach [] X.env)).all (fun x => x.1.isSome)
      && decide ((e :: es).length + ([] : List Keyword).length + (if ([] : List Keyword).isEmpty then 0 else 1) < 30)) = true := by rfl)
    (hline : (apos.endLine == cpos.line) = true := by rfl) (hs : starEach (e :: es) X.env = (false, eval e X.env) :: starEach es X.env := by rfl) (hplain : (backTo cpos (starEach es X.env)).any (·.1) = false := by rfl) :
    DE T X W (.Call (.Attribute o name apos) (e :: es) [] cpos) (mBM Ty f mo ms) := by
  refine ⟨fun pins s σ H Q I h => ?_⟩
  obtain ⟨ρ, S, τ, r, l, h⟩ := h
  have h' : den (gm T X) W VR mo σ H (fun w H1 => ∃ ρ1 S1 x, Rep (gm T X) ρ1 S1 H1 ∧ LR ρ1 τ σ ∧ VR ρ1 x w ∧ tyS Ty S1 x = true ∧ Post (gm T X) W VR ρ1 H1 σ Q ((ms τ S1).bind fun xs S2 => f x xs S2)) := by
    refine ⟨ρ, S, τ, r, l, Post.bind h fun ρ1 S1 H1 x w p1 r1 x1 h1 => ?_⟩
    by_cases z : tyS Ty S1 x = true
    · rw [if_pos z] at h1
      exact ⟨ρ1, S1, x, r1, l.mono p1.pre, x1, z, h1⟩
    · rw [if_neg z] at h1
      exact h1.elim
  refine wpAny_Call_method_late hbase hfew hline rfl (thn (ho.run pins s σ H _ I h') fun v s1 ⟨w, H1, I1, rv, ρ1, S1, x, r1, l1, x1, ty, h1⟩ => ?_)
  obtain ⟨h2, h3⟩ := tyS_is I1 r1 x1 rv ty
  refine ⟨Ty, id, pa, slot, hty, h2, h3, ?_⟩
  have h4 : den (gm T X) W VsR ms σ H1 (fun ws H2 => denM (gm T X) f w ws H2 Q) := by
    refine ⟨ρ1, S1, τ, r1, l1, Post.bind h1 fun ρ2 S2 H2 xs ws p2 r2 x2 q2 => ?_⟩
    exact ⟨ρ2, S2, x, xs, σ, r2, x1.mono p2.pre, x2, q2.still (hm.2 _ _ _)⟩
  have hA := ha.run cpos pins s1 σ H1 _ I1 h4
  rw [hs] at hA ⊢
  refine Calls.callWith_builtin (by show (false || (backTo cpos (starEach es X.env)).any (·.1)) = false; rw [hplain] <;> rfl) (Calls.evalArgs_plain ?_)
  exact thn hA fun us s2 ⟨vs, H2, I2, r2, q2⟩ => hm.1 pins s2 σ H2 w vs v us Q I2 rv r2 q2
end
section
variable {T : Tab} {X : Cx}
theorem mthX_of {id : String} {o : Mth} (hq : ∀ x xs S, (o x xs S).quiet)
    (h : ∀ (pins : List (Addr × Obj)) (s : Shared) (σ : St) (H : Hp) (x : V) (xs : List V) (v : Value) (us : List Value) (Q : VK) (ρ : List Addr) (S : Sto) (a : V) (vs : List V) (τ : St), Inv X pins σ H s → RelV x v → Vals xs us → Rep (gm T X) ρ S H → VR ρ a x → VsR ρ vs xs →
      Post (gm T X) W0 VR ρ H τ Q (o a vs S) → wpAny (model X.prog X.w) X.A (call (.builtin id) (v :: us)) (EP X pins σ Q) X.xe s) : MthX T X id o :=
  ⟨fun pins s σ H x xs v us Q I rx r ⟨ρ, S, a, vs, τ, rp, ra, rv, q⟩ => h pins s σ H x xs v us Q ρ S a vs τ I rx r rp ra rv q, hq⟩
/-- the list that is written -/
def onLst (x : V) (S : Sto) (f : Nat → List V → R V) : R V := match x with
  | .ref i => match S[i]? with
    | some (.lst xs) => f i xs
    | _ => .bad
  | _ => .bad
def oAppend : Mth := fun x as S => match as with
  | [y] => onLst x S fun i xs => if xs.length < sizeLine then .ok .non (S.set i (.lst (xs ++ [y]))) else .bad
  | _ => .bad
theorem onLst_of {G : Gm} {ρ : List Addr} {S : Sto} {H : Hp} {τ : St} {Q : VK} {a x : V} {f : Nat → List V → R V} (rp : Rep G ρ S H) (ra : VR ρ a x) (h : Post G W0 VR ρ H τ Q (onLst a S f)) :
    ∃ i xs ad ws, S[i]? = some (.lst xs) ∧ x = .ref ad ∧ H ad = some (.lst ws) ∧ VsR ρ xs ws ∧ (∀ ys zs, VsR ρ ys zs → Rep G ρ (S.set i (.lst ys)) (upd H ad (.lst zs)) ∧ Ext ρ H ρ (upd H ad (.lst zs))) ∧ Post G W0 VR ρ H τ Q (f i xs) := by
  unfold onLst at h
  split at h
  · split at h
    · rename_i i _ xs es
      obtain ⟨ad, u, ew, er, eh, ws, eu, vr⟩ := rp.ref es ra
      subst ew; subst eu
      exact ⟨i, xs, ad, ws, es, rfl, eh, vr, fun ys zs q => ⟨rp.write es er (fun fs q => by rw [eh] at q; cases q) ⟨_, rfl, q⟩, Ext.put eh fun _ _ q => nomatch q⟩, h⟩
    · exact h.elim
  · exact h.elim
theorem onLst_quiet {x : V} {S : Sto} {f : Nat → List V → R V} (h : ∀ i xs, (f i xs).quiet) : (onLst x S f).quiet := by
  unfold onLst
  repeat' split
  all_goals first | exact h _ _ | trivial
theorem mth_append : MthX T X "list.append" oAppend := by
  refine mthX_of (fun x xs S => ?_) fun pins s σ H x xs v us Q ρ S a vs τ I rx r rp ra rv h => ?_
  · unfold oAppend
    split
    · exact onLst_quiet fun i xs => by split <;> trivial
    · trivial
  · unfold oAppend at h
    split at h
    · obtain ⟨w, e, rw'⟩ := vsr_one rv
      subst e
      obtain ⟨i, ys, ad, ws, es, ex, eh, vr, up, h⟩ := onLst_of rp ra h
      subst ex
      split at h
      · rename_i hz
        obtain ⟨k1, k2⟩ := up _ _ (prd_app vr (.cons rw' .nil))
        exact mt_append pins s σ H _ _ v us Q I rx r ⟨ad, ws, w, rfl, rfl, eh, by rw [← prd_len vr]; exact hz, h ρ _ _ k2 k1 rfl⟩
      · exact h.elim
    · exact h.elim
def oExtend : Mth := fun x as S => match as with
  | [.ref j] => onLst x S fun i xs => match S[j]? with
    | some (.lst ys) => if xs.length + ys.length ≤ sizeLine then .ok .non (S.set i (.lst (xs ++ ys))) else .bad
    | _ => .bad
  | _ => .bad
theorem mth_extend : MthX T X "list.extend" oExtend := by
  refine mthX_of (fun x xs S => ?_) fun pins s σ H x xs v us Q ρ S a vs τ I rx r rp ra rv h => ?_
  · unfold oExtend
    split
    · refine onLst_quiet fun i xs => ?_
      repeat' split
      all_goals trivial
    · trivial
  · unfold oExtend at h
    split at h
    · obtain ⟨w, e, rw'⟩ := vsr_one rv
      subst e
      obtain ⟨i, ys, ad, ws, es, ex, eh, vr, up, h⟩ := onLst_of rp ra h
      subst ex
      split at h
      · rename_i es2
        obtain ⟨ad2, u, ew, er, eh2, ws2, eu, vr2⟩ := rp.ref es2 rw'
        subst ew; subst eu
        split at h
        · rename_i hz
          obtain ⟨k1, k2⟩ := up _ _ (prd_app vr vr2)
          exact mt_extend pins s σ H _ _ v us Q I rx r ⟨ad, ad2, ws, ws2, rfl, rfl, eh, eh2, by rw [← prd_len vr, ← prd_len vr2]; exact hz, h ρ _ _ k2 k1 rfl⟩
        · exact h.elim
      · exact h.elim
    · exact h.elim
def oPop : Mth := fun x as S => match as with
  | [] => onLst x S fun i xs => match xs[xs.length - 1]? with
    | some y => .ok y (S.set i (.lst xs.dropLast))
    | none => .bad
  | [.int k] => onLst x S fun i xs => if -(2 ^ 63) ≤ k ∧ k < 2 ^ 63 then (match seqIndex? k xs.length with
    | some j => (match xs[j]? with
      | some y => .ok y (S.set i (.lst (xs.eraseIdx j)))
      | none => .bad)
    | none => .bad) else .bad
  | _ => .bad
theorem prd_dropLast {α β : Type} {F : α → β → Prop} {xs : List α} {ys : List β} (h : Paired F xs ys) : Paired F xs.dropLast ys.dropLast := by
  rw [List.dropLast_eq_take, List.dropLast_eq_take, ← prd_len h]
  exact prd_take _ h
theorem prd_erase {α β : Type} {F : α → β → Prop} : ∀ {xs : List α} {ys : List β} (j : Nat), Paired F xs ys → Paired F (xs.eraseIdx j) (ys.eraseIdx j)
  | _, _, _, .nil => .nil
  | _, _, 0, .cons _ t => t
  | _, _, j + 1, .cons r t => .cons r (prd_erase j t)
theorem mth_pop : MthX T X "list.pop" oPop := by
  refine mthX_of (fun x xs S => ?_) fun pins s σ H x xs v us Q ρ S a vs τ I rx r rp ra rv h => ?_
  · unfold oPop
    split
    · refine onLst_quiet fun i xs => ?_
      repeat' split
      all_goals trivial
    · refine onLst_quiet fun i xs => ?_
      repeat' split
      all_goals trivial
    · trivial
  · unfold oPop at h
    split at h
    · cases rv
      obtain ⟨i, ys, ad, ws, es, ex, eh, vr, up, h⟩ := onLst_of rp ra h
      subst ex
      split at h
      · rename_i y ey
        obtain ⟨w, ew, rw'⟩ := prd_get vr ey
        obtain ⟨k1, k2⟩ := up _ _ (prd_dropLast vr)
        exact mt_pop pins s σ H _ _ v us Q I rx r ⟨ad, ws, w, rfl, rfl, eh, by rw [← prd_len vr]; exact ew, h ρ _ _ k2 k1 rw'⟩
      · exact h.elim
    · obtain ⟨w, e, rw'⟩ := vsr_one rv
      subst e
      cases rw'
      obtain ⟨i, ys, ad, ws, es, ex, eh, vr, up, h⟩ := onLst_of rp ra h
      subst ex
      split at h
      · rename_i hz
        split at h
        · rename_i j ej
          split at h
          · rename_i y ey
            obtain ⟨w, ew, rw'⟩ := prd_get vr ey
            obtain ⟨k1, k2⟩ := up _ _ (prd_erase j vr)
            exact mt_popAt pins s σ H _ _ v us Q I rx r ⟨ad, ws, _, j, w, rfl, rfl, eh, hz.1, hz.2, by rw [← prd_len vr]; exact ej, ew, h ρ _ _ k2 k1 rw'⟩
          · exact h.elim
        · exact h.elim
      · exact h.elim
    · exact h.elim
def oReverse : Mth := fun x as S => match as with
  | [] => onLst x S fun i xs => .ok .non (S.set i (.lst xs.reverse))
  | _ => .bad
theorem mth_reverse : MthX T X "list.reverse" oReverse := by
  refine mthX_of (fun x xs S => ?_) fun pins s σ H x xs v us Q ρ S a vs τ I rx r rp ra rv h => ?_
  · unfold oReverse
    split
    · exact onLst_quiet fun i xs => trivial
    · trivial
  · unfold oReverse at h
    split at h
    · cases rv
      obtain ⟨i, ys, ad, ws, es, ex, eh, vr, up, h⟩ := onLst_of rp ra h
      subst ex
      obtain ⟨k1, k2⟩ := up _ _ (prd_rev vr)
      exact mt_reverse pins s σ H _ _ v us Q I rx r ⟨ad, ws, rfl, rfl, eh, h ρ _ _ k2 k1 rfl⟩
    · exact h.elim
def oClear : Mth := fun x as S => match as with
  | [] => onLst x S fun i xs => .ok .non (S.set i (.lst []))
  | _ => .bad
theorem mth_clear : MthX T X "list.clear" oClear := by
  refine mthX_of (fun x xs S => ?_) fun pins s σ H x xs v us Q ρ S a vs τ I rx r rp ra rv h => ?_
  · unfold oClear
    split
    · exact onLst_quiet fun i xs => trivial
    · trivial
  · unfold oClear at h
    split at h
    · cases rv
      obtain ⟨i, ys, ad, ws, es, ex, eh, vr, up, h⟩ := onLst_of rp ra h
      subst ex
      obtain ⟨k1, k2⟩ := up [] [] .nil
      exact mt_clear pins s σ H _ _ v us Q I rx r ⟨ad, ws, rfl, rfl, eh, h ρ _ _ k2 k1 rfl⟩
    · exact h.elim
def oInsert : Mth := fun x as S => match as with
  | [.int k, y] => onLst x S fun i xs => if xs.length < sizeLine ∧ 0 ≤ k ∧ k < 2 ^ 63 then .ok .non (S.set i (.lst (xs.take k.toNat ++ [y] ++ xs.drop k.toNat))) else .bad
  | _ => .bad
theorem mth_insert : MthX T X "list.insert" oInsert := by
  refine mthX_of (fun x xs S => ?_) fun pins s σ H x xs v us Q ρ S a vs τ I rx r rp ra rv h => ?_
  · unfold oInsert
    split
    · exact onLst_quiet fun i xs => by split <;> trivial
    · trivial
  · unfold oInsert at h
    split at h
    · obtain ⟨w, z, e, r1, r2⟩ := vsr_two rv
      subst e
      cases r1
      obtain ⟨i, ys, ad, ws, es, ex, eh, vr, up, h⟩ := onLst_of rp ra h
      subst ex
      split at h
      · rename_i hz
        obtain ⟨k1, k2⟩ := up _ _ (prd_app (prd_app (prd_take _ vr) (.cons r2 .nil)) (prd_drop _ vr))
        exact mt_insert pins s σ H _ _ v us Q I rx r ⟨ad, ws, _, z, rfl, rfl, eh, by rw [← prd_len vr]; exact hz.1, hz.2.1, hz.2.2, h ρ _ _ k2 k1 rfl⟩
      · exact h.elim
    · exact h.elim
/-- xs.count(y), of flat values -/
def oCount : Mth := fun x as S => match as, rdL S x with
  | [y], some xs => if flatV y = true ∧ xs.all flatV = true then .ok (.int (xs.countP fun z => eqV z y : Nat)) S else .bad
  | _, _ => .bad
theorem count_eqU {x : V} : ∀ {xs : List V} {us : List Value}, Vals xs us → xs.all flatV = true → us.countP (eqU x) = xs.countP fun y => eqV y x
  | _, _, .nil, _ => rfl
  | y :: xs, u :: us, .cons r t, f => by
    rw [List.all_cons, Bool.and_eq_true] at f
    rw [List.countP_cons, List.countP_cons, eqU_of r f.1, count_eqU t f.2]
theorem mth_count : MthX T X "list.count" oCount := by
  refine mthX_of (fun x xs S => ?_) fun pins s σ H x xs v us Q ρ S a vs τ I rx r rp ra rv h => ?_
  · unfold oCount
    repeat' split
    all_goals trivial
  · unfold oCount at h
    split at h
    · rename_i y ys el
      obtain ⟨w, e, rw'⟩ := vsr_one rv
      subst e
      obtain ⟨ad, ws, ew, eh, vr⟩ := rp.rdL el ra
      subst ew
      split at h
      · rename_i hz
        have e2 := flat_vr vr hz.2
        subst e2
        have e3 := (eqV_vr rw' rw' hz.1 hz.1).1
        subst e3
        have h := h ρ H _ Ext.refl rp rfl
        cases rx
        obtain ⟨u, rfl, ru⟩ := r.one
        obtain ⟨its, rv2, ⟨⟨cls, dd, data, sl⟩, n, ho, hc, hdn, hd⟩, hlen⟩ := I.list (.inl eh)
        simp only at hc hd
        subst hc hd
        refine call_meets PySem.F.slot_list_count ⟨_, ho, rfl⟩ PySem.F.entry_list_count (PySem.F.args_list_count_2 _ _)
          (SeqAt.list_countAt ad its.toArray n dd sl u (eqU w)) ⟨ho, fun y hy => mem_eqAt ru hz.1 rv2 hz.2 y (by simpa using hy), ?_⟩
        refine ⟨.int (its.countP (eqU w) : Nat), H, I.tok _, ⟨s.toks, rfl⟩, ?_⟩
        rw [count_eqU rv2 hz.2]
        exact h
      · exact h.elim
    · exact h.elim
/-- xs.index(y), of flat values, there -/
def oIndex : Mth := fun x as S => match as, rdL S x with
  | [y], some xs => if flatV y = true ∧ xs.all flatV = true ∧ xs.findIdx (fun z => eqV z y) < xs.length then .ok (.int (xs.findIdx fun z => eqV z y : Nat)) S else .bad
  | _, _ => .bad
theorem mth_index : MthX T X "list.index" oIndex := by
  refine mthX_of (fun x xs S => ?_) fun pins s σ H x xs v us Q ρ S a vs τ I rx r rp ra rv h => ?_
  · unfold oIndex
    repeat' split
    all_goals trivial
  · unfold oIndex at h
    split at h
    · rename_i y ys el
      obtain ⟨w, e, rw'⟩ := vsr_one rv
      subst e
      obtain ⟨ad, ws, ew, eh, vr⟩ := rp.rdL el ra
      subst ew
      split at h
      · rename_i hz
        have e2 := flat_vr vr hz.2.1
        subst e2
        have e3 := (eqV_vr rw' rw' hz.1 hz.1).1
        subst e3
        refine mt_index pins s σ H _ _ v us Q I rx r ⟨ad, ws, w, _, ws[ws.findIdx fun z => eqV z w], rfl, rfl, .inl eh, hz.1, hz.2.1, List.getElem?_eq_getElem hz.2.2, List.findIdx_getElem (w := hz.2.2), fun m z hm e => ?_, h ρ H _ Ext.refl rp rfl⟩
        have hl := List.getElem?_eq_some_iff.mp e
        have := List.not_of_lt_findIdx hm
        rw [hl.2] at this
        simpa using this
      · exact h.elim
    · exact h.elim
/-- d.get(k), d.get(k, x), d.pop(k), d.pop(k, x) -/
def oGet : Mth := fun x as S => match as, rdK S x with
  | [y], some kvs => (match keyOf y with
    | some k => .ok ((valV kvs k).getD .non) S
    | none => .bad)
  | [y, z], some kvs => (match keyOf y with
    | some k => .ok ((valV kvs k).getD z) S
    | none => .bad)
  | _, _ => .bad
theorem fr_getD {ρ : List Addr} {kvs ws : List (Key × V)} {k : Key} {z z' : V} (h : FR ρ kvs ws) (r : VR ρ z z') : VR ρ ((valV kvs k).getD z) ((valV ws k).getD z') := by
  cases e : valV kvs k with
  | none => rw [(fr_val h).2 e]; exact r
  | some v => obtain ⟨w, e2, q⟩ := fr_get h e; rw [e2]; exact q
theorem mth_get (hu : X.A.units + 1 < cLine) : MthX T X "dict.get" oGet := by
  refine mthX_of (fun x xs S => ?_) fun pins s σ H x xs v us Q ρ S a vs τ I rx r rp ra rv h => ?_
  · unfold oGet
    repeat' split
    all_goals trivial
  · unfold oGet at h
    split at h
    · rename_i y kvs el
      obtain ⟨w, e, rw'⟩ := vsr_one rv
      subst e
      obtain ⟨ad, ws, ew, eh, vr⟩ := rp.rdK el ra
      subst ew
      split at h
      · rename_i k ek
        have e3 := key_vr ek rw'
        subst e3
        cases rx
        obtain ⟨u, rfl, ru⟩ := r.one
        exact d_get1 hu I (.inl ⟨ws, k, eh, rfl, rfl⟩) ru fun w' s3 I3 rw' => ⟨_, H, I3, rw', h ρ H _ Ext.refl rp (fr_getD vr rfl)⟩
      · exact h.elim
    · rename_i y z kvs el
      obtain ⟨w, w2, e, rw', rz⟩ := vsr_two rv
      subst e
      obtain ⟨ad, ws, ew, eh, vr⟩ := rp.rdK el ra
      subst ew
      split at h
      · rename_i k ek
        have e3 := key_vr ek rw'
        subst e3
        cases rx
        obtain ⟨u, u2, rfl, ru, ru2⟩ := r.two
        exact d_get2 hu I (.inl ⟨ws, k, eh, rfl, rfl⟩) ru ru2 fun w' s3 I3 rw' => ⟨_, H, I3, rw', h ρ H _ Ext.refl rp (fr_getD vr rz)⟩
      · exact h.elim
    · exact h.elim
def oDPop : Mth := fun x as S => match x with
  | .ref i => match S[i]? with
    | some (.dK kvs) => (match as with
      | [y] => (match keyOf y with
        | some k => (match valV kvs k with
          | some v => .ok v (S.set i (.dK (dropK kvs k)))
          | none => .bad)
        | none => .bad)
      | [y, z] => (match keyOf y with
        | some k => (match valV kvs k with
          | some v => .ok v (S.set i (.dK (dropK kvs k)))
          | none => .ok z S)
        | none => .bad)
      | _ => .bad)
    | _ => .bad
  | _ => .bad
theorem mth_dpop : MthX T X "dict.pop" oDPop := by
  refine mthX_of (fun x xs S => ?_) fun pins s σ H x xs v us Q ρ S a vs τ I rx r rp ra rv h => ?_
  · unfold oDPop
    repeat' split
    all_goals trivial
  · unfold oDPop at h
    split at h
    · split at h
      · rename_i i _ kvs es
        obtain ⟨ad, u, ew, er, eh, ws, eu, vr⟩ := rp.ref es ra
        subst ew; subst eu
        have up : ∀ k, Rep (gm T X) ρ (S.set i (.dK (dropK kvs k))) (upd H ad (.dK (dropK ws k))) := fun k => rp.write es er (fun fs q => by rw [eh] at q; cases q) ⟨_, rfl, fr_drop vr⟩
        have ex : ∀ k, Ext ρ H ρ (upd H ad (.dK (dropK ws k))) := fun k => Ext.put eh fun _ _ q => nomatch q
        cases rx
        split at h
        · obtain ⟨w, e, rw'⟩ := vsr_one rv
          subst e
          split at h
          · rename_i k ek
            have e3 := key_vr ek rw'
            subst e3
            split at h
            · rename_i y ey
              obtain ⟨w2, e2, q2⟩ := fr_get vr ey
              obtain ⟨u, rfl, ru⟩ := r.one
              exact d_pop I eh ru e2 (.inl rfl) fun w' s3 I3 rw' => ⟨w2, _, I3, rw', h ρ _ _ (ex k) (up k) q2⟩
            · exact h.elim
          · exact h.elim
        · obtain ⟨w, w3, e, rw', rz⟩ := vsr_two rv
          subst e
          split at h
          · rename_i k ek
            have e3 := key_vr ek rw'
            subst e3
            obtain ⟨u, u2, rfl, ru, ru2⟩ := r.two
            split at h
            · rename_i y ey
              obtain ⟨w2, e2, q2⟩ := fr_get vr ey
              exact d_pop I eh ru e2 (.inr ⟨u2, rfl⟩) fun w' s3 I3 rw' => ⟨w2, _, I3, rw', h ρ _ _ (ex k) (up k) q2⟩
            · rename_i ey
              have e2 := (fr_val (k := k) vr).2 ey
              exact d_popD I eh ru e2 fun s3 I3 => ⟨w3, H, I3, ru2, h ρ H _ Ext.refl rp rz⟩
          · exact h.elim
        · exact h.elim
      · exact h.elim
    · exact h.elim
end
end Mi

namespace Mi
open PySem PySem.Spec L2
open PyProof.Rows hiding St

/-! ### constants of the module -/
def GlF (mg : Str → Option Value) (x : Str) (v : V) : Prop := ∃ u, mg x = some u ∧ RelV v u
theorem de_gl {T : Tab} {W : WX} {X : Cx} {pos : Pos} {x : Str} {v : V} (F : GlF X.mg x v) (hg : Gl X x := by rfl) (hv : ∀ i, v ≠ .ref i := by exact fun _ h => nomatch h) (hd : (x == ("__debug__" : Str)) = false := by decide) : DE T X W (.Name x pos) (mC v) := by
  obtain ⟨u, hm, r⟩ := F
  exact de_glob hg hm r hv hd

/-! ### rooms -/
theorem Ctx.u1 {X : Cx} {W : WX} {k : Nat} (C : Ctx X W k) : X.A.units + 1 < cLine := by have := C.room.un; omega
theorem Ctx.u64 {X : Cx} {W : WX} {k : Nat} (C : Ctx X W k) : X.A.units + 64 < cLine := by have := C.room.un; omega
theorem Ctx.u65 {X : Cx} {W : WX} {k : Nat} (C : Ctx X W k) : X.A.units + 65 < cLine := by have := C.room.un; omega
theorem CtH.u1 {X : Cx} {k : Nat} (C : CtH X k) : X.A.units + 1 < cLine := by have := C.un; omega
theorem CtH.u64 {X : Cx} {k : Nat} (C : CtH X k) : X.A.units + 64 < cLine := by have := C.un; omega
theorem CtH.u65 {X : Cx} {k : Nat} (C : CtH X k) : X.A.units + 65 < cLine := by have := C.un; omega

/-! ### what the top has written, as facts -/
section
variable {T : Tab} {P : Program} {w : World} {K : PySem.W.Frag} {h base : Heap} {mg : Str → Option Value}
theorem fnF_of {x : Str} {n k : Nat} {f : Fn} {a : Addr} {fd : FuncData} {ps : List Str} (m : mg x = some (.ref a)) (kp : PySem.W.keepIn K (.ref a) = true) (b : Binds K fd ps []) (F : FnOk P w K mg base (L2.CX P w) k a fd ps (spOf ⟨K, mg, T.cs, T.xs⟩ n f)) : FnF T P w K mg base x n k f := ⟨a, fd, ps, m, kp, b, F⟩
theorem meF_of {c n k : Nat} {m x : Str} {L : List Str} {f : Fn} {C a : Addr} {fd : FuncData} {ps : List Str} (hc : T.cs[c]? = some (x, L)) (hm : mg x = some (.ref C)) (hcl : Cls K C) (hme : Meth K C m a) (hn : m ∉ L) (b : Binds K fd ps []) (F : FnOk P w K mg base (L2.CX P w) k a fd ps (spOf ⟨K, mg, T.cs, T.xs⟩ n f)) : MeF T P w K mg base c m n k f := ⟨x, L, C, a, fd, ps, hc, hm, hcl, hme, hn, b, F⟩
theorem mkF_of {c n k l : Nat} {x : Str} {L : List Str} {f : Fn} {C a : Addr} {fd : FuncData} {ps : List Str} (hc : T.cs[c]? = some (x, L)) (hl : L.length = l) (hm : mg x = some (.ref C)) (hmk : Mk K C a) (b : Binds K fd ps []) (F : FnOk P w K mg base (L2.CX P w) k a fd ps (spOf ⟨K, mg, T.cs, T.xs⟩ n f)) : MkF T P w K mg base x c n k l f := ⟨L, C, a, fd, ps, hc, hl, hm, hmk, b, F⟩
end

/-! ### the end -/
def noLst (K : PySem.W.Frag) : Bool := K.all fun p => match p.2.cls with
  | .type t => t != "list"
  | _ => true
theorem look_mem {β : Type} {a : Addr} {o : β} : ∀ {K : List (Addr × β)}, K.lookup a = some o → (a, o) ∈ K
  | [], e => by cases e
  | (b, p) :: r, e => by
    by_cases z : a = b
    · subst z
      rw [List.lookup_cons_self] at e
      cases e
      exact List.mem_cons_self
    · rw [List.lookup_cons, show (a == b) = false from beq_eq_false_iff_ne.mpr z] at e
      exact List.mem_cons_of_mem _ (look_mem e)
theorem noLst_of {K : PySem.W.Frag} (h : noLst K = true) {a : Addr} {o : Obj} (e : K.lookup a = some o) : o.cls ≠ .type "list" := fun q => by
  have m := List.all_eq_true.mp h (a, o) (look_mem e)
  dsimp only at m
  rw [q] at m
  exact absurd m (by decide)
theorem walk_end {l : PySem.W.OpenLaw} {k : Nat} {q : Program} {loose : List Str} {XP : (Str → Option Value) → Heap → Prop} {YP : World → Heap → Prop} {d : DefRec} {K : Params → PySem.W.Frag} {T : Tab} {f : Fn} {x : Str}
    (hn : l.most = some 63) (hdf : d.params.defaults = []) (hr : Room k callerA) (hY : ∀ (w : World) (h : Heap), YP w h → (K w.params).In h) (hL : ∀ p : Params, noLst (K p) = true)
    (F : ∀ (w : World) (mg : Str → Option Value) (fa : Addr) (h : Heap), (K w.params).In h → h.Ns mainGlobals mg → mg d.name = some (.ref fa) →
      ∃ fd : FuncData, (∀ (s : Shared) (u : Value), BindsTo s fd ⟨[u], []⟩ [(x, u)]) ∧
        ∀ base : Heap, (K w.params).In base → base.Ns mainGlobals mg → FnOk l.prog w (K w.params) mg base (L2.CX l.prog w) k fa fd [x] (spOf ⟨K w.params, mg, T.cs, T.xs⟩ 1 f))
    (law : ∀ ns : List Int, ns.length ≤ 63 → (∀ z ∈ ns, Builtin.Int.intBits z ≤ 1048576) → ∃ S, f [.ref 0] [.lck (.lst (ns.map V.int))] = .ok (.bl true) S) :
    PySem.W.WalkO q loose XP YP l.row.toRowW d [] (fun f vs => PySem.call f vs) := by
  refine Att.attach_callB hn hdf fun w s₀ s₁ mg mb fa o pm cd doc a vs ns G Y ho hd hcd hmg hobj hints hlen hbits hg => ?_
  have KX := hY w _ Y
  obtain ⟨fd, hb, hF⟩ := F w mg fa _ KX G.T.g hmg
  refine law_call (sp := spOf ⟨K w.params, mg, T.cs, T.xs⟩ 1 f) KX G.T.g G.T.b G.T.builtins G.T.nolimit hg hobj hints (Nat.le_trans hlen (by decide)) hr hF hb (fun H hO hS => ?_) fun H e s' ⟨_, _, _, _, _, _, _, _, _, _, _, _, h⟩ => h
  obtain ⟨S, e⟩ := law ns hlen hbits
  have hH : ∃ ob, H a = some (.frz ob (.lst (ns.map V.int))) := by
    rcases hS with hS | ⟨o, _, _, hk, hc, _⟩
    · rcases hS with hS | ⟨ob, hS⟩
      · rcases hO a with z | ⟨ob, xs, z⟩
        · rw [hS] at z; cases z
        · rw [hS] at z; cases z
      · exact ⟨ob, hS⟩
    · exact absurd hc (noLst_of (hL _) hk)
  obtain ⟨ob, hH⟩ := hH
  refine ⟨rfl, [a], [.lck (.lst (ns.map V.int))], [.ref 0], [], ⟨by simp, rfl, fun i o b h1 h2 => ?_⟩, .cons ⟨a, rfl, rfl⟩ .nil, ?_⟩
  · cases i with
    | succ i => cases h1
    | zero =>
      cases h1
      cases h2
      exact ⟨_, hH, ob, _, rfl, _, rfl, ints_vsr ns⟩
  · rw [e]
    exact fun ρ2 H2 w p2 r2 x2 => x2
end Mi

namespace Mi
open PySem PySem.Spec L2
open PyProof.Rows hiding St

/-- the i-th statement of the top -/
def atTop (p : Program) (i : Nat) : Stmt := p.main.body.getD i (.Pass ⟨0, 0, 0, 0⟩)

/-! ### isinstance by the names of classes -/
/-- what a name of a class stands for -/
def NmV (mg : Str → Option Value) (x : Str) (v : Value) : Prop := (∃ C, mg x = some (.ref C) ∧ v = .ref C) ∨ ∃ t, mg x = none ∧ bootBuiltins x = some (.type t) ∧ v = .type t
def IsiF (T : Tab) (K : PySem.W.Frag) (mg : Str → Option Value) (xs : List Str) (tab : List (Tag × Bool)) : Prop := ∃ vs : List Value, Paired (NmV mg) xs vs ∧ ITab T K mg vs tab
section
variable {T : Tab} {W : WX} {X : Cx} {e : Expr} {m : ME} {p pos p2 tpos : Pos} {x : Str} {tab : List (Tag × Bool)}
theorem nm_pe {v : Value} (h : NmV X.mg x v) (hg : Gl X x) (hn : x ≠ "__name__") (hd : (x == ("__debug__" : Str)) = false) : ∃ cw, ClsV cw v ∧ PE X (.Name x p) (tC cw) := by
  rcases h with ⟨C, hm, rfl⟩ | ⟨t, hm, hb, rfl⟩
  · exact ⟨.ref C, .own C, pe_glob hg hm rfl hd⟩
  · exact ⟨.ty t, .ty t, pe_bltn hg hm hb rfl hn hd⟩
theorem de_is1 (hm : X.mg "isinstance" = none) (F : IsiF T X.K X.mg [x] tab) (he : DE T X W e m) (hgx : Gl X x := by rfl) (hn : x ≠ "__name__" := by decide) (hd : (x == ("__debug__" : Str)) = false := by decide) (hg : Gl X "isinstance" := by rfl)
    (hs1 : starEach [e, .Name x p2] X.env = (false, eval e X.env) :: starEach [.Name x p2] X.env := by rfl) (hs2 : starEach [.Name x p2] X.env = (false, eval (.Name x p2) X.env) :: starEach [] X.env := by rfl) (hpl : (backTo pos (starEach [.Name x p2] X.env)).any (·.1) = false := by rfl) :
    DE T X W (.Call (.Name "isinstance" p) [e, .Name x p2] [] pos) (mIsi tab m) := by
  obtain ⟨vs, hv, ht⟩ := F
  cases hv with
  | cons h1 h2 =>
    cases h2
    obtain ⟨cw, hc, he2⟩ := nm_pe (p := p2) h1 hgx hn hd
    exact de_isi hm he he2 hc ht hg hs1 hs2 hpl
/-- names of classes, each global -/
inductive Nms (X : Cx) : List Expr → List Str → Prop
  | nil : Nms X [] []
  | cons {x : Str} {p : Pos} {es : List Expr} {xs : List Str} (hg : Gl X x) (hn : x ≠ "__name__") (hd : (x == ("__debug__" : Str)) = false) (r : Nms X es xs) : Nms X (.Name x p :: es) (x :: xs)
theorem nms_len {es : List Expr} {xs : List Str} (h : Nms X es xs) : es.length = xs.length := by
  induction h with
  | nil => rfl
  | cons _ _ _ _ ih => rw [List.length_cons, List.length_cons, ih]
theorem nms_pa {es : List Expr} {xs : List Str} (h : Nms X es xs) : ∀ {vs : List Value}, Paired (NmV X.mg) xs vs → ∃ (cws : List V) (tc : TA), Paired ClsV cws vs ∧ cws.length = es.length ∧ PA X es tc ∧ ∀ σ H Q, Q cws H → tc σ H Q := by
  induction h with
  | nil => intro vs hv; cases hv; exact ⟨[], tNil, .nil, rfl, pa_nil, fun _ _ _ h => h⟩
  | cons hg hn hd r ih =>
    intro vs hv
    cases hv with
    | cons h1 h2 =>
      obtain ⟨cws, tc, q1, q2, q3, q4⟩ := ih h2
      obtain ⟨cw, hc, he2⟩ := nm_pe h1 hg hn hd
      refine ⟨cw :: cws, _, .cons hc q1, by rw [List.length_cons, List.length_cons, q2], pa_cons he2 q3 rfl, fun σ H Q h => ?_⟩
      exact q4 σ H _ h
theorem de_isN {es : List Expr} {xs : List Str} {kk : Nat} (hm : X.mg "isinstance" = none) (F : IsiF T X.K X.mg xs tab) (he : DE T X W e m) (N : Nms X es xs) (hl : xs.length ≤ 100 := by decide) (hg : Gl X "isinstance" := by rfl)
    (hs1 : starEach [e, .Tuple es kk tpos] X.env = (false, eval e X.env) :: starEach [.Tuple es kk tpos] X.env := by rfl) (hs2 : starEach [.Tuple es kk tpos] X.env = (false, eval (.Tuple es kk tpos) X.env) :: starEach [] X.env := by rfl) (hpl : (backTo pos (starEach [.Tuple es kk tpos] X.env)).any (·.1) = false := by rfl) :
    DE T X W (.Call (.Name "isinstance" p) [e, .Tuple es kk tpos] [] pos) (mIsi tab m) := by
  obtain ⟨vs, hv, ht⟩ := F
  obtain ⟨cws, tc, q1, q2, q3, q4⟩ := nms_pa N hv
  exact de_isiT hm he q3 q4 q1 (by rw [q2, nms_len N]; exact Nat.le_trans hl (by decide)) ht hg hs1 hs2 hpl
end
/-- except x: what it takes -/
def SbF (T : Tab) (K : PySem.W.Frag) (mg : Str → Option Value) (x : Str) (sub : Nat → Bool) : Prop := ∃ v, NmV mg x v ∧ XSub T K mg v sub
theorem itab_nil {T : Tab} {K : PySem.W.Frag} {mg : Str → Option Value} {cs : List Value} : ITab T K mg cs [] := trivial
theorem itab_ty {T : Tab} {K : PySem.W.Frag} {mg : Str → Option Value} {cs : List Value} {t : Tag} {u : Value} {b : Bool} {r : List (Tag × Bool)} (ht : TagV T K mg t u) (hk : PySem.W.kitAny K u cs = some b) (hr : ITab T K mg cs r) : ITab T K mg cs ((t, b) :: r) := ⟨⟨u, ht, hk⟩, hr⟩
section
variable {T : Tab} {W : WX} {X : Cx} {k : Nat} {body suite : List Stmt} {b₀ : Stmt} {np pos pos' : Pos} {x n : Str} {mb ms : MS} {sub : Nat → Bool} {i : Nat}
theorem sb_names {v : Value} (h : NmV X.mg x v) (hg : Gl X x) (hn : x ≠ "__name__") (hd : (x == ("__debug__" : Str)) = false) : Names X x v := by
  rcases h with ⟨C, hm, rfl⟩ | ⟨t, hm, hb, rfl⟩
  · exact ⟨hg, hd, .inl hm⟩
  · exact ⟨hg, hd, .inr ⟨hm, hb, hn⟩⟩
theorem ds_tryA (C : CtS X W k) (F : SbF T X.K X.mg x sub) (hb : ∀ (pn : List (Addr × Obj)) (xe : Value → Shared → Prop) (W' : WX), CtS (X.tr pn xe) W' k → DSs T (X.tr pn xe) W' body mb)
    (hsu : ∀ (a : Addr) (pn : List (Addr × Obj)), CtH (X.suite a pn) k → DSs T (X.suite a pn) W0 (b₀ :: suite) ms) (hi : X.N[i]? = some n := by rfl) (hln : X.env.kindOf n = some .local := by rfl) (hg : Gl X x := by rfl) (hn : x ≠ "__name__" := by decide) (hd : (x == ("__debug__" : Str)) = false := by decide) :
    DS T X W (.Try body [.ExceptHandler (some (.Name x np)) (some n) (b₀ :: suite) pos'] [] [] pos) (mTry mb sub (some i) ms) := by
  obtain ⟨v, hv, hs⟩ := F
  exact ds_tryAs C (sb_names hv hg hn hd) hs hb hsu hi hln
theorem ds_tryN (C : CtS X W k) (F : SbF T X.K X.mg x sub) (hb : ∀ (pn : List (Addr × Obj)) (xe : Value → Shared → Prop) (W' : WX), CtS (X.tr pn xe) W' k → DSs T (X.tr pn xe) W' body mb)
    (hsu : ∀ (a : Addr) (pn : List (Addr × Obj)), CtH (X.suite a pn) k → DSs T (X.suite a pn) W0 (b₀ :: suite) ms) (hg : Gl X x := by rfl) (hn : x ≠ "__name__" := by decide) (hd : (x == ("__debug__" : Str)) = false := by decide) :
    DS T X W (.Try body [.ExceptHandler (some (.Name x np)) none (b₀ :: suite) pos'] [] [] pos) (mTry mb sub none ms) := by
  obtain ⟨v, hv, hs⟩ := F
  exact ds_try C (sb_names hv hg hn hd) hs hb hsu
end
end Mi

namespace Mi
open PySem PySem.Spec L2
open PyProof.Rows hiding St

/-! ### the plain side: how the functions run -/
section
variable {α β : Type}
@[simp] theorem bind_ok (a : α) (S : Sto) (f : α → Sto → R β) : (R.ok a S).bind f = f a S := rfl
@[simp] theorem bind_exc (c : Nat) (d : Option V) (S : Sto) (f : α → Sto → R β) : (R.exc c d S).bind f = .exc c d S := rfl
@[simp] theorem bind_bad (f : α → Sto → R β) : (R.bad : R α).bind f = .bad := rfl
@[simp] theorem lift_ok (a : α) (S : Sto) (σ : St) (f : α → Sto → RS) : (R.ok a S).lift σ f = f a S := rfl
@[simp] theorem lift_exc (c : Nat) (d : Option V) (S : Sto) (σ : St) (f : α → Sto → RS) : (R.exc c d S).lift σ f = .exc c d σ S := rfl
@[simp] theorem lift_bad (σ : St) (f : α → Sto → RS) : (R.bad : R α).lift σ f = .bad := rfl
@[simp] theorem seq_nx (σ : St) (S : Sto) (f : St → Sto → RS) : (RS.nx σ S).seq f = f σ S := rfl
@[simp] theorem seq_rt (v : V) (S : Sto) (f : St → Sto → RS) : (RS.rt v S).seq f = .rt v S := rfl
@[simp] theorem seq_bk (σ : St) (S : Sto) (f : St → Sto → RS) : (RS.bk σ S).seq f = .bk σ S := rfl
@[simp] theorem seq_ct (σ : St) (S : Sto) (f : St → Sto → RS) : (RS.ct σ S).seq f = .ct σ S := rfl
@[simp] theorem seq_exc (c : Nat) (d : Option V) (σ : St) (S : Sto) (f : St → Sto → RS) : (RS.exc c d σ S).seq f = .exc c d σ S := rfl
end
def fin : RS → R V
  | .rt v S1 => .ok v S1
  | .nx _ S1 => .ok .non S1
  | .exc c d _ S1 => .exc c d S1
  | _ => .bad
@[simp] theorem fnOf_ap (n : Nat) (m : MS) (args : List V) (S : Sto) : fnOf n m args S = fin (m (args.map some ++ List.replicate (n - args.length) none) S) := rfl
theorem fnOf_fr {n : Nat} {m : MS} {args : List V} {S : Sto} (σ : St) (h : args.map some ++ List.replicate (n - args.length) none = σ) : fnOf n m args S = fin (m σ S) := by rw [← h]; rfl
@[simp] theorem fin_rt (v : V) (S : Sto) : fin (.rt v S) = .ok v S := rfl
@[simp] theorem fin_nx (σ : St) (S : Sto) : fin (.nx σ S) = .ok .non S := rfl
@[simp] theorem fin_exc (c : Nat) (d : Option V) (σ : St) (S : Sto) : fin (.exc c d σ S) = .exc c d S := rfl
def opV (S : Sto) : Option (Option V) → R V
  | some (some v) => .ok v S
  | _ => .bad
@[simp] theorem opV_some (S : Sto) (v : V) : opV S (some (some v)) = .ok v S := rfl
def kB : V → Sto → R Bool := fun x S1 => match x with
  | .bl b => .ok b S1
  | _ => .bad
@[simp] theorem kB_bl (b : Bool) (S : Sto) : kB (.bl b) S = .ok b S := rfl
def kAnd (f : Sto → R V) : V → Sto → R V := fun x S1 => match x with
  | .bl true => f S1
  | .bl false => .ok (.bl false) S1
  | _ => .bad
def kOr (f : Sto → R V) : V → Sto → R V := fun x S1 => match x with
  | .bl true => .ok (.bl true) S1
  | .bl false => f S1
  | _ => .bad
def kNot : V → Sto → R V := fun x S1 => match x with
  | .bl b => .ok (.bl (!b)) S1
  | _ => .bad
@[simp] theorem kAnd_bl (f : Sto → R V) (b : Bool) (S : Sto) : kAnd f (.bl b) S = if b = true then f S else .ok (.bl false) S := by cases b <;> rfl
@[simp] theorem kOr_bl (f : Sto → R V) (b : Bool) (S : Sto) : kOr f (.bl b) S = if b = true then .ok (.bl true) S else f S := by cases b <;> rfl
@[simp] theorem kNot_bl (b : Bool) (S : Sto) : kNot (.bl b) S = .ok (.bl (!b)) S := rfl
def oIsi (tab : List (Tag × Bool)) : V → Sto → R V := fun v S1 => match tagOf S1 v with
  | some t => match lookT tab t with
    | some b => .ok (.bl b) S1
    | none => .bad
  | none => .bad
def isiR (S : Sto) : Option Bool → R V
  | some b => .ok (.bl b) S
  | none => .bad
@[simp] theorem isiR_some (S : Sto) (b : Bool) : isiR S (some b) = .ok (.bl b) S := rfl
theorem oIsi_tag {tab : List (Tag × Bool)} {v : V} {S : Sto} {t : Tag} (h : tagOf S v = some t) : oIsi tab v S = isiR S (lookT tab t) := by
  unfold oIsi
  rw [h]
  dsimp only
  cases lookT tab t <;> rfl
@[simp] theorem oIsi_int (tab : List (Tag × Bool)) (i : Int) (S : Sto) : oIsi tab (.int i) S = isiR S (lookT tab .int) := oIsi_tag rfl
@[simp] theorem oIsi_bl (tab : List (Tag × Bool)) (i : Bool) (S : Sto) : oIsi tab (.bl i) S = isiR S (lookT tab .bl) := oIsi_tag rfl
@[simp] theorem oIsi_non (tab : List (Tag × Bool)) (S : Sto) : oIsi tab .non S = isiR S (lookT tab .non) := oIsi_tag rfl
@[simp] theorem oIsi_str (tab : List (Tag × Bool)) (x : Str) (S : Sto) : oIsi tab (.str x) S = isiR S (lookT tab .str) := oIsi_tag rfl
theorem oIsi_exc {tab : List (Tag × Bool)} {i c : Nat} {S : Sto} (h : S[i]? = some (.exc c none)) : oIsi tab (.ref i) S = isiR S (lookT tab (.exc c)) := oIsi_tag (by simp only [tagOf, h])
theorem oIsi_lst {tab : List (Tag × Bool)} {i : Nat} {xs : List V} {S : Sto} (h : S[i]? = some (.lst xs)) : oIsi tab (.ref i) S = isiR S (lookT tab .lst) := oIsi_tag (by simp only [tagOf, h])
theorem oIsi_tup {tab : List (Tag × Bool)} {i : Nat} {xs : List V} {S : Sto} (h : S[i]? = some (.tup xs)) : oIsi tab (.ref i) S = isiR S (lookT tab .tup) := oIsi_tag (by simp only [tagOf, h])
theorem oIsi_dct {tab : List (Tag × Bool)} {i : Nat} {xs : List (Key × V)} {S : Sto} (h : S[i]? = some (.dK xs)) : oIsi tab (.ref i) S = isiR S (lookT tab .dct) := oIsi_tag (by simp only [tagOf, h])
section
variable (σ : St) (S : Sto)
@[simp] theorem mVar_ap (i : Nat) : mVar i σ S = opV S σ[i]? := by
  unfold mVar opV
  cases σ[i]? with
  | none => rfl
  | some o => cases o <;> rfl
@[simp] theorem mC_ap (v : V) : mC v σ S = .ok v S := rfl
@[simp] theorem mUn_ap (o : V → Sto → R V) (a : ME) : mUn o a σ S = (a σ S).bind o := rfl
@[simp] theorem mBin_ap (o : V → V → Sto → R V) (a b : ME) : mBin o a b σ S = (a σ S).bind fun x S1 => (b σ S1).bind fun y S2 => o x y S2 := rfl
@[simp] theorem mNil_ap : mNil σ S = .ok [] S := rfl
@[simp] theorem mCons_ap (a : ME) (r : MA) : mCons a r σ S = (a σ S).bind fun x S1 => (r σ S1).bind fun xs S2 => .ok (x :: xs) S2 := rfl
@[simp] theorem mCall_ap (f : List V → Sto → R V) (a : MA) : mCall f a σ S = (a σ S).bind f := rfl
@[simp] theorem mB_ap (a : ME) : mB a σ S = (a σ S).bind kB := rfl
@[simp] theorem mNot_ap (a : MT) : mNot a σ S = (a σ S).bind fun b S1 => .ok (!b) S1 := rfl
@[simp] theorem mAnd_ap (a b : MT) : mAnd a b σ S = (a σ S).bind fun x S1 => if x = true then b σ S1 else .ok false S1 := rfl
@[simp] theorem mOr_ap (a b : MT) : mOr a b σ S = (a σ S).bind fun x S1 => if x = true then .ok true S1 else b σ S1 := rfl
@[simp] theorem mIf_ap (c : MT) (a b : ME) : mIf c a b σ S = (c σ S).bind fun x S1 => if x = true then a σ S1 else b σ S1 := rfl
@[simp] theorem mAndV_ap (a b : ME) : mAndV a b σ S = (a σ S).bind (kAnd (b σ)) := rfl
@[simp] theorem mOrV_ap (a b : ME) : mOrV a b σ S = (a σ S).bind (kOr (b σ)) := rfl
@[simp] theorem mNotV_ap (a : ME) : mNotV a σ S = (a σ S).bind kNot := rfl
@[simp] theorem mIsi_ap (tab : List (Tag × Bool)) (a : ME) : mIsi tab a σ S = (a σ S).bind (oIsi tab) := rfl
def kLst : List V → Sto → R V := fun xs S1 => if xs.length ≤ sizeLine then .ok (.ref S1.length) (S1 ++ [.lst xs]) else .bad
def kTup : List V → Sto → R V := fun xs S1 => if xs.length ≤ sizeLine then .ok (.ref S1.length) (S1 ++ [.tup xs]) else .bad
@[simp] theorem mLst_ap (a : MA) : mLst a σ S = (a σ S).bind kLst := rfl
@[simp] theorem mTup_ap (a : MA) : mTup a σ S = (a σ S).bind kTup := rfl
def kApp (n : Nat) (f : Fn) : List V → Sto → R V := fun xs S1 => if xs.length = n then f xs S1 else .bad
@[simp] theorem mApp_ap (n : Nat) (f : Fn) (a : MA) : mApp n f a σ S = (a σ S).bind (kApp n f) := rfl
@[simp] theorem mBM_ap (Ty : String) (o : Mth) (a : ME) (b : MA) : mBM Ty o a b σ S = (a σ S).bind fun x S1 => if tyS Ty S1 x = true then (b σ S1).bind fun xs S2 => o x xs S2 else .bad := rfl
@[simp] theorem mSkip_ap : mSkip σ S = .nx σ S := rfl
@[simp] theorem mSeq_ap (a b : MS) : mSeq a b σ S = (a σ S).seq b := rfl
@[simp] theorem mExpr_ap (a : ME) : mExpr a σ S = (a σ S).lift σ fun _ S1 => .nx σ S1 := rfl
@[simp] theorem mSet_ap (i : Nat) (a : ME) : mSet i a σ S = (a σ S).lift σ fun v S1 => .nx (σ.set i (some v)) S1 := rfl
@[simp] theorem mRet_ap (a : ME) : mRet a σ S = (a σ S).lift σ fun v S1 => .rt v S1 := rfl
@[simp] theorem mRetN_ap : mRetN σ S = .rt .non S := rfl
@[simp] theorem mBrk_ap : mBrk σ S = .bk σ S := rfl
@[simp] theorem mCnt_ap : mCnt σ S = .ct σ S := rfl
@[simp] theorem mIfS_ap (c : MT) (a b : MS) : mIfS c a b σ S = (c σ S).lift σ fun x S1 => if x = true then a σ S1 else b σ S1 := rfl
@[simp] theorem mAug_ap (i : Nat) (o : V → V → Sto → R V) (a : ME) : mAug i o a σ S = (mVar i σ S).lift σ fun x S0 => (a σ S0).lift σ fun y S1 => (o x y S1).lift σ fun z S2 => .nx (σ.set i (some z)) S2 := rfl
@[simp] theorem mRaise_ap (c : Nat) : mRaise c σ S = .exc c none σ S := rfl
theorem mFor_ap (src : St → Sto → R Src) (tg : Tg) (b : MS) : mFor src tg b σ S = (src σ S).lift σ fun s S1 => mFor1 s.chk tg b s.its σ S1 := rfl
def kRange1 : List V → Sto → R Src := fun vs S1 => match vs with
  | [.int j] => if -(2 ^ 62) ≤ j ∧ j < 2 ^ 62 then .ok ⟨intsFrom 0 j.toNat, fun _ => true⟩ S1 else .bad
  | _ => .bad
@[simp] theorem mRange1_ap (ms : MA) : mRange1 ms σ S = (ms σ S).bind kRange1 := rfl
theorem kRange1_int {j : Int} (h : 0 ≤ j ∧ j < 2 ^ 62) : kRange1 [.int j] S = .ok ⟨intsFrom 0 j.toNat, fun _ => true⟩ S := if_pos ⟨by omega, h.2⟩
def kWalk : V → Sto → R Src := fun v S1 => match walkOf S1 v with
  | some s => .ok s S1
  | none => .bad
@[simp] theorem mWalk_ap (m : ME) : mWalk m σ S = (m σ S).bind kWalk := rfl
theorem kWalk_lst {i : Nat} {xs : List V} (h : S[i]? = some (.lst xs)) : kWalk (.ref i) S = .ok ⟨xs.map .v, fun S' => decide (S'[i]? = some (.lst xs))⟩ S := by
  simp only [kWalk, walkOf, h]
theorem kWalk_lck {i : Nat} {xs : List V} (h : S[i]? = some (.lck (.lst xs))) : kWalk (.ref i) S = .ok ⟨xs.map .v, fun S' => decide (S'[i]? = some (.lck (.lst xs)))⟩ S := by
  simp only [kWalk, walkOf, h]
theorem kWalk_tup {i : Nat} {xs : List V} (h : S[i]? = some (.tup xs)) : kWalk (.ref i) S = .ok ⟨xs.map .v, fun S' => decide (S'[i]? = some (.tup xs))⟩ S := by
  simp only [kWalk, walkOf, h]
def kCatch (sub : Nat → Bool) (i : Option Nat) (suite : MS) : RS → RS := fun r => match r with
  | .exc c d σ1 S1 => if sub c = true then (match i with
    | some j => (match suite (σ1.set j (some (.ref S1.length))) (S1 ++ [.exc c d]) with
      | .nx σ2 S2 => .nx (σ2.set j none) S2
      | .rt v S2 => .rt v S2
      | .bk σ2 S2 => .bk (σ2.set j none) S2
      | .ct σ2 S2 => .ct (σ2.set j none) S2
      | _ => .bad)
    | none => (match suite σ1 S1 with
      | .exc _ _ _ _ => .bad
      | r => r)) else .exc c d σ1 S1
  | r => r
@[simp] theorem mTry_ap (body : MS) (sub : Nat → Bool) (i : Option Nat) (suite : MS) : mTry body sub i suite σ S = kCatch sub i suite (body σ S) := rfl
@[simp] theorem kCatch_nx (sub : Nat → Bool) (i : Option Nat) (suite : MS) : kCatch sub i suite (.nx σ S) = .nx σ S := rfl
@[simp] theorem kCatch_rt (sub : Nat → Bool) (i : Option Nat) (suite : MS) (v : V) : kCatch sub i suite (.rt v S) = .rt v S := rfl
end
def unCat (j : Nat) : RS → RS
  | .nx σ2 S2 => .nx (σ2.set j none) S2
  | .rt v S2 => .rt v S2
  | .bk σ2 S2 => .bk (σ2.set j none) S2
  | .ct σ2 S2 => .ct (σ2.set j none) S2
  | _ => .bad
@[simp] theorem unCat_nx (j : Nat) (σ : St) (S : Sto) : unCat j (.nx σ S) = .nx (σ.set j none) S := rfl
@[simp] theorem unCat_rt (j : Nat) (v : V) (S : Sto) : unCat j (.rt v S) = .rt v S := rfl
theorem kCatch_as (sub : Nat → Bool) (j : Nat) (suite : MS) (c : Nat) (d : Option V) (σ : St) (S : Sto) (h : sub c = true) : kCatch sub (some j) suite (.exc c d σ S) = unCat j (suite (σ.set j (some (.ref S.length))) (S ++ [.exc c d])) := by
  show (if sub c = true then _ else _) = _
  rw [if_pos h]
  generalize suite (σ.set j (some (.ref S.length))) (S ++ [.exc c d]) = r
  cases r <;> rfl
theorem kCatch_no (sub : Nat → Bool) (i : Option Nat) (suite : MS) (c : Nat) (d : Option V) (σ : St) (S : Sto) (h : sub c = false) : kCatch sub i suite (.exc c d σ S) = .exc c d σ S := by
  show (if sub c = true then _ else _) = _
  rw [if_neg (by rw [h]; exact Bool.false_ne_true)]
def unBad : RS → RS
  | .exc _ _ _ _ => .bad
  | r => r
@[simp] theorem unBad_nx (σ : St) (S : Sto) : unBad (.nx σ S) = .nx σ S := rfl
@[simp] theorem unBad_rt (v : V) (S : Sto) : unBad (.rt v S) = .rt v S := rfl
theorem kCatch_n (sub : Nat → Bool) (suite : MS) (c : Nat) (d : Option V) (σ : St) (S : Sto) (h : sub c = true) : kCatch sub none suite (.exc c d σ S) = unBad (suite σ S) := by
  show (if sub c = true then _ else _) = _
  rw [if_pos h]
  generalize suite σ S = r
  cases r <;> rfl
/-! operations -/
section
variable (S : Sto)
@[simp] theorem oAdd_int (i j : Int) : oAdd (.int i) (.int j) S = .ok (.int (i + j)) S := rfl
@[simp] theorem oSub_int (i j : Int) : oSub (.int i) (.int j) S = .ok (.int (i - j)) S := rfl
@[simp] theorem oIAdd_int (i j : Int) : oIAdd (.int i) (.int j) S = .ok (.int (i + j)) S := rfl
@[simp] theorem oNeg_int (i : Int) : oNeg (.int i) S = .ok (.int (-i)) S := rfl
theorem oMod_int (i j : Int) (h : 0 < j) : oMod (.int i) (.int j) S = .ok (.int (i % j)) S := if_pos h
theorem oDiv_int (i j : Int) (h : DivOk j) : oDiv (.int i) (.int j) S = .ok (.int (i / j)) S := if_pos h
theorem oMul_int (i j : Int) (h : IntMulOk i j) : oMul (.int i) (.int j) S = .ok (.int (i * j)) S := if_pos h
theorem oPow_int (i j : Int) (h : 0 ≤ j ∧ j ≤ 1000000 ∧ i.natAbs < 2 ^ 64) : oPow (.int i) (.int j) S = .ok (.int (i ^ j.toNat)) S := if_pos h
@[simp] theorem oCmp_int (p : Int → Int → Bool) (i j : Int) : oCmp p (.int i) (.int j) S = .ok (.bl (p i j)) S := rfl
theorem oEqD_of {neg : Bool} {x y : V} {d e : PyData} (h1 : rdD S eqDepth x = some d) (h2 : rdD S eqDepth y = some e) (h3 : SeqAt.shaped d = true) (h4 : SeqAt.shaped e = true) : oEqD neg x y S = .ok (.bl (neg != PyData.eqv d e)) S := by
  unfold oEqD
  rw [h1, h2]
  exact if_pos ⟨h3, h4⟩
@[simp] theorem oEqD_int (neg : Bool) (i j : Int) : oEqD neg (.int i) (.int j) S = .ok (.bl (neg != (i == j))) S := oEqD_of S (d := .int i) (e := .int j) rfl rfl rfl rfl
@[simp] theorem oEqD_bl (neg : Bool) (i j : Bool) : oEqD neg (.bl i) (.bl j) S = .ok (.bl (neg != (i == j))) S := oEqD_of S (d := .bool i) (e := .bool j) rfl rfl rfl rfl
theorem oEqD_str (neg : Bool) (i j : Str) (h : (PyData.str i).canLay0 = true) (h' : (PyData.str j).canLay0 = true) : oEqD neg (.str i) (.str j) S = .ok (.bl (neg != (i == j))) S := oEqD_of S (d := .str i) (e := .str j) rfl rfl (by unfold SeqAt.shaped; rw [h]; rfl) (by unfold SeqAt.shaped; rw [h']; rfl)
@[simp] theorem oEqD_non_int (neg : Bool) (j : Int) : oEqD neg .non (.int j) S = .ok (.bl (neg != false)) S := oEqD_of S (d := .none) (e := .int j) rfl rfl rfl rfl
@[simp] theorem oEqD_int_non (neg : Bool) (j : Int) : oEqD neg (.int j) .non S = .ok (.bl (neg != false)) S := oEqD_of S (d := .int j) (e := .none) rfl rfl rfl rfl
@[simp] theorem oEqD_non (neg : Bool) : oEqD neg .non .non S = .ok (.bl (neg != true)) S := oEqD_of S (d := .none) (e := .none) rfl rfl rfl rfl
@[simp] theorem oIs_non (x : V) : oIs x .non S = .ok (.bl (isNon x)) S := rfl
@[simp] theorem oIsN_non (x : V) : oIsN x .non S = .ok (.bl (!isNon x)) S := rfl
theorem rdL_lst {i : Nat} {xs : List V} (h : S[i]? = some (.lst xs)) : rdL S (.ref i) = some xs := by
  simp only [rdL, h]
theorem rdL_lck {i : Nat} {xs : List V} (h : S[i]? = some (.lck (.lst xs))) : rdL S (.ref i) = some xs := by
  simp only [rdL, h]
theorem oAdd_lst {i j : Nat} {xs ys : List V} (h1 : rdL S (.ref i) = some xs) (h2 : rdL S (.ref j) = some ys) (h : xs.length + ys.length ≤ sizeLine) : oAdd (.ref i) (.ref j) S = .ok (.ref S.length) (S ++ [.lst (xs ++ ys)]) := by
  show (match rdL S (.ref i), rdL S (.ref j) with
    | some xs, some ys => _
    | _, _ => _) = _
  rw [h1, h2]
  exact if_pos h
theorem oCount_of {x y : V} {xs : List V} (h : rdL S x = some xs) (fy : flatV y = true) (fs : xs.all flatV = true) : oCount x [y] S = .ok (.int (xs.countP fun z => eqV z y : Nat)) S := by
  unfold oCount
  rw [h]
  exact if_pos ⟨fy, fs⟩
end
theorem get_old {S : Sto} {i : Nat} {o : Ob} (h : S[i]? = some o) (ex : Sto) : (S ++ ex)[i]? = some o := by
  rw [List.getElem?_append_left (List.getElem?_eq_some_iff.mp h).1]
  exact h
theorem get_new (S : Sto) (k : Nat) (ex : Sto) : (S ++ ex)[S.length + k]? = ex[k]? := by
  rw [List.getElem?_append_right (Nat.le_add_right _ _), Nat.add_sub_cancel_left]
theorem get_new0 (S : Sto) (ex : Sto) : (S ++ ex)[S.length]? = ex[0]? := get_new S 0 ex
/-- a loop whose turns go on -/
theorem for_inv {chk : Sto → Bool} {tg : Tg} {b : MS} (P : List Itv → St → Sto → Prop) (hc : ∀ r σ S, P r σ S → chk S = true)
    (h : ∀ it r σ S, P (it :: r) σ S → ∃ σ1 σ2 S2, tg it σ S = some σ1 ∧ (b σ1 S = .nx σ2 S2 ∨ b σ1 S = .ct σ2 S2) ∧ P r σ2 S2) : ∀ {its : List Itv} {σ : St} {S : Sto}, P its σ S → ∃ σ' S', mFor1 chk tg b its σ S = .nx σ' S' ∧ P [] σ' S'
  | [], σ, S, p => ⟨σ, S, if_pos (hc _ _ _ p), p⟩
  | it :: r, σ, S, p => by
    obtain ⟨σ1, σ2, S2, e1, e2, q⟩ := h it r σ S p
    obtain ⟨σ', S', e3, q2⟩ := for_inv P hc h q
    refine ⟨σ', S', ?_, q2⟩
    unfold mFor1
    rw [if_pos (hc _ _ _ p), e1]
    dsimp only
    rcases e2 with e2 | e2 <;> rw [e2] <;> exact e3
/-- the whole ends with a value -/
def Ends (r : RS) (v : V) : Prop := ∃ S, fin r = .ok v S
theorem Ends.rt {v : V} {S : Sto} : Ends (.rt v S) v := ⟨S, rfl⟩
theorem for_seq {chk : Sto → Bool} {tg : Tg} {b : MS} (P : List Itv → St → Sto → Prop) {f : St → Sto → RS} {v : V} {its : List Itv} {σ : St} {S : Sto} (p : P its σ S) (hc : ∀ r σ S, P r σ S → chk S = true)
    (h : ∀ it r σ S, P (it :: r) σ S → ∃ σ1 σ2 S2, tg it σ S = some σ1 ∧ (b σ1 S = .nx σ2 S2 ∨ b σ1 S = .ct σ2 S2) ∧ P r σ2 S2) (k : ∀ σ' S', P [] σ' S' → Ends (f σ' S') v) : Ends ((mFor1 chk tg b its σ S).seq f) v := by
  obtain ⟨σ', S', e, q⟩ := for_inv P hc h p
  rw [e]
  exact k σ' S' q
theorem pre_get' {S S' : Sto} {i : Nat} {o : Ob} (h : S[i]? = some o) (p : S <+: S') : S'[i]? = some o := by
  obtain ⟨ex, rfl⟩ := p
  exact get_old h ex
theorem pre_add (S ex : Sto) : S <+: S ++ ex := List.prefix_append _ _
theorem ty_lst {S : Sto} {i : Nat} {xs : List V} (h : S[i]? = some (.lst xs)) : tyS "list" S (.ref i) = true := by
  simp only [tyS, h]
  rfl
theorem ty_dct {S : Sto} {i : Nat} {xs : List (Key × V)} (h : S[i]? = some (.dK xs)) : tyS "dict" S (.ref i) = true := by
  simp only [tyS, h]
  rfl
/-- a loop over a list, whose turns only lay new objects -/
theorem for_alloc {m : ME} {j i : Nat} {b : MS} {σ : St} {S S1 : Sto} {xs : List V} (F : St → Prop) (hm : m σ S = .ok (.ref i) S1) (hi : S1[i]? = some (.lst xs)) (f0 : F σ)
    (hb : ∀ x ∈ xs, ∀ σ S', F σ → S1 <+: S' → ∃ σ2 S2, b (σ.set j (some x)) S' = .nx σ2 S2 ∧ F σ2 ∧ S' <+: S2) : ∃ σ' S', mFor (mWalk m) (tgName j) b σ S = .nx σ' S' ∧ F σ' ∧ S1 <+: S' := by
  rw [mFor_ap, mWalk_ap, hm, bind_ok, kWalk_lst _ hi, lift_ok]
  obtain ⟨σ', S', e, p1, p2, _⟩ := for_inv (P := fun r σ S' => S1 <+: S' ∧ F σ ∧ ∀ it ∈ r, ∃ x ∈ xs, it = .v x) (chk := fun S' => decide (S'[i]? = some (.lst xs))) (tg := tgName j) (b := b) (fun _ _ S' ⟨h, _⟩ => decide_eq_true (pre_get' hi h))
    (fun it r σ S2 ⟨p1, f, hr⟩ => by
      obtain ⟨x, hx, ex⟩ := hr it List.mem_cons_self
      subst ex
      obtain ⟨σ2, S3, e, f2, p⟩ := hb x hx σ S2 f p1
      exact ⟨_, σ2, S3, rfl, .inl e, p1.trans p, f2, fun it h => hr it (List.mem_cons_of_mem _ h)⟩) (its := xs.map .v) (σ := σ) (S := S1) ⟨List.prefix_refl _, f0, fun it h => by
      obtain ⟨x, hx, rfl⟩ := List.mem_map.mp h
      exact ⟨x, hx, rfl⟩⟩
  exact ⟨σ', S', e, p2, p1⟩
theorem for_allocK {m : ME} {j i : Nat} {b : MS} {σ : St} {S S1 : Sto} {xs : List V} (F : St → Prop) (hm : m σ S = .ok (.ref i) S1) (hi : S1[i]? = some (.lck (.lst xs))) (f0 : F σ)
    (hb : ∀ x ∈ xs, ∀ σ S', F σ → S1 <+: S' → ∃ σ2 S2, b (σ.set j (some x)) S' = .nx σ2 S2 ∧ F σ2 ∧ S' <+: S2) : ∃ σ' S', mFor (mWalk m) (tgName j) b σ S = .nx σ' S' ∧ F σ' ∧ S1 <+: S' := by
  rw [mFor_ap, mWalk_ap, hm, bind_ok, kWalk_lck _ hi, lift_ok]
  obtain ⟨σ', S', e, p1, p2, _⟩ := for_inv (P := fun r σ S' => S1 <+: S' ∧ F σ ∧ ∀ it ∈ r, ∃ x ∈ xs, it = .v x) (chk := fun S' => decide (S'[i]? = some (.lck (.lst xs)))) (tg := tgName j) (b := b) (fun _ _ S' ⟨h, _⟩ => decide_eq_true (pre_get' hi h))
    (fun it r σ S2 ⟨p1, f, hr⟩ => by
      obtain ⟨x, hx, ex⟩ := hr it List.mem_cons_self
      subst ex
      obtain ⟨σ2, S3, e, f2, p⟩ := hb x hx σ S2 f p1
      exact ⟨_, σ2, S3, rfl, .inl e, p1.trans p, f2, fun it h => hr it (List.mem_cons_of_mem _ h)⟩) (its := xs.map .v) (σ := σ) (S := S1) ⟨List.prefix_refl _, f0, fun it h => by
      obtain ⟨x, hx, rfl⟩ := List.mem_map.mp h
      exact ⟨x, hx, rfl⟩⟩
  exact ⟨σ', S', e, p2, p1⟩
theorem for_allocR {j : Nat} {b : MS} {σ : St} {S S1 : Sto} {n : Int} {ms : MA} (F : St → Prop) (hm : ms σ S = .ok [.int n] S1) (hn : 0 ≤ n ∧ n < 2 ^ 62) (f0 : F σ)
    (hb : ∀ k : Int, 0 ≤ k → k < n → ∀ σ S', F σ → S1 <+: S' → ∃ σ2 S2, b (σ.set j (some (.int k))) S' = .nx σ2 S2 ∧ F σ2 ∧ S' <+: S2) : ∃ σ' S', mFor (mRange1 ms) (tgName j) b σ S = .nx σ' S' ∧ F σ' ∧ S1 <+: S' := by
  rw [mFor_ap, mRange1_ap, hm, bind_ok, kRange1_int _ hn, lift_ok]
  obtain ⟨σ', S', e, p1, p2, _⟩ := for_inv (P := fun r σ S' => S1 <+: S' ∧ F σ ∧ ∀ it ∈ r, ∃ k : Int, (0 ≤ k ∧ k < n) ∧ it = .v (.int k)) (chk := fun _ => true) (tg := tgName j) (b := b) (fun _ _ _ _ => rfl)
    (fun it r σ S2 ⟨p1, f, hr⟩ => by
      obtain ⟨k, hk, ex⟩ := hr it List.mem_cons_self
      subst ex
      obtain ⟨σ2, S3, e, f2, p⟩ := hb k hk.1 hk.2 σ S2 f p1
      exact ⟨_, σ2, S3, rfl, .inl e, p1.trans p, f2, fun it h => hr it (List.mem_cons_of_mem _ h)⟩) (its := intsFrom 0 n.toNat) (σ := σ) (S := S1) ⟨List.prefix_refl _, f0, fun it h => by
      obtain ⟨k, hk, rfl⟩ := List.mem_map.mp h
      have := List.mem_range.mp hk
      exact ⟨_, ⟨by omega, by omega⟩, rfl⟩⟩
  exact ⟨σ', S', e, p2, p1⟩
theorem rdD_lst {S : Sto} {i n : Nat} {xs : List V} (h : S[i]? = some (.lst xs)) : rdD S (n + 1) (.ref i) = (allSome (xs.map (rdD S n))).map .list := by
  rw [rdD]
  simp only [h]
theorem rdD_lck {S : Sto} {i n : Nat} {xs : List V} (h : S[i]? = some (.lck (.lst xs))) : rdD S (n + 1) (.ref i) = (allSome (xs.map (rdD S n))).map .list := by
  rw [rdD]
  simp only [h]
theorem rdD_tup {S : Sto} {i n : Nat} {xs : List V} (h : S[i]? = some (.tup xs)) : rdD S (n + 1) (.ref i) = (allSome (xs.map (rdD S n))).map .tuple := by
  rw [rdD]
  simp only [h]
theorem rdT_tup {S : Sto} {i : Nat} {xs : List V} (h : S[i]? = some (.tup xs)) : rdT S (.ref i) = some xs := by simp only [rdT, h]
theorem oIx_lst {S : Sto} {x : V} {xs : List V} {k : Int} {v : V} (h : rdL S x = some xs) (hv : atI xs k = some v) : oIx x (.int k) S = .ok v S := by
  cases x with
  | ref i => simp only [oIx, h, hv]
  | _ => cases h
theorem oIx_tup {S : Sto} {i : Nat} {xs : List V} {k : Int} {v : V} (h : S[i]? = some (.tup xs)) (hv : atI xs k = some v) : oIx (.ref i) (.int k) S = .ok v S := by
  have h1 : rdL S (.ref i) = none := by simp only [rdL, h]
  simp only [oIx, h1, rdT_tup h, hv]
theorem atI_nat' {xs : List V} {k : Nat} {v : V} (h : xs[k]? = some v) : atI xs (k : Int) = some v := by
  have hk := (List.getElem?_eq_some_iff.mp h).1
  unfold atI ixN
  rw [if_pos (by omega), if_pos (by omega)]
  exact h
end Mi

namespace Mi
open PySem PySem.Spec L2
open PyProof.Rows hiding St

/-! ### called(): an exception tells its class by name -/
section
open PySem.W PySem.Calls
theorem excm_get {P : Program} {w : World} {A : Around} {s : Shared} {K : Frag} {e C f : Addr} {o : Obj} {od : Option Obj} {nm : Str} {pl : Sem Bool} {Bad : Value → Shared → Prop} {Q : Value × List Value → Shared → Prop} (KI : K.In s.heap) (J : InstAt s.heap e o C od)
    (g1 : findIn K (.ref C) "__getattribute__" = some (some (.builtin "BaseException.__getattribute__"))) (g2 : findIn K (.ref C) "__getattr__" = some none) (g3 : findIn K (.ref C) nm = some (some (.ref f))) (g4 : isFn K (.ref f) = true) (g5 : shadowIn od nm = some false) (q : Q (.ref f, [.ref e]) s) :
    wpAny (model P w) A (getMethod (.ref e) nm pl) Q Bad s := by
  have can : Manifest.canonical "BaseException.__getattribute__" = "object.__getattribute__" := by first | kernel_rfl | decide +kernel
  have L1 := looks_findIn (M := model P w) KI g1
  have L2 := looks_findIn (M := model P w) KI g2
  have L3 := looks_findIn (M := model P w) KI g3
  have L4 := looks_typeIn (M := model P w) KI (beq_iff_eq.mp g4)
  have LT := J.type (M := model P w)
  unfold getMethod specialOf
  refine wpAny_bind (wpAny_bind (LT.here (L1.here ?_))); dsimp only
  rw [can, if_neg (by decide)]; refine wpAny_bind (wpAny_bind (LT.here (L2.here ?_)))
  refine wpAny_bind (wpAny_bind (LT.here (L3.here (wpAny_bind (L4.here ?_)))))
  rw [if_neg (by decide +kernel)]; refine wpAny_bind (wpAny_loadPart J.at_ ?_)
  have hd := J.dict
  cases ed : o.dict with
  | none => exact wpAny_bind (wpAny_rule (wpAny_pure q))
  | some dx =>
    cases od with
    | none => rw [ed] at hd; exact hd.elim
    | some oo =>
      rw [ed] at hd
      obtain ⟨r, a, b⟩ := Option.map_eq_some_iff.mp g5
      refine wpAny_bind (wpAny_bind (wpAny_loadPart hd ?_))
      rw [nsLook_of a]; refine wpAny_pure ?_
      rw [b]; exact wpAny_bind (wpAny_rule (wpAny_pure q))
end
/-- the class of exceptions at the place c tells z -/
def CalF (T : Tab) (K : PySem.W.Frag) (mg : Str → Option Value) (c : Nat) (z : Str) : Prop := ∃ (x : Str) (C f : Addr) (qual : Str) (st : Stmt) (fd : FuncData) (p1 p2 : Pos) (j : Nat), T.xs[c]? = some x ∧ mg x = some (.ref C) ∧
  PySem.W.findIn K (.ref C) "__getattribute__" = some (some (.builtin "BaseException.__getattribute__")) ∧ PySem.W.findIn K (.ref C) "__getattr__" = some none ∧ PySem.W.findIn K (.ref C) "called" = some (some (.ref f)) ∧ PySem.W.isFn K (.ref f) = true ∧
  Fun K "called" qual st f fd ∧ Binds K fd ["self"] [] ∧ FnScope ["self"] ["self"] (defScope st) ∧ defBody st = [.Return (some (.Constant (.str z) j p1)) p2]
def CalsF (T : Tab) (K : PySem.W.Frag) (mg : Str → Option Value) : List (Nat × Str) → Prop
  | [] => True
  | (c, z) :: r => CalF T K mg c z ∧ CalsF T K mg r
def oCalled (tab : List (Nat × Str)) : V → Sto → R V := fun v S1 => match v with
  | .ref i => match S1[i]? with
    | some (.exc c _) => match look tab c with
      | some z => .ok (.str z) S1
      | none => .bad
    | _ => .bad
  | _ => .bad
def mCalled (tab : List (Nat × Str)) (o : ME) : ME := fun σ S => (o σ S).bind (oCalled tab)
@[simp] theorem mCalled_ap (tab : List (Nat × Str)) (o : ME) (σ : St) (S : Sto) : mCalled tab o σ S = (o σ S).bind (oCalled tab) := rfl
theorem oCalled_exc {tab : List (Nat × Str)} {i c : Nat} {d : Option V} {z : Str} {S : Sto} (h : S[i]? = some (.exc c d)) (hz : look tab c = some z) : oCalled tab (.ref i) S = .ok (.str z) S := by simp only [oCalled, h, hz]
section
variable {T : Tab} {W : WX} {X : Cx} {o : Expr} {ma : ME} {apos pos : Pos}
theorem CalsF.get {K : PySem.W.Frag} {mg : Str → Option Value} : ∀ {tab : List (Nat × Str)} {c : Nat} {z : Str}, CalsF T K mg tab → look tab c = some z → CalF T K mg c z
  | [], _, _, _, e => by cases e
  | (d, g) :: r, c, z, h, e => by
    unfold look at e
    by_cases q : d = c
    · rw [if_pos q] at e
      cases e
      rw [← q]
      exact h.1
    · rw [if_neg q] at e
      exact CalsF.get h.2 e
/-- the body 'return z' of a method with self alone -/
theorem run_tell {pins : List (Addr × Obj)} {σ : St} {H : Hp} {s : Shared} {f a : Addr} {qual : Str} {st : Stmt} {fd : FuncData} {z : Str} {p1 p2 : Pos} {j : Nat} {Q : VK} (I : Inv X pins σ H s) (F : Fun X.K "called" qual st f fd) (hb : Binds X.K fd ["self"] []) (Sc : FnScope ["self"] ["self"] (defScope st))
    (hB : defBody st = [.Return (some (.Constant (.str z) j p1)) p2]) (hd : X.A.depth + 5 < recursionLimit) (q : Q (.str z) H) : wpAny (model X.prog X.w) X.A (call (.ref f) [.ref a]) (EP X pins σ Q) X.xe s := by
  obtain ⟨oc, od, kV, doc, pm, an, cdv, ct, osl, rfl, lk, hcd⟩ := F.ex
  have hbs := hb s [.ref a] I.kIn rfl
  refine wpAny_call (Att.call_fn (binds := [("self", .ref a)]) I.kIn (I.mod.nolimit.keeps I.bk) lk hcd (by omega) hbs ?_ (fun s1 x => ?_) Sc.co Sc.gen Sc.kind)
  · rcases Sc.par "self" (by simp) with e | e <;> simp [e]
  · rw [hB]
    obtain ⟨h1, tk, rfl, hk⟩ := x.done
    refine wpAny_execs_cons (wpAny_Return_some (Calls.Constant_str ?_))
    exact ⟨.str z, H, (I.kept (t' := tk) hk).tok _, ⟨_, rfl⟩, q⟩
theorem de_called {pl : Sem Bool} {tab : List (Nat × Str)} (F : CalsF T X.K X.mg tab) (hd : X.A.depth + 5 < recursionLimit) (ho : DE T X W o ma)
    (ht : eval (.Call (.Attribute o "called" apos) [] [] pos) X.env = (do
      let ov ← eval o X.env
      standAt apos.atName
      let (f, first) ← holding [ov] (getMethod ov "called" pl)
      callWith pos f first (backTo pos (starEach [] X.env)) (backToKw pos (keywordEach [] X.env))) := by rfl) : DE T X W (.Call (.Attribute o "called" apos) [] [] pos) (mCalled tab ma) := by
  refine ⟨fun pins s σ H Q I h => ?_⟩
  obtain ⟨ρ, S, τ, r, l, h⟩ := h
  have h' : den (gm T X) W VR ma σ H (fun w H1 => ∃ ρ1 S1 i c d z, Rep (gm T X) ρ1 S1 H1 ∧ VR ρ1 (.ref i) w ∧ S1[i]? = some (.exc c d) ∧ look tab c = some z ∧ Q (.str z) H1) := by
    refine ⟨ρ, S, τ, r, l, Post.bind h fun ρ1 S1 H1 x w p1 r1 x1 h1 => ?_⟩
    unfold oCalled at h1
    split at h1
    · split at h1
      · split at h1
        · rename_i i _ c d es _ z ez
          exact ⟨ρ1, S1, i, c, d, z, r1, x1, es, ez, h1 ρ1 H1 _ Ext.refl r1 rfl⟩
        · exact h1.elim
      · exact h1.elim
    · exact h1.elim
  refine PySem.W.methodCall_KW (pl := pl) (thn (ho.run pins s σ H _ I h') fun u s1 ⟨w, H1, I1, rx, ρ1, S1, i, c, d, z, r1, x1, es1, ez, q1⟩ => ?_) ht
  obtain ⟨ad, u', ew, er, eh, ob⟩ := r1.ref es1 x1
  subst ew
  obtain rfl : u = Value.ref ad := rx
  obtain ⟨x, C, f, qual, st, fd, p1, p2, j, hx, hm, g1, g2, g3, g4, FF, hb, Sc, hB⟩ := F.get ez
  obtain ⟨C2, dd, ⟨y2, hx2, hm2⟩, eu, dr⟩ := ob
  have z1 : some x = some y2 := hx.symm.trans hx2
  cases z1
  have z2 : some (Value.ref C) = some (Value.ref C2) := hm.symm.trans hm2
  cases z2
  subst eu
  obtain ⟨oe, vs, h1, h2, h3, h4⟩ := exK_inst I1 eh
  have fin : wpAny (model X.prog X.w) X.A (callWith pos (.ref f) [.ref ad] (backTo pos (starEach [] X.env)) (backToKw pos (keywordEach [] X.env))) (EP X pins σ Q) X.xe s1 := PySem.W.callWith_K0 (first := [.ref ad]) I1.kIn FF.kp (run_tell I1 FF hb Sc hB hd q1)
  cases d with
  | none =>
    have dn : dd = none := dr
    subst dn
    exact excm_get (od := none) I1.kIn ⟨h1, h2, by unfold PySem.W.notCls; rw [h4] <;> rfl, by rw [h3]; trivial⟩ g1 g2 g3 g4 rfl fin
  | some v =>
    obtain ⟨da, wv, ed, _, hx3⟩ := dr
    subst ed
    have hxd : ObjOk X.prog X.w H1 s1.heap da (.xd [("row", wv)]) := I1.hok da _ hx3
    obtain ⟨mA, hns, hr⟩ := hxd
    obtain ⟨od, ho2, hl⟩ := lookIn_ns hns
    have hn : mA "called" = none := RelO.none_of (hr "called")
    exact excm_get (od := some od) I1.kIn ⟨h1, h2, by unfold PySem.W.notCls; rw [h4] <;> rfl, by rw [h3]; exact ho2⟩ g1 g2 g3 g4 (by show (PySem.W.lookIn "called" od).map _ = _; rw [hl, hn]; rfl) fin
end
theorem Ctx.toCtx {X : Cx} {W : WX} {k : Nat} (C : Ctx X W k) : Ctx X W k := C
theorem Ctx.dp5 {X : Cx} {W : WX} {k : Nat} (C : Ctx X W k) : X.A.depth + 5 < recursionLimit := by have := C.room.dp; omega
theorem CtH.dp5 {X : Cx} {k : Nat} (C : CtH X k) : X.A.depth + 5 < recursionLimit := by have := C.dp; omega
/-! more of the plain side -/
theorem oLen_tup {S : Sto} {i : Nat} {xs : List V} (h : S[i]? = some (.tup xs)) : oLen [.ref i] S = .ok (.int xs.length) S := by
  have h1 : rdL S (.ref i) = none := by simp only [rdL, h]
  simp only [oLen, h1, rdT_tup h]
theorem oLen_lst {S : Sto} {x : V} {xs : List V} (h : rdL S x = some xs) : oLen [x] S = .ok (.int xs.length) S := by
  cases x with
  | ref i => simp only [oLen, h]
  | _ => cases h
@[simp] theorem isNon_ref (i : Nat) : Mi.isNon (.ref i) = false := rfl
@[simp] theorem isNon_non : Mi.isNon .non = true := rfl
@[simp] theorem isNon_int (i : Int) : Mi.isNon (.int i) = false := rfl
end Mi

namespace Mi
open PySem PySem.Spec L2
open PyProof.Rows hiding St

/-! ### a, b = e -/
def mSetT (is : List Nat) (a : ME) : MS := fun σ S => (a σ S).lift σ fun v S1 => match rdT S1 v with
  | some xs => match setAll is xs σ with
    | some σ2 => .nx σ2 S1
    | none => .bad
  | none => .bad
section
variable {T : Tab} {W : WX} {X : Cx} {e : Expr} {es : List Expr} {ma : ME} {is : List Nat} {k : Nat} {pos pos' : Pos}
theorem ds_setT (hc : X.calm = true) (h : PGs X es (gAll is)) (he : DE T X W e ma) (hn : (assignEach es X.env).length = is.length := by rfl) (hst : (assignEach es X.env).findIdx? (·.1) = none := by rfl)
    (hs : swapsWithSole [.Tuple es k pos'] e pos.line X.env = pure false := by rfl) (hw : swappedStores [.Tuple es k pos'] e X.env = pure none := by rfl)
    (h1 : (assignEach [.Tuple es k pos'] X.env).map (·.2) = [assign (.Tuple es k pos') X.env] := by rfl) : DS T X W (.Assign [.Tuple es k pos'] e pos) (mSetT is ma) :=
  (ps_asg he (pg_tup hc h hn hst) hs hw h1).imp fun D σ H h => by
    obtain ⟨ρ, S, τ, r, l, h⟩ := h
    refine ⟨ρ, S, τ, r, l, PostS.lift h l fun ρ1 S1 H1 v w p1 r1 x1 l1 h1 => ?_⟩
    split at h1
    · rename_i xs er
      split at h1
      · rename_i σ2 es2
        obtain ⟨a, ws, ew, hp, vr⟩ := r1.rdT er x1
        refine ⟨a, ws, ew, .inl (.inl hp), ?_, gAll_of l1 vr es2 fun σ3 l3 _ => h1 ρ1 H1 σ3 Ext.refl r1 l3⟩
        rw [← prd_len vr]
        exact setAll_len es2
      · exact h1.elim
    · exact h1.elim
end

/-! ### dict displays -/
def mDict0 : ME := fun _ S => .ok (.ref S.length) (S ++ [.dK []])
abbrev MP := St → Sto → R (List (V × V))
def mPNil : MP := fun _ S => .ok [] S
def mPCons (k v : ME) (r : MP) : MP := fun σ S => (k σ S).bind fun x S1 => (v σ S1).bind fun y S2 => (r σ S2).bind fun ps S3 => .ok ((x, y) :: ps) S3
def keyP (p : V × V) : Option (Key × V) := (keyOf p.1).map fun k => (k, p.2)
def mDisp (r : MP) : ME := fun σ S => (r σ (S ++ [.dK []])).bind fun ps S1 => if S1[S.length]? = some (.dK []) then (match allSome (ps.map keyP) with
  | some kvs => if kvs.length ≤ 15 then .ok (.ref S.length) (S1.set S.length (.dK (mergeK [] kvs))) else .bad
  | none => .bad) else .bad
abbrev PpR (ρ : List Addr) : List (V × V) → List (V × V) → Prop := Paired fun p q => VR ρ p.1 q.1 ∧ VR ρ p.2 q.2
theorem keys_pp {ρ : List Addr} : ∀ {ps qs : List (V × V)} {kvs : List (Key × V)}, PpR ρ ps qs → allSome (ps.map keyP) = some kvs → ∃ ws : List (Key × V), qs = ws.map (fun kv => (kV kv.1, kv.2)) ∧ FR ρ kvs ws
  | _, _, _, .nil, e => by cases e; exact ⟨[], rfl, .nil⟩
  | _, _, kvs, .cons (a := a) (b := b) (l₁ := l) r t, e => by
    rw [List.map_cons] at e
    cases e1 : keyP a with
    | none => rw [e1] at e; cases e
    | some kv =>
      rw [e1] at e
      have e : (allSome (l.map keyP)).map (kv :: ·) = some kvs := e
      cases e2 : allSome (l.map keyP) with
      | none => rw [e2] at e; cases e
      | some rest =>
        rw [e2] at e
        cases e
        obtain ⟨ws, h1, h2⟩ := keys_pp t e2
        unfold keyP at e1
        cases ek : keyOf a.1 with
        | none => rw [ek] at e1; cases e1
        | some kk =>
          rw [ek] at e1
          cases e1
          have e4 := key_vr ek r.1
          exact ⟨(kk, b.2) :: ws, by rw [List.map_cons, ← h1, ← e4], .cons ⟨rfl, r.2⟩ h2⟩
section
variable {T : Tab} {W : WX} {X : Cx} {pos : Pos} {k v : Expr} {mk mv : ME} {keys : List (Option Expr)} {values : List Expr} {mr : MP} {trs : List (TE × TE)}
theorem de_dict0 : DE T X W (.Dict [] [] pos) mDict0 := pe_dnewK.imp fun σ H Q h => by
  obtain ⟨ρ, S, τ, r, l, h⟩ := h
  exact fun p np => h _ _ _ (Ext.new np) (r.alloc np ⟨[], rfl, .nil⟩) (new_ref r.len)
/-- the pairs of a display -/
structure DP (T : Tab) (X : Cx) (W : WX) (pos : Pos) (keys : List (Option Expr)) (values : List Expr) (m : MP) : Prop where
  ex : ∃ trs, PPs X pos keys values trs ∧ ∀ σ H Q, den (gm T X) W PpR m σ H Q → tPairs trs σ H Q
  all : keys.all (·.isSome) = true
  len : keys.length = values.length
theorem dp_nil : DP T X W pos [] [] mPNil := ⟨⟨[], pps_nil, fun σ H Q h => by
  obtain ⟨ρ, S, τ, r, l, h⟩ := h
  exact h ρ H [] Ext.refl r .nil⟩, rfl, rfl⟩
theorem dp_cons (hk : DE T X W k mk) (hv : DE T X W v mv) (hr : DP T X W pos keys values mr) : DP T X W pos (some k :: keys) (v :: values) (mPCons mk mv mr) := by
  obtain ⟨⟨trs, h1, h2⟩, h3, h4⟩ := hr
  refine ⟨⟨_, pps_cons hk hv h1, fun σ H Q h => ?_⟩, by rw [List.all_cons, h3]; rfl, by rw [List.length_cons, List.length_cons, h4]⟩
  obtain ⟨ρ, S, τ, r, l, h⟩ := h
  refine ⟨ρ, S, τ, r, l, Post.bind h fun ρ1 S1 H1 x w p1 r1 x1 h1 => ?_⟩
  refine ⟨ρ1, S1, τ, r1, l.mono p1.pre, Post.bind h1 fun ρ2 S2 H2 y u p2 r2 y2 h2' => ?_⟩
  refine h2 σ H2 _ ⟨ρ2, S2, τ, r2, l.mono (p1.trans p2).pre, Post.bind h2' fun ρ3 S3 H3 ps qs p3 r3 z3 h3' => ?_⟩
  exact h3' ρ3 H3 _ Ext.refl r3 (.cons ⟨x1.mono (p2.trans p3).pre, y2.mono p3.pre⟩ z3)
theorem de_disp (h : DP T X W pos (some k :: keys) (v :: values) mr) (h15 : (some k :: keys).length ≤ 15 := by decide) : DE T X W (.Dict (some k :: keys) (v :: values) pos) (mDisp mr) := by
  obtain ⟨⟨trs, h1, h2⟩, h3, h4⟩ := h
  refine (pe_disp h1 h3 h4 (by simp) h15).imp fun σ H Q h => ?_
  obtain ⟨ρ, S, τ, r, l, h⟩ := h
  intro p np
  have r0 := r.alloc (o := .dK []) (u := .dK []) np ⟨[], rfl, .nil⟩
  have h := Post.mono h (Ext.new (u := .dK []) np)
  refine h2 σ _ _ ⟨ρ ++ [p], S ++ [.dK []], τ, r0, l.mono (List.prefix_append _ _), Post.bind h fun ρ1 S1 H1 ps qs p1 r1 x1 h1 => ?_⟩
  split at h1
  · rename_i es
    obtain ⟨a, u, ew, er, eh, ws0, eu, vr0⟩ := r1.ref es ((new_ref r.len (p := p)).mono p1.pre)
    cases ew
    subst eu
    cases vr0
    split at h1
    · rename_i kvs ek
      split at h1
      · rename_i hz
        obtain ⟨ws, e1, fr⟩ := keys_pp x1 ek
        refine ⟨eh, ws, e1, by rw [← prd_len fr]; exact hz, ?_⟩
        exact h1 ρ1 _ _ (Ext.put eh fun _ _ q => nomatch q) (r1.write es er (fun fs q => by rw [eh] at q; cases q) ⟨_, rfl, fr_merge fr .nil⟩) ((new_ref r.len).mono p1.pre)
      · exact h1.elim
    · exact h1.elim
  · exact h1.elim
end

/-! ### a < b < c -/
def mChain (o o' : V → V → Sto → R V) (a b c : ME) : ME := fun σ S => (a σ S).bind fun x S1 => (b σ S1).bind fun y S2 => (o x y S2).bind fun z S3 => match z with
  | .bl true => (c σ S3).bind fun w S4 => o' y w S4
  | .bl false => .ok (.bl false) S3
  | _ => .bad
section
variable {T : Tab} {W : WX} {X : Cx} {a b c : Expr} {ma mb mc : ME} {pos : Pos} {op op' : CmpOp} {o o' : V → V → Sto → R V}
theorem den_chain {G : Gm} {σ : St} {H : Hp} {Q : VK} (ho : ∀ x y S, (o x y S).quiet) (ho' : ∀ x y S, (o' x y S).quiet) (h : den G W VR (mChain o o' ma mb mc) σ H Q) : tChain (denR G o) (denR G o') (den G W VR ma) (den G W VR mb) (den G W VR mc) σ H Q := by
  obtain ⟨ρ, S, τ, r, l, h⟩ := h
  refine ⟨ρ, S, τ, r, l, Post.bind h fun ρ1 S1 H1 x w p1 r1 x1 h1 => ?_⟩
  refine ⟨ρ1, S1, τ, r1, l.mono p1.pre, Post.bind h1 fun ρ2 S2 H2 y u p2 r2 y2 h2 => ?_⟩
  refine ⟨ρ2, S2, x, y, σ, r2, x1.mono p2.pre, y2, Post.still (Post.bind (rel1 := VR) h2 fun ρ3 S3 H3 z z' p3 r3 z3 h3 => ?_) (ho _ _ _)⟩
  cases z with
  | bl q =>
    cases z3
    refine ⟨q, rfl, ?_⟩
    cases q with
    | true =>
      refine ⟨ρ3, S3, τ, r3, l.mono ((p1.trans p2).trans p3).pre, Post.bind h3 fun ρ4 S4 H4 w2 u2 p4 r4 w4 h4 => ?_⟩
      exact ⟨ρ4, S4, y, w2, σ, r4, y2.mono (p3.trans p4).pre, w4, h4.still (ho' _ _ _)⟩
    | false => exact h3 ρ3 H3 _ Ext.refl r3 rfl
  | _ => exact h3.elim
theorem de_chain (ho : Op2 T X (compareOp op) o) (ho' : Op2 T X (compareOp op') o') (ha : DE T X W a ma) (hb : DE T X W b mb) (hc : DE T X W c mc) (hm : lastMarks [op, op'] [b, c] = false := by with_unfolding_all rfl) : DE T X W (.Compare a [op, op'] [b, c] pos) (mChain o o' ma mb mc) :=
  (pe_chain ho.1 ho'.1 ha hb hc hm).imp fun σ H Q h => den_chain ho.2 ho'.2 h
theorem dt_chain (ho : Op2 T X (compareOp op) o) (ho' : Op2 T X (compareOp op') o') (ha : DE T X W a ma) (hb : DE T X W b mb) (hc : DE T X W c mc) (hm : lastMarks [op, op'] [b, c] = false := by with_unfolding_all rfl) : DT T X W (.Compare a [op, op'] [b, c] pos) (mB (mChain o o' ma mb mc)) :=
  (pt_chain ho.1 ho'.1 ha hb hc hm).imp fun σ H Q h => den_chain ho.2 ho'.2 (den_toB h)
end

/-! ### int(x), str(x) -/
def oInt : List V → Sto → R V := fun xs S => match xs with
  | [.int i] => .ok (.int i) S
  | [.bl k] => .ok (.int (if k then 1 else 0)) S
  | [.str a] => match PySem.intText? a with
    | some n => if a.length ≤ 640 then .ok (.int n) S else .bad
    | none => .bad
  | _ => .bad
def oStr : List V → Sto → R V := fun xs S => match xs with
  | [.int i] => if i.natAbs.log2 < 1920 then .ok (.str (toString i)) S else .bad
  | [.str a] => .ok (.str a) S
  | _ => .bad
section
variable {T : Tab} {X : Cx}
theorem cal_int : CalX T X (.type "int") oInt := by
  refine calX_of (fun xs S => ?_) fun pins s σ H xs us Q ρ S vs τ I r rp rv h => ?_
  · unfold oInt
    repeat' split
    all_goals trivial
  · unfold oInt at h
    split at h
    · obtain ⟨w, e, rw'⟩ := vsr_one rv
      subst e
      cases rw'
      exact call_int1 pins s σ H _ us Q I r (.inl ⟨_, rfl, h ρ H _ Ext.refl rp rfl⟩)
    · obtain ⟨w, e, rw'⟩ := vsr_one rv
      subst e
      cases rw'
      exact call_int1 pins s σ H _ us Q I r (.inr ⟨_, rfl, h ρ H _ Ext.refl rp rfl⟩)
    · obtain ⟨w, e, rw'⟩ := vsr_one rv
      subst e
      cases rw'
      split at h
      · rename_i n en
        split at h
        · rename_i hz
          exact call_int_str pins s σ H _ us Q I r ⟨_, n, rfl, en, hz, h ρ H _ Ext.refl rp rfl⟩
        · exact h.elim
      · exact h.elim
    · exact h.elim
theorem cal_str : CalX T X (.type "str") oStr := by
  refine calX_of (fun xs S => ?_) fun pins s σ H xs us Q ρ S vs τ I r rp rv h => ?_
  · unfold oStr
    repeat' split
    all_goals trivial
  · unfold oStr at h
    split at h
    · obtain ⟨w, e, rw'⟩ := vsr_one rv
      subst e
      cases rw'
      split at h
      · rename_i hz
        exact call_str_int pins s σ H _ us Q I r ⟨_, rfl, hz, h ρ H _ Ext.refl rp rfl⟩
      · exact h.elim
    · obtain ⟨w, e, rw'⟩ := vsr_one rv
      subst e
      cases rw'
      exact SkE.call_str_str pins s σ H _ us Q I r ⟨_, rfl, h ρ H _ Ext.refl rp rfl⟩
    · exact h.elim
end

/-! ### texts -/
section
variable {T : Tab} {X : Cx}
def oSplit : Mth := fun x as S => match x, as with
  | .str a, [.str b] => if (b.length == 0) = false ∧ a.length + 2 ≤ sizeLine then .ok (.ref S.length) (S ++ [.lst ((Txt.split a b).map V.str)]) else .bad
  | .str a, [] => if a.length + 2 ≤ sizeLine then .ok (.ref S.length) (S ++ [.lst ((Txt.words a).map V.str)]) else .bad
  | _, _ => .bad
theorem strs_vsr {ρ : List Addr} : ∀ ns : List Str, VsR ρ (ns.map V.str) (ns.map V.str)
  | [] => .nil
  | _ :: r => .cons rfl (strs_vsr r)
theorem mth_split : MthX T X "str.split" oSplit := by
  refine mthX_of (fun x xs S => ?_) fun pins s σ H x xs v us Q ρ S a vs τ I rx r rp ra rv h => ?_
  · unfold oSplit
    repeat' split
    all_goals trivial
  · unfold oSplit at h
    split at h
    · obtain ⟨w, e, rw'⟩ := vsr_one rv
      subst e
      cases rw'
      cases ra
      split at h
      · rename_i hz
        exact mt_split pins s σ H _ _ v us Q I rx r ⟨_, _, rfl, rfl, hz.1, hz.2, fun p np => h _ _ _ (Ext.new np) (rp.alloc np ⟨_, rfl, strs_vsr _⟩) (new_ref rp.len)⟩
      · exact h.elim
    · cases rv
      cases ra
      split at h
      · rename_i hz
        exact mt_words pins s σ H _ _ v us Q I rx r ⟨_, rfl, rfl, hz, fun p np => h _ _ _ (Ext.new np) (rp.alloc np ⟨_, rfl, strs_vsr _⟩) (new_ref rp.len)⟩
      · exact h.elim
    · exact h.elim
def rdStrs (S : Sto) (x : V) : Option (List Str) := match rdL S x with
  | some xs => allSome (xs.map toStr)
  | none => (rdT S x).bind fun xs => allSome (xs.map toStr)
def oJoin : Mth := fun x as S => match x, as with
  | .str a, [y] => match rdStrs S y with
    | some ys => if (ys.map (·.length)).sum + ys.length * a.length ≤ 16777216 then .ok (.str (Txt.join a ys)) S else .bad
    | none => .bad
  | _, _ => .bad
theorem mth_join : MthX T X "str.join" oJoin := by
  refine mthX_of (fun x xs S => ?_) fun pins s σ H x xs v us Q ρ S a vs τ I rx r rp ra rv h => ?_
  · unfold oJoin
    repeat' split
    all_goals trivial
  · unfold oJoin at h
    split at h
    · obtain ⟨w, e, rw'⟩ := vsr_one rv
      subst e
      cases ra
      split at h
      · rename_i ys ey
        split at h
        · rename_i hz
          have h := h ρ H _ Ext.refl rp rfl
          unfold rdStrs at ey
          split at ey
          · rename_i el
            obtain ⟨ad, ws, ew, eh, vr⟩ := rp.rdL el rw'
            subst ew
            have e2 := strs_of vr ey
            subst e2
            exact mt_join pins s σ H _ _ v us Q I rx r ⟨_, ad, ys, rfl, rfl, .inl (.inl eh), hz, h⟩
          · rename_i y _ _ _ _
            cases el : rdT S y with
            | none => rw [el] at ey; cases ey
            | some xs =>
              rw [el] at ey
              obtain ⟨ad, ws, ew, eh, vr⟩ := rp.rdT el rw'
              subst ew
              have e2 := strs_of vr ey
              subst e2
              exact mt_join pins s σ H _ _ v us Q I rx r ⟨_, ad, ys, rfl, rfl, .inr (.inl (.inl eh)), hz, h⟩
        · exact h.elim
      · exact h.elim
    · exact h.elim
end

/-! ### a value's truth -/
def mTru (a : ME) : MT := fun σ S => (a σ S).bind fun x S1 => match x with
  | .non => .ok false S1
  | .bl b => .ok b S1
  | .int i => .ok (i != 0) S1
  | .str y => if y.length ≤ sizeLine then .ok ((y.length : Int) != 0) S1 else .bad
  | .ref i => match rdL S1 (.ref i) with
    | some xs => .ok (!xs.isEmpty) S1
    | none => match rdT S1 (.ref i) with
      | some xs => .ok (!xs.isEmpty) S1
      | none => match S1[i]? with
        | some (.dK kvs) => .ok (!kvs.isEmpty) S1
        | _ => .bad
  | _ => .bad
theorem prd_emp {α β : Type} {F : α → β → Prop} {xs : List α} {ys : List β} (h : Paired F xs ys) : ys.isEmpty = xs.isEmpty := by cases h <;> rfl
theorem dt_tru {T : Tab} {W : WX} {X : Cx} {a : Expr} {ma : ME} (h : DE T X W a ma) (he : ∀ whole, isTrue a X.env whole = (do let v ← whole; standAt a.pos; holding [v] (truthy v)) := by intro _; rfl) : DT T X W a (mTru ma) := (pt_truth h he).imp fun σ H Q h => by
  obtain ⟨ρ, S, τ, r, l, h⟩ := h
  refine ⟨ρ, S, τ, r, l, Post.bind h fun ρ1 S1 H1 x w p1 r1 x1 h1 => ?_⟩
  split at h1
  · cases x1; exact ⟨false, rfl, h1 ρ1 H1 _ Ext.refl r1 rfl⟩
  · cases x1; exact ⟨_, rfl, h1 ρ1 H1 _ Ext.refl r1 rfl⟩
  · cases x1; exact ⟨_, rfl, h1 ρ1 H1 _ Ext.refl r1 rfl⟩
  · cases x1
    split at h1
    · rename_i hz
      exact ⟨_, ⟨hz, rfl⟩, h1 ρ1 H1 _ Ext.refl r1 rfl⟩
    · exact h1.elim
  · split at h1
    · rename_i el
      obtain ⟨ad, ws, ew, eh, vr⟩ := r1.rdL el x1
      subst ew
      exact ⟨_, .inl ⟨ws, .inl eh, rfl⟩, h1 ρ1 H1 _ Ext.refl r1 (by rw [prd_emp vr])⟩
    · split at h1
      · rename_i el
        obtain ⟨ad, ws, ew, eh, vr⟩ := r1.rdT el x1
        subst ew
        exact ⟨_, .inr (.inl ⟨ws, .inl (.inl eh), rfl⟩), h1 ρ1 H1 _ Ext.refl r1 (by rw [prd_emp vr])⟩
      · split at h1
        · rename_i es
          obtain ⟨a, u, ew, er, eh, ws, eu, vr⟩ := r1.ref es x1
          subst ew; subst eu
          exact ⟨_, .inr (.inr ⟨ws, eh, rfl⟩), h1 ρ1 H1 _ Ext.refl r1 (by rw [prd_emp vr])⟩
        · exact h1.elim
  · exact h1.elim
end Mi

namespace Mi
open PySem PySem.Spec L2
open PyProof.Rows hiding St

/-! ### the plain side: objects, rows, comprehensions -/
theorem mFld_of {tab : List (Nat × Nat)} {a : ME} {σ : St} {S S1 : Sto} {i c j : Nat} {fs : List (Option V)} {v : V} (h : a σ S = .ok (.ref i) S1) (hi : S1[i]? = some (.ins c fs)) (hj : look tab c = some j) (hv : fs[j]? = some (some v)) : mFld tab a σ S = .ok v S1 := by
  simp only [mFld, h, bind_ok, hi, hj, hv]
theorem mMeth_of {n : Nat} {tab : List (Nat × Fn)} {o : ME} {a : MA} {σ : St} {S S1 : Sto} {i c : Nat} {fs : List (Option V)} {f : Fn} (h : o σ S = .ok (.ref i) S1) (hi : S1[i]? = some (.ins c fs)) (hf : look tab c = some f) :
    mMeth n tab o a σ S = (a σ S1).bind fun xs S2 => if xs.length + 1 = n then f (.ref i :: xs) S2 else .bad := by
  simp only [mMeth, h, bind_ok, hi, hf]
theorem mSetF_of {tab : List (Nat × Nat)} {o a : ME} {σ : St} {S S1 S2 : Sto} {i c j : Nat} {fs : List (Option V)} {v : V} (ha : a σ S = .ok v S1) (ho : o σ S1 = .ok (.ref i) S2) (hi : S2[i]? = some (.ins c fs)) (hj : look tab c = some j) : mSetF tab o a σ S = .nx σ (S2.set i (.ins c (fs.set j (some v)))) := by
  simp only [mSetF, ha, lift_ok, ho, hi, hj]
theorem mMake_of {c n l : Nat} {f : Fn} {a : MA} {σ : St} {S S1 S2 : Sto} {xs : List V} (ha : a σ S = .ok xs S1) (hn : xs.length + 1 = n) (hf : f (.ref S1.length :: xs) (S1 ++ [.ins c (List.replicate l none)]) = .ok .non S2) : mMake c n l f a σ S = .ok (.ref S1.length) S2 := by
  simp only [mMake, ha, bind_ok, if_pos hn, hf]
@[simp] theorem mSetI_ap (t : Op3) (o i a : ME) (σ : St) (S : Sto) : mSetI t o i a σ S = (a σ S).lift σ fun v S1 => (o σ S1).lift σ fun x S2 => (i σ S2).lift σ fun y S3 => (t x y v S3).lift σ fun _ S4 => .nx σ S4 := rfl
theorem tSetI_lst {S : Sto} {i : Nat} {xs : List V} {k : Int} {j : Nat} {v : V} (h : S[i]? = some (.lst xs)) (hj : ixN xs.length k = some j) : tSetI (.ref i) (.int k) v S = .ok () (S.set i (.lst (xs.set j v))) := by
  simp only [tSetI, h, hj]
theorem tSetI_dct {S : Sto} {i : Nat} {xs : List (Key × V)} {y : V} {k : Key} {v : V} (h : S[i]? = some (.dK xs)) (hk : keyOf y = some k) (hz : xs.length < sizeLine) : tSetI (.ref i) y v S = .ok () (S.set i (.dK (putK xs k v))) := by
  simp only [tSetI, h, hk, if_pos hz]
theorem ixN_nat {n k : Nat} (h : k < n) : ixN n (k : Int) = some k := by
  unfold ixN
  rw [if_pos (by omega), if_pos (by omega)]
  rfl
theorem oList_lst {S : Sto} {x : V} {xs : List V} (h : rdL S x = some xs) : oList [x] S = .ok (.ref S.length) (S ++ [.lst xs]) := by simp only [oList, h]
theorem oAppend_lst {S : Sto} {i : Nat} {xs : List V} {v : V} (h : S[i]? = some (.lst xs)) (hz : xs.length < sizeLine) : oAppend (.ref i) [v] S = .ok .non (S.set i (.lst (xs ++ [v]))) := by
  simp only [oAppend, onLst, h, if_pos hz]
theorem oSum_ints {S : Sto} {x : V} {ns : List Int} (h : rdInts S x = some ns) : oSum [x] S = .ok (.int ns.sum) S := by simp only [oSum, h]
theorem allSome_ints : ∀ ns : List Int, allSome ((ns.map V.int).map toInt) = some ns
  | [] => rfl
  | n :: r => by
    show (allSome ((r.map V.int).map toInt)).map (n :: ·) = _
    rw [allSome_ints r]
    rfl
theorem oMul_rep {S : Sto} {i : Nat} {xs : List V} {k : Int} (h : S[i]? = some (.lst xs)) (hk : -(2 ^ 63) ≤ k ∧ k < 2 ^ 63 ∧ xs.length * k.toNat ≤ sizeLine) : oMul (.ref i) (.int k) S = .ok (.ref S.length) (S ++ [.lst (List.replicate k.toNat xs).flatten]) := by
  simp only [oMul, h, if_pos hk]
/-- a comprehension by what holds between two items -/
theorem lc_inv {n : Nat} {chk : Sto → Bool} {tg : Tg} {c : MT} {e : ME} {σ : St} (P : List Itv → List V → Sto → Prop) (hP : ∀ r acc S, P r acc S → chk S = true ∧ S[n]? = some (.lst acc) ∧ acc.length + r.length ≤ sizeLine)
    (h : ∀ it r acc S, P (it :: r) acc S → ∃ σ1, tg it σ S = some σ1 ∧ ((∃ S1, c σ1 S = .ok false S1 ∧ P r acc S1) ∨ ∃ S1 v S2, c σ1 S = .ok true S1 ∧ e σ1 S1 = .ok v S2 ∧ S2[n]? = some (.lst acc) ∧ P r (acc ++ [v]) (S2.set n (.lst (acc ++ [v]))))) :
    ∀ {its : List Itv} {acc : List V} {S : Sto}, P its acc S → ∃ acc' S', lcGo n chk tg c e σ its S = some S' ∧ P [] acc' S'
  | [], acc, S, p => ⟨acc, S, if_pos (hP _ _ _ p).1, p⟩
  | it :: r, acc, S, p => by
    obtain ⟨h1, h2, h3⟩ := hP _ _ _ p
    obtain ⟨σ1, e1, q⟩ := h it r acc S p
    rcases q with ⟨S1, e2, q⟩ | ⟨S1, v, S2, e2, e3, e4, q⟩
    · obtain ⟨acc', S', e5, q2⟩ := lc_inv P hP h q
      refine ⟨acc', S', ?_, q2⟩
      simp only [lcGo, if_pos h1, e1, e2, if_neg Bool.false_ne_true]
      exact e5
    · obtain ⟨acc', S', e5, q2⟩ := lc_inv P hP h q
      refine ⟨acc', S', ?_, q2⟩
      have hz : acc.length < sizeLine := by
        rw [List.length_cons] at h3
        omega
      simp only [lcGo, if_pos h1, e1, e2, if_pos, e3, e4, if_pos hz]
      exact e5
theorem mLc_of {src : St → Sto → R Src} {own : List Nat} {tg : Tg} {c : MT} {e : ME} {σ : St} {S S1 S2 : Sto} {s : Src} (h1 : src σ S = .ok s S1) (h2 : lcGo S1.length s.chk tg c e (wipe σ own) s.its (S1 ++ [.lst []]) = some S2) : mLc src own tg c e σ S = .ok (.ref S1.length) S2 := by
  simp only [mLc, h1, bind_ok, h2]
@[simp] theorem mYes_ap (σ : St) (S : Sto) : mYes σ S = .ok true S := rfl
theorem set_new (S ex : Sto) (o o' : Ob) : (S ++ o :: ex).set S.length o' = S ++ o' :: ex := by
  rw [List.set_append_right _ _ (Nat.le_refl _), Nat.sub_self]
  rfl
/-- one item after another: elements that are told without a change of the store -/
theorem lc_pure {chk : Sto → Bool} {tg : Tg} {e : ME} {σ : St} {S1 : Sto} (hc : ∀ acc, chk (S1 ++ [.lst acc]) = true) : ∀ {its : List Itv} {vals acc : List V}, vals.length = its.length → acc.length + its.length ≤ sizeLine →
    (∀ (k : Nat) (it : Itv) (v : V) (acc : List V), its[k]? = some it → vals[k]? = some v → ∃ σ1, tg it σ (S1 ++ [.lst acc]) = some σ1 ∧ e σ1 (S1 ++ [.lst acc]) = .ok v (S1 ++ [.lst acc])) → lcGo S1.length chk tg mYes e σ its (S1 ++ [.lst acc]) = some (S1 ++ [.lst (acc ++ vals)])
  | [], vals, acc, hl, hz, h => by
    have e : vals = [] := List.eq_nil_of_length_eq_zero hl
    subst e
    rw [List.append_nil]
    exact if_pos (hc acc)
  | it :: r, [], acc, hl, hz, h => absurd hl (by simp)
  | it :: r, v :: vals, acc, hl, hz, h => by
    obtain ⟨σ1, e1, e2⟩ := h 0 it v acc rfl rfl
    have hz' : acc.length < sizeLine := by
      rw [List.length_cons] at hz
      omega
    have hn : (S1 ++ [Ob.lst acc])[S1.length]? = some (.lst acc) := by rw [get_new0]; rfl
    have ih := lc_pure hc (its := r) (vals := vals) (acc := acc ++ [v]) (by simpa using hl) (by rw [List.length_append, List.length_singleton]; rw [List.length_cons] at hz; omega) fun k it' v' acc' h1 h2 => h (k + 1) it' v' acc' (by simpa using h1) (by simpa using h2)
    simp only [lcGo, if_pos (hc acc), e1, mYes_ap, if_pos, e2, hn, if_pos hz']
    rw [set_new, ih, List.append_assoc]
    rfl
/-- values that are none, bools, ints -/
def Sc (v : V) : Prop := v = .non ∨ (∃ b, v = .bl b) ∨ ∃ i, v = .int i
def pdV : V → PyData
  | .bl b => .bool b
  | .int i => .int i
  | _ => .none
theorem rdD_sc {S : Sto} {n : Nat} {v : V} (h : Sc v) : rdD S (n + 1) v = some (pdV v) := by rcases h with h | ⟨b, h⟩ | ⟨i, h⟩ <;> subst h <;> rfl
theorem rdD_scs {S : Sto} {n : Nat} : ∀ {xs : List V}, (∀ v ∈ xs, Sc v) → allSome (xs.map (rdD S (n + 1))) = some (xs.map pdV)
  | [], _ => rfl
  | v :: r, h => by
    rw [List.map_cons, rdD_sc (h v List.mem_cons_self)]
    show (allSome (r.map (rdD S (n + 1)))).map (pdV v :: ·) = _
    rw [rdD_scs fun u hu => h u (List.mem_cons_of_mem _ hu)]
    rfl
theorem lay_scs : ∀ {xs : List V}, (∀ v ∈ xs, Sc v) → PyData.canLayAll0 (xs.map pdV) = true ∧ PyData.depthAll (xs.map pdV) = 0
  | [], _ => ⟨rfl, rfl⟩
  | v :: r, h => by
    obtain ⟨h1, h2⟩ := lay_scs fun u hu => h u (List.mem_cons_of_mem _ hu)
    have hv := h v List.mem_cons_self
    rw [List.map_cons]
    constructor
    · show (PyData.canLay0 (pdV v) && PyData.canLayAll0 (r.map pdV)) = true
      rw [h1]
      rcases hv with h | ⟨b, h⟩ | ⟨i, h⟩ <;> subst h <;> rfl
    · show max (PyData.depth (pdV v)) (PyData.depthAll (r.map pdV)) = 0
      rw [h2]
      rcases hv with h | ⟨b, h⟩ | ⟨i, h⟩ <;> subst h <;> rfl
theorem shaped_scs {xs : List V} (h : ∀ v ∈ xs, Sc v) : SeqAt.shaped (.list (xs.map pdV)) = true := by
  obtain ⟨h1, h2⟩ := lay_scs h
  show (PyData.canLayAll0 (xs.map pdV) && decide (PyData.depthAll (xs.map pdV) + 1 ≤ 64)) = true
  rw [h1, h2]
  rfl
theorem eqv_sc {v : V} (h : Sc v) : PyData.eqv (pdV v) (pdV v) = true := by
  rcases h with h | ⟨b, h⟩ | ⟨i, h⟩ <;> subst h
  · rfl
  · show (b == b) = true
    exact beq_self_eq_true b
  · show (i == i) = true
    exact beq_self_eq_true i
theorem eqv_scs : ∀ {xs : List V}, (∀ v ∈ xs, Sc v) → PyData.eqvAll (xs.map pdV) (xs.map pdV) = true
  | [], _ => rfl
  | v :: r, h => by
    show (PyData.eqv (pdV v) (pdV v) && PyData.eqvAll (r.map pdV) (r.map pdV)) = true
    rw [eqv_sc (h v List.mem_cons_self), eqv_scs fun u hu => h u (List.mem_cons_of_mem _ hu)]
    rfl
/-- two lists of the same simple values are equal -/
theorem oEqD_rows {S : Sto} {i j : Nat} {xs : List V} {neg : Bool} (h1 : S[i]? = some (.lst xs)) (h2 : S[j]? = some (.lst xs)) (h : ∀ v ∈ xs, Sc v) : oEqD neg (.ref i) (.ref j) S = .ok (.bl (neg != true)) S := by
  have e1 : rdD S eqDepth (.ref i) = some (.list (xs.map pdV)) := (rdD_lst (n := 11) h1).trans (by rw [rdD_scs h]; rfl)
  have e2 : rdD S eqDepth (.ref j) = some (.list (xs.map pdV)) := (rdD_lst (n := 11) h2).trans (by rw [rdD_scs h]; rfl)
  rw [oEqD_of _ e1 e2 (shaped_scs h) (shaped_scs h), show PyData.eqv (.list (xs.map pdV)) (.list (xs.map pdV)) = true from eqv_scs h]
theorem sc_int (i : Int) : Sc (.int i) := .inr (.inr ⟨i, rfl⟩)
theorem sc_non : Sc .non := .inl rfl
theorem sc_flat {xs : List V} (h : ∀ v ∈ xs, Sc v) : xs.all flatV = true := List.all_eq_true.mpr fun v hv => by rcases h v hv with h | ⟨b, h⟩ | ⟨i, h⟩ <;> subst h <;> rfl
theorem mul_small {i j : Int} (h : -(2 ^ 64) < i ∧ i < 2 ^ 64) : IntMulOk i j := (show CMul i j from .inl h).ok
theorem mul_smallR {i j : Int} (h : -(2 ^ 64) < j ∧ j < 2 ^ 64) : IntMulOk i j := (show CMul i j from .inr h).ok
theorem pre_set {S S' : Sto} {i : Nat} {o : Ob} (h : S <+: S') (hi : S.length ≤ i) : S <+: S'.set i o := by
  obtain ⟨ex, rfl⟩ := h
  rw [List.set_append_right _ _ hi]
  exact List.prefix_append _ _
theorem pre_lt {S S' : Sto} {i : Nat} {o : Ob} (h : S <+: S') (hi : S[i]? = some o) : i < S.length := (List.getElem?_eq_some_iff.mp hi).1
theorem get_set {S : Sto} {i : Nat} {o o' : Ob} (h : S[i]? = some o) : (S.set i o')[i]? = some o' := List.getElem?_set_self (List.getElem?_eq_some_iff.mp h).1
theorem get_set_ne {S : Sto} {i j : Nat} {o' : Ob} (h : i ≠ j) : (S.set i o')[j]? = S[j]? := List.getElem?_set_ne h
end Mi

namespace Lw
open PySem PySem.Spec L2 Mi
open PyProof.Rows hiding St
abbrev prog : Program := PySem.Challenge.pw_stillheap_k68_name_table
def T : Tab := ⟨[("NameTable", ["name_row"])], ["HeapError", "BadCount", "BadHand", "BadName"]⟩
def it_BadName : List (Tag × Bool) := [(.non, false), (.bl, false), (.int, false), (.str, false), (.lst, false), (.tup, false), (.dct, false), (.exc 0, false), (.exc 1, false), (.exc 2, false), (.exc 3, true), (.ins 0, false)]
def it_ValueError : List (Tag × Bool) := [(.non, false), (.bl, false), (.int, false), (.str, false), (.lst, false), (.tup, false), (.dct, false), (.exc 0, true), (.exc 1, true), (.exc 2, true), (.exc 3, true), (.ins 0, false)]
def it_BadHand_BadCount : List (Tag × Bool) := [(.non, false), (.bl, false), (.int, false), (.str, false), (.lst, false), (.tup, false), (.dct, false), (.exc 0, false), (.exc 1, true), (.exc 2, true), (.exc 3, false), (.ins 0, false)]
def it_list : List (Tag × Bool) := [(.non, false), (.bl, false), (.int, false), (.str, false), (.lst, true), (.tup, false), (.dct, false), (.exc 0, false), (.exc 1, false), (.exc 2, false), (.exc 3, false), (.ins 0, false)]
def it_bool : List (Tag × Bool) := [(.non, false), (.bl, true), (.int, false), (.str, false), (.lst, false), (.tup, false), (.dct, false), (.exc 0, false), (.exc 1, false), (.exc 2, false), (.exc 3, false), (.ins 0, false)]
def sub_HeapError : Nat → Bool := fun c => match c with
  | 0 => true
  | 1 => true
  | 2 => true
  | 3 => true
  | _ => false
def cal_tab : List (Nat × Str) := [(0, "HeapError"), (1, "BadCount"), (2, "BadHand"), (3, "BadName")]
def ft_name_row : List (Nat × Nat) := [(0, 0)]
def m_NameTable___init__ : Fn := fnOf 1 (mSetF ft_name_row (mVar 0) (mBin oMul (mLst (mCons (mC (.non)) (mNil))) (mC (.int 8))))
def m_NameTable_all_named : Fn := fnOf 1 (mRet (mCall oList (mCons (mFld ft_name_row (mVar 0)) (mNil))))
def f_look_at_name : Fn := fnOf 1 (mIfS (mOr (mB (mBin oLt (mVar 0) (mC (.int 0)))) (mB (mBin oGe (mVar 0) (mC (.int 8))))) (mRaise 3) (mSkip))
def m_NameTable_named : Fn := fnOf 2 (mSeq (mExpr (mApp 1 f_look_at_name (mCons (mVar 1) (mNil)))) (mRet (mBin oIx (mFld ft_name_row (mVar 0)) (mVar 1))))
def mt_all_named : List (Nat × Fn) := [(0, m_NameTable_all_named)]
def mt_named : List (Nat × Fn) := [(0, m_NameTable_named)]
def f_law_same : Fn := fnOf 5 (mSeq (mSet 2 (mMeth 1 mt_all_named (mVar 0) mNil)) (mSeq (mIfS (mOr (mNot (mB (mIsi it_list (mVar 2)))) (mB (mBin oNe (mVar 2) (mVar 1)))) (mRet (mC (.bl false))) (mSkip)) (mSeq (mFor (mWalk (mVar 2)) (tgName 3) (mIfS (mB (mIsi it_bool (mVar 3))) (mRet (mC (.bl false))) (mSkip))) (mSeq (mSetI tSetI (mVar 2) (mC (.int 0)) (mC (.int 7))) (mSeq (mExpr (mBM "list" oAppend (mVar 2) (mCons (mC (.int 7)) (mNil)))) (mRet (mAndV (mBin oEq (mLc (mRange1 (mCons (mC (.int 8)) mNil)) [4] (tgName 4) (mYes) (mMeth 2 mt_named (mVar 0) (mCons (mVar 4) (mNil)))) (mVar 1)) (mBin oEq (mMeth 1 mt_all_named (mVar 0) mNil) (mVar 1)))))))))
def f_law_codes : Fn := fnOf 8 (mSeq (mSet 2 (mLst (mNil))) (mSeq (mSet 3 (mBin oEq (mBin oMod (mCall oSum (mCons (mVar 0) (mNil))) (mC (.int 2))) (mC (.int 1)))) (mSeq (mFor (mRange1 (mCons (mCall oLen (mCons (mVar 0) (mNil))) mNil)) (tgName 4) (mSeq (mSet 5 (mBin oIx (mVar 0) (mVar 4))) (mSeq (mIfS (mB (mVar 3)) (mSeq (mSet 7 (mBin oMod (mBin oMul (mBin oAdd (mBin oAdd (mBin oMod (mVar 5) (mC (.int 2147483647))) (mBin oMul (mC (.int 977)) (mVar 4))) (mC (.int 11))) (mC (.int 48271))) (mC (.int 2147483647)))) (mSeq (mSet 7 (mBin oMod (mBin oMul (mVar 7) (mVar 7)) (mC (.int 2147483647)))) (mSet 5 (mBin oAdd (mBin oMul (mBin oMul (mVar 7) (mVar 7)) (mC (.int 69621))) (mVar 7))))) (mSkip)) (mFor (mRange1 (mCons (mC (.int 4)) mNil)) (tgName 6) (mSeq (mExpr (mBM "list" oAppend (mVar 2) (mCons (mBin oMod (mVar 5) (mC (.int 1048576))) (mNil)))) (mSet 5 (mBin oDiv (mVar 5) (mC (.int 1048576))))))))) (mRet (mSl (mVar 2) (mNoP) (mPart (mVar 1)))))))
def m_NameTable_settle : Fn := fnOf 4 (mSeq (mSet 2 (mCall oDict (mCons (mLc (mWalk (mVar 1)) [3] (tgName 3) (mYes) (mTup (mCons (mVar 3) (mCons (mC (.bl true)) (mNil))))) (mNil)))) (mSetF ft_name_row (mVar 0) (mLc (mWalk (mFld ft_name_row (mVar 0))) [3] (tgName 3) (mYes) (mIf (mB (mBin oIn (mVar 3) (mVar 2))) (mC (.non)) (mVar 3)))))
def mt_settle : List (Nat × Fn) := [(0, m_NameTable_settle)]
def f_law_settled : Fn := fnOf 7 (mSeq (mSet 3 (mLc (mRange1 (mCons (mBin oMod (mBin oDiv (mVar 2) (mC (.int 512))) (mC (.int 7))) mNil)) [6] (tgName 6) (mYes) (mBin oMod (mBin oAdd (mBin oDiv (mVar 2) (mC (.int 16))) (mBin oMul (mBin oMul (mC (.int 7)) (mVar 6)) (mVar 6))) (mC (.int 30))))) (mSeq (mSet 3 (mBin oAdd (mVar 3) (mSl (mVar 3) (mNoP) (mPart (mBin oMod (mBin oDiv (mVar 2) (mC (.int 4096))) (mC (.int 2))))))) (mSeq (mSet 4 (mCall oList (mCons (mVar 3) (mNil)))) (mSeq (mIfS (mB (mBin oIsN (mMeth 2 mt_settle (mVar 0) (mCons (mVar 4) (mNil))) (mC (.non)))) (mRet (mC (.bl false))) (mSkip)) (mSeq (mFor (mRange1 (mCons (mC (.int 8)) mNil)) (tgName 5) (mIfS (mB (mBin oIn (mBin oIx (mVar 1) (mVar 5)) (mVar 3))) (mSetI tSetI (mVar 1) (mVar 5) (mC (.non))) (mSkip))) (mRet (mBin oEq (mVar 4) (mVar 3))))))))
def m_NameTable_name : Fn := fnOf 3 (mSeq (mExpr (mApp 1 f_look_at_name (mCons (mVar 1) (mNil)))) (mSetI tSetI (mFld ft_name_row (mVar 0)) (mVar 1) (mVar 2)))
def mt_name : List (Nat × Fn) := [(0, m_NameTable_name)]
def f_law_refused : Fn := fnOf 5 (mSeq (mSet 3 (mC (.non))) (mSeq (mTry (mIfS (mB (mBin oEq (mVar 2) (mC (.int 0)))) (mExpr (mMeth 3 mt_name (mVar 0) (mCons (mVar 1) (mCons (mC (.int 3)) (mNil))))) (mExpr (mMeth 2 mt_named (mVar 0) (mCons (mVar 1) (mNil))))) sub_HeapError (some 4) (mSet 3 (mVar 4))) (mSeq (mIfS (mOr (mNot (mB (mIsi it_BadName (mVar 3)))) (mNot (mB (mIsi it_ValueError (mVar 3))))) (mRet (mC (.bl false))) (mSkip)) (mRet (mAndV (mNotV (mIsi it_BadHand_BadCount (mVar 3))) (mBin oEq (mCalled cal_tab (mVar 3)) (mC (.str "BadName"))))))))
def f_law : Fn := fnOf 8 (mSeq (mSet 1 (mMake 0 1 1 m_NameTable___init__ mNil)) (mSeq (mSet 2 (mMake 0 1 1 m_NameTable___init__ mNil)) (mSeq (mSet 3 (mBin oMul (mLst (mCons (mC (.non)) (mNil))) (mC (.int 8)))) (mSeq (mIfS (mNot (mB (mApp 2 f_law_same (mCons (mVar 1) (mCons (mVar 3) (mNil)))))) (mRet (mC (.bl false))) (mSkip)) (mSeq (mFor (mWalk (mApp 2 f_law_codes (mCons (mVar 0) (mCons (mC (.int 160)) (mNil))))) (tgName 4) (mSeq (mIfS (mB (mBin oLt (mBin oMod (mVar 4) (mC (.int 16))) (mC (.int 4)))) (mIfS (mNot (mB (mApp 3 f_law_settled (mCons (mVar 1) (mCons (mVar 3) (mCons (mVar 4) (mNil))))))) (mRet (mC (.bl false))) (mSkip)) (mSeq (mSet 5 (mBin oIx (mLst (mCons (mBin oMod (mBin oDiv (mVar 4) (mC (.int 128))) (mC (.int 30))) (mCons (mBin oMod (mBin oDiv (mVar 4) (mC (.int 128))) (mC (.int 30))) (mCons (mC (.non)) (mCons (mBin oMul (mVar 4) (mBin oPow (mC (.int 10)) (mC (.int 54)))) (mNil)))))) (mBin oMod (mBin oDiv (mVar 4) (mC (.int 8))) (mC (.int 4))))) (mSeq (mIfS (mB (mBin oIsN (mMeth 3 mt_name (mVar 1) (mCons (mBin oMod (mBin oDiv (mVar 4) (mC (.int 16))) (mC (.int 8))) (mCons (mVar 5) (mNil)))) (mC (.non)))) (mRet (mC (.bl false))) (mSkip)) (mSetI tSetI (mVar 3) (mBin oMod (mBin oDiv (mVar 4) (mC (.int 16))) (mC (.int 8))) (mVar 5))))) (mSeq (mIfS (mB (mBin oEq (mBin oMod (mVar 4) (mC (.int 16))) (mC (.int 9)))) (mSeq (mSet 6 (mBin oMod (mCall oSum (mCons (mVar 0) (mNil))) (mBin oPow (mC (.int 10)) (mC (.int 60))))) (mSeq (mSet 7 (mBin oIx (mLst (mCons (mUn oNeg (mC (.int 1))) (mCons (mC (.int 8)) (mCons (mBin oSub (mUn oNeg (mC (.int 1))) (mVar 6)) (mCons (mBin oAdd (mC (.int 8)) (mVar 6)) (mNil)))))) (mBin oMod (mBin oDiv (mVar 4) (mC (.int 16))) (mC (.int 4))))) (mIfS (mNot (mB (mApp 3 f_law_refused (mCons (mVar 1) (mCons (mVar 7) (mCons (mBin oMod (mBin oDiv (mVar 4) (mC (.int 64))) (mC (.int 2))) (mNil))))))) (mRet (mC (.bl false))) (mSkip)))) (mSkip)) (mIfS (mNot (mB (mApp 2 f_law_same (mCons (mVar 1) (mCons (mVar 3) (mNil)))))) (mRet (mC (.bl false))) (mSkip))))) (mRet (mAndV (mApp 3 f_law_refused (mCons (mVar 1) (mCons (mC (.int 8)) (mCons (mC (.int 0)) (mNil))))) (mAndV (mApp 3 f_law_refused (mCons (mVar 1) (mCons (mUn oNeg (mC (.int 1))) (mCons (mC (.int 1)) (mNil))))) (mApp 2 f_law_same (mCons (mVar 2) (mCons (mBin oMul (mLst (mCons (mC (.non)) (mNil))) (mC (.int 8))) (mNil))))))))))))
structure Fx (K : PySem.W.Frag) (mg : Str → Option Value) : Prop where
  bi_sum : mg "sum" = none
  bi_len : mg "len" = none
  bi_range : mg "range" = none
  bi_isinstance : mg "isinstance" = none
  bi_list : mg "list" = none
  bi_dict : mg "dict" = none
  gl_NAMES : GlF mg "NAMES" (.int 8)
  gl_MANY_NAMES : GlF mg "MANY_NAMES" (.int 8)
  xc_BadName : XcF T K mg 3 "BadName"
  sb_HeapError : SbF T K mg "HeapError" sub_HeapError
  is_BadName : IsiF T K mg ["BadName"] it_BadName
  is_ValueError : IsiF T K mg ["ValueError"] it_ValueError
  is_BadHand_BadCount : IsiF T K mg ["BadHand", "BadCount"] it_BadHand_BadCount
  is_list : IsiF T K mg ["list"] it_list
  is_bool : IsiF T K mg ["bool"] it_bool
  fl_name_row : FTabF T K mg "name_row" ft_name_row
  cals : CalsF T K mg cal_tab
section
variable {w : World} {K : PySem.W.Frag} {mg : Str → Option Value} {base : Heap}
theorem ok_m_NameTable___init__ (Q : Fx K mg)  {f : Addr} {fd : FuncData} (F : Fun K "__init__" "NameTable.__init__" (inClass (atTop prog 10) 0) f fd) : FnOk prog w K mg base (L2.CX prog w) 1 f fd ["self"] (spOf ⟨K, mg, T.cs, T.xs⟩ 1 m_NameTable___init__) := by
  refine fnOk_of (k := 0) (N := ["self"]) F ⟨rfl, rfl, rfl, by decide +kernel, rfl, by decide +kernel, by decide +kernel⟩ rfl rfl (fun X cdv A outer s H E hX C => ?_)
  subst hX
  exact ds_one (ds_setF Q.fl_name_row (de_var 0) (de_bin op2_mul (de_lst (da_cons (de_non) (da_nil))) (de_gl Q.gl_MANY_NAMES)))
theorem ok_m_NameTable_all_named (Q : Fx K mg)  {f : Addr} {fd : FuncData} (F : Fun K "all_named" "NameTable.all_named" (inClass (atTop prog 10) 3) f fd) : FnOk prog w K mg base (L2.CX prog w) 1 f fd ["self"] (spOf ⟨K, mg, T.cs, T.xs⟩ 1 m_NameTable_all_named) := by
  refine fnOk_of (k := 0) (N := ["self"]) F ⟨rfl, rfl, rfl, by decide +kernel, rfl, by decide +kernel, by decide +kernel⟩ rfl rfl (fun X cdv A outer s H E hX C => ?_)
  subst hX
  exact ds_one (ds_ret (de_callTy (cal_list C.calm) Q.bi_list (by decide +kernel) (da_cons (de_fld Q.fl_name_row (de_var 0)) (da_nil))))
theorem ok_f_look_at_name (Q : Fx K mg)  {f : Addr} {fd : FuncData} (F : Fun K "look_at_name" "look_at_name" (atTop prog 7) f fd) : FnOk prog w K mg base (L2.CX prog w) 1 f fd ["w"] (spOf ⟨K, mg, T.cs, T.xs⟩ 1 f_look_at_name) := by
  refine fnOk_of (k := 0) (N := ["w"]) F ⟨rfl, rfl, rfl, by decide +kernel, rfl, by decide +kernel, by decide +kernel⟩ rfl rfl (fun X cdv A outer s H E hX C => ?_)
  subst hX
  exact ds_one (ds_if (dt_w (dw_or (dt_cmp op2_lt (de_var 0) (de_int) rfl) (dw_or1 (dt_cmp op2_ge (de_var 0) (de_gl Q.gl_NAMES) rfl)))) (ds_one (ds_raise C Q.xc_BadName)) (ds_nil))
theorem ok_m_NameTable_named (Q : Fx K mg) (h_look_at_name : FnF T prog w K mg base "look_at_name" 1 1 f_look_at_name) {f : Addr} {fd : FuncData} (F : Fun K "named" "NameTable.named" (inClass (atTop prog 10) 2) f fd) : FnOk prog w K mg base (L2.CX prog w) 2 f fd ["self", "w"] (spOf ⟨K, mg, T.cs, T.xs⟩ 2 m_NameTable_named) := by
  refine fnOk_of (k := 1) (N := ["self", "w"]) F ⟨rfl, rfl, rfl, by decide +kernel, rfl, by decide +kernel, by decide +kernel⟩ rfl rfl (fun X cdv A outer s H E hX C => ?_)
  subst hX
  exact ds_cons (ds_expr (de_call C.toCtx h_look_at_name (by decide) (da_cons (de_var 1) (da_nil)))) (ds_one (ds_ret (de_ix (de_fld Q.fl_name_row (de_var 0)) (de_var 1))))
theorem ok_f_law_same (Q : Fx K mg) (hm_all_named : MTabF T prog w K mg base "all_named" 1 1 mt_all_named) (hm_named : MTabF T prog w K mg base "named" 2 2 mt_named) {f : Addr} {fd : FuncData} (F : Fun K "_law_same" "_law_same" (atTop prog 14) f fd) : FnOk prog w K mg base (L2.CX prog w) 3 f fd ["table", "due"] (spOf ⟨K, mg, T.cs, T.xs⟩ 2 f_law_same) := by
  refine fnOk_of (k := 2) (N := ["table", "due", "told", "t", "w"]) F ⟨rfl, rfl, rfl, by decide +kernel, rfl, by decide +kernel, by decide +kernel⟩ rfl rfl (fun X cdv A outer s H E hX C => ?_)
  subst hX
  exact ds_cons (ds_set C.nd (de_meth0 C.toCtx hm_all_named (by decide) (de_var 0))) (ds_cons (ds_if (dt_w (dw_or (dt_not (dt_val (de_is1 Q.bi_isinstance Q.is_list (de_var 2)))) (dw_or1 (dt_cmp (op2_ne C.u64) (de_var 2) (de_var 1) rfl)))) (ds_one (ds_ret (de_bl))) (ds_nil)) (ds_cons (ds_for C.toCtx (di_walk (de_var 2)) (dg_name C.nd) (ds_one (ds_if (dt_val (de_is1 Q.bi_isinstance Q.is_bool (de_var 3))) (ds_one (ds_ret (de_bl))) (ds_nil)))) (ds_cons (ds_setI (st3_set C.u1) (de_var 2) (de_int) (de_int)) (ds_cons (ds_expr (de_bm PySem.F.plainAttrs_list PySem.F.slot_list_append PySem.F.type_list_append mth_append (de_var 2) (da_cons (de_int) (da_nil)))) (ds_one (ds_ret (de_and (de_cmp (op2_eq C.u64) (de_lc (own := [("w", 4)]) (is := [4]) C.toCtx (di_range1 Q.bi_range (da_cons (de_int) da_nil)) (show BlkOk ["table", "due", "told", "t", "w"] (defScope (atTop prog 14)) _ _ from ⟨rfl, by decide +kernel, by decide +kernel, by decide +kernel, by decide +kernel⟩) (fun s H cC cl fp => pg_name (i := 4) C.nd rfl (by first | exact Or.inl rfl | exact Or.inr rfl) (by first | exact .inl rfl | exact .inr rfl)) tgok_name (by decide) (fun s H cC cl fp C => dts_nil) (fun s H cC cl fp C => de_meth C.toCtx hm_named (by decide) (de_var 0) (da_cons (de_var 4) (da_nil)))) (de_var 1) rfl) (de_one (de_cmp (op2_eq C.u64) (de_meth0 C.toCtx hm_all_named (by decide) (de_var 0)) (de_var 1) rfl)))))))))
theorem ok_f_law_codes (Q : Fx K mg)  {f : Addr} {fd : FuncData} (F : Fun K "_law_codes" "_law_codes" (atTop prog 12) f fd) : FnOk prog w K mg base (L2.CX prog w) 1 f fd ["script", "many"] (spOf ⟨K, mg, T.cs, T.xs⟩ 2 f_law_codes) := by
  refine fnOk_of (k := 0) (N := ["script", "many", "codes", "mixed", "k", "rest", "j", "step"]) F ⟨rfl, rfl, rfl, by decide +kernel, rfl, by decide +kernel, by decide +kernel⟩ rfl rfl (fun X cdv A outer s H E hX C => ?_)
  subst hX
  exact ds_cons (ds_set C.nd (de_lst (da_nil))) (ds_cons (ds_set C.nd (de_cmp (op2_eq C.u64) (de_bin op2_mod (de_callB (cal_sum C.calm) Q.bi_sum (by decide +kernel) (da_cons (de_var 0) (da_nil))) (de_int)) (de_int) rfl)) (ds_cons (ds_for C.toCtx (di_range1 Q.bi_range (da_cons (de_callB cal_len Q.bi_len (by decide +kernel) (da_cons (de_var 0) (da_nil))) da_nil)) (dg_name C.nd) (ds_cons (ds_set C.nd (de_ix (de_var 0) (de_var 4))) (ds_cons (ds_if (dt_val (de_var 3)) (ds_cons (ds_set C.nd (de_bin op2_mod (de_bin op2_mul (de_bin op2_add (de_bin op2_add (de_bin op2_mod (de_var 5) (de_int)) (de_bin op2_mul (de_int) (de_var 4))) (de_int)) (de_int)) (de_int))) (ds_cons (ds_set C.nd (de_bin op2_mod (de_bin op2_mul (de_var 7) (de_var 7)) (de_int))) (ds_one (ds_set C.nd (de_bin op2_add (de_bin op2_mul (de_bin op2_mul (de_var 7) (de_var 7)) (de_int)) (de_var 7)))))) (ds_nil)) (ds_one (ds_for C.toCtx (di_range1 Q.bi_range (da_cons (de_int) da_nil)) (dg_name C.nd) (ds_cons (ds_expr (de_bm PySem.F.plainAttrs_list PySem.F.slot_list_append PySem.F.type_list_append mth_append (de_var 2) (da_cons (de_bin op2_mod (de_var 5) (de_int)) (da_nil)))) (ds_one (ds_set C.nd (de_bin op2_div (de_var 5) (de_int)))))))))) (ds_one (ds_ret (de_slice (de_var 2) (do_none) (do_some (de_var 1)))))))
theorem ok_m_NameTable_settle (Q : Fx K mg)  {f : Addr} {fd : FuncData} (F : Fun K "settle" "NameTable.settle" (inClass (atTop prog 10) 4) f fd) : FnOk prog w K mg base (L2.CX prog w) 1 f fd ["self", "things"] (spOf ⟨K, mg, T.cs, T.xs⟩ 2 m_NameTable_settle) := by
  refine fnOk_of (k := 0) (N := ["self", "things", "gone", "t"]) F ⟨rfl, rfl, rfl, by decide +kernel, rfl, by decide +kernel, by decide +kernel⟩ rfl rfl (fun X cdv A outer s H E hX C => ?_)
  subst hX
  exact ds_cons (ds_set C.nd (de_callTy (cal_dict C.calm) Q.bi_dict (by decide +kernel) (da_cons (de_lc (own := [("t", 3)]) (is := [3]) C.toCtx (di_walk (de_var 1)) (show BlkOk ["self", "things", "gone", "t"] (defScope (inClass (atTop prog 10) 4)) _ _ from ⟨rfl, by decide +kernel, by decide +kernel, by decide +kernel, by decide +kernel⟩) (fun s H cC cl fp => pg_name (i := 3) C.nd rfl (by first | exact Or.inl rfl | exact Or.inr rfl) (by first | exact .inl rfl | exact .inr rfl)) tgok_name (by decide) (fun s H cC cl fp C => dts_nil) (fun s H cC cl fp C => de_tup (da_cons (de_var 3) (da_cons (de_bl) (da_nil))))) (da_nil)))) (ds_one (ds_setF Q.fl_name_row (de_var 0) (de_lc (own := [("t", 3)]) (is := [3]) C.toCtx (di_walk (de_fld Q.fl_name_row (de_var 0))) (show BlkOk ["self", "things", "gone", "t"] (defScope (inClass (atTop prog 10) 4)) _ _ from ⟨rfl, by decide +kernel, by decide +kernel, by decide +kernel, by decide +kernel⟩) (fun s H cC cl fp => pg_name (i := 3) C.nd rfl (by first | exact Or.inl rfl | exact Or.inr rfl) (by first | exact .inl rfl | exact .inr rfl)) tgok_name (by decide) (fun s H cC cl fp C => dts_nil) (fun s H cC cl fp C => de_if (dt_cmp (op2_in C.u65) (de_var 3) (de_var 2) rfl) (de_non) (de_var 3)))))
theorem ok_f_law_settled (Q : Fx K mg) (hm_settle : MTabF T prog w K mg base "settle" 2 1 mt_settle) {f : Addr} {fd : FuncData} (F : Fun K "_law_settled" "_law_settled" (atTop prog 15) f fd) : FnOk prog w K mg base (L2.CX prog w) 2 f fd ["table", "due", "code"] (spOf ⟨K, mg, T.cs, T.xs⟩ 3 f_law_settled) := by
  refine fnOk_of (k := 1) (N := ["table", "due", "code", "things", "handed", "w", "j"]) F ⟨rfl, rfl, rfl, by decide +kernel, rfl, by decide +kernel, by decide +kernel⟩ rfl rfl (fun X cdv A outer s H E hX C => ?_)
  subst hX
  exact ds_cons (ds_setLc (i := 3) (own := [("j", 6)]) (is := [6]) C.toCtx (di_range1 Q.bi_range (da_cons (de_bin op2_mod (de_bin op2_div (de_var 2) (de_int)) (de_int)) da_nil)) (show BlkOk ["table", "due", "code", "things", "handed", "w", "j"] (defScope (atTop prog 15)) _ _ from ⟨rfl, by decide +kernel, by decide +kernel, by decide +kernel, by decide +kernel⟩) (fun s H cC cl fp => pg_name (i := 6) C.nd rfl (by first | exact Or.inl rfl | exact Or.inr rfl) (by first | exact .inl rfl | exact .inr rfl)) tgok_name (by decide) (fun s H cC cl fp C => dts_nil) (fun s H cC cl fp C => de_bin op2_mod (de_bin op2_add (de_bin op2_div (de_var 2) (de_int)) (de_bin op2_mul (de_bin op2_mul (de_int) (de_var 6)) (de_var 6))) (de_int))) (ds_cons (ds_set C.nd (de_bin op2_add (de_var 3) (de_slice (de_var 3) (do_none) (do_some (de_bin op2_mod (de_bin op2_div (de_var 2) (de_int)) (de_int)))))) (ds_cons (ds_set C.nd (de_callTy (cal_list C.calm) Q.bi_list (by decide +kernel) (da_cons (de_var 3) (da_nil)))) (ds_cons (ds_if (dt_cmp op2_isN (de_meth C.toCtx hm_settle (by decide) (de_var 0) (da_cons (de_var 4) (da_nil))) (de_non) rfl) (ds_one (ds_ret (de_bl))) (ds_nil)) (ds_cons (ds_for C.toCtx (di_range1 Q.bi_range (da_cons (de_int) da_nil)) (dg_name C.nd) (ds_one (ds_if (dt_cmp (op2_in C.u65) (de_ix (de_var 1) (de_var 5)) (de_var 3) rfl) (ds_one (ds_setI (st3_set C.u1) (de_var 1) (de_var 5) (de_non))) (ds_nil)))) (ds_one (ds_ret (de_cmp (op2_eq C.u64) (de_var 4) (de_var 3) rfl)))))))
theorem ok_m_NameTable_name (Q : Fx K mg) (h_look_at_name : FnF T prog w K mg base "look_at_name" 1 1 f_look_at_name) {f : Addr} {fd : FuncData} (F : Fun K "name" "NameTable.name" (inClass (atTop prog 10) 1) f fd) : FnOk prog w K mg base (L2.CX prog w) 2 f fd ["self", "w", "t"] (spOf ⟨K, mg, T.cs, T.xs⟩ 3 m_NameTable_name) := by
  refine fnOk_of (k := 1) (N := ["self", "w", "t"]) F ⟨rfl, rfl, rfl, by decide +kernel, rfl, by decide +kernel, by decide +kernel⟩ rfl rfl (fun X cdv A outer s H E hX C => ?_)
  subst hX
  exact ds_cons (ds_expr (de_call C.toCtx h_look_at_name (by decide) (da_cons (de_var 1) (da_nil)))) (ds_one (ds_setI (st3_set C.u1) (de_fld Q.fl_name_row (de_var 0)) (de_var 1) (de_var 2)))
theorem ok_f_law_refused (Q : Fx K mg) (hm_name : MTabF T prog w K mg base "name" 3 2 mt_name) (hm_named : MTabF T prog w K mg base "named" 2 2 mt_named) {f : Addr} {fd : FuncData} (F : Fun K "_law_refused" "_law_refused" (atTop prog 13) f fd) : FnOk prog w K mg base (L2.CX prog w) 3 f fd ["table", "w", "way"] (spOf ⟨K, mg, T.cs, T.xs⟩ 3 f_law_refused) := by
  refine fnOk_of (k := 2) (N := ["table", "w", "way", "caught", "e"]) F ⟨rfl, rfl, rfl, by decide +kernel, rfl, by decide +kernel, by decide +kernel⟩ rfl rfl (fun X cdv A outer s H E hX C => ?_)
  subst hX
  exact ds_cons (ds_set C.nd (de_non)) (ds_cons (ds_tryA (i := 4) C Q.sb_HeapError (fun pn xe W C => ds_one (ds_if (dt_cmp (op2_eq C.u64) (de_var 2) (de_int) rfl) (ds_one (ds_expr (de_meth C.toCtx hm_name (by decide) (de_var 0) (da_cons (de_var 1) (da_cons (de_int) (da_nil)))))) (ds_one (ds_expr (de_meth C.toCtx hm_named (by decide) (de_var 0) (da_cons (de_var 1) (da_nil))))))) (fun a pn C => ds_one (ds_set C.nd (de_var 4)))) (ds_cons (ds_if (dt_w (dw_or (dt_not (dt_val (de_is1 Q.bi_isinstance Q.is_BadName (de_var 3)))) (dw_or1 (dt_not (dt_val (de_is1 Q.bi_isinstance Q.is_ValueError (de_var 3))))))) (ds_one (ds_ret (de_bl))) (ds_nil)) (ds_one (ds_ret (de_and (de_not (de_isN Q.bi_isinstance Q.is_BadHand_BadCount (de_var 3) (.cons rfl (by decide) (by decide) (.cons rfl (by decide) (by decide) (.nil))))) (de_one (de_cmp (op2_eq C.u64) (de_called Q.cals C.dp5 (de_var 3)) (de_str) rfl)))))))
theorem ok_f_law (Q : Fx K mg) (mk_NameTable : MkF T prog w K mg base "NameTable" 0 1 1 1 m_NameTable___init__) (h_law_same : FnF T prog w K mg base "_law_same" 2 3 f_law_same) (h_law_codes : FnF T prog w K mg base "_law_codes" 2 1 f_law_codes) (h_law_settled : FnF T prog w K mg base "_law_settled" 3 2 f_law_settled) (hm_name : MTabF T prog w K mg base "name" 3 2 mt_name) (h_law_refused : FnF T prog w K mg base "_law_refused" 3 3 f_law_refused) {f : Addr} {fd : FuncData} (F : Fun K "law" "law" (atTop prog 16) f fd) : FnOk prog w K mg base (L2.CX prog w) 4 f fd ["script"] (spOf ⟨K, mg, T.cs, T.xs⟩ 1 f_law) := by
  refine fnOk_of (k := 3) (N := ["script", "table", "other", "due", "code", "t", "far", "w"]) F ⟨rfl, rfl, rfl, by decide +kernel, rfl, by decide +kernel, by decide +kernel⟩ rfl rfl (fun X cdv A outer s H E hX C => ?_)
  subst hX
  exact ds_cons (ds_set C.nd (de_make0 C.toCtx mk_NameTable (by decide))) (ds_cons (ds_set C.nd (de_make0 C.toCtx mk_NameTable (by decide))) (ds_cons (ds_set C.nd (de_bin op2_mul (de_lst (da_cons (de_non) (da_nil))) (de_int))) (ds_cons (ds_if (dt_not (dt_val (de_call C.toCtx h_law_same (by decide) (da_cons (de_var 1) (da_cons (de_var 3) (da_nil)))))) (ds_one (ds_ret (de_bl))) (ds_nil)) (ds_cons (ds_for C.toCtx (di_walk (de_call C.toCtx h_law_codes (by decide) (da_cons (de_var 0) (da_cons (de_int) (da_nil))))) (dg_name C.nd) (ds_cons (ds_if (dt_cmp op2_lt (de_bin op2_mod (de_var 4) (de_int)) (de_int) rfl) (ds_one (ds_if (dt_not (dt_val (de_call C.toCtx h_law_settled (by decide) (da_cons (de_var 1) (da_cons (de_var 3) (da_cons (de_var 4) (da_nil))))))) (ds_one (ds_ret (de_bl))) (ds_nil))) (ds_cons (ds_set C.nd (de_ix (de_lst (da_cons (de_bin op2_mod (de_bin op2_div (de_var 4) (de_int)) (de_int)) (da_cons (de_bin op2_mod (de_bin op2_div (de_var 4) (de_int)) (de_int)) (da_cons (de_non) (da_cons (de_bin op2_mul (de_var 4) (de_bin op2_pow (de_int) (de_int))) (da_nil)))))) (de_bin op2_mod (de_bin op2_div (de_var 4) (de_int)) (de_int)))) (ds_cons (ds_if (dt_cmp op2_isN (de_meth C.toCtx hm_name (by decide) (de_var 1) (da_cons (de_bin op2_mod (de_bin op2_div (de_var 4) (de_int)) (de_int)) (da_cons (de_var 5) (da_nil)))) (de_non) rfl) (ds_one (ds_ret (de_bl))) (ds_nil)) (ds_one (ds_setI (st3_set C.u1) (de_var 3) (de_bin op2_mod (de_bin op2_div (de_var 4) (de_int)) (de_int)) (de_var 5)))))) (ds_cons (ds_if (dt_cmp (op2_eq C.u64) (de_bin op2_mod (de_var 4) (de_int)) (de_int) rfl) (ds_cons (ds_set C.nd (de_bin op2_mod (de_callB (cal_sum C.calm) Q.bi_sum (by decide +kernel) (da_cons (de_var 0) (da_nil))) (de_bin op2_pow (de_int) (de_int)))) (ds_cons (ds_set C.nd (de_ix (de_lst (da_cons (de_un op1_neg (de_int)) (da_cons (de_int) (da_cons (de_bin op2_sub (de_un op1_neg (de_int)) (de_var 6)) (da_cons (de_bin op2_add (de_int) (de_var 6)) (da_nil)))))) (de_bin op2_mod (de_bin op2_div (de_var 4) (de_int)) (de_int)))) (ds_one (ds_if (dt_not (dt_val (de_call C.toCtx h_law_refused (by decide) (da_cons (de_var 1) (da_cons (de_var 7) (da_cons (de_bin op2_mod (de_bin op2_div (de_var 4) (de_int)) (de_int)) (da_nil))))))) (ds_one (ds_ret (de_bl))) (ds_nil))))) (ds_nil)) (ds_one (ds_if (dt_not (dt_val (de_call C.toCtx h_law_same (by decide) (da_cons (de_var 1) (da_cons (de_var 3) (da_nil)))))) (ds_one (ds_ret (de_bl))) (ds_nil)))))) (ds_one (ds_ret (de_and (de_call C.toCtx h_law_refused (by decide) (da_cons (de_var 1) (da_cons (de_int) (da_cons (de_int) (da_nil))))) (de_and (de_call C.toCtx h_law_refused (by decide) (da_cons (de_var 1) (da_cons (de_un op1_neg (de_int)) (da_cons (de_int) (da_nil))))) (de_one (de_call C.toCtx h_law_same (by decide) (da_cons (de_var 2) (da_cons (de_bin op2_mul (de_lst (da_cons (de_non) (da_nil))) (de_int)) (da_nil)))))))))))))
end
set_option linter.unusedVariables false in
theorem all_mk {w : World} {K : PySem.W.Frag} {h : Heap} {mg : Str → Option Value} (X : K.In h) (G : h.Ns mainGlobals mg) {fa X0 X1 X2 X3 C0 fc0 fc1 fc2 fc3 f0 f1 f2 f3 f4 f5 f6 f7 f8 f9 f10 : Addr} (hfa : mg "law" = some (.ref fa)) {t0 t1 : Tok}
    {od0 an0 od1 an1 od2 an2 od3 an3 od4 an4 od5 an5 od6 an6 od7 an7 od8 an8 od9 an9 od10 an10 cod0 can0 cod1 can1 cod2 can2 cod3 can3 : Option Addr} {sl0 sl1 sl2 sl3 sl4 sl5 sl6 sl7 sl8 sl9 sl10 csl0 csl1 csl2 csl3 : Array (Option Value)} {oc0 kV0 dc0 pm0 cd0 ct0 oc1 kV1 dc1 pm1 cd1 ct1 oc2 kV2 dc2 pm2 cd2 ct2 oc3 kV3 dc3 pm3 cd3 ct3 oc4 kV4 dc4 pm4 cd4 ct4 oc5 kV5 dc5 pm5 cd5 ct5 oc6 kV6 dc6 pm6 cd6 ct6 oc7 kV7 dc7 pm7 cd7 ct7 oc8 kV8 dc8 pm8 cd8 ct8 oc9 kV9 dc9 pm9 cd9 ct9 oc10 kV10 dc10 pm10 cd10 ct10 coc0 ckV0 cdc0 cpm0 ccd0 cct0 coc1 ckV1 cdc1 cpm1 ccd1 cct1 coc2 ckV2 cdc2 cpm2 ccd2 cct2 coc3 ckV3 cdc3 cpm3 ccd3 cct3 : Value}
    (ax0 : PySem.W.nsIn K mainGlobals "HeapError" = some (some (.ref X0)))
    (ax1 : PySem.W.nsIn K mainGlobals "BadCount" = some (some (.ref X1)))
    (ax2 : PySem.W.nsIn K mainGlobals "BadHand" = some (some (.ref X2)))
    (ax3 : PySem.W.nsIn K mainGlobals "BadName" = some (some (.ref X3)))
    (ac0 : PySem.W.nsIn K mainGlobals "NameTable" = some (some (.ref C0)))
    (zb_sum : PySem.W.nsIn K mainGlobals "sum" = some none)
    (zb_len : PySem.W.nsIn K mainGlobals "len" = some none)
    (zb_range : PySem.W.nsIn K mainGlobals "range" = some none)
    (zb_isinstance : PySem.W.nsIn K mainGlobals "isinstance" = some none)
    (zb_list : PySem.W.nsIn K mainGlobals "list" = some none)
    (zb_dict : PySem.W.nsIn K mainGlobals "dict" = some none)
    (zg0 : PySem.W.nsIn K mainGlobals "NAMES" = some (some (Value.int (8) t0)))
    (zg1 : PySem.W.nsIn K mainGlobals "MANY_NAMES" = some (some (Value.int (8) t1)))
    (zb_ValueError : PySem.W.nsIn K mainGlobals "ValueError" = some none)
    (zb_bool : PySem.W.nsIn K mainGlobals "bool" = some none)
    (jc1 : PySem.W.specialIn K (.builtin "object.__class__") "__get__" = some (some (.builtin "getset_descriptor.__get__")))
    (jc2 : PySem.W.takesIn K (.builtin "object.__class__") = some true)
    (ex0_1 : PySem.W.findIn K (.ref X0) "__getattribute__" = some (some (.builtin "BaseException.__getattribute__")))
    (ex0_2 : PySem.W.findIn K (.ref X0) "__getattr__" = some none)
    (ex0_3 : PySem.W.subIn K (.ref X0) (.type "BaseException") = some true)
    (ex0_4 : PySem.W.hasDictIn K X0 = true)
    (ex0_5 : PySem.W.findIn K (.ref X0) "__class__" = some (some (.builtin "object.__class__")))
    (ex0_6 : PySem.W.mroIn K X0 (.type "object") = some true)
    (ex1_1 : PySem.W.findIn K (.ref X1) "__getattribute__" = some (some (.builtin "BaseException.__getattribute__")))
    (ex1_2 : PySem.W.findIn K (.ref X1) "__getattr__" = some none)
    (ex1_3 : PySem.W.subIn K (.ref X1) (.type "BaseException") = some true)
    (ex1_4 : PySem.W.hasDictIn K X1 = true)
    (ex1_5 : PySem.W.findIn K (.ref X1) "__class__" = some (some (.builtin "object.__class__")))
    (ex1_6 : PySem.W.mroIn K X1 (.type "object") = some true)
    (ex2_1 : PySem.W.findIn K (.ref X2) "__getattribute__" = some (some (.builtin "BaseException.__getattribute__")))
    (ex2_2 : PySem.W.findIn K (.ref X2) "__getattr__" = some none)
    (ex2_3 : PySem.W.subIn K (.ref X2) (.type "BaseException") = some true)
    (ex2_4 : PySem.W.hasDictIn K X2 = true)
    (ex2_5 : PySem.W.findIn K (.ref X2) "__class__" = some (some (.builtin "object.__class__")))
    (ex2_6 : PySem.W.mroIn K X2 (.type "object") = some true)
    (ex3_1 : PySem.W.findIn K (.ref X3) "__getattribute__" = some (some (.builtin "BaseException.__getattribute__")))
    (ex3_2 : PySem.W.findIn K (.ref X3) "__getattr__" = some none)
    (ex3_3 : PySem.W.subIn K (.ref X3) (.type "BaseException") = some true)
    (ex3_4 : PySem.W.hasDictIn K X3 = true)
    (ex3_5 : PySem.W.findIn K (.ref X3) "__class__" = some (some (.builtin "object.__class__")))
    (ex3_6 : PySem.W.mroIn K X3 (.type "object") = some true)
    (ki_BadName_0 : PySem.W.kitAny K (.ref X0) [(.ref X3)] = some false)
    (ki_BadName_1 : PySem.W.kitAny K (.ref X1) [(.ref X3)] = some false)
    (ki_BadName_2 : PySem.W.kitAny K (.ref X2) [(.ref X3)] = some false)
    (ki_BadName_3 : PySem.W.kitAny K (.ref X3) [(.ref X3)] = some true)
    (kc_BadName_0 : PySem.W.kitAny K (.ref C0) [(.ref X3)] = some false)
    (kt_BadName_NoneType : PySem.W.kitAny K (.type "NoneType") [(.ref X3)] = some false)
    (kt_BadName_bool : PySem.W.kitAny K (.type "bool") [(.ref X3)] = some false)
    (kt_BadName_int : PySem.W.kitAny K (.type "int") [(.ref X3)] = some false)
    (kt_BadName_str : PySem.W.kitAny K (.type "str") [(.ref X3)] = some false)
    (kt_BadName_list : PySem.W.kitAny K (.type "list") [(.ref X3)] = some false)
    (kt_BadName_tuple : PySem.W.kitAny K (.type "tuple") [(.ref X3)] = some false)
    (kt_BadName_dict : PySem.W.kitAny K (.type "dict") [(.ref X3)] = some false)
    (ki_ValueError_0 : PySem.W.kitAny K (.ref X0) [(.type "ValueError")] = some true)
    (ki_ValueError_1 : PySem.W.kitAny K (.ref X1) [(.type "ValueError")] = some true)
    (ki_ValueError_2 : PySem.W.kitAny K (.ref X2) [(.type "ValueError")] = some true)
    (ki_ValueError_3 : PySem.W.kitAny K (.ref X3) [(.type "ValueError")] = some true)
    (kc_ValueError_0 : PySem.W.kitAny K (.ref C0) [(.type "ValueError")] = some false)
    (kt_ValueError_NoneType : PySem.W.kitAny K (.type "NoneType") [(.type "ValueError")] = some false)
    (kt_ValueError_bool : PySem.W.kitAny K (.type "bool") [(.type "ValueError")] = some false)
    (kt_ValueError_int : PySem.W.kitAny K (.type "int") [(.type "ValueError")] = some false)
    (kt_ValueError_str : PySem.W.kitAny K (.type "str") [(.type "ValueError")] = some false)
    (kt_ValueError_list : PySem.W.kitAny K (.type "list") [(.type "ValueError")] = some false)
    (kt_ValueError_tuple : PySem.W.kitAny K (.type "tuple") [(.type "ValueError")] = some false)
    (kt_ValueError_dict : PySem.W.kitAny K (.type "dict") [(.type "ValueError")] = some false)
    (ki_BadHand_BadCount_0 : PySem.W.kitAny K (.ref X0) [(.ref X2), (.ref X1)] = some false)
    (ki_BadHand_BadCount_1 : PySem.W.kitAny K (.ref X1) [(.ref X2), (.ref X1)] = some true)
    (ki_BadHand_BadCount_2 : PySem.W.kitAny K (.ref X2) [(.ref X2), (.ref X1)] = some true)
    (ki_BadHand_BadCount_3 : PySem.W.kitAny K (.ref X3) [(.ref X2), (.ref X1)] = some false)
    (kc_BadHand_BadCount_0 : PySem.W.kitAny K (.ref C0) [(.ref X2), (.ref X1)] = some false)
    (kt_BadHand_BadCount_NoneType : PySem.W.kitAny K (.type "NoneType") [(.ref X2), (.ref X1)] = some false)
    (kt_BadHand_BadCount_bool : PySem.W.kitAny K (.type "bool") [(.ref X2), (.ref X1)] = some false)
    (kt_BadHand_BadCount_int : PySem.W.kitAny K (.type "int") [(.ref X2), (.ref X1)] = some false)
    (kt_BadHand_BadCount_str : PySem.W.kitAny K (.type "str") [(.ref X2), (.ref X1)] = some false)
    (kt_BadHand_BadCount_list : PySem.W.kitAny K (.type "list") [(.ref X2), (.ref X1)] = some false)
    (kt_BadHand_BadCount_tuple : PySem.W.kitAny K (.type "tuple") [(.ref X2), (.ref X1)] = some false)
    (kt_BadHand_BadCount_dict : PySem.W.kitAny K (.type "dict") [(.ref X2), (.ref X1)] = some false)
    (ki_list_0 : PySem.W.kitAny K (.ref X0) [(.type "list")] = some false)
    (ki_list_1 : PySem.W.kitAny K (.ref X1) [(.type "list")] = some false)
    (ki_list_2 : PySem.W.kitAny K (.ref X2) [(.type "list")] = some false)
    (ki_list_3 : PySem.W.kitAny K (.ref X3) [(.type "list")] = some false)
    (kc_list_0 : PySem.W.kitAny K (.ref C0) [(.type "list")] = some false)
    (kt_list_NoneType : PySem.W.kitAny K (.type "NoneType") [(.type "list")] = some false)
    (kt_list_bool : PySem.W.kitAny K (.type "bool") [(.type "list")] = some false)
    (kt_list_int : PySem.W.kitAny K (.type "int") [(.type "list")] = some false)
    (kt_list_str : PySem.W.kitAny K (.type "str") [(.type "list")] = some false)
    (kt_list_list : PySem.W.kitAny K (.type "list") [(.type "list")] = some true)
    (kt_list_tuple : PySem.W.kitAny K (.type "tuple") [(.type "list")] = some false)
    (kt_list_dict : PySem.W.kitAny K (.type "dict") [(.type "list")] = some false)
    (ki_bool_0 : PySem.W.kitAny K (.ref X0) [(.type "bool")] = some false)
    (ki_bool_1 : PySem.W.kitAny K (.ref X1) [(.type "bool")] = some false)
    (ki_bool_2 : PySem.W.kitAny K (.ref X2) [(.type "bool")] = some false)
    (ki_bool_3 : PySem.W.kitAny K (.ref X3) [(.type "bool")] = some false)
    (kc_bool_0 : PySem.W.kitAny K (.ref C0) [(.type "bool")] = some false)
    (kt_bool_NoneType : PySem.W.kitAny K (.type "NoneType") [(.type "bool")] = some false)
    (kt_bool_bool : PySem.W.kitAny K (.type "bool") [(.type "bool")] = some true)
    (kt_bool_int : PySem.W.kitAny K (.type "int") [(.type "bool")] = some false)
    (kt_bool_str : PySem.W.kitAny K (.type "str") [(.type "bool")] = some false)
    (kt_bool_list : PySem.W.kitAny K (.type "list") [(.type "bool")] = some false)
    (kt_bool_tuple : PySem.W.kitAny K (.type "tuple") [(.type "bool")] = some false)
    (kt_bool_dict : PySem.W.kitAny K (.type "dict") [(.type "bool")] = some false)
    (es_HeapError_0 : PySem.W.exmOne K (.ref X0) (.ref X0) = some true)
    (es_HeapError_1 : PySem.W.exmOne K (.ref X1) (.ref X0) = some true)
    (es_HeapError_2 : PySem.W.exmOne K (.ref X2) (.ref X0) = some true)
    (es_HeapError_3 : PySem.W.exmOne K (.ref X3) (.ref X0) = some true)
    (xi_BadName : PySem.W.excIn K X3 [.type "ValueError", .type "Exception", .type "BaseException", .type "object"] "ValueError.__new__" = true)
    (xk_BadName : PySem.W.keepIn K (.ref X3) = true)
    (xt_BadName : PySem.W.typeIn K (.ref X3) = some (.type "type"))
    (xc0_a : PySem.W.findIn K (.ref X0) "called" = some (some (.ref fc0)))
    (xc0_i : PySem.W.isFn K (.ref fc0) = true)
    (xc0_l : K.lookup fc0 = some ⟨coc0, cod0, .func (PySem.W.fnOf "called" "HeapError.called" (defArgs (inClass (atTop prog 1) 0)) (defBody (inClass (atTop prog 1) 0)) (defScope (inClass (atTop prog 1) 0)) .none ckV0 cdc0 cpm0 can0 ccd0 cct0), csl0⟩)
    (xc0_c : PySem.W.codeIn K ccd0 "HeapError.called" = true)
    (xc0_k : PySem.W.keepIn K (.ref fc0) = true)
    (xc1_a : PySem.W.findIn K (.ref X1) "called" = some (some (.ref fc1)))
    (xc1_i : PySem.W.isFn K (.ref fc1) = true)
    (xc1_l : K.lookup fc1 = some ⟨coc1, cod1, .func (PySem.W.fnOf "called" "BadCount.called" (defArgs (inClass (atTop prog 2) 0)) (defBody (inClass (atTop prog 2) 0)) (defScope (inClass (atTop prog 2) 0)) .none ckV1 cdc1 cpm1 can1 ccd1 cct1), csl1⟩)
    (xc1_c : PySem.W.codeIn K ccd1 "BadCount.called" = true)
    (xc1_k : PySem.W.keepIn K (.ref fc1) = true)
    (xc2_a : PySem.W.findIn K (.ref X2) "called" = some (some (.ref fc2)))
    (xc2_i : PySem.W.isFn K (.ref fc2) = true)
    (xc2_l : K.lookup fc2 = some ⟨coc2, cod2, .func (PySem.W.fnOf "called" "BadHand.called" (defArgs (inClass (atTop prog 3) 0)) (defBody (inClass (atTop prog 3) 0)) (defScope (inClass (atTop prog 3) 0)) .none ckV2 cdc2 cpm2 can2 ccd2 cct2), csl2⟩)
    (xc2_c : PySem.W.codeIn K ccd2 "BadHand.called" = true)
    (xc2_k : PySem.W.keepIn K (.ref fc2) = true)
    (xc3_a : PySem.W.findIn K (.ref X3) "called" = some (some (.ref fc3)))
    (xc3_i : PySem.W.isFn K (.ref fc3) = true)
    (xc3_l : K.lookup fc3 = some ⟨coc3, cod3, .func (PySem.W.fnOf "called" "BadName.called" (defArgs (inClass (atTop prog 4) 0)) (defBody (inClass (atTop prog 4) 0)) (defScope (inClass (atTop prog 4) 0)) .none ckV3 cdc3 cpm3 can3 ccd3 cct3), csl3⟩)
    (xc3_c : PySem.W.codeIn K ccd3 "BadName.called" = true)
    (xc3_k : PySem.W.keepIn K (.ref fc3) = true)
    (cl0_1 : PySem.W.plainGet K C0 Str.empty = true)
    (cl0_2 : PySem.W.hasDictIn K C0 = true)
    (cl0_3 : PySem.W.plainOver K C0 = true)
    (cl0_4 : PySem.W.findIn K (.ref C0) "__setattr__" = some (some (.builtin "object.__setattr__")))
    (cl0_5 : PySem.W.findIn K (.ref C0) "__class__" = some (some (.builtin "object.__class__")))
    (cl0_6 : PySem.W.mroIn K C0 (.type "object") = some true)
    (nf_name_row_0 : PySem.W.findIn K (.ref C0) "name_row" = some none)
    (a0 : PySem.W.findIn K (.ref C0) "__init__" = some (some (.ref f0)))
    (i0 : PySem.W.isFn K (.ref f0) = true)
    (l0 : K.lookup f0 = some ⟨oc0, od0, .func (PySem.W.fnOf "__init__" "NameTable.__init__" (defArgs (inClass (atTop prog 10) 0)) (defBody (inClass (atTop prog 10) 0)) (defScope (inClass (atTop prog 10) 0)) .none kV0 dc0 pm0 an0 cd0 ct0), sl0⟩)
    (c0 : PySem.W.codeIn K cd0 "NameTable.__init__" = true)
    (k0 : PySem.W.keepIn K (.ref f0) = true)
    (a1 : PySem.W.findIn K (.ref C0) "all_named" = some (some (.ref f1)))
    (i1 : PySem.W.isFn K (.ref f1) = true)
    (l1 : K.lookup f1 = some ⟨oc1, od1, .func (PySem.W.fnOf "all_named" "NameTable.all_named" (defArgs (inClass (atTop prog 10) 3)) (defBody (inClass (atTop prog 10) 3)) (defScope (inClass (atTop prog 10) 3)) .none kV1 dc1 pm1 an1 cd1 ct1), sl1⟩)
    (c1 : PySem.W.codeIn K cd1 "NameTable.all_named" = true)
    (k1 : PySem.W.keepIn K (.ref f1) = true)
    (a2 : PySem.W.nsIn K mainGlobals "look_at_name" = some (some (.ref f2)))
    (l2 : K.lookup f2 = some ⟨oc2, od2, .func (PySem.W.fnOf "look_at_name" "look_at_name" (defArgs (atTop prog 7)) (defBody (atTop prog 7)) (defScope (atTop prog 7)) .none kV2 dc2 pm2 an2 cd2 ct2), sl2⟩)
    (c2 : PySem.W.codeIn K cd2 "look_at_name" = true)
    (k2 : PySem.W.keepIn K (.ref f2) = true)
    (a3 : PySem.W.findIn K (.ref C0) "named" = some (some (.ref f3)))
    (i3 : PySem.W.isFn K (.ref f3) = true)
    (l3 : K.lookup f3 = some ⟨oc3, od3, .func (PySem.W.fnOf "named" "NameTable.named" (defArgs (inClass (atTop prog 10) 2)) (defBody (inClass (atTop prog 10) 2)) (defScope (inClass (atTop prog 10) 2)) .none kV3 dc3 pm3 an3 cd3 ct3), sl3⟩)
    (c3 : PySem.W.codeIn K cd3 "NameTable.named" = true)
    (k3 : PySem.W.keepIn K (.ref f3) = true)
    (a4 : PySem.W.nsIn K mainGlobals "_law_same" = some (some (.ref f4)))
    (l4 : K.lookup f4 = some ⟨oc4, od4, .func (PySem.W.fnOf "_law_same" "_law_same" (defArgs (atTop prog 14)) (defBody (atTop prog 14)) (defScope (atTop prog 14)) .none kV4 dc4 pm4 an4 cd4 ct4), sl4⟩)
    (c4 : PySem.W.codeIn K cd4 "_law_same" = true)
    (k4 : PySem.W.keepIn K (.ref f4) = true)
    (a5 : PySem.W.nsIn K mainGlobals "_law_codes" = some (some (.ref f5)))
    (l5 : K.lookup f5 = some ⟨oc5, od5, .func (PySem.W.fnOf "_law_codes" "_law_codes" (defArgs (atTop prog 12)) (defBody (atTop prog 12)) (defScope (atTop prog 12)) .none kV5 dc5 pm5 an5 cd5 ct5), sl5⟩)
    (c5 : PySem.W.codeIn K cd5 "_law_codes" = true)
    (k5 : PySem.W.keepIn K (.ref f5) = true)
    (a6 : PySem.W.findIn K (.ref C0) "settle" = some (some (.ref f6)))
    (i6 : PySem.W.isFn K (.ref f6) = true)
    (l6 : K.lookup f6 = some ⟨oc6, od6, .func (PySem.W.fnOf "settle" "NameTable.settle" (defArgs (inClass (atTop prog 10) 4)) (defBody (inClass (atTop prog 10) 4)) (defScope (inClass (atTop prog 10) 4)) .none kV6 dc6 pm6 an6 cd6 ct6), sl6⟩)
    (c6 : PySem.W.codeIn K cd6 "NameTable.settle" = true)
    (k6 : PySem.W.keepIn K (.ref f6) = true)
    (a7 : PySem.W.nsIn K mainGlobals "_law_settled" = some (some (.ref f7)))
    (l7 : K.lookup f7 = some ⟨oc7, od7, .func (PySem.W.fnOf "_law_settled" "_law_settled" (defArgs (atTop prog 15)) (defBody (atTop prog 15)) (defScope (atTop prog 15)) .none kV7 dc7 pm7 an7 cd7 ct7), sl7⟩)
    (c7 : PySem.W.codeIn K cd7 "_law_settled" = true)
    (k7 : PySem.W.keepIn K (.ref f7) = true)
    (a8 : PySem.W.findIn K (.ref C0) "name" = some (some (.ref f8)))
    (i8 : PySem.W.isFn K (.ref f8) = true)
    (l8 : K.lookup f8 = some ⟨oc8, od8, .func (PySem.W.fnOf "name" "NameTable.name" (defArgs (inClass (atTop prog 10) 1)) (defBody (inClass (atTop prog 10) 1)) (defScope (inClass (atTop prog 10) 1)) .none kV8 dc8 pm8 an8 cd8 ct8), sl8⟩)
    (c8 : PySem.W.codeIn K cd8 "NameTable.name" = true)
    (k8 : PySem.W.keepIn K (.ref f8) = true)
    (a9 : PySem.W.nsIn K mainGlobals "_law_refused" = some (some (.ref f9)))
    (l9 : K.lookup f9 = some ⟨oc9, od9, .func (PySem.W.fnOf "_law_refused" "_law_refused" (defArgs (atTop prog 13)) (defBody (atTop prog 13)) (defScope (atTop prog 13)) .none kV9 dc9 pm9 an9 cd9 ct9), sl9⟩)
    (c9 : PySem.W.codeIn K cd9 "_law_refused" = true)
    (k9 : PySem.W.keepIn K (.ref f9) = true)
    (a10 : PySem.W.nsIn K mainGlobals "law" = some (some (.ref f10)))
    (l10 : K.lookup f10 = some ⟨oc10, od10, .func (PySem.W.fnOf "law" "law" (defArgs (atTop prog 16)) (defBody (atTop prog 16)) (defScope (atTop prog 16)) .none kV10 dc10 pm10 an10 cd10 ct10), sl10⟩)
    (c10 : PySem.W.codeIn K cd10 "law" = true)
    (k10 : PySem.W.keepIn K (.ref f10) = true)
    (mk0_1 : PySem.W.makesIn K C0 = true)
    (mk0_2 : PySem.W.keepIn K (.ref C0) = true)
    : ∃ fd : FuncData, (∀ (s : Shared) (v : Value), BindsTo s fd ⟨[v], []⟩ [("script", v)]) ∧ ∀ base : Heap, K.In base → base.Ns mainGlobals mg → FnOk prog w K mg base (L2.CX prog w) 4 fa fd ["script"] (spOf ⟨K, mg, T.cs, T.xs⟩ 1 f_law) := by
  have e := hfa.symm.trans (PySem.W.mg_of X G a10)
  cases e
  have XC0 : ExcC K X0 := ⟨ex0_1, ex0_2, ex0_3, ex0_4, ex0_5, jc1, jc2, ex0_6⟩
  have XC1 : ExcC K X1 := ⟨ex1_1, ex1_2, ex1_3, ex1_4, ex1_5, jc1, jc2, ex1_6⟩
  have XC2 : ExcC K X2 := ⟨ex2_1, ex2_2, ex2_3, ex2_4, ex2_5, jc1, jc2, ex2_6⟩
  have XC3 : ExcC K X3 := ⟨ex3_1, ex3_2, ex3_3, ex3_4, ex3_5, jc1, jc2, ex3_6⟩
  have CL0 : Cls K C0 := ⟨cl0_1, cl0_2, cl0_3, cl0_4⟩
  have Q : Fx K mg := {
    bi_sum := PySem.W.mg_none_of X G zb_sum,
    bi_len := PySem.W.mg_none_of X G zb_len,
    bi_range := PySem.W.mg_none_of X G zb_range,
    bi_isinstance := PySem.W.mg_none_of X G zb_isinstance,
    bi_list := PySem.W.mg_none_of X G zb_list,
    bi_dict := PySem.W.mg_none_of X G zb_dict,
    gl_NAMES := ⟨_, PySem.W.mg_of X G zg0, ⟨_, rfl⟩⟩,
    gl_MANY_NAMES := ⟨_, PySem.W.mg_of X G zg1, ⟨_, rfl⟩⟩,
    xc_BadName := ⟨rfl, X3, PySem.W.mg_of X G ax3, xi_BadName, xk_BadName, ex3_3, xt_BadName⟩,
    sb_HeapError := ⟨_, .inl ⟨_, PySem.W.mg_of X G ax0, rfl⟩, fun c y D e1 e2 => by
      match c, e1 with
      | 0, e1 => cases e1; cases (PySem.W.mg_of X G ax0).symm.trans e2; exact es_HeapError_0
      | 1, e1 => cases e1; cases (PySem.W.mg_of X G ax1).symm.trans e2; exact es_HeapError_1
      | 2, e1 => cases e1; cases (PySem.W.mg_of X G ax2).symm.trans e2; exact es_HeapError_2
      | 3, e1 => cases e1; cases (PySem.W.mg_of X G ax3).symm.trans e2; exact es_HeapError_3
      | n + 4, e1 => cases e1⟩,
    is_BadName := ⟨_, .cons (.inl ⟨_, PySem.W.mg_of X G ax3, rfl⟩) (.nil), itab_ty (rfl) kt_BadName_NoneType (itab_ty (rfl) kt_BadName_bool (itab_ty (rfl) kt_BadName_int (itab_ty (rfl) kt_BadName_str (itab_ty (rfl) kt_BadName_list (itab_ty (rfl) kt_BadName_tuple (itab_ty (rfl) kt_BadName_dict (itab_ty (⟨_, _, rfl, PySem.W.mg_of X G ax0, rfl, XC0⟩) ki_BadName_0 (itab_ty (⟨_, _, rfl, PySem.W.mg_of X G ax1, rfl, XC1⟩) ki_BadName_1 (itab_ty (⟨_, _, rfl, PySem.W.mg_of X G ax2, rfl, XC2⟩) ki_BadName_2 (itab_ty (⟨_, _, rfl, PySem.W.mg_of X G ax3, rfl, XC3⟩) ki_BadName_3 (itab_ty (⟨_, _, _, rfl, PySem.W.mg_of X G ac0, rfl, CL0, cl0_5, jc1, jc2, cl0_6⟩) kc_BadName_0 (itab_nil))))))))))))⟩,
    is_ValueError := ⟨_, .cons (.inr ⟨_, PySem.W.mg_none_of X G zb_ValueError, by decide +kernel, rfl⟩) (.nil), itab_ty (rfl) kt_ValueError_NoneType (itab_ty (rfl) kt_ValueError_bool (itab_ty (rfl) kt_ValueError_int (itab_ty (rfl) kt_ValueError_str (itab_ty (rfl) kt_ValueError_list (itab_ty (rfl) kt_ValueError_tuple (itab_ty (rfl) kt_ValueError_dict (itab_ty (⟨_, _, rfl, PySem.W.mg_of X G ax0, rfl, XC0⟩) ki_ValueError_0 (itab_ty (⟨_, _, rfl, PySem.W.mg_of X G ax1, rfl, XC1⟩) ki_ValueError_1 (itab_ty (⟨_, _, rfl, PySem.W.mg_of X G ax2, rfl, XC2⟩) ki_ValueError_2 (itab_ty (⟨_, _, rfl, PySem.W.mg_of X G ax3, rfl, XC3⟩) ki_ValueError_3 (itab_ty (⟨_, _, _, rfl, PySem.W.mg_of X G ac0, rfl, CL0, cl0_5, jc1, jc2, cl0_6⟩) kc_ValueError_0 (itab_nil))))))))))))⟩,
    is_BadHand_BadCount := ⟨_, .cons (.inl ⟨_, PySem.W.mg_of X G ax2, rfl⟩) (.cons (.inl ⟨_, PySem.W.mg_of X G ax1, rfl⟩) (.nil)), itab_ty (rfl) kt_BadHand_BadCount_NoneType (itab_ty (rfl) kt_BadHand_BadCount_bool (itab_ty (rfl) kt_BadHand_BadCount_int (itab_ty (rfl) kt_BadHand_BadCount_str (itab_ty (rfl) kt_BadHand_BadCount_list (itab_ty (rfl) kt_BadHand_BadCount_tuple (itab_ty (rfl) kt_BadHand_BadCount_dict (itab_ty (⟨_, _, rfl, PySem.W.mg_of X G ax0, rfl, XC0⟩) ki_BadHand_BadCount_0 (itab_ty (⟨_, _, rfl, PySem.W.mg_of X G ax1, rfl, XC1⟩) ki_BadHand_BadCount_1 (itab_ty (⟨_, _, rfl, PySem.W.mg_of X G ax2, rfl, XC2⟩) ki_BadHand_BadCount_2 (itab_ty (⟨_, _, rfl, PySem.W.mg_of X G ax3, rfl, XC3⟩) ki_BadHand_BadCount_3 (itab_ty (⟨_, _, _, rfl, PySem.W.mg_of X G ac0, rfl, CL0, cl0_5, jc1, jc2, cl0_6⟩) kc_BadHand_BadCount_0 (itab_nil))))))))))))⟩,
    is_list := ⟨_, .cons (.inr ⟨_, PySem.W.mg_none_of X G zb_list, by decide +kernel, rfl⟩) (.nil), itab_ty (rfl) kt_list_NoneType (itab_ty (rfl) kt_list_bool (itab_ty (rfl) kt_list_int (itab_ty (rfl) kt_list_str (itab_ty (rfl) kt_list_list (itab_ty (rfl) kt_list_tuple (itab_ty (rfl) kt_list_dict (itab_ty (⟨_, _, rfl, PySem.W.mg_of X G ax0, rfl, XC0⟩) ki_list_0 (itab_ty (⟨_, _, rfl, PySem.W.mg_of X G ax1, rfl, XC1⟩) ki_list_1 (itab_ty (⟨_, _, rfl, PySem.W.mg_of X G ax2, rfl, XC2⟩) ki_list_2 (itab_ty (⟨_, _, rfl, PySem.W.mg_of X G ax3, rfl, XC3⟩) ki_list_3 (itab_ty (⟨_, _, _, rfl, PySem.W.mg_of X G ac0, rfl, CL0, cl0_5, jc1, jc2, cl0_6⟩) kc_list_0 (itab_nil))))))))))))⟩,
    is_bool := ⟨_, .cons (.inr ⟨_, PySem.W.mg_none_of X G zb_bool, by decide +kernel, rfl⟩) (.nil), itab_ty (rfl) kt_bool_NoneType (itab_ty (rfl) kt_bool_bool (itab_ty (rfl) kt_bool_int (itab_ty (rfl) kt_bool_str (itab_ty (rfl) kt_bool_list (itab_ty (rfl) kt_bool_tuple (itab_ty (rfl) kt_bool_dict (itab_ty (⟨_, _, rfl, PySem.W.mg_of X G ax0, rfl, XC0⟩) ki_bool_0 (itab_ty (⟨_, _, rfl, PySem.W.mg_of X G ax1, rfl, XC1⟩) ki_bool_1 (itab_ty (⟨_, _, rfl, PySem.W.mg_of X G ax2, rfl, XC2⟩) ki_bool_2 (itab_ty (⟨_, _, rfl, PySem.W.mg_of X G ax3, rfl, XC3⟩) ki_bool_3 (itab_ty (⟨_, _, _, rfl, PySem.W.mg_of X G ac0, rfl, CL0, cl0_5, jc1, jc2, cl0_6⟩) kc_bool_0 (itab_nil))))))))))))⟩,
    fl_name_row := ⟨⟨_, _, C0, rfl, rfl, by decide +kernel, by decide, PySem.W.mg_of X G ac0, CL0, nf_name_row_0⟩, trivial⟩,
    cals := ⟨⟨_, X0, fc0, _, (inClass (atTop prog 1) 0), _, _, _, _, rfl, PySem.W.mg_of X G ax0, ex0_1, ex0_2, xc0_a, xc0_i, (fun_mk (st := (inClass (atTop prog 1) 0)) xc0_l xc0_c xc0_k), (fun_mk (st := (inClass (atTop prog 1) 0)) xc0_l xc0_c xc0_k).binds (ps := ["self"]) (fun _ _ _ _ _ _ us hl => match us, hl with | [_], _ => rfl), ⟨rfl, rfl, rfl, by decide +kernel, rfl, by decide +kernel, by decide +kernel⟩, rfl⟩, ⟨⟨_, X1, fc1, _, (inClass (atTop prog 2) 0), _, _, _, _, rfl, PySem.W.mg_of X G ax1, ex1_1, ex1_2, xc1_a, xc1_i, (fun_mk (st := (inClass (atTop prog 2) 0)) xc1_l xc1_c xc1_k), (fun_mk (st := (inClass (atTop prog 2) 0)) xc1_l xc1_c xc1_k).binds (ps := ["self"]) (fun _ _ _ _ _ _ us hl => match us, hl with | [_], _ => rfl), ⟨rfl, rfl, rfl, by decide +kernel, rfl, by decide +kernel, by decide +kernel⟩, rfl⟩, ⟨⟨_, X2, fc2, _, (inClass (atTop prog 3) 0), _, _, _, _, rfl, PySem.W.mg_of X G ax2, ex2_1, ex2_2, xc2_a, xc2_i, (fun_mk (st := (inClass (atTop prog 3) 0)) xc2_l xc2_c xc2_k), (fun_mk (st := (inClass (atTop prog 3) 0)) xc2_l xc2_c xc2_k).binds (ps := ["self"]) (fun _ _ _ _ _ _ us hl => match us, hl with | [_], _ => rfl), ⟨rfl, rfl, rfl, by decide +kernel, rfl, by decide +kernel, by decide +kernel⟩, rfl⟩, ⟨⟨_, X3, fc3, _, (inClass (atTop prog 4) 0), _, _, _, _, rfl, PySem.W.mg_of X G ax3, ex3_1, ex3_2, xc3_a, xc3_i, (fun_mk (st := (inClass (atTop prog 4) 0)) xc3_l xc3_c xc3_k), (fun_mk (st := (inClass (atTop prog 4) 0)) xc3_l xc3_c xc3_k).binds (ps := ["self"]) (fun _ _ _ _ _ _ us hl => match us, hl with | [_], _ => rfl), ⟨rfl, rfl, rfl, by decide +kernel, rfl, by decide +kernel, by decide +kernel⟩, rfl⟩, trivial⟩⟩⟩⟩ }
  have F0 := fun_mk (st := (inClass (atTop prog 10) 0)) l0 c0 k0
  have b0 := F0.binds (ps := ["self"]) fun _ _ _ _ _ _ us hl => match us, hl with | [_], _ => rfl
  have F1 := fun_mk (st := (inClass (atTop prog 10) 3)) l1 c1 k1
  have b1 := F1.binds (ps := ["self"]) fun _ _ _ _ _ _ us hl => match us, hl with | [_], _ => rfl
  have F2 := fun_mk (st := (atTop prog 7)) l2 c2 k2
  have b2 := F2.binds (ps := ["w"]) fun _ _ _ _ _ _ us hl => match us, hl with | [_], _ => rfl
  have F3 := fun_mk (st := (inClass (atTop prog 10) 2)) l3 c3 k3
  have b3 := F3.binds (ps := ["self", "w"]) fun _ _ _ _ _ _ us hl => match us, hl with | [_, _], _ => rfl
  have F4 := fun_mk (st := (atTop prog 14)) l4 c4 k4
  have b4 := F4.binds (ps := ["table", "due"]) fun _ _ _ _ _ _ us hl => match us, hl with | [_, _], _ => rfl
  have F5 := fun_mk (st := (atTop prog 12)) l5 c5 k5
  have b5 := F5.binds (ps := ["script", "many"]) fun _ _ _ _ _ _ us hl => match us, hl with | [_, _], _ => rfl
  have F6 := fun_mk (st := (inClass (atTop prog 10) 4)) l6 c6 k6
  have b6 := F6.binds (ps := ["self", "things"]) fun _ _ _ _ _ _ us hl => match us, hl with | [_, _], _ => rfl
  have F7 := fun_mk (st := (atTop prog 15)) l7 c7 k7
  have b7 := F7.binds (ps := ["table", "due", "code"]) fun _ _ _ _ _ _ us hl => match us, hl with | [_, _, _], _ => rfl
  have F8 := fun_mk (st := (inClass (atTop prog 10) 1)) l8 c8 k8
  have b8 := F8.binds (ps := ["self", "w", "t"]) fun _ _ _ _ _ _ us hl => match us, hl with | [_, _, _], _ => rfl
  have F9 := fun_mk (st := (atTop prog 13)) l9 c9 k9
  have b9 := F9.binds (ps := ["table", "w", "way"]) fun _ _ _ _ _ _ us hl => match us, hl with | [_, _, _], _ => rfl
  have F10 := fun_mk (st := (atTop prog 16)) l10 c10 k10
  have b10 := F10.binds (ps := ["script"]) fun _ _ _ _ _ _ us hl => match us, hl with | [_], _ => rfl
  refine ⟨PySem.W.fnOf "law" "law" (defArgs (atTop prog 16)) (defBody (atTop prog 16)) (defScope (atTop prog 16)) .none kV10 dc10 pm10 an10 cd10 ct10, fun s v => .of_eq rfl, fun base _ _ => ?_⟩
  have O0 := ok_m_NameTable___init__ (w := w) (base := base) Q  F0
  have M0 := mkF_of (T := T) (c := 0) (x := "NameTable") rfl rfl (PySem.W.mg_of X G ac0) ⟨mk0_1, a0, i0, mk0_2⟩ b0 O0
  have O1 := ok_m_NameTable_all_named (w := w) (base := base) Q  F1
  have O2 := ok_f_look_at_name (w := w) (base := base) Q  F2
  have N2 := fnF_of (T := T) (PySem.W.mg_of X G a2) k2 b2 O2
  have O3 := ok_m_NameTable_named (w := w) (base := base) Q N2 F3
  have O4 := ok_f_law_same (w := w) (base := base) Q (show MTabF T prog w K mg base "all_named" 1 1 mt_all_named from ⟨meF_of rfl (PySem.W.mg_of X G ac0) CL0 ⟨a1, i1, k1⟩ (by decide +kernel) b1 (O1.mono (by decide)), trivial⟩) (show MTabF T prog w K mg base "named" 2 2 mt_named from ⟨meF_of rfl (PySem.W.mg_of X G ac0) CL0 ⟨a3, i3, k3⟩ (by decide +kernel) b3 (O3.mono (by decide)), trivial⟩) F4
  have N4 := fnF_of (T := T) (PySem.W.mg_of X G a4) k4 b4 O4
  have O5 := ok_f_law_codes (w := w) (base := base) Q  F5
  have N5 := fnF_of (T := T) (PySem.W.mg_of X G a5) k5 b5 O5
  have O6 := ok_m_NameTable_settle (w := w) (base := base) Q  F6
  have O7 := ok_f_law_settled (w := w) (base := base) Q (show MTabF T prog w K mg base "settle" 2 1 mt_settle from ⟨meF_of rfl (PySem.W.mg_of X G ac0) CL0 ⟨a6, i6, k6⟩ (by decide +kernel) b6 (O6.mono (by decide)), trivial⟩) F7
  have N7 := fnF_of (T := T) (PySem.W.mg_of X G a7) k7 b7 O7
  have O8 := ok_m_NameTable_name (w := w) (base := base) Q N2 F8
  have O9 := ok_f_law_refused (w := w) (base := base) Q (show MTabF T prog w K mg base "name" 3 2 mt_name from ⟨meF_of rfl (PySem.W.mg_of X G ac0) CL0 ⟨a8, i8, k8⟩ (by decide +kernel) b8 (O8.mono (by decide)), trivial⟩) (show MTabF T prog w K mg base "named" 2 2 mt_named from ⟨meF_of rfl (PySem.W.mg_of X G ac0) CL0 ⟨a3, i3, k3⟩ (by decide +kernel) b3 (O3.mono (by decide)), trivial⟩) F9
  have N9 := fnF_of (T := T) (PySem.W.mg_of X G a9) k9 b9 O9
  have O10 := ok_f_law (w := w) (base := base) Q M0 N4 N5 N7 (show MTabF T prog w K mg base "name" 3 2 mt_name from ⟨meF_of rfl (PySem.W.mg_of X G ac0) CL0 ⟨a8, i8, k8⟩ (by decide +kernel) b8 (O8.mono (by decide)), trivial⟩) N9 F10
  have N10 := fnF_of (T := T) (PySem.W.mg_of X G a10) k10 b10 O10
  exact O10
end Lw

namespace Lw
open PySem PySem.Spec L2 Mi
/-- a row: eight values, each none or an int -/
structure Row (row : List V) : Prop where
  len : row.length = 8
  val : ∀ v ∈ row, v = .non ∨ ∃ i, v = .int i
theorem Row.sc {row : List V} (h : Row row) : ∀ v ∈ row, Sc v := fun v hv => by
  rcases h.val v hv with e | e
  · exact .inl e
  · exact .inr (.inr e)
theorem name_ok {n : Int} {S : Sto} (h : 0 ≤ n ∧ n ≤ 7) : f_look_at_name [.int n] S = .ok .non S := by
  simp [f_look_at_name, show ¬ n < 0 by omega, show ¬ 8 ≤ n by omega]
theorem name_bad {n : Int} {S : Sto} (h : n < 0 ∨ 7 < n) : f_look_at_name [.int n] S = .exc 3 none S := by
  rcases h with h | h
  · simp [f_look_at_name, h]
  · simp [f_look_at_name, show ¬ n < 0 by omega, show 8 ≤ n by omega]
/-- the table at t with the row -/
structure Tb (S : Sto) (t r : Nat) (row : List V) : Prop where
  ob : S[t]? = some (.ins 0 [some (.ref r)])
  rw : S[r]? = some (.lst row)
theorem Tb.mono {S : Sto} {t r : Nat} {row : List V} (h : Tb S t r row) (ex : Sto) : Tb (S ++ ex) t r row := ⟨get_old h.ob ex, get_old h.rw ex⟩
theorem fld {S : Sto} {t r : Nat} {row : List V} (h : Tb S t r row) {σ : St} (hσ : σ[0]? = some (some (.ref t))) : mFld ft_name_row (mVar 0) σ S = .ok (.ref r) S := mFld_of (by rw [mVar_ap, hσ, opV_some]) h.ob rfl rfl
theorem all_ok {S : Sto} {t r : Nat} {row : List V} (h : Tb S t r row) : m_NameTable_all_named [.ref t] S = .ok (.ref S.length) (S ++ [.lst row]) := by
  unfold m_NameTable_all_named
  rw [fnOf_fr [some (.ref t)] rfl, mRet_ap, mCall_ap, mCons_ap, fld h rfl, bind_ok, mNil_ap, bind_ok, bind_ok, oList_lst (rdL_lst _ h.rw)]
  rfl
theorem named_ok {S : Sto} {t r w : Nat} {row : List V} {v : V} (h : Tb S t r row) (hw : w < 8) (hv : row[w]? = some v) : m_NameTable_named [.ref t, .int w] S = .ok v S := by
  unfold m_NameTable_named
  rw [fnOf_fr [some (.ref t), some (.int w)] rfl, mSeq_ap, mExpr_ap, mApp_ap]
  simp only [mCons_ap, mNil_ap, mVar_ap, List.getElem?_cons_succ, List.getElem?_cons_zero, opV_some, bind_ok, kApp, List.length_cons, List.length_nil, if_pos, name_ok (n := (w : Int)) ⟨by omega, by omega⟩, lift_ok, seq_nx, mRet_ap, mBin_ap]
  rw [fld h rfl, bind_ok, oIx_lst (rdL_lst _ h.rw) (atI_nat' hv)]
  rfl
theorem named_bad {S : Sto} {t : Nat} {w : Int} (hw : w < 0 ∨ 7 < w) : m_NameTable_named [.ref t, .int w] S = .exc 3 none S := by
  simp [m_NameTable_named, kApp, name_bad hw]
theorem tname_bad {S : Sto} {t : Nat} {w : Int} {v : V} (hw : w < 0 ∨ 7 < w) : m_NameTable_name [.ref t, .int w, v] S = .exc 3 none S := by
  simp [m_NameTable_name, kApp, name_bad hw]
theorem tname_ok {S : Sto} {t r w : Nat} {row : List V} {v : V} (h : Tb S t r row) (hw : w < 8) (hl : row.length = 8) : m_NameTable_name [.ref t, .int w, v] S = .ok .non (S.set r (.lst (row.set w v))) := by
  unfold m_NameTable_name
  rw [fnOf_fr [some (.ref t), some (.int w), some v] rfl, mSeq_ap, mExpr_ap, mApp_ap]
  simp only [mCons_ap, mNil_ap, mVar_ap, List.getElem?_cons_succ, List.getElem?_cons_zero, opV_some, bind_ok, kApp, List.length_cons, List.length_nil, if_pos, name_ok (n := (w : Int)) ⟨by omega, by omega⟩, lift_ok, seq_nx, mSetI_ap]
  rw [fld h rfl, lift_ok, tSetI_lst h.rw (ixN_nat (by omega))]
  rfl
theorem refused_ok {S : Sto} {t : Nat} {w way : Int} {fs : List (Option V)} (ht : S[t]? = some (.ins 0 fs)) (hw : w < 0 ∨ 7 < w) : f_law_refused [.ref t, .int w, .int way] S = .ok (.bl true) (S ++ [.exc 3 none]) := by
  have a1 : (S ++ [Ob.exc 3 none])[S.length]? = some (Ob.exc 3 none) := by rw [get_new0]; rfl
  have es : oEq (.str "BadName") (.str "BadName") (S ++ [Ob.exc 3 none]) = .ok (.bl true) (S ++ [Ob.exc 3 none]) := (oEqD_str _ false "BadName" "BadName" (by decide +kernel) (by decide +kernel)).trans (by simp)
  have hb : (mIfS (mB (mBin oEq (mVar 2) (mC (.int 0)))) (mExpr (mMeth 3 mt_name (mVar 0) (mCons (mVar 1) (mCons (mC (.int 3)) (mNil))))) (mExpr (mMeth 2 mt_named (mVar 0) (mCons (mVar 1) (mNil))))) [some (.ref t), some (.int w), some (.int way), some .non, none] S = .exc 3 none [some (.ref t), some (.int w), some (.int way), some .non, none] S := by
    have h1 : mMeth 3 mt_name (mVar 0) (mCons (mVar 1) (mCons (mC (.int 3)) (mNil))) [some (.ref t), some (.int w), some (.int way), some .non, none] S = .exc 3 none S := by
      rw [mMeth_of (f := m_NameTable_name) (by rw [mVar_ap]; rfl) ht rfl]
      simp [tname_bad hw]
    have h2 : mMeth 2 mt_named (mVar 0) (mCons (mVar 1) (mNil)) [some (.ref t), some (.int w), some (.int way), some .non, none] S = .exc 3 none S := by
      rw [mMeth_of (f := m_NameTable_named) (by rw [mVar_ap]; rfl) ht rfl]
      simp [named_bad hw]
    by_cases z : way = 0
    · simp [z] at h1 ⊢
      simp [h1]
    · simp [z, h2]
  unfold f_law_refused
  rw [fnOf_fr [some (.ref t), some (.int w), some (.int way), none, none] rfl, mSeq_ap, mSet_ap, mC_ap, lift_ok, seq_nx, mSeq_ap, mTry_ap]
  simp only [List.set_cons_succ, List.set_cons_zero]
  rw [hb, kCatch_as _ _ _ _ _ _ _ rfl]
  simp [oIsi_exc a1, lookT, it_BadName, it_ValueError, it_BadHand_BadCount, oCalled_exc a1 (show look cal_tab 3 = some "BadName" from rfl), es]
theorem same_ok {S : Sto} {t r d : Nat} {row : List V} (h : Tb S t r row) (hd : S[d]? = some (.lst row)) (hr : Row row) : ∃ S', f_law_same [.ref t, .ref d] S = .ok (.bl true) S' ∧ S <+: S' := by
  have hlt : r < S.length := (List.getElem?_eq_some_iff.mp h.rw).1
  have hdl : d < S.length := (List.getElem?_eq_some_iff.mp hd).1
  unfold f_law_same
  rw [fnOf_fr [some (.ref t), some (.ref d), none, none, none] rfl, mSeq_ap, mSet_ap, mMeth_of (f := m_NameTable_all_named) (by rw [mVar_ap]; rfl) h.ob rfl]
  simp only [mNil_ap, bind_ok, List.length_nil, if_pos, all_ok h, lift_ok, seq_nx, List.set_cons_succ, List.set_cons_zero]
  have a1 : (S ++ [Ob.lst row])[S.length]? = some (.lst row) := by rw [get_new0]; rfl
  have e1 : oNe (.ref S.length) (.ref d) (S ++ [.lst row]) = .ok (.bl false) (S ++ [.lst row]) := (oEqD_rows a1 (get_old hd _) hr.sc).trans rfl
  rw [mSeq_ap, mIfS_ap]
  simp only [mOr_ap, mNot_ap, mB_ap, mIsi_ap, mBin_ap, mVar_ap, List.getElem?_cons_succ, List.getElem?_cons_zero, opV_some, bind_ok, oIsi_lst a1, it_list, lookT, if_pos, reduceCtorEq, if_false, isiR_some, kB_bl, Bool.not_true, if_neg Bool.false_ne_true, e1, lift_ok, mSkip_ap, seq_nx]
  rw [mSeq_ap]
  obtain ⟨σ2, S2, e2, ⟨x, es2⟩, p2⟩ := for_alloc (j := 3) (i := S.length) (σ := [some (.ref t), some (.ref d), some (.ref S.length), none, none]) (S := S ++ [Ob.lst row]) (S1 := S ++ [Ob.lst row]) (m := mVar 2) (b := mIfS (mB (mIsi it_bool (mVar 3))) (mRet (mC (.bl false))) (mSkip))
    (fun σ => ∃ x, σ = [some (.ref t), some (.ref d), some (.ref S.length), x, none]) (by rw [mVar_ap]; rfl) a1 ⟨_, rfl⟩ (fun v hv σ S' ⟨x, eσ⟩ p => by
      subst eσ
      refine ⟨[some (.ref t), some (.ref d), some (.ref S.length), some v, none], S', ?_, ⟨_, rfl⟩, List.prefix_refl _⟩
      rcases hr.val v hv with e | ⟨i, e⟩ <;> subst e <;> simp [it_bool, lookT])
  subst es2
  rw [e2, seq_nx, mSeq_ap, mSetI_ap]
  have b1 : S2[S.length]? = some (.lst row) := pre_get' a1 p2
  simp only [mC_ap, lift_ok, mVar_ap, List.getElem?_cons_succ, List.getElem?_cons_zero, opV_some]
  rw [tSetI_lst b1 (k := 0) (j := 0) (by rw [hr.len]; rfl), lift_ok, seq_nx, mSeq_ap, mExpr_ap, mBM_ap]
  have b2 := get_set (o' := .lst (row.set 0 (.int 7))) b1
  simp only [mVar_ap, List.getElem?_cons_succ, List.getElem?_cons_zero, opV_some, bind_ok, ty_lst b2, if_pos, mCons_ap, mC_ap, mNil_ap]
  rw [oAppend_lst b2 (by rw [List.length_set, hr.len]; decide), lift_ok, seq_nx, mRet_ap, mAndV_ap]
  have p3 : S <+: (S2.set S.length (.lst (row.set 0 (.int 7)))).set S.length (.lst (row.set 0 (.int 7) ++ [.int 7])) := pre_set (pre_set ((pre_add _ _).trans p2) (Nat.le_refl _)) (Nat.le_refl _)
  generalize (S2.set S.length (.lst (row.set 0 (.int 7)))).set S.length (.lst (row.set 0 (.int 7) ++ [.int 7])) = S3 at p3
  have t3 : Tb S3 t r row := ⟨pre_get' h.ob p3, pre_get' h.rw p3⟩
  have d3 : S3[d]? = some (.lst row) := pre_get' hd p3
  have lc : mLc (mRange1 (mCons (mC (.int 8)) mNil)) [4] (tgName 4) (mYes) (mMeth 2 mt_named (mVar 0) (mCons (mVar 4) (mNil))) [some (.ref t), some (.ref d), some (.ref S.length), x, none] S3 = .ok (.ref S3.length) (S3 ++ [.lst row]) := by
    refine mLc_of (s := ⟨intsFrom 0 8, fun _ => true⟩) (by simp [kRange1]) ?_
    refine lc_pure (acc := []) (vals := row) (fun _ => rfl) (by rw [hr.len]; rfl) (by decide) (fun k it v acc hk hv => ?_)
    have hk8 : k < 8 := by
      have := (List.getElem?_eq_some_iff.mp hv).1
      rw [hr.len] at this
      exact this
    have ei : it = .v (.int (k : Nat)) := by
      unfold Mi.intsFrom at hk
      rw [List.getElem?_map, List.getElem?_range (by exact hk8)] at hk
      simpa using hk.symm
    subst ei
    refine ⟨_, rfl, ?_⟩
    rw [mMeth_of (f := m_NameTable_named) (by rw [mVar_ap]; rfl) (t3.mono _).ob rfl]
    simp only [mCons_ap, mVar_ap, mNil_ap, wipe, List.set_cons_succ, List.set_cons_zero, List.getElem?_cons_succ, List.getElem?_cons_zero, opV_some, bind_ok, List.length_cons, List.length_nil, if_pos]
    exact named_ok (t3.mono _) hk8 hv
  rw [mBin_ap, lc, bind_ok]
  have c1 : (S3 ++ [Ob.lst row])[S3.length]? = some (.lst row) := by rw [get_new0]; rfl
  have e4 : oEq (.ref S3.length) (.ref d) (S3 ++ [.lst row]) = .ok (.bl true) (S3 ++ [.lst row]) := (oEqD_rows c1 (get_old d3 _) hr.sc).trans rfl
  simp only [mVar_ap, List.getElem?_cons_succ, List.getElem?_cons_zero, opV_some, bind_ok, e4, kAnd_bl, if_pos, mBin_ap]
  have t4 := t3.mono [Ob.lst row]
  have d4 := get_old d3 [Ob.lst row]
  have p4 := p3.trans (pre_add S3 [Ob.lst row])
  generalize S3 ++ [Ob.lst row] = S4 at t4 d4 p4
  rw [mMeth_of (f := m_NameTable_all_named) (by rw [mVar_ap]; rfl) t4.ob rfl]
  have g1 : (S4 ++ [Ob.lst row])[S4.length]? = some (.lst row) := by rw [get_new0]; rfl
  have e5 : oEq (.ref S4.length) (.ref d) (S4 ++ [.lst row]) = .ok (.bl true) (S4 ++ [.lst row]) := (oEqD_rows g1 (get_old d4 _) hr.sc).trans rfl
  simp only [mNil_ap, bind_ok, List.length_nil, if_pos, all_ok t4, mVar_ap, List.getElem?_cons_succ, List.getElem?_cons_zero, opV_some, e5, lift_ok]
  exact ⟨_, rfl, p4.trans (pre_add _ _)⟩
/-- [(t, True) for t in things] -/
def psts (S : Sto) (xs : List Int) : Sto := S ++ Ob.lst ((List.range xs.length).map fun j => V.ref (S.length + 1 + j)) :: xs.map fun i => Ob.tup [.int i, .bl true]
theorem pairs_ok {S : Sto} {σ : St} {hd : Nat} {xs : List Int} (hx : S[hd]? = some (.lst (xs.map V.int))) (hz : xs.length ≤ 1000) (h1 : σ[1]? = some (some (.ref hd))) (hl : σ.length = 4) :
    mLc (mWalk (mVar 1)) [3] (tgName 3) (mYes) (mTup (mCons (mVar 3) (mCons (mC (.bl true)) (mNil)))) σ S = .ok (.ref S.length) (psts S xs) := by
  have hh : hd < S.length := (List.getElem?_eq_some_iff.mp hx).1
  obtain ⟨acc', S', e, k, hk, h2, h3, h4⟩ := lc_inv (n := S.length) (chk := fun S' => decide (S'[hd]? = some (.lst (xs.map V.int)))) (tg := tgName 3) (c := mYes) (e := mTup (mCons (mVar 3) (mCons (mC (.bl true)) (mNil)))) (σ := wipe σ [3])
    (P := fun r acc S' => ∃ k, k ≤ xs.length ∧ r = (xs.drop k).map (fun i => Itv.v (.int i)) ∧ acc = (List.range k).map (fun j => V.ref (S.length + 1 + j)) ∧ S' = S ++ .lst acc :: (xs.take k).map fun i => .tup [.int i, .bl true])
    (fun r acc S' ⟨k, hk, h2, h3, h4⟩ => by
      subst h4
      refine ⟨decide_eq_true (get_old hx _), by rw [get_new0]; rfl, ?_⟩
      subst h2 h3
      rw [List.length_map, List.length_map, List.length_range, List.length_drop]
      have : (1000 : Nat) ≤ sizeLine := by decide
      omega)
    (fun it r acc S' ⟨k, hk, h2, h3, h4⟩ => by
      have hkl : k < xs.length := by
        rcases Nat.lt_or_ge k xs.length with q | q
        · exact q
        · rw [List.drop_eq_nil_of_le q] at h2
          cases h2
      rw [List.drop_eq_getElem_cons hkl, List.map_cons] at h2
      injection h2 with h2 h2'
      subst h2
      have hw : (wipe σ [3])[3]? = some none := by
        show (σ.set 3 none)[3]? = _
        rw [List.getElem?_set_self (by omega)]
      have hs : ((wipe σ [3]).set 3 (some (V.int xs[k])))[3]? = some (some (.int xs[k])) := List.getElem?_set_self (by rw [wipe_length]; omega)
      have hlen : S'.length = S.length + 1 + k := by
        rw [h4, List.length_append, List.length_cons, List.length_map, List.length_take]
        omega
      refine ⟨_, rfl, .inr ⟨S', .ref S'.length, S' ++ [.tup [.int xs[k], .bl true]], rfl, ?_, ?_, k + 1, hkl, h2', ?_, ?_⟩⟩
      · simp [hs, kTup, sizeLine]
      · exact get_old (by rw [h4, get_new0]; rfl) _
      · rw [h3, List.range_succ, List.map_append, hlen]
        rfl
      · rw [h4, List.append_assoc, List.cons_append, set_new, List.take_succ, List.getElem?_eq_getElem hkl, List.map_append]
        rfl) (its := xs.map fun i => Itv.v (.int i)) (acc := []) (S := S ++ [.lst []]) ⟨0, Nat.zero_le _, rfl, rfl, by rw [List.take_zero]; rfl⟩
  have ek : k = xs.length := by
    have := congrArg List.length h2
    rw [List.length_map, List.length_drop, List.length_nil] at this
    omega
  subst ek
  refine mLc_of (s := ⟨xs.map fun i => Itv.v (.int i), fun S' => decide (S'[hd]? = some (.lst (xs.map V.int)))⟩) ?_ (e.trans ?_)
  · rw [mWalk_ap, mVar_ap, h1, opV_some, bind_ok, kWalk_lst _ hx, List.map_map]
    rfl
  · rw [h4, h3, List.take_length]
    rfl
def kT (xs : List Int) : List (Key × V) := xs.map fun i => (Sum.inl i, V.bl true)
theorem rd_pairs {S : Sto} (b : Nat) : ∀ (xs : List Int) (k : Nat), (∀ j i, xs[j]? = some i → S[b + k + j]? = some (.tup [.int i, .bl true])) → allSome (((List.range xs.length).map fun j => V.ref (b + k + j)).map (rdPair S)) = some (kT xs)
  | [], _, _ => rfl
  | i :: xs, k, h => by
    have e0 : rdPair S (.ref (b + k + 0)) = some (Sum.inl i, .bl true) := by
      unfold rdPair
      rw [rdT_tup (h 0 i rfl)]
      rfl
    have ih := rd_pairs b xs (k + 1) fun j z hz => by
      have := h (j + 1) z (by simpa using hz)
      rw [show b + (k + 1) + j = b + k + (j + 1) by omega]
      exact this
    have e2 : List.map (fun j => V.ref (b + k + j)) (List.map Nat.succ (List.range xs.length)) = (List.range xs.length).map fun j => V.ref (b + (k + 1) + j) := by
      rw [List.map_map]
      refine List.map_congr_left fun j _ => ?_
      show V.ref (b + k + (j + 1)) = _
      rw [show b + k + (j + 1) = b + (k + 1) + j by omega]
    rw [List.length_cons, List.range_succ_eq_map, List.map_cons, List.map_cons, e0, e2]
    show (allSome _).map _ = _
    rw [ih]
    rfl
theorem merge_has (i : Int) : ∀ (xs : List Int) (kvs : List (Key × V)), (valV (mergeK kvs (kT xs)) (Sum.inl i)).isSome = ((valV kvs (Sum.inl i)).isSome || decide (i ∈ xs))
  | [], kvs => by
    show (valV kvs _).isSome = _
    simp
  | x :: xs, kvs => by
    have ih := merge_has i xs (putK kvs (Sum.inl x) (.bl true))
    show (valV (mergeK (putK kvs (Sum.inl x) (.bl true)) (kT xs)) _).isSome = _
    rw [ih, valV_put]
    by_cases z : i = x
    · subst z
      simp
    · rw [if_neg (fun q => z (Sum.inl.inj q))]
      simp [z]
/-- what settling does to a row -/
def upd1 (xs : List Int) (v : V) : V := match v with
  | .int i => if i ∈ xs then .non else .int i
  | v => v
theorem upd_row {xs : List Int} {row : List V} (h : Row row) : Row (row.map (upd1 xs)) := ⟨by rw [List.length_map]; exact h.len, fun v hv => by
  obtain ⟨u, hu, e⟩ := List.mem_map.mp hv
  rcases h.val u hu with q | ⟨i, q⟩
  · subst q; subst e; exact .inl rfl
  · subst q; subst e
    by_cases z : i ∈ xs
    · exact .inl (if_pos z)
    · exact .inr ⟨i, if_neg z⟩⟩
theorem settle_ok {S : Sto} {t r hd : Nat} {row : List V} {xs : List Int} (h : Tb S t r row) (hx : S[hd]? = some (.lst (xs.map V.int))) (hr : Row row) (hz : xs.length ≤ 1000) :
    ∃ S' r', m_NameTable_settle [.ref t, .ref hd] S = .ok .non S' ∧ Tb S' t r' (row.map (upd1 xs)) ∧ S.length ≤ r' ∧ ∀ j, j < S.length → j ≠ t → S'[j]? = S[j]? := by
  have htl : t < S.length := (List.getElem?_eq_some_iff.mp h.ob).1
  unfold m_NameTable_settle
  rw [fnOf_fr [some (.ref t), some (.ref hd), none, none] rfl, mSeq_ap, mSet_ap, mCall_ap, mCons_ap, pairs_ok hx hz rfl rfl, bind_ok, mNil_ap, bind_ok, bind_ok]
  have p1 : S <+: psts S xs := pre_add _ _
  have g0 : (psts S xs)[S.length]? = some (.lst ((List.range xs.length).map fun j => V.ref (S.length + 1 + 0 + j))) := by unfold psts; rw [get_new0]; rfl
  have gk : rdK (psts S xs) (.ref S.length) = none := by simp only [rdK, g0]
  have gp := rd_pairs (S := psts S xs) (S.length + 1) xs 0 fun j i hi => by
    unfold psts
    rw [show S.length + 1 + 0 + j = S.length + (j + 1) by omega, get_new]
    show (xs.map fun i => Ob.tup [.int i, .bl true])[j]? = _
    rw [List.getElem?_map, hi]
    rfl
  have hD : oDict [.ref S.length] (psts S xs) = .ok (.ref (psts S xs).length) (psts S xs ++ [.dK (mergeK [] (kT xs))]) := by
    simp only [oDict, gk, rdL_lst _ g0, gp]
  rw [hD, lift_ok, seq_nx]
  simp only [List.set_cons_succ, List.set_cons_zero]
  generalize hS1 : psts S xs = S1 at p1
  have p2 : S <+: S1 ++ [Ob.dK (mergeK [] (kT xs))] := p1.trans (pre_add _ _)
  have gd : (S1 ++ [Ob.dK (mergeK [] (kT xs))])[S1.length]? = some (.dK (mergeK [] (kT xs))) := by rw [get_new0]; rfl
  generalize hg : S1.length = g at gd
  generalize S1 ++ [Ob.dK (mergeK [] (kT xs))] = S2 at p2 gd
  have t2 : Tb S2 t r row := ⟨pre_get' h.ob p2, pre_get' h.rw p2⟩
  have lc : mLc (mWalk (mFld ft_name_row (mVar 0))) [3] (tgName 3) (mYes) (mIf (mB (mBin oIn (mVar 3) (mVar 2))) (mC (.non)) (mVar 3)) [some (.ref t), some (.ref hd), some (.ref g), none] S2 = .ok (.ref S2.length) (S2 ++ [.lst (row.map (upd1 xs))]) := by
    refine mLc_of (s := ⟨row.map .v, fun S' => decide (S'[r]? = some (.lst row))⟩) (by rw [mWalk_ap, fld t2 rfl, bind_ok, kWalk_lst _ t2.rw]) ?_
    refine lc_pure (acc := []) (vals := row.map (upd1 xs)) (fun acc => decide_eq_true (get_old t2.rw _)) (by rw [List.length_map, List.length_map]) (by rw [List.length_map, hr.len]; decide) (fun k it v acc hk hv => ?_)
    rw [List.getElem?_map] at hk hv
    cases ek : row[k]? with
    | none => rw [ek] at hk; cases hk
    | some u =>
      rw [ek] at hk hv
      cases hk
      cases hv
      refine ⟨_, rfl, ?_⟩
      have kd : rdK (S2 ++ [Ob.lst acc]) (.ref g) = some (mergeK [] (kT xs)) := by simp only [rdK, get_old gd _]
      have kl : rdL (S2 ++ [Ob.lst acc]) (.ref g) = none := by simp only [rdL, get_old gd _]
      have kt : rdT (S2 ++ [Ob.lst acc]) (.ref g) = none := by simp only [rdT, get_old gd _]
      rcases hr.val u (List.mem_of_getElem? ek) with q | ⟨i, q⟩
      · subst q
        have ei : oIn .non (.ref g) (S2 ++ [Ob.lst acc]) = .ok (.bl false) (S2 ++ [Ob.lst acc]) := by simp only [oInN, isIn, kl, kt, kd, Mi.keyOf]; rfl
        simp [wipe, ei, upd1]
      · subst q
        have ei : oIn (.int i) (.ref g) (S2 ++ [Ob.lst acc]) = .ok (.bl (decide (i ∈ xs))) (S2 ++ [Ob.lst acc]) := by
          simp only [oInN, isIn, kl, kt, kd, Mi.keyOf, merge_has]
          simp [valV]
        by_cases z : i ∈ xs
        · simp [wipe, ei, upd1, z]
        · simp [wipe, ei, upd1, z]
  have t3 := t2.mono [Ob.lst (row.map (upd1 xs))]
  rw [mSetF_of (i := t) (c := 0) (j := 0) (fs := [some (.ref r)]) lc (by rw [mVar_ap]; rfl) t3.ob rfl]
  have htl2 : t < S2.length := Nat.lt_of_lt_of_le htl p2.length_le
  refine ⟨_, S2.length, rfl, ⟨get_set t3.ob, ?_⟩, p2.length_le, fun j hj hjt => ?_⟩
  · rw [get_set_ne (by omega), get_new0]
    rfl
  · rw [get_set_ne (Ne.symm hjt)]
    obtain ⟨ex, rfl⟩ := p2
    rw [List.append_assoc, List.getElem?_append_left hj]
theorem set_same {xs : List V} {k : Nat} {v : V} (h : xs[k]? = some v) : xs.set k v = xs := by
  apply List.ext_getElem?
  intro j
  by_cases z : k = j
  · subst z
    rw [List.getElem?_set_self (List.getElem?_eq_some_iff.mp h).1, h]
  · rw [List.getElem?_set_ne z]
def mid (f : V → V) (row : List V) (k : Nat) : List V := (row.take k).map f ++ row.drop k
theorem mid_get {f : V → V} {row : List V} {k : Nat} (hk : k < row.length) : (mid f row k)[k]? = row[k]? := by
  unfold mid
  have e : ((row.take k).map f).length = k := by rw [List.length_map, List.length_take]; omega
  rw [List.getElem?_append_right (by omega), e, Nat.sub_self, List.getElem?_drop, Nat.add_zero]
theorem mid_step {f : V → V} {row : List V} {k : Nat} {v : V} (hv : row[k]? = some v) : (mid f row k).set k (f v) = mid f row (k + 1) := by
  obtain ⟨hk, ev⟩ := List.getElem?_eq_some_iff.mp hv
  unfold mid
  have e : ((row.take k).map f).length = k := by rw [List.length_map, List.length_take]; omega
  rw [List.set_append_right _ _ (by omega), e, Nat.sub_self, List.drop_eq_getElem_cons hk, List.set_cons_zero, List.take_succ, hv, List.map_append, List.append_assoc]
  rfl
theorem inV_ints (z : Int) : ∀ xs : List Int, inV (.int z) (xs.map V.int) = decide (z ∈ xs)
  | [] => rfl
  | a :: r => by
    have ih := inV_ints z r
    unfold inV at ih ⊢
    rw [List.map_cons, List.any_cons, ih]
    show ((a == z) || _) = _
    by_cases q : a = z
    · subst q
      simp
    · have q' : ¬ z = a := fun e => q e.symm
      simp [q, q']
theorem inV_non : ∀ xs : List Int, inV .non (xs.map V.int) = false
  | [] => rfl
  | a :: r => by
    have ih := inV_non r
    unfold inV at ih ⊢
    rw [List.map_cons, List.any_cons, ih]
    rfl
theorem flat_ints (xs : List Int) : (xs.map V.int).all flatV = true := List.all_eq_true.mpr fun u hu => by
  obtain ⟨z, _, rfl⟩ := List.mem_map.mp hu
  rfl
theorem oIn_lst {S : Sto} {i : Nat} {xs : List V} {v : V} (h : S[i]? = some (.lst xs)) (h1 : flatV v = true) (h2 : xs.all flatV = true) : oIn v (.ref i) S = .ok (.bl (inV v xs)) S := by
  simp only [oInN, isIn, rdL_lst _ h, if_pos (And.intro h1 h2)]
  simp
/-- for w in range(8): if due[w] in things: due[w] = None -/
theorem drop_ok {S : Sto} {t d th hn : Nat} {code : Int} {row : List V} {xs : List Int} {x y : Option V} (hd : S[d]? = some (.lst row)) (hx : S[th]? = some (.lst (xs.map V.int))) (hdt : d ≠ th) (hr : Row row) :
    ∃ z, mFor (mRange1 (mCons (mC (.int 8)) mNil)) (tgName 5) (mIfS (mB (mBin oIn (mBin oIx (mVar 1) (mVar 5)) (mVar 3))) (mSetI tSetI (mVar 1) (mVar 5) (mC (.non))) (mSkip)) [some (.ref t), some (.ref d), some (.int code), some (.ref th), some (.ref hn), x, y] S =
      .nx [some (.ref t), some (.ref d), some (.int code), some (.ref th), some (.ref hn), z, y] (S.set d (.lst (row.map (upd1 xs)))) := by
  have hdl : d < S.length := (List.getElem?_eq_some_iff.mp hd).1
  rw [mFor_ap, mRange1_ap]
  simp only [mCons_ap, mC_ap, mNil_ap, bind_ok, kRange1_int _ (show (0:Int) ≤ 8 ∧ (8:Int) < 2 ^ 62 by decide), lift_ok]
  obtain ⟨σ', S', e, k, hk, h2, ⟨z, h3⟩, h4⟩ := for_inv (chk := fun _ => true) (tg := tgName 5) (b := mIfS (mB (mBin oIn (mBin oIx (mVar 1) (mVar 5)) (mVar 3))) (mSetI tSetI (mVar 1) (mVar 5) (mC (.non))) (mSkip))
    (P := fun r σ S' => ∃ k, k ≤ 8 ∧ r = (Mi.intsFrom 0 8).drop k ∧ (∃ z, σ = [some (.ref t), some (.ref d), some (.int code), some (.ref th), some (.ref hn), z, y]) ∧ S' = S.set d (.lst (mid (upd1 xs) row k))) (fun _ _ _ _ => rfl)
    (fun it r σ S' ⟨k, hk, h2, ⟨z, h3⟩, h4⟩ => by
      have hk8 : k < 8 := by
        rcases Nat.lt_or_ge k 8 with q | q
        · exact q
        · rw [List.drop_eq_nil_of_le (by exact q)] at h2
          cases h2
      have hl : (Mi.intsFrom 0 8).length = 8 := rfl
      rw [List.drop_eq_getElem_cons (by rw [hl]; exact hk8)] at h2
      injection h2 with h2 h2'
      have ei : it = .v (.int (k : Nat)) := by
        rw [h2]
        unfold Mi.intsFrom
        simp
      subst ei h3
      have hg : S'[d]? = some (.lst (mid (upd1 xs) row k)) := by rw [h4]; exact get_set hd
      have hgx : S'[th]? = some (.lst (xs.map V.int)) := by rw [h4, get_set_ne hdt]; exact hx
      have hkr : k < row.length := by rw [hr.len]; exact hk8
      have hv : row[k]? = some row[k] := List.getElem?_eq_getElem hkr
      have hm : (mid (upd1 xs) row k)[k]? = some row[k] := (mid_get hkr).trans hv
      have hml : (mid (upd1 xs) row k).length = 8 := by
        unfold mid
        rw [List.length_append, List.length_map, List.length_take, List.length_drop, hr.len]
        omega
      have st := mid_step (f := upd1 xs) hv
      have key : ∃ S2, mIfS (mB (mBin oIn (mBin oIx (mVar 1) (mVar 5)) (mVar 3))) (mSetI tSetI (mVar 1) (mVar 5) (mC (.non))) (mSkip) [some (.ref t), some (.ref d), some (.int code), some (.ref th), some (.ref hn), some (.int (k : Nat)), y] S' =
          .nx [some (.ref t), some (.ref d), some (.int code), some (.ref th), some (.ref hn), some (.int (k : Nat)), y] S2 ∧ S2 = S.set d (.lst (mid (upd1 xs) row (k + 1))) := by
        rw [mIfS_ap]
        simp only [mB_ap, mBin_ap, mVar_ap, List.getElem?_cons_succ, List.getElem?_cons_zero, opV_some, bind_ok, oIx_lst (rdL_lst _ hg) (atI_nat' hm)]
        have yes : upd1 xs row[k] = .non → mSetI tSetI (mVar 1) (mVar 5) (mC (.non)) [some (.ref t), some (.ref d), some (.int code), some (.ref th), some (.ref hn), some (.int (k : Nat)), y] S' = .nx [some (.ref t), some (.ref d), some (.int code), some (.ref th), some (.ref hn), some (.int (k : Nat)), y] (S.set d (.lst (mid (upd1 xs) row (k + 1)))) := fun hn => by
          rw [mSetI_ap]
          simp only [mC_ap, mVar_ap, List.getElem?_cons_succ, List.getElem?_cons_zero, opV_some, lift_ok]
          rw [tSetI_lst hg (ixN_nat (by rw [hml]; exact hk8)), lift_ok, ← hn, st, h4, List.set_set]
        have no : upd1 xs row[k] = row[k] → S' = S.set d (.lst (mid (upd1 xs) row (k + 1))) := fun hn => by
          rw [h4, ← st, hn, set_same hm]
        rcases hr.val row[k] (List.getElem_mem hkr) with q | ⟨i, q⟩
        · rw [q] at no ⊢
          rw [oIn_lst hgx rfl (flat_ints xs), inV_non]
          simp only [bind_ok, kB_bl, lift_ok, if_neg Bool.false_ne_true, mSkip_ap]
          exact ⟨_, rfl, no rfl⟩
        · rw [q] at no yes ⊢
          rw [oIn_lst hgx rfl (flat_ints xs), inV_ints]
          by_cases z : i ∈ xs
          · simp only [bind_ok, kB_bl, lift_ok, decide_eq_true z, if_pos]
            exact ⟨_, yes (if_pos z), rfl⟩
          · simp only [bind_ok, kB_bl, lift_ok, decide_eq_false z, if_neg Bool.false_ne_true, mSkip_ap]
            exact ⟨_, rfl, no (if_neg z)⟩
      obtain ⟨S2, e1, e2⟩ := key
      exact ⟨_, _, S2, rfl, .inl e1, k + 1, hk8, h2', ⟨_, rfl⟩, e2⟩)
    (its := Mi.intsFrom 0 8) (σ := [some (.ref t), some (.ref d), some (.int code), some (.ref th), some (.ref hn), x, y]) (S := S) ⟨0, by omega, rfl, ⟨x, rfl⟩, by
      have : mid (upd1 xs) row 0 = row := rfl
      rw [this]
      apply List.ext_getElem?
      intro j
      by_cases z : d = j
      · subst z
        rw [get_set hd, hd]
      · rw [get_set_ne z]⟩
  have ek : k = 8 := by
    have := congrArg List.length h2
    rw [List.length_drop] at this
    have hl : (Mi.intsFrom 0 8).length = 8 := rfl
    rw [hl, List.length_nil] at this
    omega
  subst ek
  refine ⟨z, ?_⟩
  rw [show (8 : Int).toNat = 8 from rfl, e, h3, h4]
  have : mid (upd1 xs) row 8 = row.map (upd1 xs) := by
    unfold mid
    rw [List.take_of_length_le (by rw [hr.len]; exact Nat.le_refl _), List.drop_eq_nil_of_le (by rw [hr.len]; exact Nat.le_refl _), List.append_nil]
  rw [this]
theorem cut_ints (xs : List Int) (lo hi : Option Int) : ∃ ys : List Int, cutV (xs.map V.int) lo hi = ys.map V.int ∧ ys.length ≤ xs.length := by
  refine ⟨(xs.drop (HT.sIx (xs.map V.int).length 0 lo)).take (HT.sIx (xs.map V.int).length (xs.map V.int).length hi - HT.sIx (xs.map V.int).length 0 lo), ?_, ?_⟩
  · unfold cutV
    rw [List.map_take, List.map_drop]
  · rw [List.length_take, List.length_drop]
    omega
theorem oSl_lst {S : Sto} {i : Nat} {xs : List V} {lo hi : Option Int} (h : S[i]? = some (.lst xs)) : oSl (.ref i) lo hi S = .ok (.ref S.length) (S ++ [.lst (cutV xs lo hi)]) := by
  simp only [oSl, rdL_lst _ h]
theorem settled_ok {S : Sto} {t r d : Nat} {code : Int} {row : List V} (h : Tb S t r row) (hd : S[d]? = some (.lst row)) (hdt : d ≠ t) (hr : Row row) :
    ∃ S' r' row', f_law_settled [.ref t, .ref d, .int code] S = .ok (.bl true) S' ∧ Tb S' t r' row' ∧ S'[d]? = some (.lst row') ∧ Row row' ∧ S.length ≤ r' ∧ ∀ j, j < S.length → j ≠ t → j ≠ d → S'[j]? = S[j]? := by
  have htl : t < S.length := (List.getElem?_eq_some_iff.mp h.ob).1
  have hdl : d < S.length := (List.getElem?_eq_some_iff.mp hd).1
  have b1 : 0 ≤ code / 512 % 7 := Int.emod_nonneg _ (by decide)
  have b2 : code / 512 % 7 < 7 := Int.emod_lt_of_pos _ (by decide)
  have b3 : 0 ≤ code / 4096 % 2 := Int.emod_nonneg _ (by decide)
  unfold f_law_settled
  rw [fnOf_fr [some (.ref t), some (.ref d), some (.int code), none, none, none, none] rfl, mSeq_ap, mSet_ap]
  have lc : ∃ xs : List Int, xs.length ≤ 7 ∧ mLc (mRange1 (mCons (mBin oMod (mBin oDiv (mVar 2) (mC (.int 512))) (mC (.int 7))) mNil)) [6] (tgName 6) (mYes) (mBin oMod (mBin oAdd (mBin oDiv (mVar 2) (mC (.int 16))) (mBin oMul (mBin oMul (mC (.int 7)) (mVar 6)) (mVar 6))) (mC (.int 30))) [some (.ref t), some (.ref d), some (.int code), none, none, none, none] S = .ok (.ref S.length) (S ++ [.lst (xs.map V.int)]) := by
    refine ⟨(List.range (code / 512 % 7).toNat).map fun j => (code / 16 + 7 * (j : Nat) * (j : Nat)) % 30, by rw [List.length_map, List.length_range]; omega, ?_⟩
    refine mLc_of (s := ⟨Mi.intsFrom 0 (code / 512 % 7).toNat, fun _ => true⟩) (by
      simp only [mRange1_ap, mCons_ap, mBin_ap, mVar_ap, mC_ap, mNil_ap, List.getElem?_cons_succ, List.getElem?_cons_zero, opV_some, bind_ok, oDiv_int _ code 512 ⟨by decide, by decide⟩, oMod_int _ _ 7 (by decide)]
      exact kRange1_int _ ⟨b1, by omega⟩) ?_
    refine lc_pure (acc := []) (vals := ((List.range (code / 512 % 7).toNat).map fun j => (code / 16 + 7 * (j : Nat) * (j : Nat)) % 30).map V.int) (fun _ => rfl) (by unfold Mi.intsFrom; simp) (by
      unfold Mi.intsFrom
      rw [List.length_map, List.length_range]
      show 0 + _ ≤ _
      have : (7 : Nat) ≤ sizeLine := by decide
      omega) (fun k it v acc hk hv => ?_)
    unfold Mi.intsFrom at hk
    rw [List.getElem?_map] at hk
    rw [List.getElem?_map, List.getElem?_map] at hv
    cases ek : (List.range (code / 512 % 7).toNat)[k]? with
    | none => rw [ek] at hk; cases hk
    | some u =>
      rw [ek] at hk hv
      obtain ⟨hku, eu⟩ := List.getElem?_eq_some_iff.mp ek
      rw [List.getElem_range] at eu
      subst eu
      rw [List.length_range] at hku
      simp at hk hv
      subst hk hv
      refine ⟨_, rfl, ?_⟩
      have hk7 : (k : Int) < 7 := by omega
      simp [wipe, oDiv_int _ code 16 ⟨by decide, by decide⟩, oMul_int _ 7 (k : Int) (mul_small (by decide)), oMul_int _ (7 * (k : Int)) (k : Int) (mul_small ⟨by omega, by omega⟩), oMod_int _ _ 30 (by decide)]
  obtain ⟨xs1, hl1, lc⟩ := lc
  rw [lc, lift_ok, seq_nx, mSeq_ap, mSet_ap, mBin_ap]
  simp only [List.set_cons_succ, List.set_cons_zero, mVar_ap, List.getElem?_cons_succ, List.getElem?_cons_zero, opV_some, bind_ok, mSl, mNoP, mPart, mBin_ap, mC_ap, oDiv_int _ code 4096 ⟨by decide, by decide⟩, oMod_int _ _ 2 (show (0:Int) < 2 by decide)]
  have g1 : (S ++ [Ob.lst (xs1.map V.int)])[S.length]? = some (.lst (xs1.map V.int)) := by rw [get_new0]; rfl
  obtain ⟨ys, hy, hyl⟩ := cut_ints xs1 none (some (code / 4096 % 2))
  rw [oSl_lst g1, bind_ok, hy]
  have g2 : (S ++ [Ob.lst (xs1.map V.int)] ++ [Ob.lst (ys.map V.int)])[S.length]? = some (.lst (xs1.map V.int)) := get_old g1 _
  have g3 : (S ++ [Ob.lst (xs1.map V.int)] ++ [Ob.lst (ys.map V.int)])[(S ++ [Ob.lst (xs1.map V.int)]).length]? = some (.lst (ys.map V.int)) := by rw [get_new0]; rfl
  rw [oAdd_lst _ (rdL_lst _ g2) (rdL_lst _ g3) (by
    rw [List.length_map, List.length_map]
    have : (14 : Nat) ≤ sizeLine := by decide
    omega), lift_ok, seq_nx, ← List.map_append]
  have p1 : S <+: S ++ [Ob.lst (xs1.map V.int)] ++ [Ob.lst (ys.map V.int)] := (pre_add _ _).trans (pre_add _ _)
  have hl2 : (xs1 ++ ys).length ≤ 1000 := by rw [List.length_append]; omega
  generalize xs1 ++ ys = xs at hl2
  generalize hS1 : S ++ [Ob.lst (xs1.map V.int)] ++ [Ob.lst (ys.map V.int)] = S1 at p1
  have p2 : S <+: S1 ++ [Ob.lst (xs.map V.int)] := p1.trans (pre_add _ _)
  have k2 : (S1 ++ [Ob.lst (xs.map V.int)])[S1.length]? = some (.lst (xs.map V.int)) := by rw [get_new0]; rfl
  have le1 := p1.length_le
  generalize hth : S1.length = th at k2 le1
  generalize S1 ++ [Ob.lst (xs.map V.int)] = S2 at p2 k2
  have le2 : th < S2.length := (List.getElem?_eq_some_iff.mp k2).1
  rw [mSeq_ap, mSet_ap, mCall_ap, mCons_ap]
  simp only [List.set_cons_succ, List.set_cons_zero, mVar_ap, List.getElem?_cons_succ, List.getElem?_cons_zero, opV_some, bind_ok, mNil_ap]
  rw [oList_lst (rdL_lst _ k2), lift_ok, seq_nx]
  have p3 : S <+: S2 ++ [Ob.lst (xs.map V.int)] := p2.trans (pre_add _ _)
  have k3 := get_old k2 [Ob.lst (xs.map V.int)]
  have k4 : (S2 ++ [Ob.lst (xs.map V.int)])[S2.length]? = some (.lst (xs.map V.int)) := by rw [get_new0]; rfl
  generalize hhn : S2.length = hn at k4 le2
  generalize S2 ++ [Ob.lst (xs.map V.int)] = S3 at p3 k3 k4
  have le3 := p3.length_le
  have le4 : hn < S3.length := (List.getElem?_eq_some_iff.mp k4).1
  have t3 : Tb S3 t r row := ⟨pre_get' h.ob p3, pre_get' h.rw p3⟩
  obtain ⟨S4, r', e4, t4, hr4, old4⟩ := settle_ok t3 k4 hr hl2
  rw [mSeq_ap, mIfS_ap]
  have em : mMeth 2 mt_settle (mVar 0) (mCons (mVar 4) (mNil)) [some (.ref t), some (.ref d), some (.int code), some (.ref th), some (.ref hn), none, none] S3 = .ok .non S4 := by
    rw [mMeth_of (f := m_NameTable_settle) (by rw [mVar_ap]; rfl) t3.ob rfl]
    simp only [mCons_ap, mVar_ap, mNil_ap, List.getElem?_cons_succ, List.getElem?_cons_zero, opV_some, bind_ok, List.length_cons, List.length_nil, if_pos, e4]
  simp only [List.set_cons_succ, List.set_cons_zero, mB_ap, mBin_ap, mC_ap]
  rw [em]
  simp only [bind_ok, oIsN_non, isNon_non, Bool.not_true, kB_bl, lift_ok, if_neg Bool.false_ne_true, mSkip_ap, seq_nx]
  have d4 : S4[d]? = some (.lst row) := (old4 d (by omega) hdt).trans (pre_get' hd p3)
  have x4 : S4[th]? = some (.lst (xs.map V.int)) := (old4 th (by omega) (by omega)).trans k3
  have y4 : S4[hn]? = some (.lst (xs.map V.int)) := (old4 hn (by omega) (by omega)).trans k4
  obtain ⟨z, e5⟩ := drop_ok (t := t) (hn := hn) (code := code) (x := none) (y := none) d4 x4 (by omega) hr
  rw [mSeq_ap, e5, seq_nx, mRet_ap, mBin_ap]
  have x5 : (S4.set d (.lst (row.map (upd1 xs))))[th]? = some (.lst (xs.map V.int)) := by rw [get_set_ne (by omega)]; exact x4
  have y5 : (S4.set d (.lst (row.map (upd1 xs))))[hn]? = some (.lst (xs.map V.int)) := by rw [get_set_ne (by omega)]; exact y4
  have e6 : oEq (.ref hn) (.ref th) (S4.set d (.lst (row.map (upd1 xs)))) = .ok (.bl true) (S4.set d (.lst (row.map (upd1 xs)))) := (oEqD_rows y5 x5 fun v hv => by
    obtain ⟨i, _, rfl⟩ := List.mem_map.mp hv
    exact sc_int i).trans rfl
  simp only [mVar_ap, List.getElem?_cons_succ, List.getElem?_cons_zero, opV_some, bind_ok, e6, lift_ok, fin_rt]
  refine ⟨_, r', row.map (upd1 xs), rfl, ⟨?_, ?_⟩, get_set d4, upd_row hr, by omega, fun j hj h1 h2 => ?_⟩
  · rw [get_set_ne hdt]
    exact t4.ob
  · rw [get_set_ne (by omega)]
    exact t4.rw
  · rw [get_set_ne (Ne.symm h2), old4 j (by omega) h1]
    obtain ⟨ex, rfl⟩ := p3
    exact List.getElem?_append_left hj
def Cd (cs : List Int) : Prop := ∀ c ∈ cs, 0 ≤ c ∧ c < 1048576
theorem codes_in {S : Sto} {cs : List Int} {a b c : Option V} {m : Bool} {rest : Int} {x0 y : Option V} (hc : Cd cs) (hz : cs.length ≤ 1000) :
    ∃ cs' rest' x, mFor (mRange1 (mCons (mC (.int 4)) mNil)) (tgName 6) (mSeq (mExpr (mBM "list" oAppend (mVar 2) (mCons (mBin oMod (mVar 5) (mC (.int 1048576))) (mNil)))) (mSet 5 (mBin oDiv (mVar 5) (mC (.int 1048576))))) [a, b, some (.ref S.length), some (.bl m), c, some (.int rest), x0, y] (S ++ [.lst (cs.map V.int)]) =
      .nx [a, b, some (.ref S.length), some (.bl m), c, some (.int rest'), x, y] (S ++ [.lst (cs'.map V.int)]) ∧ Cd cs' ∧ cs'.length ≤ cs.length + 4 := by
  rw [mFor_ap, mRange1_ap]
  simp only [mCons_ap, mC_ap, mNil_ap, bind_ok, kRange1_int _ (show (0:Int) ≤ 4 ∧ (4:Int) < 2 ^ 62 by decide), lift_ok]
  obtain ⟨σ', S', e, cs', rest', x, h1, h2, h3, h4⟩ := for_inv (chk := fun _ => true) (tg := tgName 6) (b := mSeq (mExpr (mBM "list" oAppend (mVar 2) (mCons (mBin oMod (mVar 5) (mC (.int 1048576))) (mNil)))) (mSet 5 (mBin oDiv (mVar 5) (mC (.int 1048576)))))
    (P := fun r σ S' => ∃ cs' rest' x, Cd cs' ∧ cs'.length + r.length ≤ cs.length + 4 ∧ σ = [a, b, some (.ref S.length), some (.bl m), c, some (.int rest'), x, y] ∧ S' = S ++ [.lst (cs'.map V.int)] ∧ ∀ it ∈ r, ∃ k : Int, it = .v (.int k)) (fun _ _ _ _ => rfl)
    (fun it r σ S' ⟨cs', rest', x, h1, h2, h3, h4, h5⟩ => by
      obtain ⟨k, ek⟩ := h5 it List.mem_cons_self
      subst ek h3 h4
      have g : (S ++ [Ob.lst (cs'.map V.int)])[S.length]? = some (.lst (cs'.map V.int)) := by rw [get_new0]; rfl
      have gz : (cs'.map V.int).length < sizeLine := by
        rw [List.length_map]
        rw [List.length_cons] at h2
        have : (2000 : Nat) ≤ sizeLine := by decide
        omega
      refine ⟨_, [a, b, some (.ref S.length), some (.bl m), c, some (.int (rest' / 1048576)), some (.int k), y], S ++ [.lst ((cs' ++ [rest' % 1048576]).map V.int)], rfl, .inl ?_, cs' ++ [rest' % 1048576], rest' / 1048576, some (.int k), ?_, ?_, rfl, rfl, fun it h => h5 it (List.mem_cons_of_mem _ h)⟩
      · rw [mSeq_ap, mExpr_ap, mBM_ap]
        simp only [List.set_cons_succ, List.set_cons_zero, mVar_ap, List.getElem?_cons_succ, List.getElem?_cons_zero, opV_some, bind_ok, ty_lst g, if_pos, mCons_ap, mBin_ap, mC_ap, mNil_ap, oMod_int _ rest' 1048576 (by decide)]
        rw [oAppend_lst g gz, lift_ok, seq_nx, set_new, mSet_ap]
        simp only [mVar_ap, mBin_ap, mC_ap, List.set_cons_succ, List.set_cons_zero, List.getElem?_cons_succ, List.getElem?_cons_zero, opV_some, bind_ok, oDiv_int _ rest' 1048576 ⟨by decide, by decide⟩, lift_ok]
        rw [List.map_append]
        rfl
      · intro z hz'
        rcases List.mem_append.mp hz' with q | q
        · exact h1 z q
        · rw [List.mem_singleton] at q
          rw [q]
          exact ⟨Int.emod_nonneg _ (by decide), Int.emod_lt_of_pos _ (by decide)⟩
      · rw [List.length_append, List.length_singleton]
        rw [List.length_cons] at h2
        omega) (its := Mi.intsFrom 0 (4 : Int).toNat) (σ := [a, b, some (.ref S.length), some (.bl m), c, some (.int rest), x0, y]) (S := S ++ [.lst (cs.map V.int)]) ⟨cs, rest, x0, hc, Nat.le_refl _, rfl, rfl, fun it h => by
      obtain ⟨k, _, rfl⟩ := List.mem_map.mp h
      exact ⟨_, rfl⟩⟩
  refine ⟨cs', rest', x, ?_, h1, by simpa using h2⟩
  rw [e, h3, h4.1]
def Mx : Int := 2147483647
theorem mx_small (z : Int) : -(2 ^ 64) < z % Mx ∧ z % Mx < 2 ^ 64 := by
  have a1 := Int.emod_nonneg z (show Mx ≠ 0 by decide)
  have a2 := Int.emod_lt_of_pos z (show 0 < Mx by decide)
  have a3 : Mx < 2 ^ 64 := by decide
  exact ⟨by omega, by omega⟩
theorem mixed_ok {a b c x y : Option V} {k : Nat} {z : Int} {S : Sto} : ∃ rest w, (mSeq (mSet 7 (mBin oMod (mBin oMul (mBin oAdd (mBin oAdd (mBin oMod (mVar 5) (mC (.int 2147483647))) (mBin oMul (mC (.int 977)) (mVar 4))) (mC (.int 11))) (mC (.int 48271))) (mC (.int 2147483647)))) (mSeq (mSet 7 (mBin oMod (mBin oMul (mVar 7) (mVar 7)) (mC (.int 2147483647)))) (mSet 5 (mBin oAdd (mBin oMul (mBin oMul (mVar 7) (mVar 7)) (mC (.int 69621))) (mVar 7))))) [a, b, c, some (.bl true), some (.int (k : Nat)), some (.int z), x, y] S =
    .nx [a, b, c, some (.bl true), some (.int (k : Nat)), some (.int rest), x, w] S := by
  have hM : (V.int 2147483647) = .int Mx := rfl
  have h0 : (0 : Int) < Mx := by decide
  rw [hM]
  rw [mSeq_ap, mSet_ap]
  simp only [mBin_ap, mC_ap, mVar_ap, List.getElem?_cons_succ, List.getElem?_cons_zero, opV_some, bind_ok, oMod_int _ _ Mx h0, oMul_int _ 977 (k : Int) (mul_small (by decide)), oAdd_int, oMul_int _ _ 48271 (mul_smallR (by decide)), lift_ok, seq_nx, mSeq_ap, mSet_ap, List.set_cons_succ, List.set_cons_zero]
  have mm : ∀ (S : Sto) (q j : Int), oMul (.int (q % Mx)) (.int j) S = .ok (.int (q % Mx * j)) S := fun S q j => oMul_int _ _ _ (mul_small (mx_small q))
  simp only [mm, bind_ok, oMod_int _ _ Mx h0, lift_ok, seq_nx, mSet_ap, mBin_ap, mVar_ap, mC_ap, List.set_cons_succ, List.set_cons_zero, List.getElem?_cons_succ, List.getElem?_cons_zero, opV_some, oMul_int _ _ 69621 (mul_smallR (by decide)), oAdd_int]
  exact ⟨_, _, rfl⟩
def bCode : MS := (mSeq (mSet 5 (mBin oIx (mVar 0) (mVar 4))) (mSeq (mIfS (mB (mVar 3)) (mSeq (mSet 7 (mBin oMod (mBin oMul (mBin oAdd (mBin oAdd (mBin oMod (mVar 5) (mC (.int 2147483647))) (mBin oMul (mC (.int 977)) (mVar 4))) (mC (.int 11))) (mC (.int 48271))) (mC (.int 2147483647)))) (mSeq (mSet 7 (mBin oMod (mBin oMul (mVar 7) (mVar 7)) (mC (.int 2147483647)))) (mSet 5 (mBin oAdd (mBin oMul (mBin oMul (mVar 7) (mVar 7)) (mC (.int 69621))) (mVar 7))))) (mSkip)) (mFor (mRange1 (mCons (mC (.int 4)) mNil)) (tgName 6) (mSeq (mExpr (mBM "list" oAppend (mVar 2) (mCons (mBin oMod (mVar 5) (mC (.int 1048576))) (mNil)))) (mSet 5 (mBin oDiv (mVar 5) (mC (.int 1048576))))))))
theorem code_turn {S : Sto} {ns cs : List Int} {k : Nat} {m : Bool} {x2 x3 x4 : Option V} (h0 : S[0]? = some (.lck (.lst (ns.map V.int)))) (hk : k < ns.length) (hc : Cd cs) (hz : cs.length ≤ 1000) :
    ∃ cs' y1 y2 y3, bCode [some (.ref 0), some (.int 160), some (.ref S.length), some (.bl m), some (.int (k : Nat)), x2, x3, x4] (S ++ [.lst (cs.map V.int)]) =
      .nx [some (.ref 0), some (.int 160), some (.ref S.length), some (.bl m), some (.int (k : Nat)), y1, y2, y3] (S ++ [.lst (cs'.map V.int)]) ∧ Cd cs' ∧ cs'.length ≤ cs.length + 4 := by
  have hv : (ns.map V.int)[k]? = some (.int ns[k]) := by rw [List.getElem?_map, List.getElem?_eq_getElem hk]; rfl
  generalize ns[k] = z at hv
  unfold bCode
  rw [mSeq_ap, mSet_ap, mBin_ap]
  simp only [mVar_ap, List.getElem?_cons_succ, List.getElem?_cons_zero, opV_some, bind_ok]
  rw [oIx_lst (rdL_lck _ (get_old h0 _)) (atI_nat' hv), lift_ok, seq_nx, mSeq_ap]
  simp only [List.set_cons_succ, List.set_cons_zero]
  cases m with
  | false =>
    rw [mIfS_ap, mB_ap, mVar_ap]
    simp only [List.getElem?_cons_succ, List.getElem?_cons_zero, opV_some, bind_ok, kB_bl, lift_ok, if_neg Bool.false_ne_true, mSkip_ap, seq_nx]
    obtain ⟨cs', rest', x, ec, q1, q2⟩ := codes_in (S := S) (cs := cs) (a := some (.ref 0)) (b := some (.int 160)) (c := some (.int (k : Nat))) (m := false) (rest := z) (x0 := x3) (y := x4) hc hz
    exact ⟨cs', _, _, _, ec, q1, q2⟩
  | true =>
    obtain ⟨rest, w, e⟩ := mixed_ok (a := some (.ref 0)) (b := some (.int 160)) (c := some (.ref S.length)) (k := k) (z := z) (x := x3) (y := x4) (S := S ++ [.lst (cs.map V.int)])
    rw [mIfS_ap, mB_ap, mVar_ap]
    simp only [List.getElem?_cons_succ, List.getElem?_cons_zero, opV_some, bind_ok, kB_bl, lift_ok, if_pos]
    rw [e, seq_nx]
    obtain ⟨cs', rest', x, ec, q1, q2⟩ := codes_in (S := S) (cs := cs) (a := some (.ref 0)) (b := some (.int 160)) (c := some (.int (k : Nat))) (m := true) (rest := rest) (x0 := x3) (y := w) hc hz
    exact ⟨cs', _, _, _, ec, q1, q2⟩
theorem codes_loop {S : Sto} {ns : List Int} {m : Bool} (h0 : S[0]? = some (.lck (.lst (ns.map V.int)))) (hl : ns.length ≤ 63) :
    ∃ cs y0 y1 y2 y3, mFor1 (fun _ => true) (tgName 4) bCode (Mi.intsFrom 0 ns.length) [some (.ref 0), some (.int 160), some (.ref S.length), some (.bl m), none, none, none, none] (S ++ [.lst []]) =
      .nx [some (.ref 0), some (.int 160), some (.ref S.length), some (.bl m), y0, y1, y2, y3] (S ++ [.lst (cs.map V.int)]) ∧ Cd cs := by
  obtain ⟨σ', S', e, cs, x1, x2, x3, x4, h1, h2, h3, h4, _⟩ := for_inv (chk := fun _ => true) (tg := tgName 4) (b := bCode)
    (P := fun r σ S' => ∃ cs x1 x2 x3 x4, Cd cs ∧ cs.length + 4 * r.length ≤ 252 ∧ σ = [some (.ref 0), some (.int 160), some (.ref S.length), some (.bl m), x1, x2, x3, x4] ∧ S' = S ++ [.lst (cs.map V.int)] ∧ ∀ it ∈ r, ∃ k : Nat, it = .v (.int k) ∧ k < ns.length) (fun _ _ _ _ => rfl)
    (fun it r σ S' ⟨cs, x1, x2, x3, x4, h1, h2, h3, h4, h5⟩ => by
      obtain ⟨k, ek, hk⟩ := h5 it List.mem_cons_self
      subst ek h3 h4
      rw [List.length_cons] at h2
      obtain ⟨cs', y1, y2, y3, e, q1, q2⟩ := code_turn (m := m) (x2 := x2) (x3 := x3) (x4 := x4) h0 hk h1 (by omega)
      exact ⟨_, _, _, rfl, .inl e, cs', _, y1, y2, y3, q1, by omega, rfl, rfl, fun it h => h5 it (List.mem_cons_of_mem _ h)⟩)
    (its := Mi.intsFrom 0 ns.length) (σ := [some (.ref 0), some (.int 160), some (.ref S.length), some (.bl m), none, none, none, none]) (S := S ++ [.lst []]) ⟨[], none, none, none, none, (fun c h => nomatch h), by
      unfold Mi.intsFrom
      rw [List.length_map, List.length_range, List.length_nil]
      omega, rfl, rfl, fun it h => by
      obtain ⟨k, hk, rfl⟩ := List.mem_map.mp h
      exact ⟨k, by simp, List.mem_range.mp hk⟩⟩
  exact ⟨cs, x1, x2, x3, x4, by rw [e, h3, h4], h1⟩
theorem codes_ok {S : Sto} {ns : List Int} (h0 : S[0]? = some (.lck (.lst (ns.map V.int)))) (hl : ns.length ≤ 63) :
    ∃ S' i cs, f_law_codes [.ref 0, .int 160] S = .ok (.ref i) S' ∧ S <+: S' ∧ S'[i]? = some (.lst (cs.map V.int)) ∧ Cd cs ∧ S.length ≤ i := by
  unfold f_law_codes
  rw [fnOf_fr [some (.ref 0), some (.int 160), none, none, none, none, none, none] rfl, mSeq_ap, mSet_ap, mLst_ap]
  simp only [mNil_ap, bind_ok, kLst, List.length_nil, if_pos (show 0 ≤ sizeLine by decide), lift_ok, seq_nx, List.set_cons_succ, List.set_cons_zero]
  have hI : rdInts (S ++ [Ob.lst []]) (.ref 0) = some ns := by
    unfold Mi.rdInts
    rw [rdL_lck _ (get_old h0 _)]
    exact allSome_ints ns
  rw [mSeq_ap, mSet_ap, mBin_ap, mBin_ap, mCall_ap]
  simp only [mCons_ap, mVar_ap, mNil_ap, mC_ap, List.getElem?_cons_succ, List.getElem?_cons_zero, opV_some, bind_ok, oSum_ints hI, oMod_int _ _ 2 (show (0:Int) < 2 by decide), oEqD_int, lift_ok, seq_nx, List.set_cons_succ, List.set_cons_zero]
  generalize (false != (ns.sum % 2 == 1)) = m
  have hlen : (mCons (mCall oLen (mCons (mVar 0) (mNil))) mNil) [some (.ref 0), some (.int 160), some (.ref S.length), some (.bl m), none, none, none, none] (S ++ [Ob.lst []]) = .ok [.int ((ns.length : Nat) : Int)] (S ++ [Ob.lst []]) := by
    have e1 : (mCall oLen (mCons (mVar 0) (mNil))) [some (.ref 0), some (.int 160), some (.ref S.length), some (.bl m), none, none, none, none] (S ++ [Ob.lst []]) = oLen [.ref 0] (S ++ [Ob.lst []]) := rfl
    have e2 : oLen [.ref 0] (S ++ [Ob.lst []]) = .ok (.int (((ns.map V.int).length : Nat) : Int)) (S ++ [Ob.lst []]) := oLen_lst (rdL_lck _ (get_old h0 _))
    rw [mCons_ap, e1, e2, List.length_map]
    rfl
  rw [mSeq_ap, mFor_ap, mRange1_ap, hlen, bind_ok]
  have hrg : (0 : Int) ≤ ((ns.length : Nat) : Int) ∧ ((ns.length : Nat) : Int) < 2 ^ 62 := ⟨Int.natCast_nonneg _, Int.lt_of_le_of_lt (Int.ofNat_le.mpr hl) (by decide)⟩
  rw [kRange1_int _ hrg, lift_ok]
  obtain ⟨cs, y0, y1, y2, y3, e, hc⟩ := codes_loop (m := m) h0 hl
  unfold bCode at e
  rw [Int.toNat_natCast]
  rw [e, seq_nx, mRet_ap]
  have g : (S ++ [Ob.lst (cs.map V.int)])[S.length]? = some (.lst (cs.map V.int)) := by rw [get_new0]; rfl
  simp only [mSl, mVar_ap, mNoP, mPart, List.getElem?_cons_succ, List.getElem?_cons_zero, opV_some, bind_ok]
  generalize hp : (160 : Int) = p
  have hcut : cutV (cs.map V.int) none (some p) = ((cs.drop (HT.sIx (cs.map V.int).length 0 none)).take (HT.sIx (cs.map V.int).length (cs.map V.int).length (some p) - HT.sIx (cs.map V.int).length 0 none)).map V.int := by
    unfold cutV
    rw [List.map_take, List.map_drop]
  rw [oSl_lst g, lift_ok, hcut]
  exact ⟨_, _, _, rfl, (pre_add _ _).trans (pre_add _ _), by rw [get_new0]; rfl, fun c hc' => hc c (List.mem_of_mem_drop (List.mem_of_mem_take hc')), by rw [List.length_append]; omega⟩
def aX : MS := (mIfS (mNot (mB (mApp 3 f_law_settled (mCons (mVar 1) (mCons (mVar 3) (mCons (mVar 4) (mNil))))))) (mRet (mC (.bl false))) (mSkip))
def aY : MS := (mSeq (mSet 5 (mBin oIx (mLst (mCons (mBin oMod (mBin oDiv (mVar 4) (mC (.int 128))) (mC (.int 30))) (mCons (mBin oMod (mBin oDiv (mVar 4) (mC (.int 128))) (mC (.int 30))) (mCons (mC (.non)) (mCons (mBin oMul (mVar 4) (mBin oPow (mC (.int 10)) (mC (.int 54)))) (mNil)))))) (mBin oMod (mBin oDiv (mVar 4) (mC (.int 8))) (mC (.int 4))))) (mSeq (mIfS (mB (mBin oIsN (mMeth 3 mt_name (mVar 1) (mCons (mBin oMod (mBin oDiv (mVar 4) (mC (.int 16))) (mC (.int 8))) (mCons (mVar 5) (mNil)))) (mC (.non)))) (mRet (mC (.bl false))) (mSkip)) (mSetI tSetI (mVar 3) (mBin oMod (mBin oDiv (mVar 4) (mC (.int 16))) (mC (.int 8))) (mVar 5))))
def bX : MS := (mSeq (mSet 6 (mBin oMod (mCall oSum (mCons (mVar 0) (mNil))) (mBin oPow (mC (.int 10)) (mC (.int 60))))) (mSeq (mSet 7 (mBin oIx (mLst (mCons (mUn oNeg (mC (.int 1))) (mCons (mC (.int 8)) (mCons (mBin oSub (mUn oNeg (mC (.int 1))) (mVar 6)) (mCons (mBin oAdd (mC (.int 8)) (mVar 6)) (mNil)))))) (mBin oMod (mBin oDiv (mVar 4) (mC (.int 16))) (mC (.int 4))))) (mIfS (mNot (mB (mApp 3 f_law_refused (mCons (mVar 1) (mCons (mVar 7) (mCons (mBin oMod (mBin oDiv (mVar 4) (mC (.int 64))) (mC (.int 2))) (mNil))))))) (mRet (mC (.bl false))) (mSkip))))
def bC : MS := (mIfS (mNot (mB (mApp 2 f_law_same (mCons (mVar 1) (mCons (mVar 3) (mNil)))))) (mRet (mC (.bl false))) (mSkip))
def none8 : List V := [.non, .non, .non, .non, .non, .non, .non, .non]
structure W (ns : List Int) (ci : Nat) (cl : List V) (S : Sto) (row : List V) : Prop where
  sc : S[0]? = some (.lck (.lst (ns.map V.int)))
  tb : ∃ r, Tb S 1 r row ∧ r ≠ 0 ∧ r ≠ 1 ∧ r ≠ 4 ∧ r ≠ 6 ∧ r ≠ 8 ∧ r ≠ ci
  du : S[8]? = some (.lst row)
  ot : Tb S 4 6 none8
  rw : Row row
  kd : S[ci]? = some (.lst cl)
  n1 : ci ≠ 1
  n8 : ci ≠ 8
theorem W.pre {ns : List Int} {ci : Nat} {cl : List V} {S S' : Sto} {row : List V} (h : W ns ci cl S row) (p : S <+: S') : W ns ci cl S' row := by
  obtain ⟨r, hr, q⟩ := h.tb
  exact ⟨pre_get' h.sc p, ⟨r, ⟨pre_get' hr.ob p, pre_get' hr.rw p⟩, q⟩, pre_get' h.du p, ⟨pre_get' h.ot.ob p, pre_get' h.ot.rw p⟩, h.rw, pre_get' h.kd p, h.n1, h.n8⟩
abbrev Fr (c x5 x6 x7 : Option V) : St := [some (.ref 0), some (.ref 1), some (.ref 4), some (.ref 8), c, x5, x6, x7]
theorem same_turn {ns : List Int} {ci : Nat} {cl : List V} {S : Sto} {row : List V} {c x5 x6 x7 : Option V} (h : W ns ci cl S row) : ∃ S', bC (Fr c x5 x6 x7) S = .nx (Fr c x5 x6 x7) S' ∧ S <+: S' := by
  obtain ⟨r, hr, _⟩ := h.tb
  obtain ⟨S', e, p⟩ := same_ok hr h.du h.rw
  refine ⟨S', ?_, p⟩
  unfold bC
  simp [kApp, e]
theorem settled_turn {ns : List Int} {ci : Nat} {cl : List V} {S : Sto} {row : List V} {code : Int} {x5 x6 x7 : Option V} (h : W ns ci cl S row) : ∃ S' row', aX (Fr (some (.int code)) x5 x6 x7) S = .nx (Fr (some (.int code)) x5 x6 x7) S' ∧ W ns ci cl S' row' := by
  obtain ⟨r, hr, q⟩ := h.tb
  obtain ⟨S', r', row', e, t', d', w', le, old⟩ := settled_ok (code := code) hr h.du (by decide) h.rw
  have lc : ci < S.length := (List.getElem?_eq_some_iff.mp h.kd).1
  have l8 : 8 < S.length := (List.getElem?_eq_some_iff.mp h.du).1
  refine ⟨S', row', ?_, ⟨(old 0 (by omega) (by decide) (by decide)).trans h.sc, ⟨r', t', by omega, by omega, by omega, by omega, by omega, by omega⟩, d', ⟨(old 4 (by omega) (by decide) (by decide)).trans h.ot.ob, (old 6 (by omega) (by decide) (by decide)).trans h.ot.rw⟩, w', (old ci lc h.n1 h.n8).trans h.kd, h.n1, h.n8⟩⟩
  unfold aX
  simp [kApp, e]
theorem idx4 {xs : List V} {i : Int} (hx : xs.length = 4) (h0 : 0 ≤ i) (h4 : i < 4) : ∃ v, atI xs i = some v ∧ v ∈ xs := by
  obtain ⟨k, rfl⟩ := Int.eq_ofNat_of_zero_le h0
  have hk : k < xs.length := by omega
  exact ⟨xs[k], atI_nat' (List.getElem?_eq_getElem hk), List.getElem_mem hk⟩
theorem row_set {row : List V} {w : Nat} {v : V} (h : Row row) (hv : v = .non ∨ ∃ i, v = .int i) : Row (row.set w v) := ⟨by rw [List.length_set]; exact h.len, fun u hu => by
  rcases List.mem_or_eq_of_mem_set hu with q | q
  · exact h.val u q
  · rw [q]; exact hv⟩
theorem named_turn {ns : List Int} {ci : Nat} {cl : List V} {S : Sto} {row : List V} {code : Int} {x5 x6 x7 : Option V} (h : W ns ci cl S row) (hc : 0 ≤ code ∧ code < 1048576) : ∃ S' row' y5, aY (Fr (some (.int code)) x5 x6 x7) S = .nx (Fr (some (.int code)) y5 x6 x7) S' ∧ W ns ci cl S' row' := by
  have b1 : 0 ≤ code / 8 % 4 := Int.emod_nonneg _ (by decide)
  have b2 : code / 8 % 4 < 4 := Int.emod_lt_of_pos _ (by decide)
  have b3 : 0 ≤ code / 16 % 8 := Int.emod_nonneg _ (by decide)
  have b4 : code / 16 % 8 < 8 := Int.emod_lt_of_pos _ (by decide)
  obtain ⟨v, ev, hv⟩ := idx4 (xs := [V.int (code / 128 % 30), V.int (code / 128 % 30), V.non, V.int (code * 10 ^ (54 : Int).toNat)]) rfl b1 b2
  have hv' : v = .non ∨ ∃ i, v = .int i := by
    simp only [List.mem_cons, List.not_mem_nil, or_false] at hv
    rcases hv with q | q | q | q
    · exact .inr ⟨_, q⟩
    · exact .inr ⟨_, q⟩
    · exact .inl q
    · exact .inr ⟨_, q⟩
  have hw := h.pre (pre_add S [Ob.lst [V.int (code / 128 % 30), V.int (code / 128 % 30), V.non, V.int (code * 10 ^ (54 : Int).toNat)]])
  have g : (S ++ [Ob.lst [V.int (code / 128 % 30), V.int (code / 128 % 30), V.non, V.int (code * 10 ^ (54 : Int).toNat)]])[S.length]? = some (.lst [V.int (code / 128 % 30), V.int (code / 128 % 30), V.non, V.int (code * 10 ^ (54 : Int).toNat)]) := by rw [get_new0]; rfl
  unfold aY
  rw [mSeq_ap, mSet_ap, mBin_ap, mLst_ap]
  simp only [mCons_ap, mBin_ap, mVar_ap, mC_ap, mNil_ap, List.getElem?_cons_succ, List.getElem?_cons_zero, opV_some, bind_ok, oDiv_int _ code 128 ⟨by decide, by decide⟩, oDiv_int _ code 8 ⟨by decide, by decide⟩, oMod_int _ _ 30 (show (0:Int) < 30 by decide), oMod_int _ _ 4 (show (0:Int) < 4 by decide), oPow_int _ 10 54 (by decide), oMul_int _ code (10 ^ (54 : Int).toNat) (mul_small ⟨by omega, by omega⟩), kLst, List.length_cons, List.length_nil, if_pos (show 0 + 1 + 1 + 1 + 1 ≤ sizeLine by decide)]
  rw [oIx_lst (rdL_lst _ g) ev, lift_ok, seq_nx]
  generalize S ++ [Ob.lst [V.int (code / 128 % 30), V.int (code / 128 % 30), V.non, V.int (code * 10 ^ (54 : Int).toNat)]] = S1 at hw
  obtain ⟨r, hr, q0, q1, q4, q6, q8, qc⟩ := hw.tb
  have ew : code / 16 % 8 = (((code / 16 % 8).toNat : Nat) : Int) := by omega
  have hw8 : (code / 16 % 8).toNat < 8 := by omega
  have em : mMeth 3 mt_name (mVar 1) (mCons (mBin oMod (mBin oDiv (mVar 4) (mC (.int 16))) (mC (.int 8))) (mCons (mVar 5) (mNil))) (Fr (some (.int code)) (some v) x6 x7) S1 = .ok .non (S1.set r (.lst (row.set (code / 16 % 8).toNat v))) := by
    rw [mMeth_of (f := m_NameTable_name) (by rw [mVar_ap]; rfl) hr.ob rfl]
    simp only [mCons_ap, mBin_ap, mVar_ap, mC_ap, mNil_ap, List.getElem?_cons_succ, List.getElem?_cons_zero, opV_some, bind_ok, oDiv_int _ code 16 ⟨by decide, by decide⟩, oMod_int _ _ 8 (show (0:Int) < 8 by decide), List.length_cons, List.length_nil, if_pos]
    have := tname_ok (v := v) hr hw8 h.rw.len
    rw [← ew] at this
    exact this
  rw [mSeq_ap, mIfS_ap, mB_ap, mBin_ap]
  simp only [List.set_cons_succ, List.set_cons_zero]
  rw [em]
  simp only [mC_ap, bind_ok, oIsN_non, isNon_non, Bool.not_true, kB_bl, lift_ok, if_neg Bool.false_ne_true, mSkip_ap, seq_nx, mSetI_ap, mVar_ap, mBin_ap, List.getElem?_cons_succ, List.getElem?_cons_zero, opV_some, oDiv_int _ code 16 ⟨by decide, by decide⟩, oMod_int _ _ 8 (show (0:Int) < 8 by decide)]
  have d1 : (S1.set r (.lst (row.set (code / 16 % 8).toNat v)))[8]? = some (.lst row) := by rw [get_set_ne q8]; exact hw.du
  have hix : ixN row.length (code / 16 % 8) = some (code / 16 % 8).toNat := by
    have := ixN_nat (n := row.length) (k := (code / 16 % 8).toNat) (by rw [h.rw.len]; exact hw8)
    rw [← ew] at this
    exact this
  rw [tSetI_lst d1 hix, lift_ok]
  refine ⟨_, row.set (code / 16 % 8).toNat v, some v, rfl, ?_, ⟨r, ⟨?_, ?_⟩, q0, q1, q4, q6, q8, qc⟩, get_set d1, ⟨?_, ?_⟩, row_set h.rw hv', ?_, h.n1, h.n8⟩
  · rw [get_set_ne (by decide), get_set_ne q0]; exact hw.sc
  · rw [get_set_ne (by decide), get_set_ne q1]; exact hr.ob
  · rw [get_set_ne (Ne.symm q8), get_set hr.rw]
  · rw [get_set_ne (by decide), get_set_ne q4]; exact hw.ot.ob
  · rw [get_set_ne (by decide), get_set_ne q6]; exact hw.ot.rw
  · rw [get_set_ne (Ne.symm h.n8), get_set_ne qc]; exact hw.kd
theorem refused_turn {ns : List Int} {ci : Nat} {cl : List V} {S : Sto} {row : List V} {code : Int} {x5 x6 x7 : Option V} (h : W ns ci cl S row) : ∃ S' y6 y7, bX (Fr (some (.int code)) x5 x6 x7) S = .nx (Fr (some (.int code)) x5 y6 y7) S' ∧ S <+: S' := by
  have b1 : 0 ≤ code / 16 % 4 := Int.emod_nonneg _ (by decide)
  have b2 : code / 16 % 4 < 4 := Int.emod_lt_of_pos _ (by decide)
  have hI : rdInts S (.ref 0) = some ns := by
    unfold Mi.rdInts
    rw [rdL_lck _ h.sc]
    exact allSome_ints ns
  unfold bX
  rw [mSeq_ap, mSet_ap, mBin_ap, mCall_ap]
  simp only [mCons_ap, mBin_ap, mVar_ap, mC_ap, mNil_ap, List.getElem?_cons_succ, List.getElem?_cons_zero, opV_some, bind_ok, oSum_ints hI, oPow_int _ 10 60 (by decide), oMod_int _ ns.sum _ (show (0:Int) < 10 ^ (60:Int).toNat by decide), lift_ok, seq_nx, List.set_cons_succ, List.set_cons_zero]
  have f0 : 0 ≤ ns.sum % 10 ^ (60:Int).toNat := Int.emod_nonneg _ (by decide)
  generalize ns.sum % 10 ^ (60:Int).toNat = far at f0
  obtain ⟨v, ev, hv⟩ := idx4 (xs := [V.int (-1), V.int 8, V.int (-1 - far), V.int (8 + far)]) rfl b1 b2
  obtain ⟨w, ew, hw⟩ : ∃ w : Int, v = .int w ∧ (w < 0 ∨ 7 < w) := by
    simp only [List.mem_cons, List.not_mem_nil, or_false] at hv
    rcases hv with q | q | q | q <;> exact ⟨_, q, by omega⟩
  subst ew
  have g : (S ++ [Ob.lst [V.int (-1), V.int 8, V.int (-1 - far), V.int (8 + far)]])[S.length]? = some (.lst [V.int (-1), V.int 8, V.int (-1 - far), V.int (8 + far)]) := by rw [get_new0]; rfl
  have p := pre_add S [Ob.lst [V.int (-1), V.int 8, V.int (-1 - far), V.int (8 + far)]]
  have hw2 := h.pre p
  rw [mSeq_ap, mSet_ap, mBin_ap, mLst_ap]
  simp only [mCons_ap, mBin_ap, mUn_ap, mVar_ap, mC_ap, mNil_ap, oNeg_int, oSub_int, oAdd_int, List.getElem?_cons_succ, List.getElem?_cons_zero, opV_some, bind_ok, oDiv_int _ code 16 ⟨by decide, by decide⟩, oMod_int _ _ 4 (show (0:Int) < 4 by decide), kLst, List.length_cons, List.length_nil, if_pos (show 0 + 1 + 1 + 1 + 1 ≤ sizeLine by decide)]
  rw [oIx_lst (rdL_lst _ g) ev, lift_ok, seq_nx]
  generalize S ++ [Ob.lst [V.int (-1), V.int 8, V.int (-1 - far), V.int (8 + far)]] = S1 at hw2 p
  obtain ⟨r, hr, _⟩ := hw2.tb
  have er := refused_ok (way := code / 64 % 2) hr.ob hw
  rw [mIfS_ap]
  simp only [mNot_ap, mB_ap, mApp_ap, mCons_ap, mBin_ap, mVar_ap, mC_ap, mNil_ap, List.set_cons_succ, List.set_cons_zero, List.getElem?_cons_succ, List.getElem?_cons_zero, opV_some, bind_ok, oDiv_int _ code 64 ⟨by decide, by decide⟩, oMod_int _ _ 2 (show (0:Int) < 2 by decide), kApp, List.length_cons, List.length_nil, if_pos, er, kB_bl, Bool.not_true, lift_ok, if_neg Bool.false_ne_true, mSkip_ap]
  exact ⟨_, _, _, rfl, p.trans (pre_add _ _)⟩
def bTurn : MS := mSeq (mIfS (mB (mBin oLt (mBin oMod (mVar 4) (mC (.int 16))) (mC (.int 4)))) aX aY) (mSeq (mIfS (mB (mBin oEq (mBin oMod (mVar 4) (mC (.int 16))) (mC (.int 9)))) bX (mSkip)) bC)
theorem turn_ok {ns : List Int} {ci : Nat} {cl : List V} {S : Sto} {row : List V} {code : Int} {x5 x6 x7 : Option V} (h : W ns ci cl S row) (hc : 0 ≤ code ∧ code < 1048576) : ∃ S' row' y5 y6 y7, bTurn (Fr (some (.int code)) x5 x6 x7) S = .nx (Fr (some (.int code)) y5 y6 y7) S' ∧ W ns ci cl S' row' := by
  have first : ∃ S1 row1 y5, mIfS (mB (mBin oLt (mBin oMod (mVar 4) (mC (.int 16))) (mC (.int 4)))) aX aY (Fr (some (.int code)) x5 x6 x7) S = .nx (Fr (some (.int code)) y5 x6 x7) S1 ∧ W ns ci cl S1 row1 := by
    rw [mIfS_ap]
    simp only [mB_ap, mBin_ap, mVar_ap, mC_ap, List.getElem?_cons_succ, List.getElem?_cons_zero, opV_some, bind_ok, oMod_int _ _ 16 (show (0:Int) < 16 by decide), oCmp_int, kB_bl, lift_ok]
    by_cases z : code % 16 < 4
    · rw [if_pos (decide_eq_true z)]
      obtain ⟨S', row', e, w⟩ := settled_turn (code := code) (x5 := x5) (x6 := x6) (x7 := x7) h
      exact ⟨S', row', x5, e, w⟩
    · rw [if_neg (by rw [decide_eq_false z]; exact Bool.false_ne_true)]
      obtain ⟨S', row', y5, e, w⟩ := named_turn (code := code) (x5 := x5) (x6 := x6) (x7 := x7) h hc
      exact ⟨S', row', y5, e, w⟩
  obtain ⟨S1, row1, y5, e1, w1⟩ := first
  have second : ∃ S2 y6 y7, mIfS (mB (mBin oEq (mBin oMod (mVar 4) (mC (.int 16))) (mC (.int 9)))) bX (mSkip) (Fr (some (.int code)) y5 x6 x7) S1 = .nx (Fr (some (.int code)) y5 y6 y7) S2 ∧ S1 <+: S2 := by
    rw [mIfS_ap]
    simp only [mB_ap, mBin_ap, mVar_ap, mC_ap, List.getElem?_cons_succ, List.getElem?_cons_zero, opV_some, bind_ok, oMod_int _ _ 16 (show (0:Int) < 16 by decide), oEqD_int, kB_bl, lift_ok]
    by_cases z : (false != (code % 16 == 9)) = true
    · rw [if_pos z]
      exact refused_turn w1
    · rw [if_neg z]
      exact ⟨S1, x6, x7, rfl, List.prefix_refl _⟩
  obtain ⟨S2, y6, y7, e2, p2⟩ := second
  obtain ⟨S3, e3, p3⟩ := same_turn (c := some (.int code)) (x5 := y5) (x6 := y6) (x7 := y7) (w1.pre p2)
  refine ⟨S3, row1, y5, y6, y7, ?_, (w1.pre p2).pre p3⟩
  unfold bTurn
  rw [mSeq_ap, e1, seq_nx, mSeq_ap, e2, seq_nx, e3]
theorem make_ok {σ : St} {S : Sto} : mMake 0 1 1 m_NameTable___init__ mNil σ S = .ok (.ref S.length) (S ++ [.ins 0 [some (.ref (S.length + 2))], .lst [.non], .lst none8]) := by
  refine mMake_of (S1 := S) (xs := []) rfl rfl ?_
  unfold m_NameTable___init__
  rw [fnOf_fr [some (.ref S.length)] rfl]
  have g1 : (S ++ [Ob.ins 0 [none]] ++ [Ob.lst [V.non]])[(S ++ [Ob.ins 0 [none]]).length]? = some (.lst [V.non]) := by rw [get_new0]; rfl
  have a : mBin oMul (mLst (mCons (mC (.non)) (mNil))) (mC (.int 8)) [some (.ref S.length)] (S ++ [Ob.ins 0 (List.replicate 1 none)]) = .ok (.ref (S.length + 2)) (S ++ [Ob.ins 0 [none], .lst [.non], .lst none8]) := by
    rw [mBin_ap, mLst_ap]
    simp only [mCons_ap, mC_ap, mNil_ap, bind_ok, kLst, List.length_cons, List.length_nil, if_pos (show 0 + 1 ≤ sizeLine by decide)]
    show oMul (.ref (S ++ [Ob.ins 0 [none]]).length) (.int 8) (S ++ [Ob.ins 0 [none]] ++ [Ob.lst [V.non]]) = _
    rw [oMul_rep g1 ⟨by decide, by decide, by decide⟩]
    simp [none8]
  rw [mSetF_of (i := S.length) (c := 0) (j := 0) (fs := [none]) a (by rw [mVar_ap]; rfl) (by rw [get_new0]; rfl) rfl, set_new]
  rfl
theorem rep_ok {σ : St} {S : Sto} : mBin oMul (mLst (mCons (mC (.non)) (mNil))) (mC (.int 8)) σ S = .ok (.ref (S.length + 1)) (S ++ [.lst [.non], .lst none8]) := by
  have g1 : (S ++ [Ob.lst [V.non]])[S.length]? = some (.lst [V.non]) := by rw [get_new0]; rfl
  rw [mBin_ap, mLst_ap]
  simp only [mCons_ap, mC_ap, mNil_ap, bind_ok, kLst, List.length_cons, List.length_nil, if_pos (show 0 + 1 ≤ sizeLine by decide)]
  rw [oMul_rep g1 ⟨by decide, by decide, by decide⟩]
  simp [none8]
theorem none8_row : Row none8 := ⟨rfl, fun v hv => by
  simp only [none8, List.mem_cons, List.not_mem_nil, or_false] at hv
  rcases hv with h | h | h | h | h | h | h | h <;> exact .inl h⟩
theorem law_true (ns : List Int) (hl : ns.length ≤ 63) (hb : ∀ z ∈ ns, Builtin.Int.intBits z ≤ 1048576) : ∃ S, f_law [.ref 0] [.lck (.lst (ns.map V.int))] = .ok (.bl true) S := by
  unfold f_law
  rw [fnOf_fr [some (.ref 0), none, none, none, none, none, none, none] rfl]
  show Ends _ _
  rw [mSeq_ap, mSet_ap, make_ok, lift_ok, seq_nx, mSeq_ap, mSet_ap, make_ok, lift_ok, seq_nx, mSeq_ap, mSet_ap, rep_ok, lift_ok, seq_nx]
  have w0 : W ns 2 [.non] [.lck (.lst (ns.map V.int)), .ins 0 [some (.ref 3)], .lst [.non], .lst none8, .ins 0 [some (.ref 6)], .lst [.non], .lst none8, .lst [.non], .lst none8] none8 :=
    ⟨rfl, ⟨3, ⟨rfl, rfl⟩, by decide, by decide, by decide, by decide, by decide, by decide⟩, rfl, ⟨rfl, rfl⟩, none8_row, rfl, by decide, by decide⟩
  show Ends (mSeq _ _ (Fr none none none none) [.lck (.lst (ns.map V.int)), .ins 0 [some (.ref 3)], .lst [.non], .lst none8, .ins 0 [some (.ref 6)], .lst [.non], .lst none8, .lst [.non], .lst none8]) _
  generalize ([.lck (.lst (ns.map V.int)), .ins 0 [some (.ref 3)], .lst [.non], .lst none8, .ins 0 [some (.ref 6)], .lst [.non], .lst none8, .lst [.non], .lst none8] : Sto) = S0 at w0
  obtain ⟨S1, e1, p1⟩ := same_turn (c := none) (x5 := none) (x6 := none) (x7 := none) w0
  unfold bC at e1
  rw [mSeq_ap, e1, seq_nx]
  have w1 := w0.pre p1
  obtain ⟨S2, i, cs, e2, p2, h2, hc, hi⟩ := codes_ok w1.sc hl
  have w2 : W ns i (cs.map V.int) S2 none8 := by
    obtain ⟨r, hr, q0, q1, q4, q6, q8, _⟩ := w1.tb
    have l1 : r < S1.length := (List.getElem?_eq_some_iff.mp hr.rw).1
    have l2 : 8 < S1.length := (List.getElem?_eq_some_iff.mp w1.du).1
    have w := w1.pre p2
    exact ⟨w.sc, ⟨r, ⟨pre_get' hr.ob p2, pre_get' hr.rw p2⟩, q0, q1, q4, q6, q8, by omega⟩, w.du, w.ot, w.rw, h2, by omega, by omega⟩
  rw [mSeq_ap, mFor_ap, mWalk_ap, mApp_ap]
  simp only [mCons_ap, mC_ap, mVar_ap, mNil_ap, List.getElem?_cons_zero, opV_some, bind_ok, kApp, List.length_cons, List.length_nil, if_pos, e2]
  rw [kWalk_lst _ h2, lift_ok]
  show Ends (RS.seq (mFor1 _ (tgName 4) bTurn _ _ _) _) _
  refine for_seq (P := fun r σ S => (∃ row, W ns i (cs.map V.int) S row) ∧ (∃ c x5 x6 x7, σ = Fr c x5 x6 x7) ∧ ∀ it ∈ r, ∃ k : Int, it = .v (.int k) ∧ 0 ≤ k ∧ k < 1048576) ?_ (fun _ _ _ ⟨⟨_, w⟩, _⟩ => decide_eq_true w.kd) (fun it r σ S ⟨⟨row, w⟩, ⟨c, x5, x6, x7, eσ⟩, hr⟩ => ?_) (fun σ S ⟨⟨row, w⟩, ⟨c, x5, x6, x7, eσ⟩, _⟩ => ?_)
  · refine ⟨⟨_, w2⟩, ⟨none, none, none, none, rfl⟩, fun it h => ?_⟩
    obtain ⟨x, hx, rfl⟩ := List.mem_map.mp h
    obtain ⟨k, hk, rfl⟩ := List.mem_map.mp hx
    exact ⟨k, rfl, hc k hk⟩
  · obtain ⟨k, ek, hk⟩ := hr it List.mem_cons_self
    subst eσ ek
    obtain ⟨S', row', y5, y6, y7, e, w'⟩ := turn_ok (code := k) (x5 := x5) (x6 := x6) (x7 := x7) w hk
    exact ⟨_, _, S', rfl, .inl e, ⟨row', w'⟩, ⟨_, y5, y6, y7, rfl⟩, fun it h => hr it (List.mem_cons_of_mem _ h)⟩
  · subst eσ
    obtain ⟨r, hr, _⟩ := w.tb
    have r1 := refused_ok (w := 8) (way := 0) hr.ob (.inr (by decide))
    have w3 := w.pre (pre_add S [Ob.exc 3 none])
    obtain ⟨r', hr', _⟩ := w3.tb
    have r2 := refused_ok (w := -1) (way := 1) hr'.ob (.inl (by decide))
    have w4 := w3.pre (pre_add (S ++ [Ob.exc 3 none]) [Ob.exc 3 none])
    rw [mRet_ap, mAndV_ap, mApp_ap]
    simp only [mCons_ap, mC_ap, mVar_ap, mNil_ap, List.getElem?_cons_succ, List.getElem?_cons_zero, opV_some, bind_ok, kApp, List.length_cons, List.length_nil, if_pos, r1, kAnd_bl, mAndV_ap, mApp_ap, mUn_ap, oNeg_int, r2]
    generalize S ++ [Ob.exc 3 none] ++ [Ob.exc 3 none] = S5 at w4
    rw [rep_ok]
    have w5 := w4.pre (pre_add S5 [Ob.lst [V.non], Ob.lst none8])
    have g : (S5 ++ [Ob.lst [V.non], Ob.lst none8])[S5.length + 1]? = some (.lst none8) := by rw [get_new]; rfl
    obtain ⟨S6, e6, _⟩ := same_ok w5.ot g none8_row
    simp only [bind_ok, kApp, List.length_cons, List.length_nil, if_pos, e6, lift_ok]
    exact Mi.Ends.rt
end Lw

open PySem PySem.W PyProof.Rows
set_option maxRecDepth 100000 in
set_option maxHeartbeats 0 in
theorem PySem.Challenge.cw_stillheap_k68_name_table_holds : PySem.Challenge.rw_stillheap_k68_name_table.Holds := by
  w_on; o_law; k_head; (case hw => w_witness2)
  k_fill
  refine Mi.walk_end (l := PySem.Challenge.rw_stillheap_k68_name_table) (k := 4) (x := "script") (T := Lw.T) (f := Lw.f_law) rfl rfl ⟨rfl, by decide, by decide⟩ (fun w h Y => PySem.W.kIn_of Y) ?L ?F Lw.law_true
  case L => intro p; kernel_rfl
  case F =>
    intro w mg fa h KX G hmg
    refine' Lw.all_mk KX G hmg ?ax0 ?ax1 ?ax2 ?ax3 ?ac0 ?zb_sum ?zb_len ?zb_range ?zb_isinstance ?zb_list ?zb_dict ?zg0 ?zg1 ?zb_ValueError ?zb_bool ?jc1 ?jc2 ?ex0_1 ?ex0_2 ?ex0_3 ?ex0_4 ?ex0_5 ?ex0_6 ?ex1_1 ?ex1_2 ?ex1_3 ?ex1_4 ?ex1_5 ?ex1_6 ?ex2_1 ?ex2_2 ?ex2_3 ?ex2_4 ?ex2_5 ?ex2_6 ?ex3_1 ?ex3_2 ?ex3_3 ?ex3_4 ?ex3_5 ?ex3_6 ?ki_BadName_0 ?ki_BadName_1 ?ki_BadName_2 ?ki_BadName_3 ?kc_BadName_0 ?kt_BadName_NoneType ?kt_BadName_bool ?kt_BadName_int ?kt_BadName_str ?kt_BadName_list ?kt_BadName_tuple ?kt_BadName_dict ?ki_ValueError_0 ?ki_ValueError_1 ?ki_ValueError_2 ?ki_ValueError_3 ?kc_ValueError_0 ?kt_ValueError_NoneType ?kt_ValueError_bool ?kt_ValueError_int ?kt_ValueError_str ?kt_ValueError_list ?kt_ValueError_tuple ?kt_ValueError_dict ?ki_BadHand_BadCount_0 ?ki_BadHand_BadCount_1 ?ki_BadHand_BadCount_2 ?ki_BadHand_BadCount_3 ?kc_BadHand_BadCount_0 ?kt_BadHand_BadCount_NoneType ?kt_BadHand_BadCount_bool ?kt_BadHand_BadCount_int ?kt_BadHand_BadCount_str ?kt_BadHand_BadCount_list ?kt_BadHand_BadCount_tuple ?kt_BadHand_BadCount_dict ?ki_list_0 ?ki_list_1 ?ki_list_2 ?ki_list_3 ?kc_list_0 ?kt_list_NoneType ?kt_list_bool ?kt_list_int ?kt_list_str ?kt_list_list ?kt_list_tuple ?kt_list_dict ?ki_bool_0 ?ki_bool_1 ?ki_bool_2 ?ki_bool_3 ?kc_bool_0 ?kt_bool_NoneType ?kt_bool_bool ?kt_bool_int ?kt_bool_str ?kt_bool_list ?kt_bool_tuple ?kt_bool_dict ?es_HeapError_0 ?es_HeapError_1 ?es_HeapError_2 ?es_HeapError_3 ?xi_BadName ?xk_BadName ?xt_BadName ?xc0_a ?xc0_i ?xc0_l ?xc0_c ?xc0_k ?xc1_a ?xc1_i ?xc1_l ?xc1_c ?xc1_k ?xc2_a ?xc2_i ?xc2_l ?xc2_c ?xc2_k ?xc3_a ?xc3_i ?xc3_l ?xc3_c ?xc3_k ?cl0_1 ?cl0_2 ?cl0_3 ?cl0_4 ?cl0_5 ?cl0_6 ?nf_name_row_0 ?a0 ?i0 ?l0 ?c0 ?k0 ?a1 ?i1 ?l1 ?c1 ?k1 ?a2 ?l2 ?c2 ?k2 ?a3 ?i3 ?l3 ?c3 ?k3 ?a4 ?l4 ?c4 ?k4 ?a5 ?l5 ?c5 ?k5 ?a6 ?i6 ?l6 ?c6 ?k6 ?a7 ?l7 ?c7 ?k7 ?a8 ?i8 ?l8 ?c8 ?k8 ?a9 ?l9 ?c9 ?k9 ?a10 ?l10 ?c10 ?k10 ?mk0_1 ?mk0_2
    (case ax0 => k_is)
    (case ax1 => k_is)
    (case ax2 => k_is)
    (case ax3 => k_is)
    (case ac0 => k_is)
    (case zb_sum => k_is)
    (case zb_len => k_is)
    (case zb_range => k_is)
    (case zb_isinstance => k_is)
    (case zb_list => k_is)
    (case zb_dict => k_is)
    (case zg0 => k_is)
    (case zg1 => k_is)
    (case zb_ValueError => k_is)
    (case zb_bool => k_is)
    (case jc1 => k_is)
    (case jc2 => k_is)
    (case ex0_1 => k_is)
    (case ex0_2 => k_is)
    (case ex0_3 => k_is)
    (case ex0_4 => k_is)
    (case ex0_5 => k_is)
    (case ex0_6 => k_is)
    (case ex1_1 => k_is)
    (case ex1_2 => k_is)
    (case ex1_3 => k_is)
    (case ex1_4 => k_is)
    (case ex1_5 => k_is)
    (case ex1_6 => k_is)
    (case ex2_1 => k_is)
    (case ex2_2 => k_is)
    (case ex2_3 => k_is)
    (case ex2_4 => k_is)
    (case ex2_5 => k_is)
    (case ex2_6 => k_is)
    (case ex3_1 => k_is)
    (case ex3_2 => k_is)
    (case ex3_3 => k_is)
    (case ex3_4 => k_is)
    (case ex3_5 => k_is)
    (case ex3_6 => k_is)
    (case ki_BadName_0 => kernel_rfl)
    (case ki_BadName_1 => kernel_rfl)
    (case ki_BadName_2 => kernel_rfl)
    (case ki_BadName_3 => kernel_rfl)
    (case kc_BadName_0 => kernel_rfl)
    (case kt_BadName_NoneType => kernel_rfl)
    (case kt_BadName_bool => kernel_rfl)
    (case kt_BadName_int => kernel_rfl)
    (case kt_BadName_str => kernel_rfl)
    (case kt_BadName_list => kernel_rfl)
    (case kt_BadName_tuple => kernel_rfl)
    (case kt_BadName_dict => kernel_rfl)
    (case ki_ValueError_0 => kernel_rfl)
    (case ki_ValueError_1 => kernel_rfl)
    (case ki_ValueError_2 => kernel_rfl)
    (case ki_ValueError_3 => kernel_rfl)
    (case kc_ValueError_0 => kernel_rfl)
    (case kt_ValueError_NoneType => kernel_rfl)
    (case kt_ValueError_bool => kernel_rfl)
    (case kt_ValueError_int => kernel_rfl)
    (case kt_ValueError_str => kernel_rfl)
    (case kt_ValueError_list => kernel_rfl)
    (case kt_ValueError_tuple => kernel_rfl)
    (case kt_ValueError_dict => kernel_rfl)
    (case ki_BadHand_BadCount_0 => kernel_rfl)
    (case ki_BadHand_BadCount_1 => kernel_rfl)
    (case ki_BadHand_BadCount_2 => kernel_rfl)
    (case ki_BadHand_BadCount_3 => kernel_rfl)
    (case kc_BadHand_BadCount_0 => kernel_rfl)
    (case kt_BadHand_BadCount_NoneType => kernel_rfl)
    (case kt_BadHand_BadCount_bool => kernel_rfl)
    (case kt_BadHand_BadCount_int => kernel_rfl)
    (case kt_BadHand_BadCount_str => kernel_rfl)
    (case kt_BadHand_BadCount_list => kernel_rfl)
    (case kt_BadHand_BadCount_tuple => kernel_rfl)
    (case kt_BadHand_BadCount_dict => kernel_rfl)
    (case ki_list_0 => kernel_rfl)
    (case ki_list_1 => kernel_rfl)
    (case ki_list_2 => kernel_rfl)
    (case ki_list_3 => kernel_rfl)
    (case kc_list_0 => kernel_rfl)
    (case kt_list_NoneType => kernel_rfl)
    (case kt_list_bool => kernel_rfl)
    (case kt_list_int => kernel_rfl)
    (case kt_list_str => kernel_rfl)
    (case kt_list_list => kernel_rfl)
    (case kt_list_tuple => kernel_rfl)
    (case kt_list_dict => kernel_rfl)
    (case ki_bool_0 => kernel_rfl)
    (case ki_bool_1 => kernel_rfl)
    (case ki_bool_2 => kernel_rfl)
    (case ki_bool_3 => kernel_rfl)
    (case kc_bool_0 => kernel_rfl)
    (case kt_bool_NoneType => kernel_rfl)
    (case kt_bool_bool => kernel_rfl)
    (case kt_bool_int => kernel_rfl)
    (case kt_bool_str => kernel_rfl)
    (case kt_bool_list => kernel_rfl)
    (case kt_bool_tuple => kernel_rfl)
    (case kt_bool_dict => kernel_rfl)
    (case es_HeapError_0 => kernel_rfl)
    (case es_HeapError_1 => kernel_rfl)
    (case es_HeapError_2 => kernel_rfl)
    (case es_HeapError_3 => kernel_rfl)
    (case xi_BadName => kernel_rfl)
    (case xk_BadName => k_is)
    (case xt_BadName => k_is)
    (case xc0_a => k_is)
    (case xc0_i => k_is)
    (case xc0_l => k_is)
    (case xc0_c => k_is)
    (case xc0_k => k_is)
    (case xc1_a => k_is)
    (case xc1_i => k_is)
    (case xc1_l => k_is)
    (case xc1_c => k_is)
    (case xc1_k => k_is)
    (case xc2_a => k_is)
    (case xc2_i => k_is)
    (case xc2_l => k_is)
    (case xc2_c => k_is)
    (case xc2_k => k_is)
    (case xc3_a => k_is)
    (case xc3_i => k_is)
    (case xc3_l => k_is)
    (case xc3_c => k_is)
    (case xc3_k => k_is)
    (case cl0_1 => k_is)
    (case cl0_2 => k_is)
    (case cl0_3 => k_is)
    (case cl0_4 => k_is)
    (case cl0_5 => k_is)
    (case cl0_6 => k_is)
    (case nf_name_row_0 => k_is)
    (case a0 => k_is)
    (case i0 => k_is)
    (case l0 => k_is)
    (case c0 => k_is)
    (case k0 => k_is)
    (case a1 => k_is)
    (case i1 => k_is)
    (case l1 => k_is)
    (case c1 => k_is)
    (case k1 => k_is)
    (case a2 => k_is)
    (case l2 => k_is)
    (case c2 => k_is)
    (case k2 => k_is)
    (case a3 => k_is)
    (case i3 => k_is)
    (case l3 => k_is)
    (case c3 => k_is)
    (case k3 => k_is)
    (case a4 => k_is)
    (case l4 => k_is)
    (case c4 => k_is)
    (case k4 => k_is)
    (case a5 => k_is)
    (case l5 => k_is)
    (case c5 => k_is)
    (case k5 => k_is)
    (case a6 => k_is)
    (case i6 => k_is)
    (case l6 => k_is)
    (case c6 => k_is)
    (case k6 => k_is)
    (case a7 => k_is)
    (case l7 => k_is)
    (case c7 => k_is)
    (case k7 => k_is)
    (case a8 => k_is)
    (case i8 => k_is)
    (case l8 => k_is)
    (case c8 => k_is)
    (case k8 => k_is)
    (case a9 => k_is)
    (case l9 => k_is)
    (case c9 => k_is)
    (case k9 => k_is)
    (case a10 => k_is)
    (case l10 => k_is)
    (case c10 => k_is)
    (case k10 => k_is)
    (case mk0_1 => k_is)
    (case mk0_2 => k_is)

