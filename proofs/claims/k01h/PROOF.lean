import PyProof.Rows.All
import HandS.TupAny
import HandS.Deep
import KE.DataCmp
import HandS.More
import KE.GoesMore
import PyProof.Draws
import PyProof.EnumMake
import HandS.Conv
import HandS.SortRule
import PyProof.NeKinds
import HandS.Style
import KE.KEqNest
import PyProof.EqKinds
import HandS.SetFor
import HandS.Strs
import PyProof.Rows.SetFrom
import Wide.All
import OpenK.AllK
import Wide.FinOn
import HandS.ForMost
import HandS.ForExc
import HandS.Comp
import HandS.Wide
import HandS.SortInts
import HandS.IsInst
import HandS.TryOnly
import HandS.ExcIs
import HandS.ExcField
import HandS.Small
import HandS.NoneIn
import HandS.EndBits
import HandS.RaiseMore
import HandS.ExcInit
import HandS.ExcValue
import KE.OsRunLaw
import PySem.Challenge.RW_stillheap_k01_refusals_stand_alone
set_option Elab.async false
set_option linter.all false
set_option maxRecDepth 100000
set_option maxHeartbeats 4000000
set_option autoImplicit false
namespace Mi
open PySem PySem.Spec L2
/-- an object of the store; a reference in it is a place of the store -/
inductive Ob where
  | lst (xs : List V) | tup (xs : List V) | dK (kvs : List (Key × V)) | dT (kvs : List (List Key × V))
  | ins (c : Nat) (fs : List (Option V)) | exc (c : Nat) (d : Option V) | lck (o : Ob)
  deriving DecidableEq
abbrev Sto := List Ob
/-- how an expression ends -/
inductive R (α : Type) where
  | ok (a : α) (S : Sto) | exc (c : Nat) (d : Option V) (S : Sto) | bad
/-- how a statement ends -/
inductive RS where
  | nx (σ : St) (S : Sto) | rt (v : V) (S : Sto) | bk (σ : St) (S : Sto) | ct (σ : St) (S : Sto) | exc (c : Nat) (d : Option V) (σ : St) (S : Sto) | bad
abbrev ME := St → Sto → R V
abbrev MT := St → Sto → R Bool
abbrev MA := St → Sto → R (List V)
abbrev MS := St → Sto → RS
def VR (ρ : List Addr) : V → V → Prop
  | .ref i, w => ∃ a, ρ[i]? = some a ∧ w = .ref a
  | v, w => w = v
def OR (ρ : List Addr) : Option V → Option V → Prop
  | none, _ => True
  | some v, some w => VR ρ v w
  | some _, none => False
abbrev VsR (ρ : List Addr) : List V → List V → Prop := Paired (VR ρ)
abbrev LR (ρ : List Addr) : St → St → Prop := Paired (OR ρ)
abbrev FR {κ : Type} (ρ : List Addr) : List (κ × V) → List (κ × V) → Prop := Paired fun p q => p.1 = q.1 ∧ VR ρ p.2 q.2
/-- what is fixed: the written part, the module's names; the classes with their attributes' names in order; the classes of exceptions -/
structure Gm where
  K : PySem.W.Frag
  mg : Str → Option Value
  cs : List (Str × List Str)
  xs : List Str
def Gm.cls (G : Gm) (c : Nat) (C : Addr) : Prop := ∃ x L, G.cs[c]? = some (x, L) ∧ G.mg x = some (.ref C)
def Gm.xcls (G : Gm) (c : Nat) (C : Addr) : Prop := ∃ x, G.xs[c]? = some x ∧ G.mg x = some (.ref C)
/-- the attributes of an instance, in the class's order -/
structure AR (ρ : List Addr) (L : List Str) (fs : List (Option V)) (gs : List (Str × V)) : Prop where
  len : fs.length = L.length
  at_ : ∀ (j : Nat) (x : Str) (v : V), L[j]? = some x → fs[j]? = some (some v) → ∃ w, gs.lookup x = some w ∧ VR ρ v w
  nd : (gs.map (·.1)).Nodup
  sub : ∀ x ∈ gs.map (·.1), x ∈ L
/-- what is told of an exception object -/
def ExK (C : Addr) (d : Option Addr) (a : Addr) : HO := .ext fun h => ∃ (oe : Obj) (vs : Array Value), h.get? a = some oe ∧ oe.cls = .ref C ∧ oe.dict = d ∧ oe.data = .fields vs
/-- an exception's own dict: none, or its one field "row" -/
def DR (ρ : List Addr) (H : Hp) : Option V → Option Addr → Prop
  | none, d => d = none
  | some v, d => ∃ a w, d = some a ∧ VR ρ v w ∧ H a = some (.xd [(("row" : Str), w)])
def ObU (G : Gm) (ρ : List Addr) (H : Hp) (a : Addr) : Ob → HO → Prop
  | .lst xs, u => ∃ ys, u = .lst ys ∧ VsR ρ xs ys
  | .tup xs, u => ∃ ys, u = .tup ys ∧ VsR ρ xs ys
  | .dK kvs, u => ∃ vs, u = .dK vs ∧ FR ρ kvs vs
  | .dT kvs, u => ∃ vs, u = .dT vs ∧ FR ρ kvs vs
  | .ins c fs, u => ∃ x L C dx gs, G.cs[c]? = some (x, L) ∧ G.mg x = some (.ref C) ∧ u = .ins C dx gs ∧ AR ρ L fs gs
  | .exc c d, u => ∃ C dd, G.xcls c C ∧ u = ExK C dd a ∧ DR ρ H d dd
  | .lck o, u => ∃ ob u', u = .frz ob u' ∧ ObU G ρ H a o u'
structure Rep (G : Gm) (ρ : List Addr) (S : Sto) (H : Hp) : Prop where
  nd : ρ.Nodup
  len : ρ.length = S.length
  at_ : ∀ (i : Nat) (o : Ob) (a : Addr), S[i]? = some o → ρ[i]? = some a → ∃ u, H a = some u ∧ ObU G ρ H a o u
section
variable {G : Gm} {ρ ρ' : List Addr} {S S' : Sto} {H H' : Hp} {v w : V} {a : Addr} {o : Ob} {u : HO} {i : Nat}
theorem VR.mono (h : VR ρ v w) (p : ρ <+: ρ') : VR ρ' v w := by
  cases v with
  | ref i =>
    obtain ⟨a, e, r⟩ := h
    exact ⟨a, (List.prefix_iff_getElem?.mp p i (List.getElem?_eq_some_iff.mp e).1).trans (by rw [List.getElem?_eq_getElem (List.getElem?_eq_some_iff.mp e).1] at e; exact e), r⟩
  | _ => exact h
theorem OR.mono {x y : Option V} (h : OR ρ x y) (p : ρ <+: ρ') : OR ρ' x y := by
  cases x with
  | none => trivial
  | some v =>
    cases y with
    | none => exact h
    | some w => exact VR.mono (v := v) (w := w) h p
theorem VsR.mono {xs ys : List V} (h : VsR ρ xs ys) (p : ρ <+: ρ') : VsR ρ' xs ys := Paired.mapP h fun _ _ r => r.mono p
theorem LR.mono {xs ys : St} (h : LR ρ xs ys) (p : ρ <+: ρ') : LR ρ' xs ys := Paired.mapP h fun _ _ r => r.mono p
theorem FR.mono {κ : Type} {xs ys : List (κ × V)} (h : FR ρ xs ys) (p : ρ <+: ρ') : FR ρ' xs ys := Paired.mapP h fun _ _ r => ⟨r.1, r.2.mono p⟩
theorem DR.mono {d : Option V} {dd : Option Addr} (h : DR ρ H d dd) (p : ρ <+: ρ') (k : ∀ b fs, H b = some (.xd fs) → H' b = some (.xd fs)) : DR ρ' H' d dd := by
  cases d with
  | none => exact h
  | some v =>
    obtain ⟨b, w, e, r, q⟩ := h
    exact ⟨b, w, e, r.mono p, k _ _ q⟩
theorem AR.mono {L : List Str} {fs : List (Option V)} {gs : List (Str × V)} (h : AR ρ L fs gs) (p : ρ <+: ρ') : AR ρ' L fs gs :=
  ⟨h.len, fun j x v e1 e2 => let ⟨w, e, r⟩ := h.at_ j x v e1 e2; ⟨w, e, r.mono p⟩, h.nd, h.sub⟩
theorem ObU.mono (p : ρ <+: ρ') (k : ∀ b fs, H b = some (.xd fs) → H' b = some (.xd fs)) : ∀ {o : Ob} {u : HO}, ObU G ρ H a o u → ObU G ρ' H' a o u
  | .lst _, _, ⟨ys, e, r⟩ => ⟨ys, e, VsR.mono r p⟩
  | .tup _, _, ⟨ys, e, r⟩ => ⟨ys, e, VsR.mono r p⟩
  | .dK _, _, ⟨ys, e, r⟩ => ⟨ys, e, FR.mono r p⟩
  | .dT _, _, ⟨ys, e, r⟩ => ⟨ys, e, FR.mono r p⟩
  | .ins _ _, _, ⟨x, L, C, dx, gs, m, n, e, r⟩ => ⟨x, L, C, dx, gs, m, n, e, r.mono p⟩
  | .exc _ _, _, ⟨C, dd, m, e, r⟩ => ⟨C, dd, m, e, DR.mono r p k⟩
  | .lck _, _, ⟨ob, u', e, r⟩ => ⟨ob, u', e, ObU.mono p k r⟩
theorem pre_get (p : ρ <+: ρ') (e : ρ[i]? = some a) : ρ'[i]? = some a := by
  have h := (VR.mono (v := .ref i) (w := .ref a) ⟨a, e, rfl⟩ p)
  obtain ⟨b, e', r⟩ := h
  cases r
  exact e'
theorem Rep.obj (r : Rep G ρ S H) (e : ρ[i]? = some a) : ∃ o, S[i]? = some o := by
  have := (List.getElem?_eq_some_iff.mp e).1
  exact ⟨_, List.getElem?_eq_getElem (by rw [← r.len]; exact this)⟩
theorem Rep.tracked (r : Rep G ρ S H) (e : a ∈ ρ) : ∃ u, H a = some u := by
  obtain ⟨i, hi, e⟩ := List.mem_iff_getElem.mp e
  have e' : ρ[i]? = some a := by rw [List.getElem?_eq_getElem hi, e]
  obtain ⟨o, ho⟩ := r.obj e'
  obtain ⟨u, h, _⟩ := r.at_ i o a ho e'
  exact ⟨u, h⟩
theorem Rep.fresh (r : Rep G ρ S H) (n : H a = none) : a ∉ ρ := fun h => by
  obtain ⟨u, e⟩ := r.tracked h
  rw [n] at e
  cases e
/-- what is in the store stands in another heap -/
theorem Rep.heap (r : Rep G ρ S H) (k : ∀ b u, H b = some u → H' b = some u) : Rep G ρ S H' :=
  ⟨r.nd, r.len, fun i o a h e => by
    obtain ⟨u, q, x⟩ := r.at_ i o a h e
    exact ⟨u, k _ _ q, x.mono (List.prefix_refl _) fun b fs z => k _ _ z⟩⟩
/-- something new beside the store -/
theorem Rep.beside (r : Rep G ρ S H) (n : H a = none) : Rep G ρ S (upd H a u) := r.heap fun b u q => by rw [upd_ne (ne_of_none q n)]; exact q
/-- a new object -/
theorem Rep.alloc (r : Rep G ρ S H) (n : H a = none) (x : ObU G (ρ ++ [a]) (upd H a u) a o u) : Rep G (ρ ++ [a]) (S ++ [o]) (upd H a u) := by
  refine ⟨?_, by simp [r.len], fun i o' a' h e => ?_⟩
  · rw [List.nodup_append]
    exact ⟨r.nd, by simp, fun b hb c hc => by
      rw [List.mem_singleton] at hc
      subst hc
      exact fun z => r.fresh n (z ▸ hb)⟩
  · by_cases hi : i < S.length
    · rw [List.getElem?_append_left hi] at h
      rw [List.getElem?_append_left (by rw [r.len]; exact hi)] at e
      obtain ⟨u', q, y⟩ := r.at_ i o' a' h e
      refine ⟨u', by rw [upd_ne (ne_of_none q n)]; exact q, y.mono (List.prefix_append _ _) fun b fs z => by rw [upd_ne (ne_of_none z n)]; exact z⟩
    · rw [List.getElem?_append_right (by omega)] at h
      rw [List.getElem?_append_right (by rw [r.len]; omega)] at e
      have e0 : i - S.length = 0 := by
        have := (List.getElem?_eq_some_iff.mp h).1
        simp at this
        omega
      rw [e0] at h
      rw [r.len, e0] at e
      cases h
      cases e
      exact ⟨u, upd_same, x⟩
theorem Rep.ref (r : Rep G ρ S H) (h : S[i]? = some o) (x : VR ρ (.ref i) w) : ∃ a u, w = .ref a ∧ ρ[i]? = some a ∧ H a = some u ∧ ObU G ρ H a o u := by
  obtain ⟨a, e, q⟩ := x
  obtain ⟨u, hu, y⟩ := r.at_ i o a h e
  exact ⟨a, u, q, e, hu, y⟩
end
/-- Paired's parts -/
theorem prd_get {α β : Type} {F : α → β → Prop} : ∀ {xs : List α} {ys : List β} {i : Nat} {x : α}, Paired F xs ys → xs[i]? = some x → ∃ y, ys[i]? = some y ∧ F x y
  | _, _, _, _, .nil, e => by simp at e
  | _, _, 0, _, .cons r _, e => by simp at e; subst e; exact ⟨_, rfl, r⟩
  | _, _, i + 1, x, .cons _ t, e => by
    obtain ⟨u, h1, h2⟩ := prd_get (i := i) (x := x) t (by simpa using e)
    exact ⟨u, by simpa using h1, h2⟩
theorem prd_len {α β : Type} {F : α → β → Prop} : ∀ {xs : List α} {ys : List β}, Paired F xs ys → xs.length = ys.length
  | _, _, .nil => rfl
  | _, _, .cons _ t => by rw [List.length_cons, List.length_cons, prd_len t]
theorem prd_set {α β : Type} {F : α → β → Prop} {x : α} {y : β} (r : F x y) : ∀ {xs : List α} {ys : List β} (i : Nat), Paired F xs ys → Paired F (xs.set i x) (ys.set i y)
  | _, _, _, .nil => .nil
  | _, _, 0, .cons _ t => .cons r t
  | _, _, i + 1, .cons q t => .cons q (prd_set r i t)
theorem prd_app {α β : Type} {F : α → β → Prop} : ∀ {xs xs' : List α} {ys ys' : List β}, Paired F xs ys → Paired F xs' ys' → Paired F (xs ++ xs') (ys ++ ys')
  | _, _, _, _, .nil, s => s
  | _, _, _, _, .cons r t, s => .cons r (prd_app t s)
theorem prd_rep {α β : Type} {F : α → β → Prop} {x : α} {y : β} (r : F x y) : ∀ n, Paired F (List.replicate n x) (List.replicate n y)
  | 0 => .nil
  | n + 1 => .cons r (prd_rep r n)
def R.bind {α β : Type} : R α → (α → Sto → R β) → R β
  | .ok a S, f => f a S
  | .exc c d S, _ => .exc c d S
  | .bad, _ => .bad
/-- a later moment: more objects; what was locked is locked as it was -/
structure Ext (ρ : List Addr) (H : Hp) (ρ' : List Addr) (H' : Hp) : Prop where
  pre : ρ <+: ρ'
  kp : ∀ b o u, H b = some (.frz o u) → H' b = some (.frz o u)
theorem Ext.refl {ρ : List Addr} {H : Hp} : Ext ρ H ρ H := ⟨List.prefix_refl _, fun _ _ _ h => h⟩
theorem Ext.trans {ρ ρ1 ρ2 : List Addr} {H H1 H2 : Hp} (a : Ext ρ H ρ1 H1) (b : Ext ρ1 H1 ρ2 H2) : Ext ρ H ρ2 H2 := ⟨a.pre.trans b.pre, fun c o u h => b.kp c o u (a.kp c o u h)⟩
theorem Ext.new {ρ : List Addr} {H : Hp} {p : Addr} {u : HO} (n : H p = none) : Ext ρ H (ρ ++ [p]) (upd H p u) := ⟨List.prefix_append _ _, fun b o u h => by rw [upd_ne (ne_of_none h n)]; exact h⟩
theorem Ext.aside {ρ : List Addr} {H : Hp} {p : Addr} {u : HO} (n : H p = none) : Ext ρ H ρ (upd H p u) := ⟨List.prefix_refl _, fun b o u h => by rw [upd_ne (ne_of_none h n)]; exact h⟩
/-- what is wanted behind an end -/
def Post {α β : Type} (G : Gm) (W : WX) (rel : List Addr → α → β → Prop) (ρ : List Addr) (H : Hp) (σ : St) (Q : β → Hp → Prop) : R α → Prop
  | .ok v S2 => ∀ (ρ2 : List Addr) (H2 : Hp) (w : β), Ext ρ H ρ2 H2 → Rep G ρ2 S2 H2 → rel ρ2 v w → Q w H2
  | .exc c d S2 => ∀ (ρ2 : List Addr) (H2 : Hp) (C : Addr) (dd : Option Addr), Ext ρ H ρ2 H2 → Rep G ρ2 S2 H2 → G.xcls c C → DR ρ2 H2 d dd → W (.ref C) dd σ H2
  | .bad => False
def den {α β : Type} (G : Gm) (W : WX) (rel : List Addr → α → β → Prop) (m : St → Sto → R α) : St → Hp → (β → Hp → Prop) → Prop := fun σ H Q => ∃ ρ S τ, Rep G ρ S H ∧ LR ρ τ σ ∧ Post G W rel ρ H σ Q (m τ S)
abbrev BR : List Addr → Bool → Bool → Prop := fun _ a b => b = a
def PostS (G : Gm) (W : WX) (ρ : List Addr) (H : Hp) (D : Ends) : RS → Prop
  | .nx τ2 S2 => ∀ (ρ2 : List Addr) (H2 : Hp) (σ2 : St), Ext ρ H ρ2 H2 → Rep G ρ2 S2 H2 → LR ρ2 τ2 σ2 → D.nx σ2 H2
  | .rt v S2 => ∀ (ρ2 : List Addr) (H2 : Hp) (w : V), Ext ρ H ρ2 H2 → Rep G ρ2 S2 H2 → VR ρ2 v w → D.rt w H2
  | .bk τ2 S2 => ∀ (ρ2 : List Addr) (H2 : Hp) (σ2 : St), Ext ρ H ρ2 H2 → Rep G ρ2 S2 H2 → LR ρ2 τ2 σ2 → D.bk σ2 H2
  | .ct τ2 S2 => ∀ (ρ2 : List Addr) (H2 : Hp) (σ2 : St), Ext ρ H ρ2 H2 → Rep G ρ2 S2 H2 → LR ρ2 τ2 σ2 → D.ct σ2 H2
  | .exc c d τ2 S2 => ∀ (ρ2 : List Addr) (H2 : Hp) (σ2 : St) (C : Addr) (dd : Option Addr), Ext ρ H ρ2 H2 → Rep G ρ2 S2 H2 → LR ρ2 τ2 σ2 → G.xcls c C → DR ρ2 H2 d dd → W (.ref C) dd σ2 H2
  | .bad => False
def denS (G : Gm) (W : WX) (m : MS) : TS := fun D σ H => ∃ ρ S τ, Rep G ρ S H ∧ LR ρ τ σ ∧ PostS G W ρ H D (m τ S)
/-- the tables of a program: its classes, its exceptions -/
structure Tab where
  cs : List (Str × List Str)
  xs : List Str
abbrev gm (T : Tab) (X : Cx) : Gm := ⟨X.K, X.mg, T.cs, T.xs⟩
abbrev DE (T : Tab) (X : Cx) (W : WX) (e : Expr) (m : ME) : Prop := PE X e (den (gm T X) W VR m)
abbrev DT (T : Tab) (X : Cx) (W : WX) (e : Expr) (m : MT) : Prop := PT X e (den (gm T X) W BR m)
abbrev DA (T : Tab) (X : Cx) (W : WX) (es : List Expr) (m : MA) : Prop := PA X es (den (gm T X) W VsR m)
abbrev DS (T : Tab) (X : Cx) (W : WX) (st : Stmt) (m : MS) : Prop := PS X st (denS (gm T X) W m)
abbrev DSs (T : Tab) (X : Cx) (W : WX) (st : List Stmt) (m : MS) : Prop := PSs X st (denS (gm T X) W m)
theorem _root_.L2.PE.imp {X : Cx} {e : Expr} {t t' : TE} (h : PE X e t) (k : ∀ σ H Q, t' σ H Q → t σ H Q) : PE X e t' := ⟨fun pins s σ H Q I q => h.run pins s σ H Q I (k _ _ _ q)⟩
theorem _root_.L2.PT.imp {X : Cx} {e : Expr} {t t' : TT} (h : PT X e t) (k : ∀ σ H Q, t' σ H Q → t σ H Q) : PT X e t' := ⟨fun pins s σ H Q I q => h.run pins s σ H Q I (k _ _ _ q)⟩
theorem _root_.L2.PA.imp {X : Cx} {e : List Expr} {t t' : TA} (h : PA X e t) (k : ∀ σ H Q, t' σ H Q → t σ H Q) : PA X e t' := ⟨fun pos pins s σ H Q I q => h.run pos pins s σ H Q I (k _ _ _ q)⟩
theorem _root_.L2.PS.imp {X : Cx} {e : Stmt} {t t' : TS} (h : PS X e t) (k : ∀ D σ H, t' D σ H → t D σ H) : PS X e t' := ⟨fun pins s σ H D I q => h.run pins s σ H D I (k _ _ _ q)⟩
theorem _root_.L2.PSs.imp {X : Cx} {e : List Stmt} {t t' : TS} (h : PSs X e t) (k : ∀ D σ H, t' D σ H → t D σ H) : PSs X e t' := ⟨fun pins s σ H D I q => h.run pins s σ H D I (k _ _ _ q)⟩
section
variable {G : Gm} {W : WX} {α β γ δ : Type} {rel1 : List Addr → α → β → Prop} {rel2 : List Addr → γ → δ → Prop} {ρ ρ' : List Addr} {H H' : Hp} {σ : St}
theorem Post.mono {Q : δ → Hp → Prop} {r : R γ} (h : Post G W rel2 ρ H σ Q r) (p : Ext ρ H ρ' H') : Post G W rel2 ρ' H' σ Q r := by
  cases r with
  | ok v S2 => exact fun ρ2 H2 w p2 => h ρ2 H2 w (p.trans p2)
  | exc c d S2 => exact fun ρ2 H2 C dd p2 => h ρ2 H2 C dd (p.trans p2)
  | bad => exact h
theorem Post.imp {Q Q' : δ → Hp → Prop} {r : R γ} (h : Post G W rel2 ρ H σ Q r) (k : ∀ w H, Q w H → Q' w H) : Post G W rel2 ρ H σ Q' r := by
  cases r with
  | ok v S2 => exact fun ρ2 H2 w p2 r2 x => k _ _ (h ρ2 H2 w p2 r2 x)
  | exc c d S2 => exact h
  | bad => exact h
/-- one part, then another -/
theorem Post.bind {Q : δ → Hp → Prop} {T : β → Hp → Prop} {r : R α} {f : α → Sto → R γ} (h : Post G W rel2 ρ H σ Q (r.bind f))
    (hf : ∀ (ρ1 : List Addr) (S1 : Sto) (H1 : Hp) (a : α) (b : β), Ext ρ H ρ1 H1 → Rep G ρ1 S1 H1 → rel1 ρ1 a b → Post G W rel2 ρ1 H1 σ Q (f a S1) → T b H1) : Post G W rel1 ρ H σ T r := by
  cases r with
  | ok v S2 => exact fun ρ2 H2 w p2 r2 x => hf ρ2 S2 H2 v w p2 r2 x (Post.mono (show Post G W rel2 ρ H σ Q (f v S2) from h) p2)
  | exc c d S2 => exact h
  | bad => exact h
end
theorem PostS.mono {G : Gm} {W : WX} {ρ ρ' : List Addr} {H H' : Hp} {D : Ends} {r : RS} (h : PostS G W ρ H D r) (p : Ext ρ H ρ' H') : PostS G W ρ' H' D r := by
  cases r with
  | nx τ S2 => exact fun ρ2 H2 w p2 => h ρ2 H2 w (p.trans p2)
  | rt v S2 => exact fun ρ2 H2 w p2 => h ρ2 H2 w (p.trans p2)
  | bk τ S2 => exact fun ρ2 H2 w p2 => h ρ2 H2 w (p.trans p2)
  | ct τ S2 => exact fun ρ2 H2 w p2 => h ρ2 H2 w (p.trans p2)
  | exc c d τ S2 => exact fun ρ2 H2 w C dd p2 => h ρ2 H2 w C dd (p.trans p2)
  | bad => exact h
def mVar (i : Nat) : ME := fun σ S => match σ[i]? with
  | some (some v) => .ok v S
  | _ => .bad
def mC (v : V) : ME := fun _ S => .ok v S
def mUn (o : V → Sto → R V) (a : ME) : ME := fun σ S => (a σ S).bind o
def mBin (o : V → V → Sto → R V) (a b : ME) : ME := fun σ S => (a σ S).bind fun x S1 => (b σ S1).bind fun y S2 => o x y S2
def mNil : MA := fun _ S => .ok [] S
def mCons (a : ME) (r : MA) : MA := fun σ S => (a σ S).bind fun x S1 => (r σ S1).bind fun xs S2 => .ok (x :: xs) S2
/-- a call by values -/
def mCall (f : List V → Sto → R V) (a : MA) : ME := fun σ S => (a σ S).bind f
/-- a value as a test: a bool -/
def mB (a : ME) : MT := fun σ S => (a σ S).bind fun x S1 => match x with
  | .bl b => .ok b S1
  | _ => .bad
def mNot (a : MT) : MT := fun σ S => (a σ S).bind fun b S1 => .ok (!b) S1
def mAnd (a b : MT) : MT := fun σ S => (a σ S).bind fun x S1 => if x = true then b σ S1 else .ok false S1
def mOr (a b : MT) : MT := fun σ S => (a σ S).bind fun x S1 => if x = true then .ok true S1 else b σ S1
def mIf (c : MT) (a b : ME) : ME := fun σ S => (c σ S).bind fun x S1 => if x = true then a σ S1 else b σ S1
section
variable {T : Tab} {W : WX} {X : Cx} {a b c : Expr} {ma mb : ME} {mt mu : MT} {pos : Pos} {rest : List Expr}
theorem de_var (i : Nat) {x : Str} (hN : X.N[i]? = some x := by rfl) (hv : Vis X.env.scope x := by first | exact Or.inl rfl | exact Or.inr (Or.inl rfl) | exact Or.inr (Or.inr rfl)) (hd : (x == ("__debug__" : Str)) = false := by decide)
    (hcd : (x == ("__classdict__" : Str)) = false := by decide) : DE T X W (.Name x pos) (mVar i) := by
  refine (pe_var hN hv hd hcd).imp fun σ H Q h => ?_
  obtain ⟨ρ, S, τ, r, l, h⟩ := h
  unfold mVar at h
  cases e : τ[i]? with
  | none => rw [e] at h; exact h.elim
  | some o =>
    rw [e] at h
    cases o with
    | none => exact h.elim
    | some v =>
      obtain ⟨y, ey, ry⟩ := prd_get l e
      cases y with
      | none => exact ry.elim
      | some w => exact ⟨w, ey, h ρ H w (Ext.refl) r ry⟩
theorem de_c {v : V} (h : PE X a (tC v)) (hv : ∀ i, v ≠ .ref i) : DE T X W a (mC v) := by
  refine h.imp fun σ H Q h => ?_
  obtain ⟨ρ, S, τ, r, l, h⟩ := h
  refine h ρ H v (Ext.refl) r ?_
  cases v with
  | ref i => exact absurd rfl (hv i)
  | _ => rfl
theorem de_int {i : Int} {j} : DE T X W (.Constant (.int i) j pos) (mC (.int i)) := de_c pe_int (fun _ h => by cases h)
theorem de_bl {i : Bool} {j} : DE T X W (.Constant (.bool i) j pos) (mC (.bl i)) := de_c pe_bl (fun _ h => by cases h)
theorem de_str {x : Str} {j} : DE T X W (.Constant (.str x) j pos) (mC (.str x)) := de_c pe_str (fun _ h => by cases h)
/-- an operation of two values in the store: what its function tells is what the machine does -/
def denR (G : Gm) (o : V → V → Sto → R V) : R2 := fun x y H Q => ∃ ρ S v u σ, Rep G ρ S H ∧ VR ρ v x ∧ VR ρ u y ∧ Post G (fun _ _ _ _ => False) VR ρ H σ Q (o v u S)
def denC (G : Gm) (o : List V → Sto → R V) : List V → Hp → VK → Prop := fun xs H Q => ∃ ρ S vs σ, Rep G ρ S H ∧ VsR ρ vs xs ∧ Post G (fun _ _ _ _ => False) VR ρ H σ Q (o vs S)
/-- an operation that lets no exception out -/
def R.quiet {α : Type} : R α → Prop
  | .exc _ _ _ => False
  | _ => True
theorem Post.still {α β : Type} {G : Gm} {W W' : WX} {rel : List Addr → α → β → Prop} {ρ : List Addr} {H : Hp} {σ σ' : St} {Q : β → Hp → Prop} {r : R α} (h : Post G W rel ρ H σ Q r) (k : r.quiet) : Post G W' rel ρ H σ' Q r := by
  cases r with
  | ok v S2 => exact h
  | exc c d S2 => exact k.elim
  | bad => exact h
abbrev Op2 (T : Tab) (X : Cx) (f : Value → Value → Sem Value) (o : V → V → Sto → R V) : Prop := OpR X f (denR (gm T X) o) ∧ ∀ x y S, (o x y S).quiet
theorem den_bin {G : Gm} {o : V → V → Sto → R V} {σ : St} {H : Hp} {Q : VK} (ho : ∀ x y S, (o x y S).quiet) (h : den G W VR (mBin o ma mb) σ H Q) : tOp (denR G o) (den G W VR ma) (den G W VR mb) σ H Q := by
  obtain ⟨ρ, S, τ, r, l, h⟩ := h
  refine ⟨ρ, S, τ, r, l, Post.bind h fun ρ1 S1 H1 x w p1 r1 x1 h1 => ?_⟩
  refine ⟨ρ1, S1, τ, r1, l.mono p1.pre, Post.bind h1 fun ρ2 S2 H2 y u p2 r2 y2 h2 => ?_⟩
  exact ⟨ρ2, S2, x, y, σ, r2, x1.mono p2.pre, y2, h2.still (ho _ _ _)⟩
theorem de_bin {op : Operator} {o : V → V → Sto → R V} (ho : Op2 T X (binaryOp op) o) (ha : DE T X W a ma) (hb : DE T X W b mb) : DE T X W (.BinOp a op b pos) (mBin o ma mb) := (pe_op ho.1 ha hb).imp fun _ _ _ h => den_bin ho.2 h
theorem de_cmp {op : CmpOp} {o : V → V → Sto → R V} (ho : Op2 T X (compareOp op) o) (ha : DE T X W a ma) (hb : DE T X W b mb) (hm : behindInMarks op b = false) : DE T X W (.Compare a [op] [b] pos) (mBin o ma mb) := (pe_cmpR ho.1 ha hb hm).imp fun _ _ _ h => den_bin ho.2 h
theorem Post.toB {G : Gm} {ρ : List Addr} {H : Hp} {σ : St} {Q : Bool → Hp → Prop} {r : R V} (h : Post G W BR ρ H σ Q (r.bind fun x S1 => match x with
  | .bl b => .ok b S1
  | _ => .bad)) : Post G W VR ρ H σ (fun x H' => ∃ k, x = .bl k ∧ Q k H') r := Post.bind h fun ρ1 S1 H1 x w p1 r1 x1 h1 => by
  cases x with
  | bl b =>
    cases x1
    exact ⟨b, rfl, h1 ρ1 H1 b (Ext.refl) r1 rfl⟩
  | _ => exact h1.elim
theorem den_toB {G : Gm} {m : ME} {σ : St} {H : Hp} {Q : Bool → Hp → Prop} (h : den G W BR (mB m) σ H Q) : den G W VR m σ H (fun x H' => ∃ k, x = .bl k ∧ Q k H') := by
  obtain ⟨ρ, S, τ, r, l, h⟩ := h
  exact ⟨ρ, S, τ, r, l, Post.toB h⟩
theorem dt_cmp {op : CmpOp} {o : V → V → Sto → R V} (ho : Op2 T X (compareOp op) o) (ha : DE T X W a ma) (hb : DE T X W b mb) (hm : behindInMarks op b = false) : DT T X W (.Compare a [op] [b] pos) (mB (mBin o ma mb)) :=
  (pt_cmpR ho.1 ha hb hm).imp fun σ H Q h => den_bin ho.2 (den_toB h)
theorem dt_val (h : DE T X W a ma) (he : ∀ whole, isTrue a X.env whole = (do let v ← whole; standAt a.pos; holding [v] (truthy v)) := by intro _; rfl) : DT T X W a (mB ma) := (pt_val h he).imp fun _ _ _ h => den_toB h
theorem dt_not (ha : DT T X W a mt) : DT T X W (.UnaryOp .Not a pos) (mNot mt) := (pt_not ha).imp fun σ H Q h => by
  obtain ⟨ρ, S, τ, r, l, h⟩ := h
  refine ⟨ρ, S, τ, r, l, Post.bind h fun ρ1 S1 H1 x w p1 r1 x1 h1 => ?_⟩
  cases x1
  exact h1 ρ1 H1 _ (Ext.refl) r1 rfl
abbrev DW (T : Tab) (X : Cx) (W : WX) (e : Expr) (m : MT) : Prop := PW X e (den (gm T X) W BR m)
theorem _root_.L2.PW.imp {e : Expr} {t t' : TT} (h : PW X e t) (k : ∀ σ H Q, t' σ H Q → t σ H Q) : PW X e t' := ⟨fun wh pins s σ H Q I q => h.run wh pins s σ H Q I (k _ _ _ q)⟩
theorem dw_or1 (ha : DT T X W a mt) : DW T X W (.BoolOp .Or [a] pos) mt := pw_or1 ha
theorem dw_or (ha : DT T X W a mt) (hb : DW T X W (.BoolOp .Or (b :: rest) pos) mu) : DW T X W (.BoolOp .Or (a :: b :: rest) pos) (mOr mt mu) := (pw_or ha hb).imp fun σ H Q h => by
  obtain ⟨ρ, S, τ, r, l, h⟩ := h
  refine ⟨ρ, S, τ, r, l, Post.bind h fun ρ1 S1 H1 x w p1 r1 x1 h1 => ?_⟩
  cases x1
  cases x with
  | true => exact h1 ρ1 H1 _ (Ext.refl) r1 rfl
  | false => exact ⟨ρ1, S1, τ, r1, l.mono p1.pre, h1⟩
theorem dt_w (h : DW T X W a mt) : DT T X W a mt := h.pt
end
end Mi
namespace Mi
open PySem PySem.Spec L2
open PyProof.Rows hiding St
def mAndV (a b : ME) : ME := fun σ S => (a σ S).bind fun x S1 => match x with
  | .bl true => b σ S1
  | .bl false => .ok (.bl false) S1
  | _ => .bad
def mOrV (a b : ME) : ME := fun σ S => (a σ S).bind fun x S1 => match x with
  | .bl true => .ok (.bl true) S1
  | .bl false => b σ S1
  | _ => .bad
def mNotV (a : ME) : ME := fun σ S => (a σ S).bind fun x S1 => match x with
  | .bl b => .ok (.bl (!b)) S1
  | _ => .bad
def mTup (a : MA) : ME := fun σ S => (a σ S).bind fun xs S1 => if xs.length ≤ sizeLine then .ok (.ref S1.length) (S1 ++ [.tup xs]) else .bad
def mLst (a : MA) : ME := fun σ S => (a σ S).bind fun xs S1 => if xs.length ≤ sizeLine then .ok (.ref S1.length) (S1 ++ [.lst xs]) else .bad
section
variable {T : Tab} {W : WX} {X : Cx} {a b c : Expr} {ma mb : ME} {mt mu : MT} {ms : MA} {pos : Pos} {rest es : List Expr}
theorem de_one {op : BoolOp} (ha : DE T X W a ma) : DE T X W (.BoolOp op [a] pos) ma := pe_one ha
theorem de_and (ha : DE T X W a ma) (hb : DE T X W (.BoolOp .And (b :: rest) pos) mb) : DE T X W (.BoolOp .And (a :: b :: rest) pos) (mAndV ma mb) := (pe_and ha hb).imp fun σ H Q h => by
  obtain ⟨ρ, S, τ, r, l, h⟩ := h
  refine ⟨ρ, S, τ, r, l, Post.bind h fun ρ1 S1 H1 x w p1 r1 x1 h1 => ?_⟩
  cases x with
  | bl k =>
    cases x1
    refine ⟨k, rfl, ?_⟩
    cases k with
    | true => exact ⟨ρ1, S1, τ, r1, l.mono p1.pre, h1⟩
    | false => exact h1 ρ1 H1 _ (Ext.refl) r1 rfl
  | _ => exact h1.elim
theorem de_not (ha : DE T X W a ma) : DE T X W (.UnaryOp .Not a pos) (mNotV ma) := (pe_not ha).imp fun σ H Q h => by
  obtain ⟨ρ, S, τ, r, l, h⟩ := h
  refine ⟨ρ, S, τ, r, l, Post.bind h fun ρ1 S1 H1 x w p1 r1 x1 h1 => ?_⟩
  cases x with
  | bl k =>
    cases x1
    exact ⟨k, rfl, h1 ρ1 H1 _ (Ext.refl) r1 rfl⟩
  | _ => exact h1.elim
theorem da_nil : DA T X W [] mNil := pa_nil.imp fun σ H Q h => by
  obtain ⟨ρ, S, τ, r, l, h⟩ := h
  exact h ρ H [] (Ext.refl) r .nil
theorem da_cons (ha : DE T X W a ma) (hr : DA T X W es ms) (hs : starEach (a :: es) X.env = (false, eval a X.env) :: starEach es X.env := by rfl) : DA T X W (a :: es) (mCons ma ms) := (pa_cons ha hr hs).imp fun σ H Q h => by
  obtain ⟨ρ, S, τ, r, l, h⟩ := h
  refine ⟨ρ, S, τ, r, l, Post.bind h fun ρ1 S1 H1 x w p1 r1 x1 h1 => ?_⟩
  refine ⟨ρ1, S1, τ, r1, l.mono p1.pre, Post.bind h1 fun ρ2 S2 H2 xs ws p2 r2 x2 h2 => ?_⟩
  exact h2 ρ2 H2 _ (Ext.refl) r2 (.cons (x1.mono p2.pre) x2)
theorem new_ref {ρ : List Addr} {S : Sto} {p : Addr} (h : ρ.length = S.length) : VR (ρ ++ [p]) (.ref S.length) (.ref p) := ⟨p, by rw [← h, List.getElem?_append_right (Nat.le_refl _), Nat.sub_self]; rfl, rfl⟩
theorem de_lst (h : DA T X W es ms) : DE T X W (.List es pos) (mLst ms) := (pe_lst h).imp fun σ H Q h => by
  obtain ⟨ρ, S, τ, r, l, h⟩ := h
  refine ⟨ρ, S, τ, r, l, Post.bind h fun ρ1 S1 H1 xs ws p1 r1 x1 h1 => ?_⟩
  by_cases z : xs.length ≤ sizeLine
  · rw [if_pos z] at h1
    refine ⟨by rw [← prd_len x1]; exact z, fun p np => h1 (ρ1 ++ [p]) _ _ (Ext.new np) (r1.alloc np ⟨ws, rfl, VsR.mono x1 (List.prefix_append _ _)⟩) (new_ref r1.len)⟩
  · rw [if_neg z] at h1
    exact h1.elim
end
structure Ctx (X : Cx) (W : WX) (k : Nat) : Prop where
  calm : X.calm = true
  nd : X.N.Nodup
  room : Room k X.A
  tk : Takes X W ∨ ∀ c d σ H, ¬ W c d σ H
  own : PassesOwn (model X.prog X.w) X.A X.env X.xe
theorem Ctx.pass {X : Cx} {W : WX} {k : Nat} (C : Ctx X W k) : ∀ σ, PassesAt (L2.CX X.prog X.w) X σ (WE W σ) := fun σ => by
  rcases C.tk with h | h
  · exact passAt h σ
  · intro _ _ _ _ _ _ c
    obtain ⟨_, _, _, _, _, _, _, _, _, _, _, _, z⟩ := c
    exact (h _ _ _ _ z).elim
/-- .. of a statement: what is raised is taken -/
structure CtS (X : Cx) (W : WX) (k : Nat) : Prop extends Ctx X W k where
  takes : Takes X W
  stk : X.stack = X.env :: X.outer
  frm : X.env.frame = some X.env.locals
  ex : X.ex = []
abbrev Fn := List V → Sto → R V
/-- a def keeps to its function -/
def spOf (G : Gm) (n : Nat) (f : Fn) : Sp := fun vs H Q E => vs.length = n ∧ ∃ ρ S args σ, Rep G ρ S H ∧ VsR ρ args vs ∧ Post G (fun cls d _ H => E cls d H) VR ρ H σ Q (f args S)
/-- the module's def x is the function f -/
def FnF (T : Tab) (P : Program) (w : World) (K : PySem.W.Frag) (mg : Str → Option Value) (base : Heap) (x : Str) (n k : Nat) (f : Fn) : Prop :=
  ∃ (a : Addr) (fd : FuncData) (ps : List Str), mg x = some (.ref a) ∧ PySem.W.keepIn K (.ref a) = true ∧ Binds K fd ps [] ∧ FnOk P w K mg base (L2.CX P w) k a fd ps (spOf ⟨K, mg, T.cs, T.xs⟩ n f)
abbrev FnX (T : Tab) (X : Cx) (x : Str) (n k : Nat) (f : Fn) : Prop := FnF T X.prog X.w X.K X.mg X.base x n k f
/-- the method m of the class c is the function f -/
def MeF (T : Tab) (P : Program) (w : World) (K : PySem.W.Frag) (mg : Str → Option Value) (base : Heap) (c : Nat) (m : Str) (n k : Nat) (f : Fn) : Prop :=
  ∃ (x : Str) (L : List Str) (C a : Addr) (fd : FuncData) (ps : List Str), T.cs[c]? = some (x, L) ∧ mg x = some (.ref C) ∧ Cls K C ∧ Meth K C m a ∧ m ∉ L ∧ Binds K fd ps [] ∧ FnOk P w K mg base (L2.CX P w) k a fd ps (spOf ⟨K, mg, T.cs, T.xs⟩ n f)
abbrev MeX (T : Tab) (X : Cx) (c : Nat) (m : Str) (n k : Nat) (f : Fn) : Prop := MeF T X.prog X.w X.K X.mg X.base c m n k f
section
variable {T : Tab} {W : WX} {X : Cx} {e o : Expr} {ma : ME} {ms : MA} {x m : Str} {p pos apos : Pos} {es : List Expr} {n j k : Nat} {f : Fn}
theorem run_f {a : Addr} {fd : FuncData} {ps : List Str} {pins : List (Addr × Obj)} {σ : St} {H : Hp} {s : Shared} {Q : VK} {us : List Value} {vs : List V} {S : Sto} {ρ : List Addr} {args : List V} (C : Ctx X W k)
    (F : FnOk X.prog X.w X.K X.mg X.base (L2.CX X.prog X.w) j a fd ps (spOf (gm T X) n f)) (hj : j ≤ k) (hb : Binds X.K fd ps []) (I : Inv X pins σ H s) (r : Vals vs us) (hn : vs.length = n)
    (rp : Rep (gm T X) ρ S H) (ra : VsR ρ args vs) (h : Post (gm T X) W VR ρ H σ Q (f args S)) : wpAny (model X.prog X.w) X.A (call (.ref a) us) (EP X pins σ Q) X.xe s := by
  refine run_fnS (E := WE W) (F.mono hj) C.room hb (C.pass σ) I r ⟨hn, ρ, S, args, σ, rp, ra, ?_⟩
  cases e : f args S with
  | ok v S2 => rw [e] at h; exact h
  | exc c d S2 => rw [e] at h; exact h
  | bad => rw [e] at h; exact h.elim
theorem args_len {xs ws : List V} {ρ : List Addr} (h : VsR ρ xs ws) : ws.length = xs.length := (prd_len h).symm
/-- f(..): the number of arguments is looked at -/
def mApp (n : Nat) (f : Fn) (a : MA) : ME := fun σ S => (a σ S).bind fun xs S1 => if xs.length = n then f xs S1 else .bad
theorem de_call (C : Ctx X W k) (F : FnX T X x n j f) (hj : j ≤ k) (ha : DA T X W (e :: es) ms) (hg : Gl X x := by rfl) (hdb : (x == ("__debug__" : Str)) = false := by decide)
    (he : starEach (e :: es) X.env = (false, eval e X.env) :: starEach es X.env := by rfl) (hpl : (backTo pos (starEach es X.env)).any (·.1) = false := by rfl) : DE T X W (.Call (.Name x p) (e :: es) [] pos) (mApp n f ms) := by
  obtain ⟨a, fd, ps, hm, hk, hb, F⟩ := F
  refine ⟨fun pins s σ H Q I h => ?_⟩
  obtain ⟨ρ, S, τ, r, l, h⟩ := h
  refine wpAny_Call_Name_kw (ld_glob I hg hm ?_ hdb)
  have h' : den (gm T X) W VsR ms σ H (fun vs H1 => vs.length = n ∧ ∃ ρ1 S1 args, Rep (gm T X) ρ1 S1 H1 ∧ VsR ρ1 args vs ∧ Post (gm T X) W VR ρ1 H1 σ Q (f args S1)) := by
    refine ⟨ρ, S, τ, r, l, Post.bind h fun ρ1 S1 H1 xs ws p1 r1 x1 h1 => ?_⟩
    by_cases z : xs.length = n
    · rw [if_pos z] at h1
      exact ⟨(args_len x1).trans z, ρ1, S1, xs, r1, x1, h1⟩
    · rw [if_neg z] at h1
      exact h1.elim
  refine PySem.W.callWith_K (h₀ := X.base) I.ok.mod.kin hk (thn (ha.run pos pins s σ H _ I h') fun us s1 ⟨vs, H1, I1, r, q⟩ => ⟨I1.kIn, ?_⟩) he hpl
  obtain ⟨hn, ρ1, S1, args, r1, x1, h1⟩ := q
  exact run_f C F hj hb I1 r hn r1 x1 h1
theorem de_call0 (C : Ctx X W k) (F : FnX T X x 0 j f) (hj : j ≤ k) (hg : Gl X x := by rfl) (hdb : (x == ("__debug__" : Str)) = false := by decide) : DE T X W (.Call (.Name x p) [] [] pos) (mApp 0 f mNil) := by
  obtain ⟨a, fd, ps, hm, hk, hb, F⟩ := F
  refine ⟨fun pins s σ H Q I h => ?_⟩
  obtain ⟨ρ, S, τ, r, l, h⟩ := h
  refine wpAny_Call_Name_kw (ld_glob I hg hm ?_ hdb)
  exact PySem.W.callWith_K0 I.kIn hk (run_f (us := []) C F hj hb I .nil rfl r .nil h)
def look {α : Type} : List (Nat × α) → Nat → Option α
  | [], _ => none
  | (c, f) :: r, d => if c = d then some f else look r d
def MTabF (T : Tab) (P : Program) (w : World) (K : PySem.W.Frag) (mg : Str → Option Value) (base : Heap) (m : Str) (n k : Nat) : List (Nat × Fn) → Prop
  | [] => True
  | (c, f) :: r => MeF T P w K mg base c m n k f ∧ MTabF T P w K mg base m n k r
abbrev MTab (T : Tab) (X : Cx) (m : Str) (n k : Nat) (tab : List (Nat × Fn)) : Prop := MTabF T X.prog X.w X.K X.mg X.base m n k tab
theorem MTab.get {tab : List (Nat × Fn)} : ∀ {tab : List (Nat × Fn)} {c : Nat}, MTab T X m n k tab → look tab c = some f → MeX T X c m n k f
  | [], _, _, e => by cases e
  | (d, g) :: r, c, h, e => by
    unfold look at e
    by_cases z : d = c
    · rw [if_pos z] at e
      cases e
      rw [← z]
      exact h.1
    · rw [if_neg z] at e
      exact MTab.get (tab := tab) h.2 e
theorem AR.no {ρ : List Addr} {L : List Str} {fs : List (Option V)} {gs : List (Str × V)} (h : AR ρ L fs gs) (n : m ∉ L) : gs.lookup m = none := by
  cases e : gs.lookup m with
  | none => rfl
  | some v =>
    have := PySem.mem_of_lookup e
    exact absurd (h.sub m (List.mem_map_of_mem (f := (·.1)) this)) n
/-- the classes of the table have the attribute at its place -/
def FTabF (T : Tab) (K : PySem.W.Frag) (mg : Str → Option Value) (f : Str) : List (Nat × Nat) → Prop
  | [] => True
  | (c, j) :: r => (∃ x L C, T.cs[c]? = some (x, L) ∧ L[j]? = some f ∧ L.Nodup ∧ L.length < 1000 ∧ mg x = some (.ref C) ∧ Cls K C ∧ NoAttr K C f) ∧ FTabF T K mg f r
abbrev FTab (T : Tab) (X : Cx) (f : Str) (tab : List (Nat × Nat)) : Prop := FTabF T X.K X.mg f tab
theorem FTab.get : ∀ {tab : List (Nat × Nat)} {c i : Nat}, FTab T X m tab → look tab c = some i → ∃ x L C, T.cs[c]? = some (x, L) ∧ L[i]? = some m ∧ L.Nodup ∧ L.length < 1000 ∧ X.mg x = some (.ref C) ∧ Cls X.K C ∧ NoAttr X.K C m
  | [], _, _, _, e => by cases e
  | (d, g) :: r, c, i, h, e => by
    unfold look at e
    by_cases z : d = c
    · rw [if_pos z] at e
      cases e
      rw [← z]
      exact h.1
    · rw [if_neg z] at e
      exact FTab.get h.2 e
end
end Mi
namespace Mi
open PySem PySem.Spec L2
open PyProof.Rows hiding St
def R.lift {α : Type} : R α → St → (α → Sto → RS) → RS
  | .ok a S, _, f => f a S
  | .exc c d S, σ, _ => .exc c d σ S
  | .bad, _, _ => .bad
def RS.seq : RS → (St → Sto → RS) → RS
  | .nx σ S, f => f σ S
  | r, _ => r
def mSkip : MS := fun σ S => .nx σ S
def mSeq (a b : MS) : MS := fun σ S => (a σ S).seq b
def mExpr (a : ME) : MS := fun σ S => (a σ S).lift σ fun _ S1 => .nx σ S1
def mSet (i : Nat) (a : ME) : MS := fun σ S => (a σ S).lift σ fun v S1 => .nx (σ.set i (some v)) S1
def mRet (a : ME) : MS := fun σ S => (a σ S).lift σ fun v S1 => .rt v S1
def mRetN : MS := fun _ S => .rt .non S
def mBrk : MS := fun σ S => .bk σ S
def mIfS (c : MT) (a b : MS) : MS := fun σ S => (c σ S).lift σ fun x S1 => if x = true then a σ S1 else b σ S1
def mAug (i : Nat) (o : V → V → Sto → R V) (a : ME) : MS := fun σ S => (mVar i σ S).lift σ fun x S0 => (a σ S0).lift σ fun y S1 => (o x y S1).lift σ fun z S2 => .nx (σ.set i (some z)) S2
/-- o[i] = e by a store's function -/
abbrev Op3 := V → V → V → Sto → R Unit
def mSetI (t : Op3) (o i a : ME) : MS := fun σ S => (a σ S).lift σ fun v S1 => (o σ S1).lift σ fun x S2 => (i σ S2).lift σ fun y S3 => (t x y v S3).lift σ fun _ S4 => .nx σ S4
section
variable {G : Gm} {W : WX} {α β : Type} {rel : List Addr → α → β → Prop} {ρ : List Addr} {H : Hp} {σ τ : St} {D : Ends}
theorem PostS.lift {T : β → Hp → Prop} {r : R α} {f : α → Sto → RS} (h : PostS G W ρ H D (r.lift τ f)) (l : LR ρ τ σ)
    (hf : ∀ (ρ1 : List Addr) (S1 : Sto) (H1 : Hp) (a : α) (b : β), Ext ρ H ρ1 H1 → Rep G ρ1 S1 H1 → rel ρ1 a b → LR ρ1 τ σ → PostS G W ρ1 H1 D (f a S1) → T b H1) : Post G W rel ρ H σ T r := by
  cases r with
  | ok v S2 => exact fun ρ2 H2 w p2 r2 x => hf ρ2 S2 H2 v w p2 r2 x (l.mono p2.pre) (PostS.mono (show PostS G W ρ H D (f v S2) from h) p2)
  | exc c d S2 => exact fun ρ2 H2 C dd p2 r2 => h ρ2 H2 σ C dd p2 r2 (l.mono p2.pre)
  | bad => exact h
end
section
variable {T : Tab} {W : WX} {X : Cx} {e o c i : Expr} {ma mb mo mi : ME} {mt : MT} {ms mu : MS} {x m : Str} {p pos pos' apos : Pos} {st : Stmt} {sts sts' : List Stmt} {n j k : Nat} {f : Fn}
theorem ds_nil : DSs T X W [] mSkip := pss_nil.imp fun D σ H h => by
  obtain ⟨ρ, S, τ, r, l, h⟩ := h
  exact h ρ H σ (Ext.refl) r l
theorem ds_one (h : DS T X W st ms) : DSs T X W [st] ms := pss_one h
theorem ds_cons (h : DS T X W st ms) (hr : DSs T X W sts mu) : DSs T X W (st :: sts) (mSeq ms mu) := (pss_cons h hr).imp fun D σ H h => by
  obtain ⟨ρ, S, τ, r, l, h⟩ := h
  refine ⟨ρ, S, τ, r, l, ?_⟩
  unfold mSeq at h
  cases e : ms τ S with
  | nx τ2 S2 =>
    rw [e] at h
    exact fun ρ2 H2 σ2 p2 r2 l2 => ⟨ρ2, S2, τ2, r2, l2, PostS.mono (show PostS _ W ρ H D (mu τ2 S2) from h) p2⟩
  | rt v S2 => rw [e] at h; exact h
  | bk τ2 S2 => rw [e] at h; exact h
  | ct τ2 S2 => rw [e] at h; exact h
  | exc c d τ2 S2 => rw [e] at h; exact h
  | bad => rw [e] at h; exact h.elim
theorem ds_ret (he : DE T X W e ma) : DS T X W (.Return (some e) pos) (mRet ma) := (ps_ret he).imp fun D σ H h => by
  obtain ⟨ρ, S, τ, r, l, h⟩ := h
  refine ⟨ρ, S, τ, r, l, PostS.lift h l fun ρ1 S1 H1 v w p1 r1 x1 l1 h1 => ?_⟩
  exact h1 ρ1 H1 w (Ext.refl) r1 x1
theorem ds_if (hc : DT T X W c mt) (ha : DSs T X W sts ms) (hb : DSs T X W sts' mu) : DS T X W (.If c sts sts' pos) (mIfS mt ms mu) := (ps_if hc ha hb).imp fun D σ H h => by
  obtain ⟨ρ, S, τ, r, l, h⟩ := h
  refine ⟨ρ, S, τ, r, l, PostS.lift h l fun ρ1 S1 H1 v w p1 r1 x1 l1 h1 => ?_⟩
  cases x1
  cases v with
  | true => exact ⟨ρ1, S1, τ, r1, l1, h1⟩
  | false => exact ⟨ρ1, S1, τ, r1, l1, h1⟩
theorem lr_set {ρ : List Addr} {τ σ : St} {v w : V} (l : LR ρ τ σ) (h : VR ρ v w) (i : Nat) : LR ρ (τ.set i (some v)) (σ.set i (some w)) := prd_set (F := OR ρ) (x := some v) (y := some w) h i l
theorem ds_set {i : Nat} (C : X.N.Nodup) (he : DE T X W e ma) (hi : X.N[i]? = some x := by rfl) (hx : Loc X.env.scope x := by first | exact Or.inl rfl | exact Or.inr rfl) (hs : swapsWith e (some (.Name x pos')) pos.line X.env = pure false := by rfl)
    (hf : X.fn x = true ∨ X.env.scope.names.lookup x = some .local := by first | exact .inl rfl | exact .inr rfl) : DS T X W (.Assign [.Name x pos'] e pos) (mSet i ma) := (ps_set (i := i) C hi hx he hs hf).imp fun D σ H h => by
  obtain ⟨ρ, S, τ, r, l, h⟩ := h
  refine ⟨ρ, S, τ, r, l, PostS.lift h l fun ρ1 S1 H1 v w p1 r1 x1 l1 h1 => ?_⟩
  exact h1 ρ1 H1 _ (Ext.refl) r1 (lr_set l1 x1 i)
end
/-- an item of a walk: a value; or a new tuple of some values -/
inductive Itv where
  | v (x : V) | t (xs : List V)
def ItvR (ρ : List Addr) (H : Hp) : Itv → V → Prop
  | .v x, w => VR ρ x w
  | .t xs, w => ∃ p ws, w = .ref p ∧ H p = some (.tup ws) ∧ VsR ρ xs ws
abbrev Tg := Itv → St → Sto → Option St
def tgName (i : Nat) : Tg := fun it σ _ => match it with
  | .v x => some (σ.set i (some x))
  | .t _ => none
def rdT (S : Sto) : V → Option (List V)
  | .ref i => match S[i]? with
    | some (.tup xs) => some xs
    | _ => none
  | _ => none
/-- but for the places of a list as it was -/
def Bt (is : List Nat) (σ σ2 : St) : Prop := σ2.length = σ.length ∧ ∀ j, j ∉ is → σ2[j]? = σ[j]?
theorem Bt.refl (is : List Nat) (σ : St) : Bt is σ σ := ⟨rfl, fun _ _ => rfl⟩
theorem Bt.set {is : List Nat} {σ σ2 : St} {i : Nat} {v : Option V} (h : Bt is (σ.set i v) σ2) : Bt (i :: is) σ σ2 := ⟨by rw [h.1, List.length_set], fun j hj => by
  rw [h.2 j fun z => hj (List.mem_cons_of_mem _ z), List.getElem?_set_ne fun z => hj (by rw [z]; exact List.mem_cons_self)]⟩
def TgOk (G : Gm) (g : TG) (is : List Nat) (tg : Tg) : Prop := ∀ (ρ : List Addr) (S : Sto) (H : Hp) (τ σ : St) (it : Itv) (w : V) (τ2 : St) (Q : St → Hp → Prop), Rep G ρ S H → LR ρ τ σ → ItvR ρ H it w → tg it τ S = some τ2 → (∀ σ2, LR ρ τ2 σ2 → Bt is σ σ2 → Q σ2 H) → g w σ H Q
def DG (T : Tab) (X : Cx) (e : Expr) (is : List Nat) (tg : Tg) : Prop := ∃ g : TG, PG X e g ∧ TgOk (gm T X) g is tg
theorem Rep.rdT {G : Gm} {ρ : List Addr} {S : Sto} {H : Hp} {v w : V} {xs : List V} (r : Rep G ρ S H) (h : rdT S v = some xs) (x : VR ρ v w) : ∃ a ws, w = .ref a ∧ H a = some (.tup ws) ∧ VsR ρ xs ws := by
  unfold Mi.rdT at h
  split at h
  · split at h
    · rename_i i _ ys es
      cases h
      obtain ⟨a, u, ew, _, eh, ys, eu, vr⟩ := r.ref es x
      subst eu
      exact ⟨a, ys, ew, eh, vr⟩
    · cases h
  · cases h
section
variable {T : Tab} {W : WX} {X : Cx} {x : Str} {pos : Pos} {k : Nat}
theorem tgok_name {G : Gm} {i : Nat} : TgOk G (gName i) [i] (tgName i) := fun ρ S H τ σ it w τ2 Q r l x e q => by
  cases it with
  | v y => cases e; exact q _ (lr_set l x i) (Bt.refl [] _).set
  | t ys => cases e
theorem dg_name {i : Nat} (C : X.N.Nodup) (hi : X.N[i]? = some x := by rfl) (hx : Loc X.env.scope x := by first | exact Or.inl rfl | exact Or.inr rfl) (hf : X.fn x = true ∨ X.env.scope.names.lookup x = some .local := by first | exact .inl rfl | exact .inr rfl) : DG T X (.Name x pos) [i] (tgName i) :=
  ⟨gName i, pg_name C hi hx hf, tgok_name⟩
end
/-- items and a look at the store that must hold at each turn -/
structure Src where
  its : List Itv
  chk : Sto → Bool
def IsIt (G : Gm) (H : Hp) (ρ : List Addr) (s : Src) (J : It) : Prop := ∀ ρ2 S2 H2, Ext ρ H ρ2 H2 → Rep G ρ2 S2 H2 → s.chk S2 = true → J.stop s.its.length H2 ∧ ∀ i it, s.its[i]? = some it → J.go i H2 ∧ ∀ x H3, J.yld i H2 x H3 → Ext ρ2 H2 ρ2 H3 ∧ Rep G ρ2 S2 H3 ∧ ItvR ρ2 H3 it x
def denI (G : Gm) (W : WX) (m : St → Sto → R Src) : TI := fun σ H Q => den G W (fun ρ1 (a : Src) (b : List Addr × Src) => b = (ρ1, a)) m σ H fun b H1 => ∀ J, IsIt G H1 b.1 b.2 J → Q J H1
abbrev DI (T : Tab) (X : Cx) (W : WX) (tg e : Expr) (m : St → Sto → R Src) : Prop := PI X tg e (denI (gm T X) W m)
def mFor1 (chk : Sto → Bool) (tg : Tg) (b : MS) : List Itv → MS
  | [], σ, S => if chk S = true then .nx σ S else .bad
  | it :: r, σ, S => if chk S = true then (match tg it σ S with
    | some σ1 => (match b σ1 S with
      | .nx σ2 S2 => mFor1 chk tg b r σ2 S2
      | .ct σ2 S2 => mFor1 chk tg b r σ2 S2
      | .bk σ2 S2 => .nx σ2 S2
      | r => r)
    | none => .bad) else .bad
def mFor (src : St → Sto → R Src) (tg : Tg) (b : MS) : MS := fun σ S => (src σ S).lift σ fun s S1 => mFor1 s.chk tg b s.its σ S1
section
variable {T : Tab} {W : WX} {X : Cx} {tge iter : Expr} {is : List Nat} {tg : Tg} {src : St → Sto → R Src} {ms : MS} {pos : Pos} {sts : List Stmt} {k : Nat}
theorem ds_for (C : Ctx X W k) (hi : DI T X W tge iter src) (hg : DG T X tge is tg) (hb : DSs T X W sts ms) (hs : ∀ x, foldedSetIterable iter X.env x = pure x := by intro _; rfl) : DS T X W (.For tge iter sts [] pos) (mFor src tg ms) := by
  obtain ⟨g, hg, hq⟩ := hg
  refine (ps_for C.own C.calm hi hg hb hs).imp fun D σ H h => ?_
  obtain ⟨ρ, S, τ, r, l, h⟩ := h
  refine ⟨ρ, S, τ, r, l, PostS.lift h l fun ρ1 S1 H1 s b p1 r1 xb l1 h1 => ?_⟩
  subst xb
  intro J x1
  refine ⟨fun i m σ H => m = s.its.length - i ∧ i ≤ s.its.length ∧ ∃ ρ S τ, Ext ρ1 H1 ρ H ∧ Rep (gm T X) ρ S H ∧ LR ρ τ σ ∧ PostS (gm T X) W ρ H D (mFor1 s.chk tg ms (s.its.drop i) τ S), ⟨_, rfl, Nat.zero_le _, ρ1, S1, τ, Ext.refl, r1, l1, h1⟩, fun i m σ H hW => ?_⟩
  obtain ⟨em, hi, ρ2, S2, τ2, p2, r2, l2, h2⟩ := hW
  by_cases z : i < s.its.length
  · rw [List.drop_eq_getElem_cons z] at h2
    unfold mFor1 at h2
    by_cases hc : s.chk S2 = true
    · rw [if_pos hc] at h2
      obtain ⟨hgo, hy⟩ := (x1 ρ2 S2 H p2 r2 hc).2 i _ (List.getElem?_eq_getElem z)
      refine .inr ⟨hgo, fun σ' H' => ∃ ρ S τ, Ext ρ1 H1 ρ H' ∧ Rep (gm T X) ρ S H' ∧ LR ρ τ σ' ∧ PostS (gm T X) W ρ H' D (mFor1 s.chk tg ms (s.its.drop (i + 1)) τ S), fun σ' H' hN => ⟨s.its.length - (i + 1), by omega, rfl, z, hN⟩, fun x H3 hy3 => ?_⟩
      obtain ⟨p3, r3, x3⟩ := hy x H3 hy3
      cases et : tg s.its[i] τ2 S2 with
      | none => rw [et] at h2; exact h2.elim
      | some τ3 =>
        rw [et] at h2
        refine hq ρ2 S2 H3 τ2 σ _ x τ3 _ r3 l2 x3 et fun σ3 l3 _ => ⟨ρ2, S2, τ3, r3, l3, ?_⟩
        have h2 : PostS (gm T X) W ρ2 H D (match ms τ3 S2 with
          | .nx σ2 S2 => mFor1 s.chk tg ms (s.its.drop (i + 1)) σ2 S2
          | .ct σ2 S2 => mFor1 s.chk tg ms (s.its.drop (i + 1)) σ2 S2
          | .bk σ2 S2 => .nx σ2 S2
          | r => r) := h2
        have h2 := PostS.mono h2 p3
        cases e : ms τ3 S2 with
        | nx τ4 S4 => rw [e] at h2; exact fun ρ4 H4 σ4 p4 r4 l4 => ⟨ρ4, S4, τ4, (p2.trans p3).trans p4, r4, l4, PostS.mono h2 p4⟩
        | ct τ4 S4 => rw [e] at h2; exact fun ρ4 H4 σ4 p4 r4 l4 => ⟨ρ4, S4, τ4, (p2.trans p3).trans p4, r4, l4, PostS.mono h2 p4⟩
        | bk τ4 S4 => rw [e] at h2; exact h2
        | rt v S4 => rw [e] at h2; exact h2
        | exc c d τ4 S4 => rw [e] at h2; exact h2
        | bad => rw [e] at h2; exact h2
    · rw [if_neg hc] at h2
      exact h2.elim
  · have ei : i = s.its.length := by omega
    rw [ei, List.drop_length] at h2
    unfold mFor1 at h2
    by_cases hc : s.chk S2 = true
    · rw [if_pos hc] at h2
      rw [ei]
      exact .inl ⟨(x1 ρ2 S2 H p2 r2 hc).1, h2 ρ2 H σ (Ext.refl) r2 l2⟩
    · rw [if_neg hc] at h2
      exact h2.elim
end
end Mi
namespace Mi
open PySem PySem.Spec L2
open PyProof.Rows hiding St
def rdL (S : Sto) : V → Option (List V)
  | .ref i => match S[i]? with
    | some (.lst xs) => some xs
    | some (.lck (.lst xs)) => some xs
    | _ => none
  | _ => none
def rdK (S : Sto) : V → Option (List (Key × V))
  | .ref i => match S[i]? with
    | some (.dK kvs) => some kvs
    | some (.lck (.dK kvs)) => some kvs
    | _ => none
  | _ => none
section
variable {G : Gm} {ρ : List Addr} {S : Sto} {H : Hp} {v w : V}
theorem Rep.rdL {xs : List V} (r : Rep G ρ S H) (h : rdL S v = some xs) (x : VR ρ v w) : ∃ a ws, w = .ref a ∧ Rd H a (.lst ws) ∧ VsR ρ xs ws := by
  unfold Mi.rdL at h
  split at h
  · split at h
    · rename_i i _ ys es
      cases h
      obtain ⟨a, u, ew, _, eh, ys, eu, vr⟩ := r.ref es x
      subst eu
      exact ⟨a, ys, ew, .inl eh, vr⟩
    · rename_i i _ ys es
      cases h
      obtain ⟨a, u, ew, _, eh, ob, u', eu, ys, eu', vr⟩ := r.ref es x
      subst eu
      subst eu'
      exact ⟨a, ys, ew, .inr ⟨ob, eh⟩, vr⟩
    · cases h
  · cases h
theorem Rep.rdK {xs : List (Key × V)} (r : Rep G ρ S H) (h : rdK S v = some xs) (x : VR ρ v w) : ∃ a ws, w = .ref a ∧ Rd H a (.dK ws) ∧ FR ρ xs ws := by
  unfold Mi.rdK at h
  split at h
  · split at h
    · rename_i i _ ys es
      cases h
      obtain ⟨a, u, ew, _, eh, ys, eu, vr⟩ := r.ref es x
      subst eu
      exact ⟨a, ys, ew, .inl eh, vr⟩
    · rename_i i _ ys es
      cases h
      obtain ⟨a, u, ew, _, eh, ob, u', eu, ys, eu', vr⟩ := r.ref es x
      subst eu
      subst eu'
      exact ⟨a, ys, ew, .inr ⟨ob, eh⟩, vr⟩
    · cases h
  · cases h
end
theorem pe_or2 {X : Cx} {e : Expr} {t t' : TE} (h : PE X e t) (h' : PE X e t') : PE X e (fun σ H R => t σ H R ∨ t' σ H R) := ⟨fun pins s σ H R I q => q.elim (h.run pins s σ H R I) (h'.run pins s σ H R I)⟩
theorem _root_.L2.PI.imp {X : Cx} {tg e : Expr} {t t' : TI} (h : PI X tg e t) (k : ∀ σ H Q, t' σ H Q → t σ H Q) : PI X tg e t' := ⟨fun pins s σ H Q I q => h.run pins s σ H Q I (k _ _ _ q)⟩
def walkOf (S : Sto) : V → Option Src
  | .ref i => match S[i]? with
    | some (.lst xs) => some ⟨xs.map .v, fun S' => decide (S'[i]? = some (.lst xs))⟩
    | some (.lck (.lst xs)) => some ⟨xs.map .v, fun S' => decide (S'[i]? = some (.lck (.lst xs)))⟩
    | some (.tup xs) => some ⟨xs.map .v, fun S' => decide (S'[i]? = some (.tup xs))⟩
    | some (.lck (.dK kvs)) => some ⟨kvs.map fun p => .v (kV p.1), fun S' => decide (S'[i]? = some (.lck (.dK kvs)))⟩
    | _ => none
  | .str z => some ⟨z.cps.toList.map fun c => .v (.str ⟨#[c]⟩), fun _ => true⟩
  | _ => none
def mWalk (m : ME) : St → Sto → R Src := fun σ S => (m σ S).bind fun v S1 => match walkOf S1 v with
  | some s => .ok s S1
  | none => .bad
section
variable {T : Tab} {W : WX} {X : Cx} {tg e e2 : Expr} {m : ME} {ms : MA} {pos p : Pos} {es : List Expr}
theorem kv_vr {ρ : List Addr} {k : Key} : VR ρ (kV k) (kV k) := by
  cases k <;> rfl
theorem map_get {α β : Type} {f : α → β} {xs : List α} {i : Nat} {y : β} (h : (xs.map f)[i]? = some y) : ∃ x, xs[i]? = some x ∧ f x = y := by
  rw [List.getElem?_map] at h
  cases e : xs[i]? with
  | none => rw [e] at h; cases h
  | some x => rw [e] at h; exact ⟨x, rfl, Option.some.inj h⟩
theorem isIt_vals {G : Gm} {H : Hp} {ρ : List Addr} {J : It} {chk : Sto → Bool} {xs : List V}
    (ho : ∀ (ρ2 : List Addr) (S2 : Sto) (H2 : Hp), Ext ρ H ρ2 H2 → Rep G ρ2 S2 H2 → chk S2 = true → ∃ ws, VsR ρ2 xs ws ∧ J.stop ws.length H2 ∧ ∀ (i : Nat) (w : V), ws[i]? = some w → J.go i H2 ∧ ∀ x H3, J.yld i H2 x H3 → H3 = H2 ∧ x = w) : IsIt G H ρ ⟨xs.map .v, chk⟩ J := by
  intro ρ2 S2 H2 p2 r2 hc
  obtain ⟨ws, vr, hs, hw⟩ := ho ρ2 S2 H2 p2 r2 hc
  refine ⟨by show J.stop (xs.map Itv.v).length H2; rw [List.length_map, prd_len vr]; exact hs, fun j it hj => ?_⟩
  obtain ⟨x, hx, ex⟩ := map_get hj
  subst ex
  obtain ⟨w, hw2, rw'⟩ := prd_get vr hx
  obtain ⟨g, y⟩ := hw j w hw2
  refine ⟨g, fun y' H3 hy => ?_⟩
  obtain ⟨e1, e2⟩ := y y' H3 hy
  subst e1
  subst e2
  exact ⟨Ext.refl, r2, rw'⟩
theorem itl_of {K : PySem.W.Frag} {H : Hp} {a : Addr} {ws : List V} (h : SqL K H a ws) : (Itl K a).stop ws.length H ∧ ∀ (i : Nat) (w : V), ws[i]? = some w → (Itl K a).go i H ∧ ∀ x H3, (Itl K a).yld i H x H3 → H3 = H ∧ x = w :=
  ⟨⟨ws, h, Nat.le_refl _⟩, fun i w hw => ⟨⟨ws, w, h, hw⟩, fun x H3 hy => ⟨hy.1, by have := hy.2 ws h; rw [hw] at this; cases this; rfl⟩⟩⟩
theorem itt_of {K : PySem.W.Frag} {H : Hp} {a : Addr} {ws : List V} (h : SqT K H a ws) : (Itt K a).stop ws.length H ∧ ∀ (i : Nat) (w : V), ws[i]? = some w → (Itt K a).go i H ∧ ∀ x H3, (Itt K a).yld i H x H3 → H3 = H ∧ x = w :=
  ⟨⟨ws, h, Nat.le_refl _⟩, fun i w hw => ⟨⟨ws, w, h, hw⟩, fun x H3 hy => ⟨hy.1, by have := hy.2 ws h; rw [hw] at this; cases this; rfl⟩⟩⟩
theorem fr_keys {ρ : List Addr} : ∀ {kvs ws : List (Key × V)}, FR ρ kvs ws → ws.map (·.1) = kvs.map (·.1)
  | _, _, .nil => rfl
  | _, _, .cons r t => by rw [List.map_cons, List.map_cons, fr_keys t, r.1]
theorem keys_vsr {ρ : List Addr} : ∀ ks : List Key, VsR ρ (ks.map kV) (ks.map kV)
  | [] => .nil
  | _ :: r => .cons kv_vr (keys_vsr r)
theorem mapmap {α β γ : Type} (f : α → β) (g : β → γ) (xs : List α) : (xs.map fun x => g (f x)) = (xs.map f).map g := by rw [List.map_map]; rfl
theorem sgn_vsr {ρ : List Addr} : ∀ cs : List Nat, VsR ρ (cs.map fun c => V.str ⟨#[c]⟩) (cs.map fun c => V.str ⟨#[c]⟩)
  | [] => .nil
  | _ :: r => .cons rfl (sgn_vsr r)
/-- by the way of the value -/
theorem di_walk (he : DE T X W e m) : DI T X W tg e (mWalk m) := by
  refine ⟨fun pins s σ H R I h => ?_⟩
  obtain ⟨ρ, S, τ, r, l, h⟩ := h
  unfold mWalk at h
  cases ee : m τ S with
  | exc c d S1 =>
    rw [ee] at h
    exact (pi_list he).run pins s σ H R I ⟨ρ, S, τ, r, l, by rw [ee]; exact h⟩
  | bad => rw [ee] at h; exact h.elim
  | ok v S1 =>
    rw [ee] at h
    have h : Post (gm T X) W (fun ρ1 (a : Src) (b : List Addr × Src) => b = (ρ1, a)) ρ H σ (fun b H1 => ∀ J, IsIt (gm T X) H1 b.1 b.2 J → R J H1) (match walkOf S1 v with
      | some s => .ok s S1
      | none => .bad) := h
    cases ew : walkOf S1 v with
    | none => rw [ew] at h; exact h.elim
    | some s0 =>
      rw [ew] at h
      have h : ∀ ρ1 H1, Ext ρ H ρ1 H1 → Rep (gm T X) ρ1 S1 H1 → ∀ J, IsIt (gm T X) H1 ρ1 s0 J → R J H1 := fun ρ1 H1 p1 r1 J hJ => h ρ1 H1 _ p1 r1 rfl J hJ
      unfold walkOf at ew
      split at ew
      · rename_i i
        split at ew
        · rename_i xs es
          cases ew
          refine (pi_list he).run pins s σ H R I ⟨ρ, S, τ, r, l, ?_⟩
          rw [ee]
          intro ρ1 H1 w p1 r1 x1
          obtain ⟨a, u, e1, e2, eh, ws, eu, vr⟩ := r1.ref es x1
          subst eu
          refine ⟨a, e1, ⟨ws, .inl (.inl eh)⟩, h ρ1 H1 p1 r1 _ (isIt_vals fun ρ2 S2 H2 p2 r2 hc => ?_)⟩
          obtain ⟨a', u', e1', e2', eh', ws', eu', vr'⟩ := r2.ref (of_decide_eq_true hc) (show VR ρ2 (.ref i) (.ref a) from ⟨a, pre_get p2.pre e2, rfl⟩)
          cases e1'
          subst eu'
          exact ⟨ws', vr', itl_of (.inl (.inl eh'))⟩
        · rename_i xs es
          cases ew
          refine (pi_list he).run pins s σ H R I ⟨ρ, S, τ, r, l, ?_⟩
          rw [ee]
          intro ρ1 H1 w p1 r1 x1
          obtain ⟨a, u, e1, e2, eh, ob, u', eu, ws, eu', vr⟩ := r1.ref es x1
          subst eu
          subst eu'
          refine ⟨a, e1, ⟨ws, .inl (.inr ⟨ob, eh⟩)⟩, h ρ1 H1 p1 r1 _ (isIt_vals fun ρ2 S2 H2 p2 r2 hc => ?_)⟩
          obtain ⟨a', u', e1', e2', eh', ob', u'', eu', ws', eu'', vr'⟩ := r2.ref (of_decide_eq_true hc) (show VR ρ2 (.ref i) (.ref a) from ⟨a, pre_get p2.pre e2, rfl⟩)
          cases e1'
          subst eu'
          subst eu''
          exact ⟨ws', vr', itl_of (.inl (.inr ⟨_, eh'⟩))⟩
        · rename_i xs es
          cases ew
          refine (pi_tup he).run pins s σ H R I ⟨ρ, S, τ, r, l, ?_⟩
          rw [ee]
          intro ρ1 H1 w p1 r1 x1
          obtain ⟨a, u, e1, e2, eh, ws, eu, vr⟩ := r1.ref es x1
          subst eu
          refine ⟨a, e1, ⟨ws, .inl (.inl eh)⟩, h ρ1 H1 p1 r1 _ (isIt_vals fun ρ2 S2 H2 p2 r2 hc => ?_)⟩
          obtain ⟨a', u', e1', e2', eh', ws', eu', vr'⟩ := r2.ref (of_decide_eq_true hc) (show VR ρ2 (.ref i) (.ref a) from ⟨a, pre_get p2.pre e2, rfl⟩)
          cases e1'
          subst eu'
          exact ⟨ws', vr', itt_of (.inl (.inl eh'))⟩
        · rename_i kvs es
          cases ew
          refine (pi_keys he).run pins s σ H R I ⟨ρ, S, τ, r, l, ?_⟩
          rw [ee]
          intro ρ1 H1 w p1 r1 x1
          obtain ⟨a, u, e1, e2, eh, ob, u', eu, ws, eu', vr⟩ := r1.ref es x1
          subst eu
          subst eu'
          refine ⟨a, ob, e1, .inl ⟨ws, eh, h ρ1 H1 p1 r1 _ ?_⟩⟩
          rw [mapmap (fun p : Key × V => kV p.1) Itv.v]
          refine isIt_vals fun ρ2 S2 H2 p2 r2 hc => ?_
          have eh2 := p2.kp _ _ _ eh
          refine ⟨ws.map fun q => kV q.1, ?_, ⟨eh2, by rw [List.length_map]; exact Nat.le_refl _⟩, fun j w hw => ?_⟩
          · rw [mapmap (fun p : Key × V => p.1) kV, mapmap (fun p : Key × V => p.1) kV, fr_keys vr]
            exact keys_vsr _
          · obtain ⟨q, hq, eq⟩ := map_get hw
            subst eq
            refine ⟨⟨eh2, (List.getElem?_eq_some_iff.mp hq).1⟩, fun x H3 hy => ⟨hy.1, ?_⟩⟩
            obtain ⟨k, v, h1, h2⟩ := hy.2
            rw [hq] at h1
            cases h1
            exact h2
        · cases ew
      · rename_i z
        cases ew
        refine (pi_str he).run pins s σ H R I ⟨ρ, S, τ, r, l, ?_⟩
        rw [ee]
        intro ρ1 H1 w p1 r1 x1
        cases x1
        refine ⟨z, rfl, h ρ1 H1 p1 r1 _ ?_⟩
        rw [mapmap (fun c : Nat => V.str ⟨#[c]⟩) Itv.v]
        refine isIt_vals fun ρ2 S2 H2 p2 r2 hc => ⟨_, sgn_vsr _, by show z.cps.size ≤ _; rw [List.length_map]; exact Nat.le_refl _, fun j w hw => ?_⟩
        obtain ⟨c, hx, ex⟩ := map_get hw
        subst ex
        have hx : z.cps[j]? = some c := by rw [← Array.getElem?_toList]; exact hx
        refine ⟨(Array.getElem?_eq_some_iff.mp hx).1, fun y H3 hy => ⟨hy.1, ?_⟩⟩
        obtain ⟨c', hc', ey⟩ := hy.2
        rw [hx] at hc'
        cases hc'
        exact ey
      · cases ew
/-- range(n), range(a, b) -/
def intsFrom (lo : Int) (n : Nat) : List Itv := (List.range n).map fun k => .v (.int (lo + (k : Nat)))
def mRange1 (ms : MA) : St → Sto → R Src := fun σ S => (ms σ S).bind fun vs S1 => match vs with
  | [.int j] => if -(2 ^ 62) ≤ j ∧ j < 2 ^ 62 then .ok ⟨intsFrom 0 j.toNat, fun _ => true⟩ S1 else .bad
  | _ => .bad
theorem isIt_range {G : Gm} {H : Hp} {ρ : List Addr} {lo : Int} {n : Nat} : IsIt G H ρ ⟨intsFrom lo n, fun _ => true⟩ (Itr lo n) := by
  have e : intsFrom lo n = ((List.range n).map fun k => V.int (lo + (k : Nat))).map Itv.v := mapmap (fun k : Nat => V.int (lo + (k : Nat))) Itv.v _
  rw [e]
  refine isIt_vals fun ρ2 S2 H2 p2 r2 hc => ⟨(List.range n).map fun k => V.int (lo + (k : Nat)), ?_, by show n ≤ _; rw [List.length_map, List.length_range]; exact Nat.le_refl _, fun j w hw => ?_⟩
  · generalize List.range n = l
    induction l with
    | nil => exact .nil
    | cons a l ih => exact .cons rfl ih
  · obtain ⟨k, hk, ek⟩ := map_get hw
    subst ek
    have h1 := List.getElem?_eq_some_iff.mp hk
    obtain ⟨h1, h2⟩ := h1
    rw [List.getElem_range] at h2
    rw [List.length_range] at h1
    subst h2
    exact ⟨h1, fun x H3 hy => hy⟩
theorem di_range1 (hm : X.mg "range" = none) (ha : DA T X W [e] ms) (hg : Gl X "range" := by rfl) (hs : starEach [e] X.env = [(false, eval e X.env)] := by rfl) : DI T X W tg (.Call (.Name "range" p) [e] [] pos) (mRange1 ms) := (pi_range1 hg hm ha hs).imp fun σ H R h => by
  obtain ⟨ρ, S, τ, r, l, h⟩ := h
  refine ⟨ρ, S, τ, r, l, Post.bind h fun ρ1 S1 H1 vs ws p1 r1 x1 h1 => ?_⟩
  split at h1
  · rename_i j
    split at h1
    · rename_i hj
      cases x1 with
      | cons a b =>
        cases b
        cases a
        exact ⟨j, rfl, hj.1, hj.2, h1 ρ1 H1 _ Ext.refl r1 rfl _ isIt_range⟩
    · exact h1.elim
  · exact h1.elim
end
end Mi
namespace Mi
open PySem PySem.Spec L2
open PyProof.Rows hiding St
abbrev W0 : WX := fun _ _ _ _ => False
def mYes : MT := fun _ S => .ok true S
/-- the class of exceptions at the place c: without an own __init__ -/
def XcF (T : Tab) (K : PySem.W.Frag) (mg : Str → Option Value) (c : Nat) (x : Str) : Prop := T.xs[c]? = some x ∧ ∃ C, mg x = some (.ref C) ∧ PySem.W.excIn K C [.type "ValueError", .type "Exception", .type "BaseException", .type "object"] "ValueError.__new__" = true ∧
  PySem.W.keepIn K (.ref C) = true ∧ PySem.W.subIn K (.ref C) (.type "BaseException") = some true ∧ PySem.W.typeIn K (.ref C) = some (.type "type")
def fnOf (n : Nat) (m : MS) : Fn := fun args S => match m (args.map some ++ List.replicate (n - args.length) none) S with
  | .rt v S1 => .ok v S1
  | .nx _ S1 => .ok .non S1
  | .exc c d _ S1 => .exc c d S1
  | _ => .bad
theorem start_lr {ρ : List Addr} {args vs : List V} {N : List Str} (h : VsR ρ args vs) : LR ρ (args.map some ++ List.replicate (N.length - args.length) none) (L2.start N vs) := by
  unfold L2.start
  rw [← prd_len h]
  refine prd_app ?_ (prd_rep (F := OR ρ) (x := none) (y := none) trivial _)
  induction h with
  | nil => exact .nil
  | cons r t ih => exact .cons r ih
section
variable {T : Tab} {P : Program} {w : World} {K : PySem.W.Frag} {mg : Str → Option Value} {base : Heap}
theorem fnOk_of {x qual : Str} {st : Stmt} {a : Addr} {fd : FuncData} {N ps : List Str} {k nn np : Nat} {m : MS} (F : Fun K x qual st a fd) (Sc : FnScope N ps (defScope st)) (hN : N.length = nn) (hp : ps.length = np)
    (hbody : ∀ (X : Cx) (cdv : Value) (A : Around) (outer : List Env) (s : Shared) (H : Hp) (E : XK), X = cxOf (L2.CX P w) P w K mg base N qual (defScope st) a cdv A outer s H E → CtS X (fun cls d _ H => E cls d H) k → DSs T X (fun cls d _ H => E cls d H) (defBody st) m) :
    FnOk P w K mg base (L2.CX P w) (k + 1) a fd ps (spOf ⟨K, mg, T.cs, T.xs⟩ np (fnOf nn m)) := by
  refine F.okX Sc (fun vs H Q E h => by rw [hp]; exact h.1) (fun cdv A outer s H vs Q E hr h => ?_)
  obtain ⟨hl, ρ, S, args, σ, r, va, h⟩ := h
  have tk : Takes (cxOf (L2.CX P w) P w K mg base N qual (defScope st) a cdv A outer s H E) (fun cls d _ H => E cls d H) := takes_of rfl rfl rfl rfl
  refine ⟨_, hbody _ cdv A outer s H E rfl ⟨⟨rfl, Sc.nd, hr, .inl tk, passes_of rfl⟩, tk, rfl, rfl, rfl⟩, ρ, S, _, r, start_lr va, ?_⟩
  unfold fnOf at h
  rw [hN]
  cases e : m (args.map some ++ List.replicate (nn - args.length) none) S with
  | rt v S1 => rw [e] at h; exact h
  | nx τ S1 => rw [e] at h; exact fun ρ2 H2 σ2 p2 r2 l2 => h ρ2 H2 .non p2 r2 rfl
  | exc c d τ S1 => rw [e] at h; exact fun ρ2 H2 σ2 C dd p2 r2 l2 => h ρ2 H2 C dd p2 r2
  | bk τ S1 => rw [e] at h; exact h.elim
  | ct τ S1 => rw [e] at h; exact h.elim
  | bad => rw [e] at h; exact h.elim
end
end Mi
namespace Mi
open PySem PySem.Spec L2
open PyProof.Rows hiding St
instance mulDec (a b : Int) : Decidable (IntMulOk a b) := by unfold IntMulOk; infer_instance
/-- a divisor of the size that is looked at -/
def DivOk (j : Int) : Prop := 0 < j ∧ j < 2 ^ 256
instance (j : Int) : Decidable (DivOk j) := by unfold DivOk; infer_instance
def oAdd : V → V → Sto → R V := fun x y S => match x, y with
  | .int i, .int j => .ok (.int (i + j)) S
  | .str i, .str j => if i.length + j.length ≤ sizeLine then .ok (.str (i ++ j)) S else .bad
  | .ref i, .ref j => match rdL S (.ref i), rdL S (.ref j) with
    | some xs, some ys => if xs.length + ys.length ≤ sizeLine then .ok (.ref S.length) (S ++ [.lst (xs ++ ys)]) else .bad
    | _, _ => match rdT S (.ref i), rdT S (.ref j) with
      | some xs, some ys => if xs ≠ [] ∧ ys ≠ [] ∧ xs.length + ys.length ≤ sizeLine then .ok (.ref S.length) (S ++ [.tup (xs ++ ys)]) else .bad
      | _, _ => .bad
  | _, _ => .bad
def oSub : V → V → Sto → R V := fun x y S => match x, y with
  | .int i, .int j => .ok (.int (i - j)) S
  | _, _ => .bad
def oMod : V → V → Sto → R V := fun x y S => match x, y with
  | .int i, .int j => if 0 < j then .ok (.int (i % j)) S else .bad
  | _, _ => .bad
def oPow : V → V → Sto → R V := fun x y S => match x, y with
  | .int i, .int j => if 0 ≤ j ∧ j ≤ 1000000 ∧ i.natAbs < 2 ^ 64 then .ok (.int (i ^ j.toNat)) S else .bad
  | _, _ => .bad
def oNeg : V → Sto → R V := fun x S => match x with
  | .int i => .ok (.int (-i)) S
  | _ => .bad
section
variable {T : Tab} {X : Cx}
/-- an operation's rule at the values at hand -/
theorem opR_of {f : Value → Value → Sem Value} {o : V → V → Sto → R V}
    (h : ∀ (pins : List (Addr × Obj)) (s : Shared) (σ : St) (H : Hp) (x y : V) (v u : Value) (Q : VK) (ρ : List Addr) (S : Sto) (a b : V) (τ : St), Inv X pins σ H s → RelV x v → RelV y u → Rep (gm T X) ρ S H → VR ρ a x → VR ρ b y → Post (gm T X) W0 VR ρ H τ Q (o a b S) →
      wpAny (model X.prog X.w) X.A (f v u) (EP X pins σ Q) X.xe s) : OpR X f (denR (gm T X) o) := fun pins s σ H x y v u Q I rx ry ⟨ρ, S, a, b, τ, r, va, vb, q⟩ => h pins s σ H x y v u Q ρ S a b τ I rx ry r va vb q
theorem cat_any (pins : List (Addr × Obj)) (s : Shared) (σ : St) (H : Hp) (l b : Addr) (xs zs : List V) (Q : VK) (I : Inv X pins σ H s) (hl : SqL X.K H l xs) (hb : SqL X.K H b zs) (hz : xs.length + zs.length ≤ sizeLine)
    (q : ∀ p, H p = none → Q (.ref p) (upd H p (.lst (xs ++ zs)))) : wpAny (model X.prog X.w) X.A (binaryOp .Add (.ref l) (.ref b)) (EP X pins σ Q) X.xe s := by
  obtain ⟨its, r, ⟨⟨cls, dd, data, sl⟩, n, ho, hc, hd, hs⟩, _⟩ := I.list hl
  obtain ⟨its2, r2, ⟨⟨cls2, dd2, data2, sl2⟩, n2, ho2, hc2, hd2, hs2⟩, _⟩ := I.list hb
  have hl1 := r.length
  have hl2 := r2.length
  simp only at hc hd hs hc2 hd2 hs2
  subst hc hd hs hc2 hd2 hs2
  refine concat_meets ⟨_, ho, rfl⟩ ⟨_, ho2, rfl⟩ noFill_list_add seq_list_add PySem.F.slot_list_add PySem.F.entry_list_add (PySem.F.args_list_add_2 _ _) (list_addW l b its.toArray its2.toArray n n2 none none sl sl2 (by rw [List.size_toArray, List.size_toArray]; omega)) ⟨ho, ho2, ?_⟩
  rw [show its.toArray ++ its2.toArray = (its ++ its2).toArray by simp]
  exact ⟨.ref _, _, I.lnew (t' := s.toks) (r.append r2) (by rw [List.length_append]; omega), rfl, q _ I.fresh⟩
theorem op2_add : Op2 T X (binaryOp .Add) oAdd := by
  refine ⟨opR_of fun pins s σ H x y v u Q ρ S a b τ I rx ry r va vb h => ?_, fun x y S => ?_⟩
  · unfold oAdd at h
    split at h
    · cases va
      cases vb
      exact op_add pins s σ H _ _ v u Q I rx ry ⟨_, _, rfl, rfl, h ρ H _ Ext.refl r rfl⟩
    · cases va
      cases vb
      split at h
      · rename_i hz
        exact op_add_str pins s σ H _ _ v u Q I rx ry ⟨_, _, rfl, rfl, hz, h ρ H _ Ext.refl r rfl⟩
      · exact h.elim
    · rename_i i j
      split at h
      · rename_i xs ys e1 e2
        split at h
        · rename_i hz
          obtain ⟨a1, ws1, ew1, eh1, vr1⟩ := r.rdL e1 va
          obtain ⟨a2, ws2, ew2, eh2, vr2⟩ := r.rdL e2 vb
          subst ew1
          subst ew2
          cases rx
          cases ry
          refine cat_any pins s σ H a1 a2 ws1 ws2 Q I (.inl eh1) (.inl eh2) (by rw [← prd_len vr1, ← prd_len vr2]; exact hz) fun p np => ?_
          exact h _ _ _ (Ext.new np) (r.alloc np ⟨_, rfl, VsR.mono (prd_app vr1 vr2) (List.prefix_append _ _)⟩) (new_ref r.len)
        · exact h.elim
      · split at h
        · rename_i xs ys e1 e2
          split at h
          · rename_i hz
            obtain ⟨a1, ws1, ew1, eh1, vr1⟩ := r.rdT e1 va
            obtain ⟨a2, ws2, ew2, eh2, vr2⟩ := r.rdT e2 vb
            subst ew1
            subst ew2
            have ne : ∀ {xs ws : List V}, VsR ρ xs ws → xs ≠ [] → ws ≠ [] := fun t n q => by
              subst q
              cases t
              exact n rfl
            refine op_catT pins s σ H _ _ v u Q I rx ry ⟨a1, a2, ws1, ws2, rfl, rfl, .inl (.inl eh1), .inl (.inl eh2), ne vr1 hz.1, by rw [← prd_len vr1, ← prd_len vr2]; exact hz.2.2, fun q => absurd q (ne vr2 hz.2.1), fun _ p np => ?_⟩
            exact h _ _ _ (Ext.new np) (r.alloc np ⟨_, rfl, VsR.mono (prd_app vr1 vr2) (List.prefix_append _ _)⟩) (new_ref r.len)
          · exact h.elim
        · exact h.elim
    · exact h.elim
  · unfold oAdd
    repeat' split
    all_goals trivial
def oIAdd : V → V → Sto → R V := fun x y S => match x, y with
  | .int i, .int j => .ok (.int (i + j)) S
  | _, _ => .bad
theorem op2_mod : Op2 T X (binaryOp .Mod) oMod := by
  refine ⟨opR_of fun pins s σ H x y v u Q ρ S a b τ I rx ry r va vb h => ?_, fun x y S => ?_⟩
  · unfold oMod at h
    split at h
    · cases va
      cases vb
      split at h
      · rename_i hz
        exact op_mod pins s σ H _ _ v u Q I rx ry ⟨_, _, rfl, rfl, hz, h ρ H _ Ext.refl r rfl⟩
      · exact h.elim
    · exact h.elim
  · unfold oMod
    repeat' split
    all_goals trivial
theorem op2_pow : Op2 T X (binaryOp .Pow) oPow := by
  refine ⟨opR_of fun pins s σ H x y v u Q ρ S a b τ I rx ry r va vb h => ?_, fun x y S => ?_⟩
  · unfold oPow at h
    split at h
    · cases va
      cases vb
      split at h
      · rename_i hz
        exact op_pow pins s σ H _ _ v u Q I rx ry ⟨_, _, rfl, rfl, hz, h ρ H _ Ext.refl r rfl⟩
      · exact h.elim
    · exact h.elim
  · unfold oPow
    repeat' split
    all_goals trivial
def oCmp (p : Int → Int → Bool) : V → V → Sto → R V := fun x y S => match x, y with
  | .int i, .int j => .ok (.bl (p i j)) S
  | _, _ => .bad
def isNon : V → Bool
  | .non => true
  | _ => false
def oIs : V → V → Sto → R V := fun x y S => match y with
  | .non => .ok (.bl (isNon x)) S
  | _ => .bad
def oIsN : V → V → Sto → R V := fun x y S => match y with
  | .non => .ok (.bl (!isNon x)) S
  | _ => .bad
end
end Mi
namespace Mi
open PySem PySem.Spec L2
open PyProof.Rows hiding St
theorem exK_ok {P : Program} {w : World} {H : Hp} {h : Heap} {a C : Addr} {d : Option Addr} {oe : Obj} (e : h.get? a = some oe) (hc : oe.cls = .ref C) (hdd : oe.dict = d) (hf : ∃ vs, oe.data = .fields vs) : ObjOk P w H h a (ExK C d a) :=
  ⟨let ⟨vs, q⟩ := hf; ⟨oe, vs, e, hc, hdd, q⟩, ⟨oe, e⟩, fun _ _ ⟨o, v, q, r⟩ k => ⟨o, v, k o q, r⟩⟩
structure CtH (X : Cx) (k : Nat) : Prop where
  nd : X.N.Nodup
  dp : X.A.depth + 3 * k + 5 < recursionLimit
  un : X.A.units + 16 * k + 200 < cLine
/-- try: body / except K (as n): suite -/
def mTry (body : MS) (sub : Nat → Bool) (i : Option Nat) (suite : MS) : MS := fun σ S => match body σ S with
  | .exc c d σ1 S1 => if sub c = true then (match i with
    | some j => (match suite (σ1.set j (some (.ref S1.length))) (S1 ++ [.exc c d]) with
      | .nx σ2 S2 => .nx (σ2.set j none) S2
      | .rt v S2 => .rt v S2
      | .bk σ2 S2 => .bk (σ2.set j none) S2
      | .ct σ2 S2 => .ct (σ2.set j none) S2
      | _ => .bad)
    | none => (match suite σ1 S1 with
      | .exc _ _ _ _ => .bad
      | r => r)) else .exc c d σ1 S1
  | r => r
section
variable {T : Tab} {W : WX} {X : Cx} {k : Nat} {body suite : List Stmt} {b₀ : Stmt} {np pos pos' : Pos} {x n : Str} {cv : Value} {mb ms : MS} {sub : Nat → Bool} {i : Nat}
theorem CtS.tr (C : CtS X W k) {W' : WX} {pn : List (Addr × Obj)} {xe : Value → Shared → Prop} (tk : Takes (X.tr pn xe) W') (ow : PassesOwn (model X.prog X.w) X.A X.env xe) : CtS (X.tr pn xe) W' k :=
  ⟨⟨C.calm, C.nd, C.room, .inl tk, ow⟩, tk, C.stk, C.frm, C.ex⟩
end
end Mi
namespace Mi
open PySem PySem.Spec L2
open PyProof.Rows hiding St
inductive Tag where
  | non | bl | int | str | lst | tup | dct | exc (c : Nat) | ins (c : Nat)
  deriving DecidableEq
def tagOf (S : Sto) : V → Option Tag
  | .non => some .non
  | .bl _ => some .bl
  | .int _ => some .int
  | .str _ => some .str
  | .ref i => match S[i]? with
    | some (.lst _) => some .lst
    | some (.lck (.lst _)) => some .lst
    | some (.tup _) => some .tup
    | some (.dK _) => some .dct
    | some (.lck (.dK _)) => some .dct
    | some (.exc c none) => some (.exc c)
    | some (.ins c _) => some (.ins c)
    | _ => none
  | _ => none
def lookT : List (Tag × Bool) → Tag → Option Bool
  | [], _ => none
  | (t, b) :: r, u => if t = u then some b else lookT r u
def mIsi (tab : List (Tag × Bool)) (a : ME) : ME := fun σ S => (a σ S).bind fun v S1 => match tagOf S1 v with
  | some t => match lookT tab t with
    | some b => .ok (.bl b) S1
    | none => .bad
  | none => .bad
/-- what a tag's class is to the machine -/
def TagV (T : Tab) (K : PySem.W.Frag) (mg : Str → Option Value) : Tag → Value → Prop
  | .non, t => t = .type "NoneType"
  | .bl, t => t = .type "bool"
  | .int, t => t = .type "int"
  | .str, t => t = .type "str"
  | .lst, t => t = .type "list"
  | .tup, t => t = .type "tuple"
  | .dct, t => t = .type "dict"
  | .exc c, t => ∃ x C, T.xs[c]? = some x ∧ mg x = some (.ref C) ∧ t = .ref C ∧ ExcC K C
  | .ins c, t => ∃ x L C, T.cs[c]? = some (x, L) ∧ mg x = some (.ref C) ∧ t = .ref C ∧ Cls K C ∧ PySem.W.findIn K (.ref C) "__class__" = some (some (.builtin "object.__class__")) ∧
      PySem.W.specialIn K (.builtin "object.__class__") "__get__" = some (some (.builtin "getset_descriptor.__get__")) ∧ PySem.W.takesIn K (.builtin "object.__class__") = some true ∧ PySem.W.mroIn K C (.type "object") = some true
/-- the table tells what the machine's look at the classes cs tells -/
def ITab (T : Tab) (K : PySem.W.Frag) (mg : Str → Option Value) (cs : List Value) : List (Tag × Bool) → Prop
  | [] => True
  | (t, b) :: r => (∃ u, TagV T K mg t u ∧ PySem.W.kitAny K u cs = some b) ∧ ITab T K mg cs r
section
variable {T : Tab} {W : WX} {X : Cx} {pins : List (Addr × Obj)} {σ : St} {H : Hp} {s : Shared} {k : Nat}
theorem ITab.get {cs : List Value} : ∀ {tab : List (Tag × Bool)} {t : Tag} {b : Bool}, ITab T X.K X.mg cs tab → lookT tab t = some b → ∃ u, TagV T X.K X.mg t u ∧ PySem.W.kitAny X.K u cs = some b
  | [], _, _, _, e => by cases e
  | (d, g) :: r, t, b, h, e => by
    unfold lookT at e
    by_cases z : d = t
    · rw [if_pos z] at e
      cases e
      rw [← z]
      exact h.1
    · rw [if_neg z] at e
      exact ITab.get h.2 e
theorem exK_inst {a C : Addr} {d : Option Addr} (I : Inv X pins σ H s) (h : H a = some (ExK C d a)) : ∃ oe vs, s.heap.get? a = some oe ∧ oe.cls = .ref C ∧ oe.dict = d ∧ oe.data = .fields vs := by
  obtain ⟨⟨oe, vs, h1, h2, h3, h4⟩, _⟩ := (show ObjOk X.prog X.w H s.heap a (ExK C d a) from I.hok a _ h)
  exact ⟨oe, vs, h1, h2, h3, h4⟩
theorem kit_tag {ρ : List Addr} {S : Sto} {v w : V} {u t : Value} {g : Tag} (I : Inv X pins σ H s) (r : Rep (gm T X) ρ S H) (x : VR ρ v w) (rw' : RelV w u) (e : tagOf S v = some g) (ht : TagV T X.K X.mg g t) :
    ∃ P : Heap → Prop, PySem.W.KitX X.K u t P ∧ P s.heap ∧ u ≠ .builtin "__main__.__loader__#opaque" := by
  unfold tagOf at e
  split at e
  · cases e; cases x; cases ht; exact kit_of I rw' (.base .non)
  · cases e; cases x; cases ht; exact kit_of I rw' (.base (.bl _))
  · cases e; cases x; cases ht; exact kit_of I rw' (.base (.int _))
  · cases e; cases x; cases ht; exact kit_of I rw' (.base (.str _))
  · rename_i i
    split at e
    · rename_i es; cases e; cases ht
      obtain ⟨a, u', ew, er, eh, ws, eu, vr⟩ := r.ref es x
      subst ew; subst eu
      exact kit_of I rw' (.base (.lst eh))
    · rename_i es; cases e; cases ht
      obtain ⟨a, u', ew, er, eh, ob, u2, eu, ws, eu2, vr⟩ := r.ref es x
      subst ew; subst eu; subst eu2
      exact kit_of I rw' (.base (.frz eh))
    · rename_i es; cases e; cases ht
      obtain ⟨a, u', ew, er, eh, ws, eu, vr⟩ := r.ref es x
      subst ew; subst eu
      exact kit_of I rw' (.base (.tup eh))
    · rename_i es; cases e; cases ht
      obtain ⟨a, u', ew, er, eh, ws, eu, vr⟩ := r.ref es x
      subst ew; subst eu
      exact kit_of I rw' (.base (.dK eh))
    · rename_i es; cases e; cases ht
      obtain ⟨a, u', ew, er, eh, ob, u2, eu, ws, eu2, vr⟩ := r.ref es x
      subst ew; subst eu; subst eu2
      exact kit_of I rw' (.fDict eh)
    · rename_i c es; cases e
      obtain ⟨y, C, hx, hm, et, xc⟩ := ht
      subst et
      obtain ⟨a, u', ew, er, eh, C2, dd, xc2, eu, dr⟩ := r.ref es x
      subst ew
      obtain ⟨y2, hx2, hm2⟩ := xc2
      have q1 : some y = some y2 := hx.symm.trans hx2
      cases q1
      have q2 : some (Value.ref C) = some (Value.ref C2) := hm.symm.trans hm2
      cases q2
      have dn : dd = none := dr
      subst dn
      subst eu
      obtain ⟨oe, vs, h1, h2, h3, h4⟩ := exK_inst I eh
      cases rw'
      refine ⟨_, PySem.W.handS_kitx_exc (ox := oe) xc.hg xc.hk xc.hs xc.hd xc.ha xc.hn xc.ht xc.hm, ⟨h1, h2, by unfold PySem.W.notCls; rw [h4] <;> rfl, by rw [h3]; trivial⟩, fun z => nomatch z⟩
    · rename_i c fs es; cases e
      obtain ⟨y, L, C, hc, hm, et, cl, q1, q2, q3, q4⟩ := ht
      subst et
      obtain ⟨a, u', ew, er, eh, y2, L2', C2, dx, gs, hc2, hm2, eu, ar⟩ := r.ref es x
      subst ew
      have z1 : some (y, L) = some (y2, L2') := hc.symm.trans hc2
      cases z1
      have z2 : some (Value.ref C) = some (Value.ref C2) := hm.symm.trans hm2
      cases z2
      subst eu
      exact kit_of I rw' (.base (.ins eh cl q1 q2 q3 q4))
    · cases e
  · cases e
variable {e ce : Expr} {ces : List Expr} {m : ME} {p pos tpos : Pos}
end
end Mi
namespace Mi
open PySem PySem.Spec L2
open PyProof.Rows hiding St
def allSome {α : Type} : List (Option α) → Option (List α)
  | [] => some []
  | none :: _ => none
  | some a :: r => (allSome r).map (a :: ·)
def rdD (S : Sto) : Nat → V → Option PyData
  | 0, _ => none
  | n + 1, v => match v with
    | .non => some .none
    | .bl b => some (.bool b)
    | .int i => some (.int i)
    | .str x => some (.str x)
    | .ref i => match S[i]? with
      | some (.lst xs) => (allSome (xs.map (rdD S n))).map .list
      | some (.lck (.lst xs)) => (allSome (xs.map (rdD S n))).map .list
      | some (.tup xs) => (allSome (xs.map (rdD S n))).map .tuple
      | _ => none
    | _ => none
def eqDepth : Nat := 12
def oEqD (neg : Bool) : V → V → Sto → R V := fun x y S => match rdD S eqDepth x, rdD S eqDepth y with
  | some d, some e => if SeqAt.shaped d = true ∧ SeqAt.shaped e = true then .ok (.bl (neg != PyData.eqv d e)) S else .bad
  | _, _ => .bad
abbrev oEq := oEqD false
abbrev oNe := oEqD true
section
variable {T : Tab} {X : Cx} {G : Gm} {ρ : List Addr} {S : Sto} {H : Hp}
theorem rdD_all (n : Nat) (ih : ∀ v w d, VR ρ v w → rdD S n v = some d → Dp G.K H w d) : ∀ {xs ws : List V} {ds : List PyData}, VsR ρ xs ws → allSome (xs.map (rdD S n)) = some ds → DpAll G.K H ws ds
  | _, _, _, .nil, e => by cases e; exact .nil
  | _, _, ds, .cons (l₁ := xs) r t, e => by
    rw [List.map_cons] at e
    unfold allSome at e
    split at e
    · rename_i h; cases h
    · cases e
    · rename_i a' r' h
      injection h with h1 h2
      subst h2
      cases e2 : allSome (xs.map (rdD S n)) with
      | none => rw [e2] at e; cases e
      | some es =>
        rw [e2] at e
        cases e
        exact .cons (ih _ _ _ r h1) (rdD_all n ih t e2)
theorem rdD_dp (r : Rep G ρ S H) : ∀ (n : Nat) (v w : V) (d : PyData), VR ρ v w → rdD S n v = some d → Dp G.K H w d
  | 0, _, _, _, _, e => by cases e
  | n + 1, v, w, d, x, e => by
    have ih := rdD_dp r n
    unfold rdD at e
    split at e
    · cases e; cases x; exact .non
    · cases e; cases x; exact .bl _
    · cases e; cases x; exact .int _
    · cases e; cases x; exact .str _
    · split at e
      · rename_i xs es
        obtain ⟨a, u, ew, _, eh, ws, eu, vr⟩ := r.ref es x
        subst ew; subst eu
        cases e2 : allSome (xs.map (rdD S n)) with
        | none => rw [e2] at e; cases e
        | some ds =>
          rw [e2] at e
          cases e
          exact .lst (.inl (.inl eh)) (rdD_all n ih vr e2)
      · rename_i xs es
        obtain ⟨a, u, ew, _, eh, ob, u2, eu, ws, eu2, vr⟩ := r.ref es x
        subst ew; subst eu; subst eu2
        cases e2 : allSome (xs.map (rdD S n)) with
        | none => rw [e2] at e; cases e
        | some ds =>
          rw [e2] at e
          cases e
          exact .lst (.inl (.inr ⟨ob, eh⟩)) (rdD_all n ih vr e2)
      · rename_i xs es
        obtain ⟨a, u, ew, _, eh, ws, eu, vr⟩ := r.ref es x
        subst ew; subst eu
        cases e2 : allSome (xs.map (rdD S n)) with
        | none => rw [e2] at e; cases e
        | some ds =>
          rw [e2] at e
          cases e
          exact .tup (.inl (.inl eh)) (rdD_all n ih vr e2)
      · cases e
    · cases e
theorem op2_eqD {op : CmpOp} {neg : Bool} (rule : OpR X (compareOp op) (fun x y H Q => ∃ d e, Dp X.K H x d ∧ Dp X.K H y e ∧ SeqAt.shaped d = true ∧ SeqAt.shaped e = true ∧ Q (.bl (neg != PyData.eqv d e)) H)) : Op2 T X (compareOp op) (oEqD neg) := by
  refine ⟨opR_of fun pins s σ H x y v u Q ρ S a b τ I rx ry r va vb h => ?_, fun x y S => ?_⟩
  · unfold oEqD at h
    split at h
    · rename_i d e ed ee
      split at h
      · rename_i hz
        exact rule pins s σ H _ _ v u Q I rx ry ⟨d, e, rdD_dp r _ _ _ _ va ed, rdD_dp r _ _ _ _ vb ee, hz.1, hz.2, h ρ H _ Ext.refl r rfl⟩
      · exact h.elim
    · exact h.elim
  · unfold oEqD
    repeat' split
    all_goals trivial
theorem op2_eq (hu : X.A.units + 64 < cLine) : Op2 T X (compareOp .Eq) oEq := op2_eqD fun pins s σ H x y v u Q I rx ry ⟨d, e, h1, h2, h3, h4, q⟩ => op_eqD hu pins s σ H x y v u Q I rx ry ⟨d, e, h1, h2, h3, h4, by simpa using q⟩
theorem op2_ne (hu : X.A.units + 64 < cLine) : Op2 T X (compareOp .NotEq) oNe := op2_eqD fun pins s σ H x y v u Q I rx ry ⟨d, e, h1, h2, h3, h4, q⟩ => op_neD hu pins s σ H x y v u Q I rx ry ⟨d, e, h1, h2, h3, h4, by simpa using q⟩
end
end Mi
namespace Mi
open PySem PySem.Spec L2
open PyProof.Rows hiding St
def mAlt (a b : ME) : ME := fun σ S => match a σ S with
  | .bad => b σ S
  | r => r
section
variable {T : Tab} {W : WX} {X : Cx} {e : Expr} {ma mb : ME}
theorem de_alt (ha : DE T X W e ma) (hb : DE T X W e mb) : DE T X W e (mAlt ma mb) := (pe_or2 ha hb).imp fun σ H Q h => by
  obtain ⟨ρ, S, τ, r, l, h⟩ := h
  unfold mAlt at h
  cases e : ma τ S with
  | bad => rw [e] at h; exact .inr ⟨ρ, S, τ, r, l, h⟩
  | ok v S2 => rw [e] at h; exact .inl ⟨ρ, S, τ, r, l, by rw [e]; exact h⟩
  | exc c d S2 => rw [e] at h; exact .inl ⟨ρ, S, τ, r, l, by rw [e]; exact h⟩
end
def keyOf : V → Option Key
  | .int i => some (.inl i)
  | .str x => some (.inr x)
  | _ => none
theorem keyOf_kV {v : V} {k : Key} (h : keyOf v = some k) : v = kV k := by
  unfold keyOf at h
  split at h <;> first | (cases h; rfl) | cases h
section
variable {ρ : List Addr} {kvs ws : List (Key × V)} {k : Key}
theorem fr_val {κ : Type} [DecidableEq κ] {kvs ws : List (κ × V)} {k : κ} (h : FR ρ kvs ws) : OR ρ (valV kvs k) (valV ws k) ∧ (valV kvs k = none → valV ws k = none) := by
  induction h with
  | nil => exact ⟨trivial, fun _ => rfl⟩
  | @cons p q ps qs r t ih =>
    by_cases z : p.1 = k
    · rw [valV_pos z, valV_pos (r.1.symm.trans z)]
      exact ⟨r.2, fun e => by cases e⟩
    · rw [valV_neg z, valV_neg (fun q => z (r.1.trans q))]
      exact ih
theorem fr_get {κ : Type} [DecidableEq κ] {kvs ws : List (κ × V)} {k : κ} {v : V} (h : FR ρ kvs ws) (e : valV kvs k = some v) : ∃ w, valV ws k = some w ∧ VR ρ v w := by
  have q := (fr_val (k := k) h).1
  rw [e] at q
  cases e2 : valV ws k with
  | none => rw [e2] at q; exact q.elim
  | some w => rw [e2] at q; exact ⟨w, rfl, q⟩
theorem key_vr {v w : V} (h : keyOf v = some k) (x : VR ρ v w) : w = kV k := by
  rw [keyOf_kV h] at x
  cases k <;> exact x
end
def oIx : V → V → Sto → R V := fun x y S => match x, y with
  | .str z, .int i => if z.length ≤ sizeLine then (match atI z.cps.toList i with
    | some c => .ok (.str ⟨#[c]⟩) S
    | none => .bad) else .bad
  | x, .int i => match rdL S x with
    | some xs => (match atI xs i with
      | some v => .ok v S
      | none => .bad)
    | none => match rdT S x with
      | some xs => (match atI xs i with
        | some v => .ok v S
        | none => .bad)
      | none => .bad
  | _, _ => .bad
def oDGet : V → V → Sto → R V := fun x y S => match rdK S x, keyOf y with
  | some kvs, some k => (match valV kvs k with
    | some v => .ok v S
    | none => .bad)
  | _, _ => .bad
theorem atI_vr {ρ : List Addr} {xs ws : List V} {i : Int} {v : V} (h : VsR ρ xs ws) (e : atI xs i = some v) : ∃ w, atI ws i = some w ∧ VR ρ v w := by
  unfold atI at e ⊢
  rw [← prd_len h]
  cases e1 : ixN xs.length i with
  | none => rw [e1] at e; cases e
  | some j =>
    rw [e1] at e
    exact prd_get h e
section
variable {T : Tab} {W : WX} {X : Cx} {a b : Expr} {ma mb : ME} {pos : Pos}
theorem de_ix (ha : DE T X W a ma) (hb : DE T X W b mb) (hs : PlainIx b := by exact fun _ _ => rfl) : DE T X W (.Subscript a b pos) (mBin oIx ma mb) := (pe_ix ix_seq ha hb hs).imp fun σ H Q h => by
  obtain ⟨ρ, S, τ, r, l, h⟩ := h
  refine ⟨ρ, S, τ, r, l, Post.bind h fun ρ1 S1 H1 x w p1 r1 x1 h1 => ?_⟩
  refine ⟨ρ1, S1, τ, r1, l.mono p1.pre, Post.bind h1 fun ρ2 S2 H2 y u p2 r2 y2 h2 => ?_⟩
  have x2 := x1.mono p2.pre
  unfold oIx at h2
  split at h2
  · split at h2
    · split at h2
      · rename_i hz _ c ec
        cases x2
        cases y2
        exact .inr (.inr ⟨_, _, c, rfl, rfl, hz, ec, h2 ρ2 H2 _ Ext.refl r2 rfl⟩)
      · exact h2.elim
    · exact h2.elim
  · cases y2
    split at h2
    · rename_i xs el
      obtain ⟨ad, ws, ew, eh, vr⟩ := r2.rdL el x2
      subst ew
      split at h2
      · rename_i v ev
        obtain ⟨w', ew, rw'⟩ := atI_vr vr ev
        exact .inl ⟨ad, ws, _, w', rfl, rfl, .inl eh, ew, h2 ρ2 H2 _ Ext.refl r2 rw'⟩
      · exact h2.elim
    · split at h2
      · rename_i xs el
        obtain ⟨ad, ws, ew, eh, vr⟩ := r2.rdT el x2
        subst ew
        split at h2
        · rename_i v ev
          obtain ⟨w', ew, rw'⟩ := atI_vr vr ev
          exact .inr (.inl ⟨ad, ws, _, w', rfl, rfl, .inl (.inl eh), ew, h2 ρ2 H2 _ Ext.refl r2 rw'⟩)
        · exact h2.elim
      · exact h2.elim
  · exact h2.elim
theorem de_dget (hu : X.A.units + 1 < cLine) (ha : DE T X W a ma) (hb : DE T X W b mb) (hs : NoSl b := by exact fun _ _ => rfl) : DE T X W (.Subscript a b pos) (mBin oDGet ma mb) := (pe_dget hu ha hb hs).imp fun σ H Q h => by
  obtain ⟨ρ, S, τ, r, l, h⟩ := h
  refine ⟨ρ, S, τ, r, l, Post.bind h fun ρ1 S1 H1 x w p1 r1 x1 h1 => ?_⟩
  refine ⟨ρ1, S1, τ, r1, l.mono p1.pre, Post.bind h1 fun ρ2 S2 H2 y u p2 r2 y2 h2 => ?_⟩
  have x2 := x1.mono p2.pre
  unfold oDGet at h2
  split at h2
  · rename_i kvs k ek ey
    obtain ⟨ad, ws, ew, eh, fr⟩ := r2.rdK ek x2
    subst ew
    have eu := key_vr ey y2
    subst eu
    split at h2
    · rename_i v ev
      obtain ⟨w', ew, rw'⟩ := fr_get fr ev
      exact ⟨ad, w', rfl, .inl ⟨ws, k, eh, rfl, ew.symm⟩, h2 ρ2 H2 _ Ext.refl r2 rw'⟩
    · exact h2.elim
  · exact h2.elim
/-- a[b], of a list, a tuple, a text or a dict -/
theorem de_sub (hu : X.A.units + 1 < cLine) (ha : DE T X W a ma) (hb : DE T X W b mb) (hs : PlainIx b := by exact fun _ _ => rfl) : DE T X W (.Subscript a b pos) (mAlt (mBin oIx ma mb) (mBin oDGet ma mb)) := de_alt (de_ix ha hb hs) (de_dget hu ha hb hs)
end
theorem eqV_vr {ρ : List Addr} {x y x' y' : V} (h : VR ρ x x') (h' : VR ρ y y') (fx : flatV x = true) (fy : flatV y = true) : x' = x ∧ y' = y := by
  constructor
  · cases x with
    | ref i => cases fx
    | _ => exact h
  · cases y with
    | ref i => cases fy
    | _ => exact h'
theorem flat_vr {ρ : List Addr} {xs ws : List V} (h : VsR ρ xs ws) (f : xs.all flatV = true) : ws = xs := by
  induction h with
  | nil => rfl
  | @cons a b l1 l2 r t ih =>
    rw [List.all_cons, Bool.and_eq_true] at f
    rw [ih f.2, (eqV_vr r r f.1 f.1).1]
end Mi
namespace Mi
open PySem PySem.Spec L2
open PyProof.Rows hiding St
abbrev CalX (T : Tab) (X : Cx) (f : Value) (o : List V → Sto → R V) : Prop := CallR X f (denC (gm T X) o) ∧ ∀ xs S, (o xs S).quiet
section
variable {T : Tab} {W : WX} {X : Cx} {e : Expr} {es : List Expr} {ms : MA} {x : Str} {p pos : Pos} {id Ty : String} {o : List V → Sto → R V}
theorem den_call {σ : St} {H : Hp} {Q : VK} (ho : ∀ xs S, (o xs S).quiet) (h : den (gm T X) W VR (mCall o ms) σ H Q) : tCB (denC (gm T X) o) (den (gm T X) W VsR ms) σ H Q := by
  obtain ⟨ρ, S, τ, r, l, h⟩ := h
  refine ⟨ρ, S, τ, r, l, Post.bind h fun ρ1 S1 H1 x w p1 r1 x1 h1 => ?_⟩
  exact ⟨ρ1, S1, x, σ, r1, x1, h1.still (ho _ _)⟩
theorem de_callB (hc : CalX T X (.builtin id) o) (hm : X.mg x = none) (hv : bootBuiltins x = some (.builtin id)) (ha : DA T X W (e :: es) ms) (hg : Gl X x := by rfl) (hn : x ≠ "__name__" := by decide) (hdb : (x == ("__debug__" : Str)) = false := by decide)
    (he : starEach (e :: es) X.env = (false, eval e X.env) :: starEach es X.env := by rfl) (hpl : (backTo pos (starEach es X.env)).any (·.1) = false := by rfl) : DE T X W (.Call (.Name x p) (e :: es) [] pos) (mCall o ms) :=
  (pe_callB hc.1 hg hm hv ha hn hdb he hpl).imp fun σ H Q h => den_call hc.2 h
end
theorem vsr_one {ρ : List Addr} {x : V} {ws : List V} (h : VsR ρ [x] ws) : ∃ w, ws = [w] ∧ VR ρ x w := by
  cases h with
  | cons r t => cases t; exact ⟨_, rfl, r⟩
section
variable {T : Tab} {X : Cx}
theorem calX_of {f : Value} {o : List V → Sto → R V} (hq : ∀ xs S, (o xs S).quiet)
    (h : ∀ (pins : List (Addr × Obj)) (s : Shared) (σ : St) (H : Hp) (xs : List V) (us : List Value) (Q : VK) (ρ : List Addr) (S : Sto) (vs : List V) (τ : St), Inv X pins σ H s → Vals xs us → Rep (gm T X) ρ S H → VsR ρ vs xs → Post (gm T X) W0 VR ρ H τ Q (o vs S) →
      wpAny (model X.prog X.w) X.A (call f us) (EP X pins σ Q) X.xe s) : CalX T X f o :=
  ⟨fun pins s σ H xs us Q I r ⟨ρ, S, vs, τ, rp, rv, q⟩ => h pins s σ H xs us Q ρ S vs τ I r rp rv q, hq⟩
/-- len -/
def oLen : List V → Sto → R V := fun xs S => match xs with
  | [.str z] => if z.length ≤ sizeLine then .ok (.int z.length) S else .bad
  | [x] => match rdL S x with
    | some ys => .ok (.int ys.length) S
    | none => match rdT S x with
      | some ys => .ok (.int ys.length) S
      | none => match rdK S x with
        | some kvs => .ok (.int kvs.length) S
        | none => .bad
  | _ => .bad
theorem cal_len : CalX T X (.builtin "len") oLen := by
  refine calX_of (fun xs S => ?_) fun pins s σ H xs us Q ρ S vs τ I r rp rv h => ?_
  · unfold oLen
    repeat' split
    all_goals trivial
  · unfold oLen at h
    split at h
    · obtain ⟨w, e, rw'⟩ := vsr_one rv
      subst e
      cases rw'
      split at h
      · rename_i hz
        exact call_len_str pins s σ H _ us Q I r ⟨_, rfl, hz, h ρ H _ Ext.refl rp rfl⟩
      · exact h.elim
    · obtain ⟨w, e, rw'⟩ := vsr_one rv
      subst e
      split at h
      · rename_i el
        obtain ⟨ad, ws, ew, eh, vr⟩ := rp.rdL el rw'
        subst ew
        exact call_len_seq pins s σ H _ us Q I r ⟨ad, ws, rfl, .inl (.inl eh), h ρ H _ Ext.refl rp (by rw [prd_len vr]; rfl)⟩
      · split at h
        · rename_i el
          obtain ⟨ad, ws, ew, eh, vr⟩ := rp.rdT el rw'
          subst ew
          exact call_len_seq pins s σ H _ us Q I r ⟨ad, ws, rfl, .inr (.inl (.inl eh)), h ρ H _ Ext.refl rp (by rw [prd_len vr]; rfl)⟩
        · split at h
          · rename_i el
            obtain ⟨ad, ws, ew, eh, vr⟩ := rp.rdK el rw'
            subst ew
            obtain ⟨u, eu, rx⟩ := vals1 r
            subst eu
            cases rx
            refine d_len I eh fun t s' I' => ⟨.int ws.length, H, I', ⟨t, rfl⟩, h ρ H _ Ext.refl rp ?_⟩
            rw [prd_len vr]
            rfl
          · exact h.elim
    · exact h.elim
/-- sorting of ints -/
def insI (x : Int) : List Int → List Int
  | [] => [x]
  | y :: r => if x ≤ y then x :: y :: r else y :: insI x r
def sortI : List Int → List Int
  | [] => []
  | x :: r => insI x (sortI r)
theorem ints_vsr {ρ : List Addr} : ∀ ns : List Int, VsR ρ (ns.map V.int) (ns.map V.int)
  | [] => .nil
  | _ :: r => .cons rfl (ints_vsr r)
end
end Mi
namespace Mi
open PySem PySem.Spec L2
open PyProof.Rows hiding St
def tyS (Ty : String) (S : Sto) : V → Bool
  | .str _ => Ty == "str"
  | .ref i => match S[i]? with
    | some (.lst _) => Ty == "list"
    | some (.lck (.lst _)) => Ty == "list"
    | some (.dK _) => Ty == "dict"
    | some (.lck (.dK _)) => Ty == "dict"
    | _ => false
  | _ => false
abbrev Mth := V → List V → Sto → R V
def denM (G : Gm) (o : Mth) : V → List V → Hp → VK → Prop := fun x xs H Q => ∃ ρ S v vs σ, Rep G ρ S H ∧ VR ρ v x ∧ VsR ρ vs xs ∧ Post G (fun _ _ _ _ => False) VR ρ H σ Q (o v vs S)
abbrev MthX (T : Tab) (X : Cx) (id : String) (o : Mth) : Prop := MtR X id (denM (gm T X) o) ∧ ∀ x xs S, (o x xs S).quiet
def mBM (Ty : String) (o : Mth) (a : ME) (b : MA) : ME := fun σ S => (a σ S).bind fun x S1 => if tyS Ty S1 x = true then (b σ S1).bind fun xs S2 => o x xs S2 else .bad
section
variable {T : Tab} {W : WX} {X : Cx} {o e : Expr} {es : List Expr} {mo : ME} {ms : MA} {name : Str} {apos cpos : Pos} {Ty id : String} {f : Mth}
theorem tyS_is {pins : List (Addr × Obj)} {σ : St} {H : Hp} {s : Shared} {ρ : List Addr} {S : Sto} {a w : V} {v : Value} (I : Inv X pins σ H s) (rp : Rep (gm T X) ρ S H) (x : VR ρ a w) (r : RelV w v) (ty : tyS Ty S a = true) :
    s.TypeIs v Ty ∧ ∀ a, v = .ref a → ∃ ob, s.heap.get? a = some ob ∧ ob.dict = none := by
  unfold tyS at ty
  split at ty
  · cases x
    exact tyV_is I r (show Ty = "str" from of_decide_eq_true ty)
  · split at ty
    · rename_i es
      obtain ⟨ad, u, ew, er, eh, ws, eu, vr⟩ := rp.ref es x
      subst ew; subst eu
      exact tyV_is I r (.inl ⟨of_decide_eq_true ty, ws, .inl (.inl eh)⟩)
    · rename_i es
      obtain ⟨ad, u, ew, er, eh, ob, u2, eu, ws, eu2, vr⟩ := rp.ref es x
      subst ew; subst eu; subst eu2
      exact tyV_is I r (.inl ⟨of_decide_eq_true ty, ws, .inl (.inr ⟨ob, eh⟩)⟩)
    · rename_i es
      obtain ⟨ad, u, ew, er, eh, ws, eu, vr⟩ := rp.ref es x
      subst ew; subst eu
      exact tyV_is I r (.inr (.inr (.inl ⟨of_decide_eq_true ty, .inl ⟨ws, eh⟩⟩)))
    · rename_i es
      obtain ⟨ad, u, ew, er, eh, ob, u2, eu, ws, eu2, vr⟩ := rp.ref es x
      subst ew; subst eu; subst eu2
      cases r
      obtain ⟨t1, t2, _⟩ := isD_at I (.inl ⟨ws, .inr ⟨ob, eh⟩⟩)
      have e : Ty = "dict" := of_decide_eq_true ty
      subst e
      exact ⟨t1, t2⟩
    · cases ty
  · cases ty
theorem de_bm (pa : PlainAttrs Ty) (slot : Slot Ty name id) (hty : typeOf (.builtin id) = pure (.type "method_descriptor")) (hm : MthX T X id f) (ho : DE T X W o mo) (ha : DA T X W (e :: es) ms)
    (hbase : attributeBase o name X.env (eval o X.env) = eval o X.env := by rfl)
    (hfew : ((backTo cpos (starEach (e :: es) X.env)).all (fun x => !x.1) && (backToKw cpos (keywordEach [] X.env)).all (fun x => x.1.isSome)
      && decide ((e :: es).length + ([] : List Keyword).length + (if ([] : List Keyword).isEmpty then 0 else 1) < 30)) = true := by rfl)
    (hline : (apos.endLine == cpos.line) = true := by rfl) (hs : starEach (e :: es) X.env = (false, eval e X.env) :: starEach es X.env := by rfl) (hplain : (backTo cpos (starEach es X.env)).any (·.1) = false := by rfl) :
    DE T X W (.Call (.Attribute o name apos) (e :: es) [] cpos) (mBM Ty f mo ms) := by
  refine ⟨fun pins s σ H Q I h => ?_⟩
  obtain ⟨ρ, S, τ, r, l, h⟩ := h
  have h' : den (gm T X) W VR mo σ H (fun w H1 => ∃ ρ1 S1 x, Rep (gm T X) ρ1 S1 H1 ∧ LR ρ1 τ σ ∧ VR ρ1 x w ∧ tyS Ty S1 x = true ∧ Post (gm T X) W VR ρ1 H1 σ Q ((ms τ S1).bind fun xs S2 => f x xs S2)) := by
    refine ⟨ρ, S, τ, r, l, Post.bind h fun ρ1 S1 H1 x w p1 r1 x1 h1 => ?_⟩
    by_cases z : tyS Ty S1 x = true
    · rw [if_pos z] at h1
      exact ⟨ρ1, S1, x, r1, l.mono p1.pre, x1, z, h1⟩
    · rw [if_neg z] at h1
      exact h1.elim
  refine wpAny_Call_method_late hbase hfew hline rfl (thn (ho.run pins s σ H _ I h') fun v s1 ⟨w, H1, I1, rv, ρ1, S1, x, r1, l1, x1, ty, h1⟩ => ?_)
  obtain ⟨h2, h3⟩ := tyS_is I1 r1 x1 rv ty
  refine ⟨Ty, id, pa, slot, hty, h2, h3, ?_⟩
  have h4 : den (gm T X) W VsR ms σ H1 (fun ws H2 => denM (gm T X) f w ws H2 Q) := by
    refine ⟨ρ1, S1, τ, r1, l1, Post.bind h1 fun ρ2 S2 H2 xs ws p2 r2 x2 q2 => ?_⟩
    exact ⟨ρ2, S2, x, xs, σ, r2, x1.mono p2.pre, x2, q2.still (hm.2 _ _ _)⟩
  have hA := ha.run cpos pins s1 σ H1 _ I1 h4
  rw [hs] at hA ⊢
  refine Calls.callWith_builtin (by show (false || (backTo cpos (starEach es X.env)).any (·.1)) = false; rw [hplain] <;> rfl) (Calls.evalArgs_plain ?_)
  exact thn hA fun us s2 ⟨vs, H2, I2, r2, q2⟩ => hm.1 pins s2 σ H2 w vs v us Q I2 rv r2 q2
end
section
variable {T : Tab} {X : Cx}
theorem mthX_of {id : String} {o : Mth} (hq : ∀ x xs S, (o x xs S).quiet)
    (h : ∀ (pins : List (Addr × Obj)) (s : Shared) (σ : St) (H : Hp) (x : V) (xs : List V) (v : Value) (us : List Value) (Q : VK) (ρ : List Addr) (S : Sto) (a : V) (vs : List V) (τ : St), Inv X pins σ H s → RelV x v → Vals xs us → Rep (gm T X) ρ S H → VR ρ a x → VsR ρ vs xs →
      Post (gm T X) W0 VR ρ H τ Q (o a vs S) → wpAny (model X.prog X.w) X.A (call (.builtin id) (v :: us)) (EP X pins σ Q) X.xe s) : MthX T X id o :=
  ⟨fun pins s σ H x xs v us Q I rx r ⟨ρ, S, a, vs, τ, rp, ra, rv, q⟩ => h pins s σ H x xs v us Q ρ S a vs τ I rx r rp ra rv q, hq⟩
/-- xs.count(y), of flat values -/
def oCount : Mth := fun x as S => match as, rdL S x with
  | [y], some xs => if flatV y = true ∧ xs.all flatV = true then .ok (.int (xs.countP fun z => eqV z y : Nat)) S else .bad
  | _, _ => .bad
theorem count_eqU {x : V} : ∀ {xs : List V} {us : List Value}, Vals xs us → xs.all flatV = true → us.countP (eqU x) = xs.countP fun y => eqV y x
  | _, _, .nil, _ => rfl
  | y :: xs, u :: us, .cons r t, f => by
    rw [List.all_cons, Bool.and_eq_true] at f
    rw [List.countP_cons, List.countP_cons, eqU_of r f.1, count_eqU t f.2]
theorem mth_count : MthX T X "list.count" oCount := by
  refine mthX_of (fun x xs S => ?_) fun pins s σ H x xs v us Q ρ S a vs τ I rx r rp ra rv h => ?_
  · unfold oCount
    repeat' split
    all_goals trivial
  · unfold oCount at h
    split at h
    · rename_i y ys el
      obtain ⟨w, e, rw'⟩ := vsr_one rv
      subst e
      obtain ⟨ad, ws, ew, eh, vr⟩ := rp.rdL el ra
      subst ew
      split at h
      · rename_i hz
        have e2 := flat_vr vr hz.2
        subst e2
        have e3 := (eqV_vr rw' rw' hz.1 hz.1).1
        subst e3
        have h := h ρ H _ Ext.refl rp rfl
        cases rx
        obtain ⟨u, rfl, ru⟩ := r.one
        obtain ⟨its, rv2, ⟨⟨cls, dd, data, sl⟩, n, ho, hc, hdn, hd⟩, hlen⟩ := I.list (.inl eh)
        simp only at hc hd
        subst hc hd
        refine call_meets PySem.F.slot_list_count ⟨_, ho, rfl⟩ PySem.F.entry_list_count (PySem.F.args_list_count_2 _ _)
          (SeqAt.list_countAt ad its.toArray n dd sl u (eqU w)) ⟨ho, fun y hy => mem_eqAt ru hz.1 rv2 hz.2 y (by simpa using hy), ?_⟩
        refine ⟨.int (its.countP (eqU w) : Nat), H, I.tok _, ⟨s.toks, rfl⟩, ?_⟩
        rw [count_eqU rv2 hz.2]
        exact h
      · exact h.elim
    · exact h.elim
end
end Mi
namespace Mi
open PySem PySem.Spec L2
open PyProof.Rows hiding St
theorem Ctx.u1 {X : Cx} {W : WX} {k : Nat} (C : Ctx X W k) : X.A.units + 1 < cLine := by have := C.room.un; omega
theorem Ctx.u64 {X : Cx} {W : WX} {k : Nat} (C : Ctx X W k) : X.A.units + 64 < cLine := by have := C.room.un; omega
theorem CtH.u1 {X : Cx} {k : Nat} (C : CtH X k) : X.A.units + 1 < cLine := by have := C.un; omega
theorem CtH.u64 {X : Cx} {k : Nat} (C : CtH X k) : X.A.units + 64 < cLine := by have := C.un; omega
section
variable {T : Tab} {P : Program} {w : World} {K : PySem.W.Frag} {h base : Heap} {mg : Str → Option Value}
theorem fnF_of {x : Str} {n k : Nat} {f : Fn} {a : Addr} {fd : FuncData} {ps : List Str} (m : mg x = some (.ref a)) (kp : PySem.W.keepIn K (.ref a) = true) (b : Binds K fd ps []) (F : FnOk P w K mg base (L2.CX P w) k a fd ps (spOf ⟨K, mg, T.cs, T.xs⟩ n f)) : FnF T P w K mg base x n k f := ⟨a, fd, ps, m, kp, b, F⟩
end
def noLst (K : PySem.W.Frag) : Bool := K.all fun p => match p.2.cls with
  | .type t => t != "list"
  | _ => true
theorem look_mem {β : Type} {a : Addr} {o : β} : ∀ {K : List (Addr × β)}, K.lookup a = some o → (a, o) ∈ K
  | [], e => by cases e
  | (b, p) :: r, e => by
    by_cases z : a = b
    · subst z
      rw [List.lookup_cons_self] at e
      cases e
      exact List.mem_cons_self
    · rw [List.lookup_cons, show (a == b) = false from beq_eq_false_iff_ne.mpr z] at e
      exact List.mem_cons_of_mem _ (look_mem e)
theorem noLst_of {K : PySem.W.Frag} (h : noLst K = true) {a : Addr} {o : Obj} (e : K.lookup a = some o) : o.cls ≠ .type "list" := fun q => by
  have m := List.all_eq_true.mp h (a, o) (look_mem e)
  dsimp only at m
  rw [q] at m
  exact absurd m (by decide)
theorem walk_end {l : PySem.W.OpenLaw} {k : Nat} {q : Program} {loose : List Str} {XP : (Str → Option Value) → Heap → Prop} {YP : World → Heap → Prop} {d : DefRec} {K : Params → PySem.W.Frag} {T : Tab} {f : Fn} {x : Str}
    (hn : l.most = some 63) (hdf : d.params.defaults = []) (hr : Room k callerA) (hY : ∀ (w : World) (h : Heap), YP w h → (K w.params).In h) (hL : ∀ p : Params, noLst (K p) = true)
    (F : ∀ (w : World) (mg : Str → Option Value) (fa : Addr) (h : Heap), (K w.params).In h → h.Ns mainGlobals mg → mg d.name = some (.ref fa) →
      ∃ fd : FuncData, (∀ (s : Shared) (u : Value), BindsTo s fd ⟨[u], []⟩ [(x, u)]) ∧
        ∀ base : Heap, (K w.params).In base → base.Ns mainGlobals mg → FnOk l.prog w (K w.params) mg base (L2.CX l.prog w) k fa fd [x] (spOf ⟨K w.params, mg, T.cs, T.xs⟩ 1 f))
    (law : ∀ ns : List Int, ns.length ≤ 63 → (∀ z ∈ ns, Builtin.Int.intBits z ≤ 1048576) → ∃ S, f [.ref 0] [.lck (.lst (ns.map V.int))] = .ok (.bl true) S) :
    PySem.W.WalkO q loose XP YP l.row.toRowW d [] (fun f vs => PySem.call f vs) := by
  refine Att.attach_callB hn hdf fun w s₀ s₁ mg mb fa o pm cd doc a vs ns G Y ho hd hcd hmg hobj hints hlen hbits hg => ?_
  have KX := hY w _ Y
  obtain ⟨fd, hb, hF⟩ := F w mg fa _ KX G.T.g hmg
  refine law_call (sp := spOf ⟨K w.params, mg, T.cs, T.xs⟩ 1 f) KX G.T.g G.T.b G.T.builtins G.T.nolimit hg hobj hints (Nat.le_trans hlen (by decide)) hr hF hb (fun H hO hS => ?_) fun H e s' ⟨_, _, _, _, _, _, _, _, _, _, _, _, h⟩ => h
  obtain ⟨S, e⟩ := law ns hlen hbits
  have hH : ∃ ob, H a = some (.frz ob (.lst (ns.map V.int))) := by
    rcases hS with hS | ⟨o, _, _, hk, hc, _⟩
    · rcases hS with hS | ⟨ob, hS⟩
      · rcases hO a with z | ⟨ob, xs, z⟩
        · rw [hS] at z; cases z
        · rw [hS] at z; cases z
      · exact ⟨ob, hS⟩
    · exact absurd hc (noLst_of (hL _) hk)
  obtain ⟨ob, hH⟩ := hH
  refine ⟨rfl, [a], [.lck (.lst (ns.map V.int))], [.ref 0], [], ⟨by simp, rfl, fun i o b h1 h2 => ?_⟩, .cons ⟨a, rfl, rfl⟩ .nil, ?_⟩
  · cases i with
    | succ i => cases h1
    | zero =>
      cases h1
      cases h2
      exact ⟨_, hH, ob, _, rfl, _, rfl, ints_vsr ns⟩
  · rw [e]
    exact fun ρ2 H2 w p2 r2 x2 => x2
end Mi
namespace Mi
open PySem PySem.Spec L2
open PyProof.Rows hiding St
/-- the i-th statement of the top -/
def atTop (p : Program) (i : Nat) : Stmt := p.main.body.getD i (.Pass ⟨0, 0, 0, 0⟩)
/-- what a name of a class stands for -/
def NmV (mg : Str → Option Value) (x : Str) (v : Value) : Prop := (∃ C, mg x = some (.ref C) ∧ v = .ref C) ∨ ∃ t, mg x = none ∧ bootBuiltins x = some (.type t) ∧ v = .type t
def IsiF (T : Tab) (K : PySem.W.Frag) (mg : Str → Option Value) (xs : List Str) (tab : List (Tag × Bool)) : Prop := ∃ vs : List Value, Paired (NmV mg) xs vs ∧ ITab T K mg vs tab
section
variable {T : Tab} {W : WX} {X : Cx} {e : Expr} {m : ME} {p pos p2 tpos : Pos} {x : Str} {tab : List (Tag × Bool)}
theorem nm_pe {v : Value} (h : NmV X.mg x v) (hg : Gl X x) (hn : x ≠ "__name__") (hd : (x == ("__debug__" : Str)) = false) : ∃ cw, ClsV cw v ∧ PE X (.Name x p) (tC cw) := by
  rcases h with ⟨C, hm, rfl⟩ | ⟨t, hm, hb, rfl⟩
  · exact ⟨.ref C, .own C, pe_glob hg hm rfl hd⟩
  · exact ⟨.ty t, .ty t, pe_bltn hg hm hb rfl hn hd⟩
end
theorem itab_nil {T : Tab} {K : PySem.W.Frag} {mg : Str → Option Value} {cs : List Value} : ITab T K mg cs [] := trivial
theorem itab_ty {T : Tab} {K : PySem.W.Frag} {mg : Str → Option Value} {cs : List Value} {t : Tag} {u : Value} {b : Bool} {r : List (Tag × Bool)} (ht : TagV T K mg t u) (hk : PySem.W.kitAny K u cs = some b) (hr : ITab T K mg cs r) : ITab T K mg cs ((t, b) :: r) := ⟨⟨u, ht, hk⟩, hr⟩
end Mi
namespace Mi
open PySem PySem.Spec L2
open PyProof.Rows hiding St
section
variable {α β : Type}
@[simp] theorem bind_ok (a : α) (S : Sto) (f : α → Sto → R β) : (R.ok a S).bind f = f a S := rfl
@[simp] theorem bind_exc (c : Nat) (d : Option V) (S : Sto) (f : α → Sto → R β) : (R.exc c d S).bind f = .exc c d S := rfl
@[simp] theorem bind_bad (f : α → Sto → R β) : (R.bad : R α).bind f = .bad := rfl
@[simp] theorem lift_ok (a : α) (S : Sto) (σ : St) (f : α → Sto → RS) : (R.ok a S).lift σ f = f a S := rfl
@[simp] theorem lift_exc (c : Nat) (d : Option V) (S : Sto) (σ : St) (f : α → Sto → RS) : (R.exc c d S).lift σ f = .exc c d σ S := rfl
@[simp] theorem lift_bad (σ : St) (f : α → Sto → RS) : (R.bad : R α).lift σ f = .bad := rfl
@[simp] theorem seq_nx (σ : St) (S : Sto) (f : St → Sto → RS) : (RS.nx σ S).seq f = f σ S := rfl
@[simp] theorem seq_rt (v : V) (S : Sto) (f : St → Sto → RS) : (RS.rt v S).seq f = .rt v S := rfl
@[simp] theorem seq_bk (σ : St) (S : Sto) (f : St → Sto → RS) : (RS.bk σ S).seq f = .bk σ S := rfl
@[simp] theorem seq_ct (σ : St) (S : Sto) (f : St → Sto → RS) : (RS.ct σ S).seq f = .ct σ S := rfl
@[simp] theorem seq_exc (c : Nat) (d : Option V) (σ : St) (S : Sto) (f : St → Sto → RS) : (RS.exc c d σ S).seq f = .exc c d σ S := rfl
end
def fin : RS → R V
  | .rt v S1 => .ok v S1
  | .nx _ S1 => .ok .non S1
  | .exc c d _ S1 => .exc c d S1
  | _ => .bad
@[simp] theorem fnOf_ap (n : Nat) (m : MS) (args : List V) (S : Sto) : fnOf n m args S = fin (m (args.map some ++ List.replicate (n - args.length) none) S) := rfl
@[simp] theorem fin_rt (v : V) (S : Sto) : fin (.rt v S) = .ok v S := rfl
@[simp] theorem fin_nx (σ : St) (S : Sto) : fin (.nx σ S) = .ok .non S := rfl
@[simp] theorem fin_exc (c : Nat) (d : Option V) (σ : St) (S : Sto) : fin (.exc c d σ S) = .exc c d S := rfl
def opV (S : Sto) : Option (Option V) → R V
  | some (some v) => .ok v S
  | _ => .bad
@[simp] theorem opV_some (S : Sto) (v : V) : opV S (some (some v)) = .ok v S := rfl
def kB : V → Sto → R Bool := fun x S1 => match x with
  | .bl b => .ok b S1
  | _ => .bad
@[simp] theorem kB_bl (b : Bool) (S : Sto) : kB (.bl b) S = .ok b S := rfl
def kAnd (f : Sto → R V) : V → Sto → R V := fun x S1 => match x with
  | .bl true => f S1
  | .bl false => .ok (.bl false) S1
  | _ => .bad
def kOr (f : Sto → R V) : V → Sto → R V := fun x S1 => match x with
  | .bl true => .ok (.bl true) S1
  | .bl false => f S1
  | _ => .bad
def kNot : V → Sto → R V := fun x S1 => match x with
  | .bl b => .ok (.bl (!b)) S1
  | _ => .bad
@[simp] theorem kAnd_bl (f : Sto → R V) (b : Bool) (S : Sto) : kAnd f (.bl b) S = if b = true then f S else .ok (.bl false) S := by cases b <;> rfl
@[simp] theorem kOr_bl (f : Sto → R V) (b : Bool) (S : Sto) : kOr f (.bl b) S = if b = true then .ok (.bl true) S else f S := by cases b <;> rfl
@[simp] theorem kNot_bl (b : Bool) (S : Sto) : kNot (.bl b) S = .ok (.bl (!b)) S := rfl
def oIsi (tab : List (Tag × Bool)) : V → Sto → R V := fun v S1 => match tagOf S1 v with
  | some t => match lookT tab t with
    | some b => .ok (.bl b) S1
    | none => .bad
  | none => .bad
def isiR (S : Sto) : Option Bool → R V
  | some b => .ok (.bl b) S
  | none => .bad
@[simp] theorem isiR_some (S : Sto) (b : Bool) : isiR S (some b) = .ok (.bl b) S := rfl
theorem oIsi_tag {tab : List (Tag × Bool)} {v : V} {S : Sto} {t : Tag} (h : tagOf S v = some t) : oIsi tab v S = isiR S (lookT tab t) := by
  unfold oIsi
  rw [h]
  dsimp only
  cases lookT tab t <;> rfl
@[simp] theorem oIsi_int (tab : List (Tag × Bool)) (i : Int) (S : Sto) : oIsi tab (.int i) S = isiR S (lookT tab .int) := oIsi_tag rfl
@[simp] theorem oIsi_bl (tab : List (Tag × Bool)) (i : Bool) (S : Sto) : oIsi tab (.bl i) S = isiR S (lookT tab .bl) := oIsi_tag rfl
@[simp] theorem oIsi_non (tab : List (Tag × Bool)) (S : Sto) : oIsi tab .non S = isiR S (lookT tab .non) := oIsi_tag rfl
@[simp] theorem oIsi_str (tab : List (Tag × Bool)) (x : Str) (S : Sto) : oIsi tab (.str x) S = isiR S (lookT tab .str) := oIsi_tag rfl
section
variable (σ : St) (S : Sto)
@[simp] theorem mVar_ap (i : Nat) : mVar i σ S = opV S σ[i]? := by
  unfold mVar opV
  cases σ[i]? with
  | none => rfl
  | some o => cases o <;> rfl
@[simp] theorem mC_ap (v : V) : mC v σ S = .ok v S := rfl
@[simp] theorem mUn_ap (o : V → Sto → R V) (a : ME) : mUn o a σ S = (a σ S).bind o := rfl
@[simp] theorem mBin_ap (o : V → V → Sto → R V) (a b : ME) : mBin o a b σ S = (a σ S).bind fun x S1 => (b σ S1).bind fun y S2 => o x y S2 := rfl
@[simp] theorem mNil_ap : mNil σ S = .ok [] S := rfl
@[simp] theorem mCons_ap (a : ME) (r : MA) : mCons a r σ S = (a σ S).bind fun x S1 => (r σ S1).bind fun xs S2 => .ok (x :: xs) S2 := rfl
@[simp] theorem mCall_ap (f : List V → Sto → R V) (a : MA) : mCall f a σ S = (a σ S).bind f := rfl
@[simp] theorem mB_ap (a : ME) : mB a σ S = (a σ S).bind kB := rfl
@[simp] theorem mNot_ap (a : MT) : mNot a σ S = (a σ S).bind fun b S1 => .ok (!b) S1 := rfl
@[simp] theorem mAnd_ap (a b : MT) : mAnd a b σ S = (a σ S).bind fun x S1 => if x = true then b σ S1 else .ok false S1 := rfl
@[simp] theorem mOr_ap (a b : MT) : mOr a b σ S = (a σ S).bind fun x S1 => if x = true then .ok true S1 else b σ S1 := rfl
@[simp] theorem mIf_ap (c : MT) (a b : ME) : mIf c a b σ S = (c σ S).bind fun x S1 => if x = true then a σ S1 else b σ S1 := rfl
@[simp] theorem mAndV_ap (a b : ME) : mAndV a b σ S = (a σ S).bind (kAnd (b σ)) := rfl
@[simp] theorem mOrV_ap (a b : ME) : mOrV a b σ S = (a σ S).bind (kOr (b σ)) := rfl
@[simp] theorem mNotV_ap (a : ME) : mNotV a σ S = (a σ S).bind kNot := rfl
@[simp] theorem mIsi_ap (tab : List (Tag × Bool)) (a : ME) : mIsi tab a σ S = (a σ S).bind (oIsi tab) := rfl
def kLst : List V → Sto → R V := fun xs S1 => if xs.length ≤ sizeLine then .ok (.ref S1.length) (S1 ++ [.lst xs]) else .bad
def kTup : List V → Sto → R V := fun xs S1 => if xs.length ≤ sizeLine then .ok (.ref S1.length) (S1 ++ [.tup xs]) else .bad
@[simp] theorem mLst_ap (a : MA) : mLst a σ S = (a σ S).bind kLst := rfl
@[simp] theorem mTup_ap (a : MA) : mTup a σ S = (a σ S).bind kTup := rfl
def kApp (n : Nat) (f : Fn) : List V → Sto → R V := fun xs S1 => if xs.length = n then f xs S1 else .bad
@[simp] theorem mApp_ap (n : Nat) (f : Fn) (a : MA) : mApp n f a σ S = (a σ S).bind (kApp n f) := rfl
@[simp] theorem mBM_ap (Ty : String) (o : Mth) (a : ME) (b : MA) : mBM Ty o a b σ S = (a σ S).bind fun x S1 => if tyS Ty S1 x = true then (b σ S1).bind fun xs S2 => o x xs S2 else .bad := rfl
@[simp] theorem mSkip_ap : mSkip σ S = .nx σ S := rfl
@[simp] theorem mSeq_ap (a b : MS) : mSeq a b σ S = (a σ S).seq b := rfl
@[simp] theorem mExpr_ap (a : ME) : mExpr a σ S = (a σ S).lift σ fun _ S1 => .nx σ S1 := rfl
@[simp] theorem mSet_ap (i : Nat) (a : ME) : mSet i a σ S = (a σ S).lift σ fun v S1 => .nx (σ.set i (some v)) S1 := rfl
@[simp] theorem mRet_ap (a : ME) : mRet a σ S = (a σ S).lift σ fun v S1 => .rt v S1 := rfl
@[simp] theorem mRetN_ap : mRetN σ S = .rt .non S := rfl
@[simp] theorem mBrk_ap : mBrk σ S = .bk σ S := rfl
@[simp] theorem mIfS_ap (c : MT) (a b : MS) : mIfS c a b σ S = (c σ S).lift σ fun x S1 => if x = true then a σ S1 else b σ S1 := rfl
@[simp] theorem mAug_ap (i : Nat) (o : V → V → Sto → R V) (a : ME) : mAug i o a σ S = (mVar i σ S).lift σ fun x S0 => (a σ S0).lift σ fun y S1 => (o x y S1).lift σ fun z S2 => .nx (σ.set i (some z)) S2 := rfl
theorem mFor_ap (src : St → Sto → R Src) (tg : Tg) (b : MS) : mFor src tg b σ S = (src σ S).lift σ fun s S1 => mFor1 s.chk tg b s.its σ S1 := rfl
def kRange1 : List V → Sto → R Src := fun vs S1 => match vs with
  | [.int j] => if -(2 ^ 62) ≤ j ∧ j < 2 ^ 62 then .ok ⟨intsFrom 0 j.toNat, fun _ => true⟩ S1 else .bad
  | _ => .bad
@[simp] theorem mRange1_ap (ms : MA) : mRange1 ms σ S = (ms σ S).bind kRange1 := rfl
def kWalk : V → Sto → R Src := fun v S1 => match walkOf S1 v with
  | some s => .ok s S1
  | none => .bad
@[simp] theorem mWalk_ap (m : ME) : mWalk m σ S = (m σ S).bind kWalk := rfl
theorem kWalk_lst {i : Nat} {xs : List V} (h : S[i]? = some (.lst xs)) : kWalk (.ref i) S = .ok ⟨xs.map .v, fun S' => decide (S'[i]? = some (.lst xs))⟩ S := by
  simp only [kWalk, walkOf, h]
theorem kWalk_lck {i : Nat} {xs : List V} (h : S[i]? = some (.lck (.lst xs))) : kWalk (.ref i) S = .ok ⟨xs.map .v, fun S' => decide (S'[i]? = some (.lck (.lst xs)))⟩ S := by
  simp only [kWalk, walkOf, h]
theorem kWalk_tup {i : Nat} {xs : List V} (h : S[i]? = some (.tup xs)) : kWalk (.ref i) S = .ok ⟨xs.map .v, fun S' => decide (S'[i]? = some (.tup xs))⟩ S := by
  simp only [kWalk, walkOf, h]
def kCatch (sub : Nat → Bool) (i : Option Nat) (suite : MS) : RS → RS := fun r => match r with
  | .exc c d σ1 S1 => if sub c = true then (match i with
    | some j => (match suite (σ1.set j (some (.ref S1.length))) (S1 ++ [.exc c d]) with
      | .nx σ2 S2 => .nx (σ2.set j none) S2
      | .rt v S2 => .rt v S2
      | .bk σ2 S2 => .bk (σ2.set j none) S2
      | .ct σ2 S2 => .ct (σ2.set j none) S2
      | _ => .bad)
    | none => (match suite σ1 S1 with
      | .exc _ _ _ _ => .bad
      | r => r)) else .exc c d σ1 S1
  | r => r
@[simp] theorem mTry_ap (body : MS) (sub : Nat → Bool) (i : Option Nat) (suite : MS) : mTry body sub i suite σ S = kCatch sub i suite (body σ S) := rfl
@[simp] theorem kCatch_nx (sub : Nat → Bool) (i : Option Nat) (suite : MS) : kCatch sub i suite (.nx σ S) = .nx σ S := rfl
@[simp] theorem kCatch_rt (sub : Nat → Bool) (i : Option Nat) (suite : MS) (v : V) : kCatch sub i suite (.rt v S) = .rt v S := rfl
end
def unCat (j : Nat) : RS → RS
  | .nx σ2 S2 => .nx (σ2.set j none) S2
  | .rt v S2 => .rt v S2
  | .bk σ2 S2 => .bk (σ2.set j none) S2
  | .ct σ2 S2 => .ct (σ2.set j none) S2
  | _ => .bad
@[simp] theorem unCat_nx (j : Nat) (σ : St) (S : Sto) : unCat j (.nx σ S) = .nx (σ.set j none) S := rfl
@[simp] theorem unCat_rt (j : Nat) (v : V) (S : Sto) : unCat j (.rt v S) = .rt v S := rfl
def unBad : RS → RS
  | .exc _ _ _ _ => .bad
  | r => r
@[simp] theorem unBad_nx (σ : St) (S : Sto) : unBad (.nx σ S) = .nx σ S := rfl
@[simp] theorem unBad_rt (v : V) (S : Sto) : unBad (.rt v S) = .rt v S := rfl
section
variable (S : Sto)
@[simp] theorem oAdd_int (i j : Int) : oAdd (.int i) (.int j) S = .ok (.int (i + j)) S := rfl
@[simp] theorem oSub_int (i j : Int) : oSub (.int i) (.int j) S = .ok (.int (i - j)) S := rfl
@[simp] theorem oIAdd_int (i j : Int) : oIAdd (.int i) (.int j) S = .ok (.int (i + j)) S := rfl
@[simp] theorem oNeg_int (i : Int) : oNeg (.int i) S = .ok (.int (-i)) S := rfl
theorem oMod_int (i j : Int) (h : 0 < j) : oMod (.int i) (.int j) S = .ok (.int (i % j)) S := if_pos h
theorem oPow_int (i j : Int) (h : 0 ≤ j ∧ j ≤ 1000000 ∧ i.natAbs < 2 ^ 64) : oPow (.int i) (.int j) S = .ok (.int (i ^ j.toNat)) S := if_pos h
@[simp] theorem oCmp_int (p : Int → Int → Bool) (i j : Int) : oCmp p (.int i) (.int j) S = .ok (.bl (p i j)) S := rfl
theorem oEqD_of {neg : Bool} {x y : V} {d e : PyData} (h1 : rdD S eqDepth x = some d) (h2 : rdD S eqDepth y = some e) (h3 : SeqAt.shaped d = true) (h4 : SeqAt.shaped e = true) : oEqD neg x y S = .ok (.bl (neg != PyData.eqv d e)) S := by
  unfold oEqD
  rw [h1, h2]
  exact if_pos ⟨h3, h4⟩
@[simp] theorem oEqD_int (neg : Bool) (i j : Int) : oEqD neg (.int i) (.int j) S = .ok (.bl (neg != (i == j))) S := oEqD_of S (d := .int i) (e := .int j) rfl rfl rfl rfl
@[simp] theorem oEqD_bl (neg : Bool) (i j : Bool) : oEqD neg (.bl i) (.bl j) S = .ok (.bl (neg != (i == j))) S := oEqD_of S (d := .bool i) (e := .bool j) rfl rfl rfl rfl
@[simp] theorem oEqD_non_int (neg : Bool) (j : Int) : oEqD neg .non (.int j) S = .ok (.bl (neg != false)) S := oEqD_of S (d := .none) (e := .int j) rfl rfl rfl rfl
@[simp] theorem oEqD_int_non (neg : Bool) (j : Int) : oEqD neg (.int j) .non S = .ok (.bl (neg != false)) S := oEqD_of S (d := .int j) (e := .none) rfl rfl rfl rfl
@[simp] theorem oEqD_non (neg : Bool) : oEqD neg .non .non S = .ok (.bl (neg != true)) S := oEqD_of S (d := .none) (e := .none) rfl rfl rfl rfl
@[simp] theorem oIs_non (x : V) : oIs x .non S = .ok (.bl (isNon x)) S := rfl
@[simp] theorem oIsN_non (x : V) : oIsN x .non S = .ok (.bl (!isNon x)) S := rfl
theorem oAdd_lst {i j : Nat} {xs ys : List V} (h1 : rdL S (.ref i) = some xs) (h2 : rdL S (.ref j) = some ys) (h : xs.length + ys.length ≤ sizeLine) : oAdd (.ref i) (.ref j) S = .ok (.ref S.length) (S ++ [.lst (xs ++ ys)]) := by
  show (match rdL S (.ref i), rdL S (.ref j) with
    | some xs, some ys => _
    | _, _ => _) = _
  rw [h1, h2]
  exact if_pos h
theorem oCount_of {x y : V} {xs : List V} (h : rdL S x = some xs) (fy : flatV y = true) (fs : xs.all flatV = true) : oCount x [y] S = .ok (.int (xs.countP fun z => eqV z y : Nat)) S := by
  unfold oCount
  rw [h]
  exact if_pos ⟨fy, fs⟩
end
theorem get_old {S : Sto} {i : Nat} {o : Ob} (h : S[i]? = some o) (ex : Sto) : (S ++ ex)[i]? = some o := by
  rw [List.getElem?_append_left (List.getElem?_eq_some_iff.mp h).1]
  exact h
theorem get_new (S : Sto) (k : Nat) (ex : Sto) : (S ++ ex)[S.length + k]? = ex[k]? := by
  rw [List.getElem?_append_right (Nat.le_add_right _ _), Nat.add_sub_cancel_left]
theorem get_new0 (S : Sto) (ex : Sto) : (S ++ ex)[S.length]? = ex[0]? := get_new S 0 ex
/-- the whole ends with a value -/
def Ends (r : RS) (v : V) : Prop := ∃ S, fin r = .ok v S
theorem Ends.rt {v : V} {S : Sto} : Ends (.rt v S) v := ⟨S, rfl⟩
theorem pre_get' {S S' : Sto} {i : Nat} {o : Ob} (h : S[i]? = some o) (p : S <+: S') : S'[i]? = some o := by
  obtain ⟨ex, rfl⟩ := p
  exact get_old h ex
theorem pre_add (S ex : Sto) : S <+: S ++ ex := List.prefix_append _ _
theorem rdD_lst {S : Sto} {i n : Nat} {xs : List V} (h : S[i]? = some (.lst xs)) : rdD S (n + 1) (.ref i) = (allSome (xs.map (rdD S n))).map .list := by
  rw [rdD]
  simp only [h]
theorem rdD_lck {S : Sto} {i n : Nat} {xs : List V} (h : S[i]? = some (.lck (.lst xs))) : rdD S (n + 1) (.ref i) = (allSome (xs.map (rdD S n))).map .list := by
  rw [rdD]
  simp only [h]
theorem rdD_tup {S : Sto} {i n : Nat} {xs : List V} (h : S[i]? = some (.tup xs)) : rdD S (n + 1) (.ref i) = (allSome (xs.map (rdD S n))).map .tuple := by
  rw [rdD]
  simp only [h]
theorem rdT_tup {S : Sto} {i : Nat} {xs : List V} (h : S[i]? = some (.tup xs)) : rdT S (.ref i) = some xs := by simp only [rdT, h]
theorem oIx_lst {S : Sto} {x : V} {xs : List V} {k : Int} {v : V} (h : rdL S x = some xs) (hv : atI xs k = some v) : oIx x (.int k) S = .ok v S := by
  cases x with
  | ref i => simp only [oIx, h, hv]
  | _ => cases h
theorem oIx_tup {S : Sto} {i : Nat} {xs : List V} {k : Int} {v : V} (h : S[i]? = some (.tup xs)) (hv : atI xs k = some v) : oIx (.ref i) (.int k) S = .ok v S := by
  have h1 : rdL S (.ref i) = none := by simp only [rdL, h]
  simp only [oIx, h1, rdT_tup h, hv]
end Mi
namespace Mi
open PySem PySem.Spec L2
open PyProof.Rows hiding St
section
open PySem.W PySem.Calls
theorem excm_get {P : Program} {w : World} {A : Around} {s : Shared} {K : Frag} {e C f : Addr} {o : Obj} {od : Option Obj} {nm : Str} {pl : Sem Bool} {Bad : Value → Shared → Prop} {Q : Value × List Value → Shared → Prop} (KI : K.In s.heap) (J : InstAt s.heap e o C od)
    (g1 : findIn K (.ref C) "__getattribute__" = some (some (.builtin "BaseException.__getattribute__"))) (g2 : findIn K (.ref C) "__getattr__" = some none) (g3 : findIn K (.ref C) nm = some (some (.ref f))) (g4 : isFn K (.ref f) = true) (g5 : shadowIn od nm = some false) (q : Q (.ref f, [.ref e]) s) :
    wpAny (model P w) A (getMethod (.ref e) nm pl) Q Bad s := by
  have can : Manifest.canonical "BaseException.__getattribute__" = "object.__getattribute__" := by first | kernel_rfl | decide +kernel
  have L1 := looks_findIn (M := model P w) KI g1
  have L2 := looks_findIn (M := model P w) KI g2
  have L3 := looks_findIn (M := model P w) KI g3
  have L4 := looks_typeIn (M := model P w) KI (beq_iff_eq.mp g4)
  have LT := J.type (M := model P w)
  unfold getMethod specialOf
  refine wpAny_bind (wpAny_bind (LT.here (L1.here ?_))); dsimp only
  rw [can, if_neg (by decide)]; refine wpAny_bind (wpAny_bind (LT.here (L2.here ?_)))
  refine wpAny_bind (wpAny_bind (LT.here (L3.here (wpAny_bind (L4.here ?_)))))
  rw [if_neg (by decide +kernel)]; refine wpAny_bind (wpAny_loadPart J.at_ ?_)
  have hd := J.dict
  cases ed : o.dict with
  | none => exact wpAny_bind (wpAny_rule (wpAny_pure q))
  | some dx =>
    cases od with
    | none => rw [ed] at hd; exact hd.elim
    | some oo =>
      rw [ed] at hd
      obtain ⟨r, a, b⟩ := Option.map_eq_some_iff.mp g5
      refine wpAny_bind (wpAny_bind (wpAny_loadPart hd ?_))
      rw [nsLook_of a]; refine wpAny_pure ?_
      rw [b]; exact wpAny_bind (wpAny_rule (wpAny_pure q))
end
/-- the class of exceptions at the place c tells z -/
def CalF (T : Tab) (K : PySem.W.Frag) (mg : Str → Option Value) (c : Nat) (z : Str) : Prop := ∃ (x : Str) (C f : Addr) (qual : Str) (st : Stmt) (fd : FuncData) (p1 p2 : Pos) (j : Nat), T.xs[c]? = some x ∧ mg x = some (.ref C) ∧
  PySem.W.findIn K (.ref C) "__getattribute__" = some (some (.builtin "BaseException.__getattribute__")) ∧ PySem.W.findIn K (.ref C) "__getattr__" = some none ∧ PySem.W.findIn K (.ref C) "called" = some (some (.ref f)) ∧ PySem.W.isFn K (.ref f) = true ∧
  Fun K "called" qual st f fd ∧ Binds K fd ["self"] [] ∧ FnScope ["self"] ["self"] (defScope st) ∧ defBody st = [.Return (some (.Constant (.str z) j p1)) p2]
def CalsF (T : Tab) (K : PySem.W.Frag) (mg : Str → Option Value) : List (Nat × Str) → Prop
  | [] => True
  | (c, z) :: r => CalF T K mg c z ∧ CalsF T K mg r
def oCalled (tab : List (Nat × Str)) : V → Sto → R V := fun v S1 => match v with
  | .ref i => match S1[i]? with
    | some (.exc c _) => match look tab c with
      | some z => .ok (.str z) S1
      | none => .bad
    | _ => .bad
  | _ => .bad
def mCalled (tab : List (Nat × Str)) (o : ME) : ME := fun σ S => (o σ S).bind (oCalled tab)
@[simp] theorem mCalled_ap (tab : List (Nat × Str)) (o : ME) (σ : St) (S : Sto) : mCalled tab o σ S = (o σ S).bind (oCalled tab) := rfl
theorem oCalled_exc {tab : List (Nat × Str)} {i c : Nat} {d : Option V} {z : Str} {S : Sto} (h : S[i]? = some (.exc c d)) (hz : look tab c = some z) : oCalled tab (.ref i) S = .ok (.str z) S := by simp only [oCalled, h, hz]
section
variable {T : Tab} {W : WX} {X : Cx} {o : Expr} {ma : ME} {apos pos : Pos}
theorem CalsF.get {K : PySem.W.Frag} {mg : Str → Option Value} : ∀ {tab : List (Nat × Str)} {c : Nat} {z : Str}, CalsF T K mg tab → look tab c = some z → CalF T K mg c z
  | [], _, _, _, e => by cases e
  | (d, g) :: r, c, z, h, e => by
    unfold look at e
    by_cases q : d = c
    · rw [if_pos q] at e
      cases e
      rw [← q]
      exact h.1
    · rw [if_neg q] at e
      exact CalsF.get h.2 e
/-- the body 'return z' of a method with self alone -/
theorem run_tell {pins : List (Addr × Obj)} {σ : St} {H : Hp} {s : Shared} {f a : Addr} {qual : Str} {st : Stmt} {fd : FuncData} {z : Str} {p1 p2 : Pos} {j : Nat} {Q : VK} (I : Inv X pins σ H s) (F : Fun X.K "called" qual st f fd) (hb : Binds X.K fd ["self"] []) (Sc : FnScope ["self"] ["self"] (defScope st))
    (hB : defBody st = [.Return (some (.Constant (.str z) j p1)) p2]) (hd : X.A.depth + 5 < recursionLimit) (q : Q (.str z) H) : wpAny (model X.prog X.w) X.A (call (.ref f) [.ref a]) (EP X pins σ Q) X.xe s := by
  obtain ⟨oc, od, kV, doc, pm, an, cdv, ct, osl, rfl, lk, hcd⟩ := F.ex
  have hbs := hb s [.ref a] I.kIn rfl
  refine wpAny_call (Att.call_fn (binds := [("self", .ref a)]) I.kIn (I.mod.nolimit.keeps I.bk) lk hcd (by omega) hbs ?_ (fun s1 x => ?_) Sc.co Sc.gen Sc.kind)
  · rcases Sc.par "self" (by simp) with e | e <;> simp [e]
  · rw [hB]
    obtain ⟨h1, tk, rfl, hk⟩ := x.done
    refine wpAny_execs_cons (wpAny_Return_some (Calls.Constant_str ?_))
    exact ⟨.str z, H, (I.kept (t' := tk) hk).tok _, ⟨_, rfl⟩, q⟩
theorem de_called {pl : Sem Bool} {tab : List (Nat × Str)} (F : CalsF T X.K X.mg tab) (hd : X.A.depth + 5 < recursionLimit) (ho : DE T X W o ma)
    (ht : eval (.Call (.Attribute o "called" apos) [] [] pos) X.env = (do
      let ov ← eval o X.env
      standAt apos.atName
      let (f, first) ← holding [ov] (getMethod ov "called" pl)
      callWith pos f first (backTo pos (starEach [] X.env)) (backToKw pos (keywordEach [] X.env))) := by rfl) : DE T X W (.Call (.Attribute o "called" apos) [] [] pos) (mCalled tab ma) := by
  refine ⟨fun pins s σ H Q I h => ?_⟩
  obtain ⟨ρ, S, τ, r, l, h⟩ := h
  have h' : den (gm T X) W VR ma σ H (fun w H1 => ∃ ρ1 S1 i c d z, Rep (gm T X) ρ1 S1 H1 ∧ VR ρ1 (.ref i) w ∧ S1[i]? = some (.exc c d) ∧ look tab c = some z ∧ Q (.str z) H1) := by
    refine ⟨ρ, S, τ, r, l, Post.bind h fun ρ1 S1 H1 x w p1 r1 x1 h1 => ?_⟩
    unfold oCalled at h1
    split at h1
    · split at h1
      · split at h1
        · rename_i i _ c d es _ z ez
          exact ⟨ρ1, S1, i, c, d, z, r1, x1, es, ez, h1 ρ1 H1 _ Ext.refl r1 rfl⟩
        · exact h1.elim
      · exact h1.elim
    · exact h1.elim
  refine PySem.W.methodCall_KW (pl := pl) (thn (ho.run pins s σ H _ I h') fun u s1 ⟨w, H1, I1, rx, ρ1, S1, i, c, d, z, r1, x1, es1, ez, q1⟩ => ?_) ht
  obtain ⟨ad, u', ew, er, eh, ob⟩ := r1.ref es1 x1
  subst ew
  obtain rfl : u = Value.ref ad := rx
  obtain ⟨x, C, f, qual, st, fd, p1, p2, j, hx, hm, g1, g2, g3, g4, FF, hb, Sc, hB⟩ := F.get ez
  obtain ⟨C2, dd, ⟨y2, hx2, hm2⟩, eu, dr⟩ := ob
  have z1 : some x = some y2 := hx.symm.trans hx2
  cases z1
  have z2 : some (Value.ref C) = some (Value.ref C2) := hm.symm.trans hm2
  cases z2
  subst eu
  obtain ⟨oe, vs, h1, h2, h3, h4⟩ := exK_inst I1 eh
  have fin : wpAny (model X.prog X.w) X.A (callWith pos (.ref f) [.ref ad] (backTo pos (starEach [] X.env)) (backToKw pos (keywordEach [] X.env))) (EP X pins σ Q) X.xe s1 := PySem.W.callWith_K0 (first := [.ref ad]) I1.kIn FF.kp (run_tell I1 FF hb Sc hB hd q1)
  cases d with
  | none =>
    have dn : dd = none := dr
    subst dn
    exact excm_get (od := none) I1.kIn ⟨h1, h2, by unfold PySem.W.notCls; rw [h4] <;> rfl, by rw [h3]; trivial⟩ g1 g2 g3 g4 rfl fin
  | some v =>
    obtain ⟨da, wv, ed, _, hx3⟩ := dr
    subst ed
    have hxd : ObjOk X.prog X.w H1 s1.heap da (.xd [("row", wv)]) := I1.hok da _ hx3
    obtain ⟨mA, hns, hr⟩ := hxd
    obtain ⟨od, ho2, hl⟩ := lookIn_ns hns
    have hn : mA "called" = none := RelO.none_of (hr "called")
    exact excm_get (od := some od) I1.kIn ⟨h1, h2, by unfold PySem.W.notCls; rw [h4] <;> rfl, by rw [h3]; exact ho2⟩ g1 g2 g3 g4 (by show (PySem.W.lookIn "called" od).map _ = _; rw [hl, hn]; rfl) fin
end
theorem Ctx.toCtx {X : Cx} {W : WX} {k : Nat} (C : Ctx X W k) : Ctx X W k := C
theorem Ctx.dp5 {X : Cx} {W : WX} {k : Nat} (C : Ctx X W k) : X.A.depth + 5 < recursionLimit := by have := C.room.dp; omega
theorem CtH.dp5 {X : Cx} {k : Nat} (C : CtH X k) : X.A.depth + 5 < recursionLimit := by have := C.dp; omega
@[simp] theorem isNon_ref (i : Nat) : Mi.isNon (.ref i) = false := rfl
@[simp] theorem isNon_non : Mi.isNon .non = true := rfl
@[simp] theorem isNon_int (i : Int) : Mi.isNon (.int i) = false := rfl
end Mi
namespace Mi
open PySem PySem.Spec L2
open PyProof.Rows hiding St
end Mi
namespace Mi
open PySem PySem.Spec L2
open PyProof.Rows hiding St
@[simp] theorem mSetI_ap (t : Op3) (o i a : ME) (σ : St) (S : Sto) : mSetI t o i a σ S = (a σ S).lift σ fun v S1 => (o σ S1).lift σ fun x S2 => (i σ S2).lift σ fun y S3 => (t x y v S3).lift σ fun _ S4 => .nx σ S4 := rfl
@[simp] theorem mYes_ap (σ : St) (S : Sto) : mYes σ S = .ok true S := rfl
/-- values that are none, bools, ints -/
def Sc (v : V) : Prop := v = .non ∨ (∃ b, v = .bl b) ∨ ∃ i, v = .int i
end Mi
namespace Mi
open PySem PySem.Spec L2
open PyProof.Rows hiding St
end Mi
namespace Mi
open PySem PySem.Spec L2
open PyProof.Rows hiding St
end Mi
namespace Vi
open PySem PySem.Spec L2 Mi
/-- a tree of values -/
inductive D where
  | non | bl (b : Bool) | int (i : Int) | str (s : Str)
  | tup (xs : List D) | lst (xs : List D)
  | dk (kvs : List (Key × D)) | ins (c : Nat) (fs : List D) | exc (c : Nat) (x : Option V) | hole
abbrev Ft := Nat → Nat
abbrev Zf (F : Ft) : Prop := ∀ i, F i = 0
mutual
/-- the value stands for the tree; F counts the changeable objects -/
inductive Rp (w : Bool) (S : Sto) : V → D → Ft → Prop
  | non {F : Ft} : Zf F → Rp w S .non .non F
  | bl {F : Ft} {b : Bool} : Zf F → Rp w S (.bl b) (.bl b) F
  | int {F : Ft} {b : Int} : Zf F → Rp w S (.int b) (.int b) F
  | str {F : Ft} {b : Str} : Zf F → Rp w S (.str b) (.str b) F
  | hole {F : Ft} {v : V} : Zf F → Rp w S v .hole F
  | exc {F : Ft} {i c : Nat} {x : Option V} : S[i]? = some (.exc c x) → Zf F → Rp w S (.ref i) (.exc c x) F
  | tup {F : Ft} {i : Nat} {vs : List V} {ds : List D} : S[i]? = some (.tup vs) → RpL w S vs ds F → Rp w S (.ref i) (.tup ds) F
  | lst {F F1 : Ft} {i : Nat} {vs : List V} {ds : List D} : (S[i]? = some (.lst vs) ∨ w = false ∧ S[i]? = some (.lck (.lst vs))) → RpL w S vs ds F1 → (∀ j, F j = F1 j + if j = i then 1 else 0) → Rp w S (.ref i) (.lst ds) F
  | dk {F F1 : Ft} {i : Nat} {kvs : List (Key × V)} {kds : List (Key × D)} : (S[i]? = some (.dK kvs) ∨ w = false ∧ S[i]? = some (.lck (.dK kvs))) → kvs.map (·.1) = kds.map (·.1) → RpL w S (kvs.map (·.2)) (kds.map (·.2)) F1 → (∀ j, F j = F1 j + if j = i then 1 else 0) → Rp w S (.ref i) (.dk kds) F
  | ins {F F1 : Ft} {i c : Nat} {fs : List (Option V)} {ds : List D} : S[i]? = some (.ins c fs) → RpO w S fs ds F1 → (∀ j, F j = F1 j + if j = i then 1 else 0) → Rp w S (.ref i) (.ins c ds) F
inductive RpL (w : Bool) (S : Sto) : List V → List D → Ft → Prop
  | nil {F : Ft} : Zf F → RpL w S [] [] F
  | cons {F F1 F2 : Ft} {v : V} {d : D} {vs : List V} {ds : List D} : Rp w S v d F1 → RpL w S vs ds F2 → (∀ i, F i = F1 i + F2 i) → RpL w S (v :: vs) (d :: ds) F
inductive RpO (w : Bool) (S : Sto) : List (Option V) → List D → Ft → Prop
  | nil {F : Ft} : Zf F → RpO w S [] [] F
  | cons {F F1 F2 : Ft} {v : V} {d : D} {vs : List (Option V)} {ds : List D} : Rp w S v d F1 → RpO w S vs ds F2 → (∀ i, F i = F1 i + F2 i) → RpO w S (some v :: vs) (d :: ds) F
  | hole {F : Ft} {o : Option V} {vs : List (Option V)} {ds : List D} : RpO w S vs ds F → RpO w S (o :: vs) (.hole :: ds) F
end
mutual
def imm : D → Bool
  | .non | .bl _ | .int _ | .str _ | .exc _ _ => true
  | .tup xs => immL xs
  | .lst _ | .dk _ | .ins _ _ | .hole => false
def immL : List D → Bool
  | [] => true
  | d :: ds => imm d && immL ds
end
/-- an object that may be changed -/
def mutO : Ob → Prop
  | .lst _ | .dK _ | .ins _ _ | .lck _ => True
  | _ => False
/-- what stays where: what F counts and what never changes -/
def Kp (F : Ft) (S S' : Sto) : Prop := ∀ i o, S[i]? = some o → (0 < F i ∨ ¬ mutO o) → S'[i]? = some o
/-- only what F counts is changed -/
def Fr (F : Ft) (S S' : Sto) : Prop := ∀ i o, S[i]? = some o → F i = 0 → S'[i]? = some o
section
variable {w : Bool} {S S' S'' : Sto} {v : V} {d e : D} {F G F1 F2 Z : Ft} {vs : List V} {ds : List D} {os : List (Option V)}
theorem Kp.refl : Kp F S S := fun _ _ h _ => h
theorem Kp.trans (a : Kp F S S') (b : Kp F S' S'') : Kp F S S'' := fun i o h k => b i o (a i o h k) k
theorem Kp.le (a : Kp F S S') (h : ∀ i, 0 < G i → 0 < F i) : Kp G S S' := fun i o e k => a i o e (k.elim (fun z => .inl (h i z)) .inr)
theorem Kp.pre (p : S <+: S') : Kp F S S' := fun _ _ h _ => pre_get' h p
theorem Fr.refl : Fr F S S := fun _ _ h _ => h
theorem Fr.pre (p : S <+: S') : Fr F S S' := fun _ _ h _ => pre_get' h p
mutual
theorem Rp.congr : ∀ {v : V} {d : D} {F G : Ft}, Rp w S v d F → (∀ i, G i = F i) → Rp w S v d G
  | _, _, _, _, .non z, h => .non fun i => (h i).trans (z i)
  | _, _, _, _, .bl z, h => .bl fun i => (h i).trans (z i)
  | _, _, _, _, .int z, h => .int fun i => (h i).trans (z i)
  | _, _, _, _, .str z, h => .str fun i => (h i).trans (z i)
  | _, _, _, _, .hole z, h => .hole fun i => (h i).trans (z i)
  | _, _, _, _, .exc e z, h => .exc e fun i => (h i).trans (z i)
  | _, _, _, _, .tup e r, h => .tup e (RpL.congr r h)
  | _, _, _, _, .lst e r z, h => .lst e r fun i => (h i).trans (z i)
  | _, _, _, _, .dk e k r z, h => .dk e k r fun i => (h i).trans (z i)
  | _, _, _, _, .ins e r z, h => .ins e r fun i => (h i).trans (z i)
theorem RpL.congr : ∀ {vs : List V} {ds : List D} {F G : Ft}, RpL w S vs ds F → (∀ i, G i = F i) → RpL w S vs ds G
  | _, _, _, _, .nil z, h => .nil fun i => (h i).trans (z i)
  | _, _, _, _, .cons a b z, h => .cons a b fun i => (h i).trans (z i)
end
theorem RpO.congr : ∀ {vs : List (Option V)} {ds : List D} {F G : Ft}, RpO w S vs ds F → (∀ i, G i = F i) → RpO w S vs ds G
  | _, _, _, _, .nil z, h => .nil fun i => (h i).trans (z i)
  | _, _, _, _, .cons a b z, h => .cons a b fun i => (h i).trans (z i)
  | _, _, _, _, .hole a, h => .hole (a.congr h)
mutual
/-- what F counts are changeable objects of the store -/
theorem Rp.dom : ∀ {v : V} {d : D} {F : Ft}, Rp w S v d F → ∀ i, 0 < F i → ∃ o, S[i]? = some o ∧ mutO o
  | _, _, _, .non z, i, h | _, _, _, .bl z, i, h | _, _, _, .int z, i, h | _, _, _, .str z, i, h | _, _, _, .hole z, i, h | _, _, _, .exc _ z, i, h => absurd (z i) (by omega)
  | _, _, _, .tup e r, i, h => RpL.dom r i h
  | _, _, _, .lst (i := k) e r z, i, h => by
    by_cases q : i = k
    · subst q; exact e.elim (fun e => ⟨_, e, trivial⟩) fun e => ⟨_, e.2, trivial⟩
    · exact RpL.dom r i (by have := z i; rw [if_neg q] at this; omega)
  | _, _, _, .dk (i := k) e _ r z, i, h => by
    by_cases q : i = k
    · subst q; exact e.elim (fun e => ⟨_, e, trivial⟩) fun e => ⟨_, e.2, trivial⟩
    · exact RpL.dom r i (by have := z i; rw [if_neg q] at this; omega)
  | _, _, _, .ins (i := k) e r z, i, h => by
    by_cases q : i = k
    · subst q; exact ⟨_, e, trivial⟩
    · exact RpO.dom r i (by have := z i; rw [if_neg q] at this; omega)
theorem RpL.dom : ∀ {vs : List V} {ds : List D} {F : Ft}, RpL w S vs ds F → ∀ i, 0 < F i → ∃ o, S[i]? = some o ∧ mutO o
  | _, _, _, .nil z, i, h => absurd (z i) (by omega)
  | _, _, _, .cons (F1 := F1) (F2 := F2) a b z, i, h => by
    by_cases q : 0 < F1 i
    · exact Rp.dom a i q
    · exact RpL.dom b i (by have := z i; omega)
theorem RpO.dom : ∀ {vs : List (Option V)} {ds : List D} {F : Ft}, RpO w S vs ds F → ∀ i, 0 < F i → ∃ o, S[i]? = some o ∧ mutO o
  | _, _, _, .nil z, i, h => absurd (z i) (by omega)
  | _, _, _, .cons (F1 := F1) (F2 := F2) a b z, i, h => by
    by_cases q : 0 < F1 i
    · exact Rp.dom a i q
    · exact RpO.dom b i (by have := z i; omega)
  | _, _, _, .hole a, i, h => RpO.dom a i h
end
theorem Rp.lt (r : Rp w S v d F) {i : Nat} (h : 0 < F i) : i < S.length := let ⟨_, e, _⟩ := r.dom i h; (List.getElem?_eq_some_iff.mp e).1
theorem RpL.lt (r : RpL w S vs ds F) {i : Nat} (h : 0 < F i) : i < S.length := let ⟨_, e, _⟩ := r.dom i h; (List.getElem?_eq_some_iff.mp e).1
theorem RpO.lt (r : RpO w S os ds F) {i : Nat} (h : 0 < F i) : i < S.length := let ⟨_, e, _⟩ := r.dom i h; (List.getElem?_eq_some_iff.mp e).1
mutual
theorem Rp.mono : ∀ {v : V} {d : D} {F : Ft}, Rp w S v d F → Kp F S S' → Rp w S' v d F
  | _, _, _, .non z, h => .non z
  | _, _, _, .bl z, h => .bl z
  | _, _, _, .int z, h => .int z
  | _, _, _, .str z, h => .str z
  | _, _, _, .hole z, h => .hole z
  | _, _, _, .exc e z, h => .exc (h _ _ e (.inr (by exact id))) z
  | _, _, _, .tup e r, h => .tup (h _ _ e (.inr (by exact id))) (RpL.mono r h)
  | _, _, _, .lst e r z, h => .lst (e.elim (fun e => .inl (h _ _ e (.inl (by rw [z, if_pos rfl]; omega)))) fun e => .inr ⟨e.1, h _ _ e.2 (.inl (by rw [z, if_pos rfl]; omega))⟩) (RpL.mono r (h.le fun i q => by rw [z]; omega)) z
  | _, _, _, .dk e k r z, h => .dk (e.elim (fun e => .inl (h _ _ e (.inl (by rw [z, if_pos rfl]; omega)))) fun e => .inr ⟨e.1, h _ _ e.2 (.inl (by rw [z, if_pos rfl]; omega))⟩) k (RpL.mono r (h.le fun i q => by rw [z]; omega)) z
  | _, _, _, .ins e r z, h => .ins (h _ _ e (.inl (by rw [z, if_pos rfl]; omega))) (RpO.mono r (h.le fun i q => by rw [z]; omega)) z
theorem RpL.mono : ∀ {vs : List V} {ds : List D} {F : Ft}, RpL w S vs ds F → Kp F S S' → RpL w S' vs ds F
  | _, _, _, .nil z, h => .nil z
  | _, _, _, .cons a b z, h => .cons (Rp.mono a (h.le fun i q => by rw [z]; omega)) (RpL.mono b (h.le fun i q => by rw [z]; omega)) z
theorem RpO.mono : ∀ {vs : List (Option V)} {ds : List D} {F : Ft}, RpO w S vs ds F → Kp F S S' → RpO w S' vs ds F
  | _, _, _, .nil z, h => .nil z
  | _, _, _, .cons a b z, h => .cons (Rp.mono a (h.le fun i q => by rw [z]; omega)) (RpO.mono b (h.le fun i q => by rw [z]; omega)) z
  | _, _, _, .hole a, h => .hole (RpO.mono a h)
end
mutual
theorem Rp.imm0 : ∀ {v : V} {d : D} {F : Ft}, Rp w S v d F → imm d = true → Zf F
  | _, _, _, .non z, _ | _, _, _, .bl z, _ | _, _, _, .int z, _ | _, _, _, .str z, _ | _, _, _, .exc _ z, _ => z
  | _, _, _, .hole z, h => by unfold imm at h; cases h
  | _, _, _, .tup e r, h => RpL.imm0 r (by unfold imm at h; exact h)
  | _, _, _, .lst _ _ _, h => by unfold imm at h; cases h
  | _, _, _, .dk _ _ _ _, h => by unfold imm at h; cases h
  | _, _, _, .ins _ _ _, h => by unfold imm at h; cases h
theorem RpL.imm0 : ∀ {vs : List V} {ds : List D} {F : Ft}, RpL w S vs ds F → immL ds = true → Zf F
  | _, _, _, .nil z, _ => z
  | _, _, _, .cons a b z, h => by
    unfold immL at h
    rw [Bool.and_eq_true] at h
    intro i
    rw [z, Rp.imm0 a h.1 i, RpL.imm0 b h.2 i]
end
theorem Kp.of_fr (a : Fr F S S') (h : ∀ i, 0 < G i → F i = 0) (k : ∀ i, 0 < F i → ∃ o, S[i]? = some o ∧ mutO o) : Kp G S S' := fun i o e q => a i o e (by
  rcases q with q | q
  · exact h i q
  · rcases Nat.eq_zero_or_pos (F i) with z | z
    · exact z
    · obtain ⟨o', e', m⟩ := k i z
      rw [e] at e'
      cases e'
      exact absurd m q)
theorem RpL.len : ∀ {vs : List V} {ds : List D} {F : Ft}, RpL w S vs ds F → vs.length = ds.length
  | _, _, _, .nil _ => rfl
  | _, _, _, .cons _ b _ => by rw [List.length_cons, List.length_cons, b.len]
theorem RpO.len : ∀ {vs : List (Option V)} {ds : List D} {F : Ft}, RpO w S vs ds F → vs.length = ds.length
  | _, _, _, .nil _ => rfl
  | _, _, _, .cons _ b _ => by rw [List.length_cons, List.length_cons, b.len]
  | _, _, _, .hole b => by rw [List.length_cons, List.length_cons, b.len]
mutual
theorem Rp.weak : ∀ {v : V} {d : D} {F : Ft}, Rp true S v d F → Rp w S v d F
  | _, _, _, .non z => .non z
  | _, _, _, .bl z => .bl z
  | _, _, _, .int z => .int z
  | _, _, _, .str z => .str z
  | _, _, _, .hole z => .hole z
  | _, _, _, .exc e z => .exc e z
  | _, _, _, .tup e r => .tup e (RpL.weak r)
  | _, _, _, .lst e r z => .lst (e.elim .inl fun e => absurd e.1 (by decide)) (RpL.weak r) z
  | _, _, _, .dk e k r z => .dk (e.elim .inl fun e => absurd e.1 (by decide)) k (RpL.weak r) z
  | _, _, _, .ins e r z => .ins e (RpO.weak r) z
theorem RpL.weak : ∀ {vs : List V} {ds : List D} {F : Ft}, RpL true S vs ds F → RpL w S vs ds F
  | _, _, _, .nil z => .nil z
  | _, _, _, .cons a b z => .cons (Rp.weak a) (RpL.weak b) z
theorem RpO.weak : ∀ {vs : List (Option V)} {ds : List D} {F : Ft}, RpO true S vs ds F → RpO w S vs ds F
  | _, _, _, .nil z => .nil z
  | _, _, _, .cons a b z => .cons (Rp.weak a) (RpO.weak b) z
  | _, _, _, .hole a => .hole (RpO.weak a)
end
mutual
/-- what never changes stands as it is -/
theorem Rp.immW {w' : Bool} : ∀ {v : V} {d : D} {F : Ft}, Rp w S v d F → imm d = true → Rp w' S v d F
  | _, _, _, .non z, _ => .non z
  | _, _, _, .bl z, _ => .bl z
  | _, _, _, .int z, _ => .int z
  | _, _, _, .str z, _ => .str z
  | _, _, _, .hole z, _ => .hole z
  | _, _, _, .exc e z, _ => .exc e z
  | _, _, _, .tup e r, h => .tup e (RpL.immW r (by unfold imm at h; exact h))
  | _, _, _, .lst _ _ _, h => by unfold imm at h; cases h
  | _, _, _, .dk _ _ _ _, h => by unfold imm at h; cases h
  | _, _, _, .ins _ _ _, h => by unfold imm at h; cases h
theorem RpL.immW {w' : Bool} : ∀ {vs : List V} {ds : List D} {F : Ft}, RpL w S vs ds F → immL ds = true → RpL w' S vs ds F
  | _, _, _, .nil z, _ => .nil z
  | _, _, _, .cons a b z, h => by
    unfold immL at h
    rw [Bool.and_eq_true] at h
    exact .cons (Rp.immW a h.1) (RpL.immW b h.2) z
end
end
@[simp] theorem immL_all : ∀ ds : List D, immL ds = ds.all imm
  | [] => rfl
  | d :: ds => by unfold immL; rw [immL_all ds]; rfl
inductive Sl where
  | no | ow (d : D) | fz (d : D)
abbrev Env := List Sl
inductive EnvR (S : Sto) : St → Env → Ft → Ft → Prop
  | nil {F Z : Ft} : Zf F → Zf Z → EnvR S [] [] F Z
  | no {F Z : Ft} {o : Option V} {σ : St} {e : Env} : EnvR S σ e F Z → EnvR S (o :: σ) (.no :: e) F Z
  | ow {F F1 F2 Z : Ft} {v : V} {d : D} {σ : St} {e : Env} : Rp true S v d F1 → EnvR S σ e F2 Z → (∀ i, F i = F1 i + F2 i) → EnvR S (some v :: σ) (.ow d :: e) F Z
  | fz {F Z Z1 Z2 : Ft} {v : V} {d : D} {σ : St} {e : Env} : Rp false S v d Z1 → EnvR S σ e F Z2 → (∀ i, Z i = Z1 i + Z2 i) → EnvR S (some v :: σ) (.fz d :: e) F Z
/-- the environment's invariant -/
structure EI (S : Sto) (σ : St) (e : Env) (F Z : Ft) : Prop where
  r : EnvR S σ e F Z
  nd : ∀ i, F i ≤ 1
  dj : ∀ i, 0 < Z i → F i = 0
section
variable {S S' : Sto} {σ : St} {e : Env} {F Z : Ft}
theorem EnvR.domF : ∀ {σ : St} {e : Env} {F Z : Ft}, EnvR S σ e F Z → ∀ i, 0 < F i → ∃ o, S[i]? = some o ∧ mutO o
  | _, _, _, _, .nil z _, i, h => absurd (z i) (by omega)
  | _, _, _, _, .no b, i, h => b.domF i h
  | _, _, _, _, .ow (F1 := F1) a b z, i, h => by
    by_cases q : 0 < F1 i
    · exact a.dom i q
    · exact b.domF i (by have := z i; omega)
  | _, _, _, _, .fz a b z, i, h => b.domF i h
theorem EnvR.domZ : ∀ {σ : St} {e : Env} {F Z : Ft}, EnvR S σ e F Z → ∀ i, 0 < Z i → ∃ o, S[i]? = some o ∧ mutO o
  | _, _, _, _, .nil _ z, i, h => absurd (z i) (by omega)
  | _, _, _, _, .no b, i, h => b.domZ i h
  | _, _, _, _, .fz (Z1 := F1) a b z, i, h => by
    by_cases q : 0 < F1 i
    · exact a.dom i q
    · exact b.domZ i (by have := z i; omega)
  | _, _, _, _, .ow a b z, i, h => b.domZ i h
theorem EnvR.mono : ∀ {σ : St} {e : Env} {F Z : Ft}, EnvR S σ e F Z → Kp (fun i => F i + Z i) S S' → EnvR S' σ e F Z
  | _, _, _, _, .nil a b, h => .nil a b
  | _, _, _, _, .no b, h => .no (b.mono h)
  | _, _, _, _, .ow a b z, h => .ow (a.mono (h.le fun i q => by have := z i; omega)) (b.mono (h.le fun i q => by have := z i; omega)) z
  | _, _, _, _, .fz a b z, h => .fz (a.mono (h.le fun i q => by have := z i; omega)) (b.mono (h.le fun i q => by have := z i; omega)) z
theorem EnvR.len : ∀ {σ : St} {e : Env} {F Z : Ft}, EnvR S σ e F Z → σ.length = e.length
  | _, _, _, _, .nil _ _ => rfl
  | _, _, _, _, .no b => by rw [List.length_cons, List.length_cons, b.len]
  | _, _, _, _, .ow _ b _ => by rw [List.length_cons, List.length_cons, b.len]
  | _, _, _, _, .fz _ b _ => by rw [List.length_cons, List.length_cons, b.len]
theorem EnvR.congr : ∀ {σ : St} {e : Env} {F Z F' Z' : Ft}, EnvR S σ e F Z → (∀ i, F' i = F i) → (∀ i, Z' i = Z i) → EnvR S σ e F' Z'
  | _, _, _, _, _, _, .nil a b, h, k => .nil (fun i => (h i).trans (a i)) fun i => (k i).trans (b i)
  | _, _, _, _, _, _, .no b, h, k => .no (b.congr h k)
  | _, _, _, _, _, _, .ow a b z, h, k => .ow a (b.congr (fun _ => rfl) k) fun i => (h i).trans (z i)
  | _, _, _, _, _, _, .fz a b z, h, k => .fz a (b.congr h fun _ => rfl) fun i => (k i).trans (z i)
/-- a slot's part, and what another value in its place makes -/
theorem EnvR.slot : ∀ {σ : St} {e : Env} {F Z : Ft} {j : Nat} {s : Sl}, EnvR S σ e F Z → e[j]? = some s → ∃ F1 Z1 F2 Z2 : Ft, (∀ i, F i = F1 i + F2 i) ∧ (∀ i, Z i = Z1 i + Z2 i) ∧
      (match s with
        | .no => Zf F1 ∧ Zf Z1
        | .ow d => Zf Z1 ∧ ∃ v, σ[j]? = some (some v) ∧ Rp true S v d F1
        | .fz d => Zf F1 ∧ ∃ v, σ[j]? = some (some v) ∧ Rp false S v d Z1) ∧
      (∀ o, EnvR S (σ.set j o) (e.set j .no) F2 Z2) ∧ (∀ v d G, Rp true S v d G → EnvR S (σ.set j (some v)) (e.set j (.ow d)) (fun i => G i + F2 i) Z2) ∧ (∀ v d G, Rp false S v d G → EnvR S (σ.set j (some v)) (e.set j (.fz d)) F2 (fun i => G i + Z2 i))
  | _, _, _, _, _, _, .nil _ _, h => by simp at h
  | _, _, F, Z, 0, s, .no b, h => by
    simp at h
    subst h
    exact ⟨fun _ => 0, fun _ => 0, F, Z, fun i => by simp, fun i => by simp, ⟨fun _ => rfl, fun _ => rfl⟩, fun o => .no b, fun v d G r => .ow r b fun _ => rfl, fun v d G r => .fz r b fun _ => rfl⟩
  | _, _, F, Z, 0, s, .ow (F1 := F1) (F2 := F2) (v := v) a b z, h => by
    simp at h
    subst h
    exact ⟨F1, fun _ => 0, F2, Z, z, fun i => by simp, ⟨fun _ => rfl, v, rfl, a⟩, fun o => .no b, fun v d G r => .ow r b fun _ => rfl, fun v d G r => .fz r b fun _ => rfl⟩
  | _, _, F, Z, 0, s, .fz (Z1 := Z1) (Z2 := Z2) (v := v) a b z, h => by
    simp at h
    subst h
    exact ⟨fun _ => 0, Z1, F, Z2, fun i => by simp, z, ⟨fun _ => rfl, v, rfl, a⟩, fun o => .no b, fun v d G r => .ow r b fun _ => rfl, fun v d G r => .fz r b fun _ => rfl⟩
  | _, _, F, Z, j + 1, s, .no b, h => by
    obtain ⟨F1, Z1, F2, Z2, hF, hZ, hs, k1, k2, k3⟩ := EnvR.slot b (by simpa using h)
    exact ⟨F1, Z1, F2, Z2, hF, hZ, by cases s <;> simpa using hs, fun o => .no (k1 o), fun v d G r => .no (k2 v d G r), fun v d G r => .no (k3 v d G r)⟩
  | _, _, F, Z, j + 1, s, .ow (F1 := A) a b z, h => by
    obtain ⟨F1, Z1, F2, Z2, hF, hZ, hs, k1, k2, k3⟩ := EnvR.slot b (by simpa using h)
    exact ⟨F1, Z1, fun i => A i + F2 i, Z2, fun i => by have := z i; have := hF i; dsimp only; omega, hZ, by cases s <;> simpa using hs, fun o => .ow a (k1 o) fun _ => rfl,
      fun v d G r => .ow a (k2 v d G r) fun i => by dsimp only; omega, fun v d G r => .ow a (k3 v d G r) fun _ => rfl⟩
  | _, _, F, Z, j + 1, s, .fz (Z1 := A) a b z, h => by
    obtain ⟨F1, Z1, F2, Z2, hF, hZ, hs, k1, k2, k3⟩ := EnvR.slot b (by simpa using h)
    exact ⟨F1, Z1, F2, fun i => A i + Z2 i, hF, fun i => by have := z i; have := hZ i; dsimp only; omega, by cases s <;> simpa using hs, fun o => .fz a (k1 o) fun _ => rfl,
      fun v d G r => .fz a (k2 v d G r) fun _ => rfl, fun v d G r => .fz a (k3 v d G r) fun i => by dsimp only; omega⟩
/-- a later moment -/
structure Nx (S : Sto) (F Z : Ft) (S' : Sto) (F' Z' : Ft) : Prop where
  le : S.length ≤ S'.length
  fr : Fr F S S'
  nd : ∀ i, F' i ≤ 1
  sub : ∀ i, i < S.length → F' i ≤ F i
  zs : ∀ i, i < S.length → 0 < Z' i → 0 < Z i
  dj : ∀ i, 0 < Z' i → F' i = 0
theorem Nx.refl (h : EI S σ e F Z) : Nx S F Z S F Z := ⟨Nat.le_refl _, Fr.refl, h.nd, fun _ _ => Nat.le_refl _, fun _ _ h => h, h.dj⟩
theorem Nx.trans {S'' : Sto} {F' Z' F'' Z'' : Ft} (a : Nx S F Z S' F' Z') (b : Nx S' F' Z' S'' F'' Z'') : Nx S F Z S'' F'' Z'' where
  le := Nat.le_trans a.le b.le
  fr := fun i o h k => by
    have hi := (List.getElem?_eq_some_iff.mp h).1
    exact b.fr i o (a.fr i o h k) (by have := a.sub i hi; omega)
  nd := b.nd
  sub := fun i hi => Nat.le_trans (b.sub i (Nat.lt_of_lt_of_le hi a.le)) (a.sub i hi)
  zs := fun i hi h => a.zs i hi (b.zs i (Nat.lt_of_lt_of_le hi a.le) h)
  dj := b.dj
theorem Nx.ei {F' Z' : Ft} {σ' : St} {e' : Env} (a : Nx S F Z S' F' Z') (h : EnvR S' σ' e' F' Z') : EI S' σ' e' F' Z' := ⟨h, a.nd, a.dj⟩
/-- what the environment does not own stays -/
theorem Nx.kp {F' Z' G : Ft} (a : Nx S F Z S' F' Z') (h : EnvR S σ e F Z) (k : ∀ i, 0 < G i → F i = 0) : Kp G S S' := .of_fr a.fr k h.domF
end
end Vi
namespace Vi
open PySem PySem.Spec L2 Mi
/-- where a value comes from: its own, frozen, any part -/
inductive Og where
  | fr | zn | an
  deriving DecidableEq
def Og.st : Og → Bool
  | .an => false
  | _ => true
def Og.own : Og → Bool
  | .fr => true
  | _ => false
@[simp] theorem st_fr : Og.fr.st = true := rfl
@[simp] theorem st_zn : Og.zn.st = true := rfl
@[simp] theorem st_an : Og.an.st = false := rfl
inductive X (α : Type) where
  | ok (a : α) (q : Bool) (e : Env) | exc (c : Nat) (x : Option V) (e : Env) | bad
def X.bind {α β : Type} : X α → (α → Bool → Env → X β) → X β
  | .ok a q e, f => f a q e
  | .exc c x e, _ => .exc c x e
  | .bad, _ => .bad
section
variable {α β : Type}
@[simp] theorem xbind_ok (a : α) (q : Bool) (e : Env) (f : α → Bool → Env → X β) : (X.ok a q e).bind f = f a q e := rfl
@[simp] theorem xbind_exc (c : Nat) (x : Option V) (e : Env) (f : α → Bool → Env → X β) : (X.exc c x e).bind f = .exc c x e := rfl
@[simp] theorem xbind_bad (f : α → Bool → Env → X β) : (X.bad : X α).bind f = .bad := rfl
end
/-- what comes behind something quiet or not -/
def X.qq {α : Type} (q : Bool) : X α → X α
  | .ok a q' e => .ok a (q && q') e
  | r => r
section
variable {α : Type}
@[simp] theorem qq_ok (q q' : Bool) (a : α) (e : Env) : (X.ok a q' e).qq q = .ok a (q && q') e := rfl
@[simp] theorem qq_exc (q : Bool) (c : Nat) (x : Option V) (e : Env) : (X.exc c x e : X α).qq q = .exc c x e := rfl
@[simp] theorem qq_bad (q : Bool) : (X.bad : X α).qq q = .bad := rfl
end
abbrev PE := Env → X (D × Og)
abbrev PT := Env → X Bool
abbrev PA := Env → X (List (D × Og))
/-- nothing changed but for what is new -/
structure Qt (S : Sto) (e : Env) (F Z : Ft) (S' : Sto) (e' : Env) (F' Z' : Ft) : Prop where
  e : e' = e
  p : S <+: S'
  f : ∀ i, F' i = F i
  z : ∀ i, Z' i = Z i
abbrev Rel (α β : Type) := Sto → Ft → Ft → Sto → Ft → Ft → β → α → Prop
def Po {α β : Type} (Rl : Rel α β) (S : Sto) (σ : St) (e : Env) (F Z : Ft) (r : R β) : X α → Prop
  | .ok a q e' => ∃ (v : β) (S' : Sto) (F' Z' : Ft), r = .ok v S' ∧ Nx S F Z S' F' Z' ∧ EnvR S' σ e' F' Z' ∧ Rl S F Z S' F' Z' v a ∧ (q = true → Qt S e F Z S' e' F' Z')
  | .exc c x e' => ∃ (S' : Sto) (F' Z' : Ft), r = .exc c x S' ∧ Nx S F Z S' F' Z' ∧ EnvR S' σ e' F' Z'
  | .bad => True
def JX {α β : Type} (Rl : Rel α β) (m : St → Sto → R β) (p : Env → X α) : Prop := ∀ (S : Sto) (σ : St) (e : Env) (F Z : Ft), EI S σ e F Z → Po Rl S σ e F Z (m σ S) (p e)
/-- the parts of a value -/
def Tg (o : Og) (S : Sto) (F Z F' Z' Fd : Ft) : Prop := match o with
  | .fr => (∀ i, F' i + Fd i ≤ 1) ∧ (∀ i, i < S.length → F' i + Fd i ≤ F i) ∧ ∀ i, 0 < Z' i → Fd i = 0
  | .zn => ∀ i, 0 < Fd i → F' i = 0 ∧ (i < S.length → 0 < Z i)
  | .an => ∀ i, 0 < Fd i → i < S.length → 0 < F i + Z i
def RlE : Rel (D × Og) V := fun S F Z S' F' Z' v a => ∃ Fd, Rp a.2.own S' v a.1 Fd ∧ Tg a.2 S F Z F' Z' Fd
def RlB : Rel Bool Bool := fun _ _ _ _ _ _ b a => b = a
abbrev JE (m : ME) (p : PE) : Prop := JX RlE m p
abbrev JT (m : MT) (p : PT) : Prop := JX RlB m p
section
variable {S S1 S2 : Sto} {σ : St} {e e1 e2 : Env} {F Z F1 Z1 F2 Z2 Fd : Ft} {α β γ δ : Type} {o : Og}
theorem Qt.refl : Qt S e F Z S e F Z := ⟨rfl, List.prefix_refl _, fun _ => rfl, fun _ => rfl⟩
theorem Qt.trans (a : Qt S e F Z S1 e1 F1 Z1) (b : Qt S1 e1 F1 Z1 S2 e2 F2 Z2) : Qt S e F Z S2 e2 F2 Z2 := ⟨b.e.trans a.e, a.p.trans b.p, fun i => (b.f i).trans (a.f i), fun i => (b.z i).trans (a.z i)⟩
theorem Tg.tr (n : Nx S F Z S1 F1 Z1) (h : Tg o S1 F1 Z1 F2 Z2 Fd) : Tg o S F Z F2 Z2 Fd := by
  cases o with
  | fr => exact ⟨h.1, fun i hi => Nat.le_trans (h.2.1 i (Nat.lt_of_lt_of_le hi n.le)) (n.sub i hi), h.2.2⟩
  | zn => exact fun i k => ⟨(h i k).1, fun hi => n.zs i hi ((h i k).2 (Nat.lt_of_lt_of_le hi n.le))⟩
  | an =>
    intro i k hi
    have h1 := h i k (Nat.lt_of_lt_of_le hi n.le)
    have h2 := n.sub i hi
    have h3 := n.zs i hi
    omega
def Trs (Rl : Rel α β) : Prop := ∀ S F Z S1 F1 Z1 S2 F2 Z2 v a, Nx S F Z S1 F1 Z1 → Rl S1 F1 Z1 S2 F2 Z2 v a → Rl S F Z S2 F2 Z2 v a
theorem trs_e : Trs RlE := fun _ _ _ _ _ _ _ _ _ _ _ n ⟨Fd, r, t⟩ => ⟨Fd, r, t.tr n⟩
theorem trs_b : Trs RlB := fun _ _ _ _ _ _ _ _ _ _ _ _ h => h
theorem Po.after {Rl : Rel α β} (t : Trs Rl) {r : R β} {x : X α} {q : Bool} (h : Po Rl S1 σ e1 F1 Z1 r x) (n : Nx S F Z S1 F1 Z1) (k : q = true → Qt S e F Z S1 e1 F1 Z1) : Po Rl S σ e F Z r (x.qq q) := by
  cases x with
  | ok a q' e' =>
    obtain ⟨v, S', F', Z', hr, hn, he, hl, hq⟩ := h
    refine ⟨v, S', F', Z', hr, n.trans hn, he, t _ _ _ _ _ _ _ _ _ _ _ n hl, fun hh => ?_⟩
    rw [Bool.and_eq_true] at hh
    exact (k hh.1).trans (hq hh.2)
  | exc c x e' =>
    obtain ⟨S', F', Z', hr, hn, he⟩ := h
    exact ⟨S', F', Z', hr, n.trans hn, he⟩
  | bad => trivial
/-- one part, then another -/
theorem Po.bind {Rl1 : Rel α β} {Rl2 : Rel γ δ} {r : R β} {x : X α} {g : β → Sto → R δ} {f : α → Bool → Env → X γ} (h : Po Rl1 S σ e F Z r x)
    (hf : ∀ a q e' v S' F' Z', x = .ok a q e' → Nx S F Z S' F' Z' → EI S' σ e' F' Z' → Rl1 S F Z S' F' Z' v a → (q = true → Qt S e F Z S' e' F' Z') → Po Rl2 S σ e F Z (g v S') (f a q e')) : Po Rl2 S σ e F Z (r.bind g) (x.bind f) := by
  cases x with
  | ok a q e' =>
    obtain ⟨v, S', F', Z', hr, hn, he, hl, hq⟩ := h
    subst hr
    exact hf a q e' v S' F' Z' rfl hn (hn.ei he) hl hq
  | exc c x e' =>
    obtain ⟨S', F', Z', hr, hn, he⟩ := h
    subst hr
    exact ⟨S', F', Z', rfl, hn, he⟩
  | bad => trivial
/-- something told at once -/
theorem Po.pure {Rl : Rel α β} {v : β} {a : α} (I : EI S σ e F Z) (h : Rl S F Z S F Z v a) : Po Rl S σ e F Z (.ok v S) (.ok a true e) :=
  ⟨v, S, F, Z, rfl, .refl I, I.r, h, fun _ => .refl⟩
/-- something new, told without a change -/
theorem Po.fresh {Rl : Rel α β} {v : β} {a : α} {S' : Sto} (I : EI S σ e F Z) (p : S <+: S') (h : Rl S F Z S' F Z v a) : Po Rl S σ e F Z (.ok v S') (.ok a true e) :=
  ⟨v, S', F, Z, rfl, ⟨p.length_le, .pre p, I.nd, fun _ _ => Nat.le_refl _, fun _ _ h => h, I.dj⟩, I.r.mono (.pre p), h, fun _ => ⟨rfl, p, fun _ => rfl, fun _ => rfl⟩⟩
theorem tg_zero (h : Zf Fd) (nd : ∀ i, F1 i ≤ 1) (sub : ∀ i, i < S.length → F1 i ≤ F i) : Tg o S F Z F1 Z1 Fd := by
  cases o with
  | fr => exact ⟨fun i => by rw [h]; exact nd i, fun i hi => by rw [h]; exact sub i hi, fun i _ => h i⟩
  | zn => exact fun i k => absurd (h i) (by omega)
  | an => exact fun i k => absurd (h i) (by omega)
end
def tagI (d : D) (o : Og) : Og := if imm d = true then .fr else o
def pVar (i : Nat) : PE := fun e => match e[i]? with
  | some (.ow d) => .ok (d, tagI d .an) true e
  | some (.fz d) => .ok (d, tagI d .zn) true e
  | _ => .bad
/-- a variable's value goes elsewhere -/
def pMv (i : Nat) : PE := fun e => match e[i]? with
  | some (.ow d) => if imm d = true then .ok (d, .fr) true e else .ok (d, .fr) false (e.set i .no)
  | some (.fz d) => .ok (d, tagI d .zn) true e
  | _ => .bad
section
variable {S S1 S2 : Sto} {σ : St} {e e1 e2 : Env} {F Z F1 Z1 F2 Z2 Fd : Ft} {α β γ δ : Type} {o : Og} {d : D} {v : V}
theorem rp_tagI (r : Rp false S1 v d Fd) (h : o.own = false) : Rp (tagI d o).own S1 v d Fd := by
  unfold tagI
  by_cases z : imm d = true
  · rw [if_pos z]; exact r.immW z
  · rw [if_neg z, h]; exact r
theorem tg_tagI {w : Bool} (r : Rp w S1 v d Fd) (h : Tg o S F Z F1 Z1 Fd) (nd : ∀ i, F1 i ≤ 1) (sub : ∀ i, i < S.length → F1 i ≤ F i) : Tg (tagI d o) S F Z F1 Z1 Fd := by
  unfold tagI
  by_cases z : imm d = true
  · rw [if_pos z]; exact tg_zero (r.imm0 z) nd sub
  · rw [if_neg z]; exact h
theorem set_self {α : Type} {l : List α} {i : Nat} {a : α} (h : l[i]? = some a) : l.set i a = l := by
  apply List.ext_getElem?
  intro j
  by_cases z : i = j
  · subst z; rw [List.getElem?_set_self (List.getElem?_eq_some_iff.mp h).1, h]
  · rw [List.getElem?_set_ne z]
theorem mVar_of {i : Nat} {v : V} (h : σ[i]? = some (some v)) : mVar i σ S = .ok v S := by rw [mVar_ap, h]; rfl
theorem je_var (i : Nat) : JE (mVar i) (pVar i) := by
  intro S σ e F Z I
  unfold pVar
  cases h : e[i]? with
  | none => trivial
  | some s =>
    obtain ⟨F1, Z1, F2, Z2, hF, hZ, hs, k1, k2, k3⟩ := I.r.slot h
    cases s with
    | no => trivial
    | ow d =>
      obtain ⟨z, v, hv, r⟩ := hs
      rw [mVar_of hv]
      exact .pure I ⟨F1, rp_tagI r.weak rfl, tg_tagI r (fun i k _ => by have := hF i; omega) I.nd fun _ _ => Nat.le_refl _⟩
    | fz d =>
      obtain ⟨z, v, hv, r⟩ := hs
      rw [mVar_of hv]
      exact .pure I ⟨Z1, rp_tagI r rfl, tg_tagI r (fun i k => ⟨I.dj i (by have := hZ i; omega), fun _ => by have := hZ i; omega⟩) I.nd fun _ _ => Nat.le_refl _⟩
theorem je_mv (i : Nat) : JE (mVar i) (pMv i) := by
  intro S σ e F Z I
  unfold pMv
  cases h : e[i]? with
  | none => trivial
  | some s =>
    obtain ⟨F1, Z1, F2, Z2, hF, hZ, hs, k1, k2, k3⟩ := I.r.slot h
    cases s with
    | no => trivial
    | ow d =>
      obtain ⟨z, v, hv, r⟩ := hs
      rw [mVar_of hv]
      dsimp only
      by_cases q : imm d = true
      · rw [if_pos q]
        exact .pure I ⟨F1, r, tg_zero (r.imm0 q) I.nd fun _ _ => Nat.le_refl _⟩
      · rw [if_neg q]
        have k := k1 (some v)
        rw [set_self hv] at k
        have hnd := I.nd
        have hdj := I.dj
        exact ⟨v, S, F2, Z2, rfl, ⟨Nat.le_refl _, Fr.refl, fun i => by have := hF i; have := hnd i; omega, fun i _ => by have := hF i; omega, fun i _ _ => by have := hZ i; omega,
          fun i _ => by have := hF i; have := hZ i; have := hdj i; omega⟩, k, ⟨F1, r, fun i => by have := hF i; have := hnd i; omega, fun i _ => by have := hF i; omega, fun i _ => by
            have := hF i; have := hZ i; have := hdj i; omega⟩, fun h => by cases h⟩
    | fz d =>
      obtain ⟨z, v, hv, r⟩ := hs
      rw [mVar_of hv]
      exact .pure I ⟨Z1, rp_tagI r rfl, tg_tagI r (fun i k => ⟨I.dj i (by have := hZ i; omega), fun _ => by have := hZ i; omega⟩) I.nd fun _ _ => Nat.le_refl _⟩
def pC (d : D) : PE := fun e => .ok (d, .fr) true e
theorem je_c {v : V} {d : D} (h : ∀ S, Rp true S v d fun _ => 0) : JE (mC v) (pC d) := fun S σ e F Z I => .pure I ⟨fun _ => 0, h S, tg_zero (fun _ => rfl) I.nd fun _ _ => Nat.le_refl _⟩
theorem je_int (i : Int) : JE (mC (.int i)) (pC (.int i)) := je_c fun _ => .int fun _ => rfl
theorem je_bl (i : Bool) : JE (mC (.bl i)) (pC (.bl i)) := je_c fun _ => .bl fun _ => rfl
theorem je_str (i : Str) : JE (mC (.str i)) (pC (.str i)) := je_c fun _ => .str fun _ => rfl
def Tga (o : Og) (S : Sto) (F Z F' T Fd : Ft) : Prop := match o with
  | .fr => ∀ i, Fd i ≤ T i
  | .zn => ∀ i, 0 < Fd i → F' i = 0 ∧ T i = 0 ∧ (i < S.length → 0 < Z i)
  | .an => ∀ i, 0 < Fd i → i < S.length → 0 < F i + Z i
def frp (o : Og) (Fd : Ft) : Ft := match o with
  | .fr => Fd
  | _ => fun _ => 0
/-- values, each with its parts; U counts the own ones' parts -/
inductive AvR (S : Sto) (F Z : Ft) (S' : Sto) (F' T : Ft) : List V → List (D × Og) → Ft → Prop
  | nil {U : Ft} : Zf U → AvR S F Z S' F' T [] [] U
  | cons {U U2 Fd : Ft} {v : V} {d : D} {o : Og} {vs : List V} {ds : List (D × Og)} : Rp o.own S' v d Fd → Tga o S F Z F' T Fd → AvR S F Z S' F' T vs ds U2 → (∀ i, U i = frp o Fd i + U2 i) → AvR S F Z S' F' T (v :: vs) ((d, o) :: ds) U
def RlA : Rel (List (D × Og)) (List V) := fun S F Z S' F' Z' vs ds => ∃ T, AvR S F Z S' F' T vs ds T ∧ (∀ i, F' i + T i ≤ 1) ∧ (∀ i, i < S.length → F' i + T i ≤ F i) ∧ ∀ i, 0 < Z' i → T i = 0
abbrev JA (m : MA) (p : PA) : Prop := JX RlA m p
theorem AvR.tr {vs : List V} {ds : List (D × Og)} {T T' U F' : Ft} {S' : Sto} (h : AvR S1 F1 Z1 S' F' T vs ds U) (n : Nx S F Z S1 F1 Z1) (ht : ∀ i, T i ≤ T' i) (hz : ∀ i, (i < S1.length → 0 < Z1 i) → F' i = 0 → T i = 0 → i < S'.length → T' i = 0) : AvR S F Z S' F' T' vs ds U := by
  induction h with
  | nil z => exact .nil z
  | @cons U U2 Fd v d o vs ds r t _ hu ih =>
    refine .cons r ?_ ih hu
    cases o with
    | fr => exact fun i => Nat.le_trans (t i) (ht i)
    | zn => exact fun i k => ⟨(t i k).1, hz i (t i k).2.2 (t i k).1 (t i k).2.1 (r.lt k), fun hi => n.zs i hi ((t i k).2.2 (Nat.lt_of_lt_of_le hi n.le))⟩
    | an =>
      intro i k hi
      have h1 := t i k (Nat.lt_of_lt_of_le hi n.le)
      have h2 := n.sub i hi
      have h3 := n.zs i hi
      omega
def pNil : PA := fun e => .ok [] true e
def pCons (a : PE) (r : PA) : PA := fun e => (a e).bind fun d q e1 => (r e1).bind fun ds q' e2 => if (d.2.st || q') = true then .ok (d :: ds) (q && q') e2 else .bad
theorem ja_nil : JA mNil pNil := fun S σ e F Z I => .pure I ⟨fun _ => 0, .nil fun _ => rfl, I.nd, fun _ _ => Nat.le_refl _, fun _ _ => rfl⟩
theorem ja_cons {m : ME} {p : PE} {ms : MA} {ps : PA} (h : JE m p) (hs : JA ms ps) : JA (mCons m ms) (pCons p ps) := by
  intro S σ e F Z I
  refine Po.bind (h S σ e F Z I) fun a q e1 v S1 F1 Z1 hx n1 I1 ⟨Fd, r, t⟩ k1 => ?_
  have h2 := hs S1 σ e1 F1 Z1 I1
  cases hx2 : ps e1 with
  | bad => trivial
  | exc c x e2 =>
    rw [hx2] at h2
    obtain ⟨S', F', Z', hr, hn, he⟩ := h2
    rw [hr]
    exact ⟨S', F', Z', rfl, n1.trans hn, he⟩
  | ok ds q' e2 =>
    rw [hx2] at h2
    obtain ⟨vs, S2, F2, Z2, hr, n2, he, ⟨T, av, t1, t2, t3⟩, k2⟩ := h2
    rw [hr]
    show Po RlA S σ e F Z (.ok (v :: vs) S2) (if (a.2.st || q') = true then .ok (a :: ds) (q && q') e2 else .bad)
    by_cases z : (a.2.st || q') = true
    · rw [if_pos z]
      refine ⟨v :: vs, S2, F2, Z2, rfl, n1.trans n2, he, ?_, fun hh => by rw [Bool.and_eq_true] at hh; exact (k1 hh.1).trans (k2 hh.2)⟩
      obtain ⟨d, o⟩ := a
      have nd1 := n1.nd
      have dj1 := n1.dj
      have zs2 := n2.zs
      have sub2 := n2.sub
      cases o with
      | fr =>
        have hb : ∀ i, S1.length ≤ i → Fd i = 0 := fun i hi => Nat.eq_zero_of_not_pos fun k => absurd (r.lt k) (by omega)
        refine ⟨fun i => Fd i + T i, .cons (r.mono (n2.kp I1.r fun i k => by have := t.1 i; omega)) (fun i => Nat.le_add_right _ _) (av.tr n1 (fun i => Nat.le_add_left _ _) fun i hz _ h0 hl => ?_) fun i => rfl, fun i => ?_, fun i hi => ?_, fun i hi => ?_⟩
        · by_cases q : i < S1.length
          · have := t.2.2 i (hz q); show Fd i + T i = 0; omega
          · have := hb i (by omega); show Fd i + T i = 0; omega
        · show F2 i + (Fd i + T i) ≤ 1
          by_cases q : i < S1.length
          · have := t.1 i; have := t2 i q; omega
          · have := hb i (by omega); have := t1 i; omega
        · show F2 i + (Fd i + T i) ≤ F i
          have := t.2.1 i hi
          have := t2 i (Nat.lt_of_lt_of_le hi n1.le)
          omega
        · have := t3 i hi
          by_cases q : i < S1.length
          · have := t.2.2 i (zs2 i q hi); show Fd i + T i = 0; omega
          · have := hb i (by omega); show Fd i + T i = 0; omega
      | zn =>
        refine ⟨T, .cons (r.mono (n2.kp I1.r fun i k => (t i k).1)) (fun i k => ?_) (av.tr n1 (fun i => Nat.le_refl _) fun i _ _ h _ => h) fun i => by simp [frp], t1, fun i hi => ?_, t3⟩
        · have q := r.lt k
          have := t2 i q
          have := (t i k).1
          exact ⟨by omega, by omega, (t i k).2⟩
        · have := t2 i (Nat.lt_of_lt_of_le hi n1.le)
          have := n1.sub i hi
          omega
      | an =>
        have hq : q' = true := by simpa using z
        refine ⟨T, .cons (r.mono (.pre (k2 hq).p)) t (av.tr n1 (fun i => Nat.le_refl _) fun i _ _ h _ => h) fun i => by simp [frp], t1, fun i hi => ?_, t3⟩
        have := t2 i (Nat.lt_of_lt_of_le hi n1.le)
        have := n1.sub i hi
        omega
    · rw [if_neg z]; trivial
end
end Vi
namespace Vi
open PySem PySem.Spec L2 Mi
def Res (S : Sto) (r : D) (x : R V) : Prop := ∃ v S' Fd, x = .ok v S' ∧ S <+: S' ∧ Rp true S' v r Fd ∧ (∀ i, 0 < Fd i → S.length ≤ i) ∧ ∀ i, Fd i ≤ 1
def JO (o : List V → Sto → R V) (p : List D → Option D) : Prop := ∀ S vs ds G, RpL false S vs ds G → ∀ r, p ds = some r → Res S r (o vs S)
section
variable {S S' S1 : Sto} {F Z F1 Z1 T U G Fd : Ft} {v : V} {d : D} {vs : List V} {ds : List D} {w : Bool} {σ : St} {e : Env}
theorem Rp.relax (r : Rp w S v d F) : Rp false S v d F := by
  cases w with
  | true => exact r.weak
  | false => exact r
theorem RpL.relax (r : RpL w S vs ds F) : RpL false S vs ds F := by
  cases w with
  | true => exact r.weak
  | false => exact r
theorem AvR.rpl {F' : Ft} {avs : List (D × Og)} (h : AvR S F Z S' F' T vs avs U) : ∃ G, RpL false S' vs (avs.map (·.1)) G := by
  induction h with
  | nil z => exact ⟨fun _ => 0, .nil fun _ => rfl⟩
  | @cons U U2 Fd v d o vs ds r t _ hu ih =>
    obtain ⟨G, g⟩ := ih
    exact ⟨fun i => Fd i + G i, .cons r.relax g fun _ => rfl⟩
theorem nx_pre (I : EI S σ e F Z) (p : S <+: S') : Nx S F Z S' F Z := ⟨p.length_le, .pre p, I.nd, fun _ _ => Nat.le_refl _, fun _ _ h => h, I.dj⟩
theorem Res.val {r : D} (h : Rp true S v r fun _ => 0) : Res S r (.ok v S) := ⟨v, S, _, rfl, List.prefix_refl _, h, fun i k => absurd k (by simp), fun i => by simp⟩
theorem Res.int {i : Int} : Res S (.int i) (.ok (.int i) S)   := Res.val (.int fun _ => rfl)
theorem Res.bl {i : Bool} : Res S (.bl i) (.ok (.bl i) S)   := Res.val (.bl fun _ => rfl)
theorem Res.str {i : Str} : Res S (.str i) (.ok (.str i) S)   := Res.val (.str fun _ => rfl)
theorem Res.non : Res S .non (.ok .non S)   := Res.val (.non fun _ => rfl)
theorem zero_of_imm (r : RpL w S vs ds G) (h : ds.all imm = true) : RpL true S vs ds fun _ => 0 := by
  rw [← immL_all] at h
  exact (r.immW h).congr fun i => (r.imm0 h i).symm
theorem zero_imm (r : Rp w S v d G) (h : imm d = true) : Rp true S v d fun _ => 0 := (r.immW h).congr fun i => (r.imm0 h i).symm
def one (k : Nat) : Ft := fun j => 0 + if j = k then 1 else 0
theorem one_pos {k i : Nat} (h : 0 < one k i) : i = k := by
  unfold one at h
  by_cases z : i = k
  · exact z
  · rw [if_neg z] at h; omega
theorem one_le (k : Nat) : ∀ i, one k i ≤ 1 := fun i => by
  unfold one
  by_cases z : i = k
  · rw [if_pos z]; omega
  · rw [if_neg z]; omega
theorem Res.lst (r : RpL w S vs ds G) (h : ds.all imm = true) : Res S (.lst ds) (.ok (.ref S.length) (S ++ [.lst vs])) := by
  refine ⟨_, _, one S.length, rfl, pre_add _ _, .lst (.inl (by rw [get_new0]; rfl)) ((zero_of_imm r h).mono (.pre (pre_add _ _))) fun _ => rfl, fun i k => Nat.le_of_eq (one_pos k).symm, one_le _⟩
theorem Res.tup (r : RpL w S vs ds G) (h : ds.all imm = true) : Res S (.tup ds) (.ok (.ref S.length) (S ++ [.tup vs])) :=
  ⟨_, _, fun _ => 0, rfl, pre_add _ _, .tup (by rw [get_new0]; rfl) ((zero_of_imm r h).mono (.pre (pre_add _ _))), fun i k => absurd k (by simp), fun i => by simp⟩
theorem Res.dk {kvs : List (Key × V)} {kds : List (Key × D)} (hk : kvs.map (·.1) = kds.map (·.1)) (r : RpL w S (kvs.map (·.2)) (kds.map (·.2)) G) (h : (kds.map (·.2)).all imm = true) : Res S (.dk kds) (.ok (.ref S.length) (S ++ [.dK kvs])) := by
  refine ⟨_, _, one S.length, rfl, pre_add _ _, .dk (.inl (by rw [get_new0]; rfl)) hk ((zero_of_imm r h).mono (.pre (pre_add _ _))) fun _ => rfl, fun i k => Nat.le_of_eq (one_pos k).symm, one_le _⟩
def pCall (p : List D → Option D) (a : PA) : PE := fun e => (a e).bind fun ds q e' => match p (ds.map (·.1)) with
  | some r => .ok (r, .fr) q e'
  | none => .bad
theorem je_call {o : List V → Sto → R V} {p : List D → Option D} {m : MA} {a : PA} (h : JO o p) (ha : JA m a) : JE (mCall o m) (pCall p a) := by
  intro S σ e F Z I
  refine Po.bind (ha S σ e F Z I) fun ds q e' vs S1 F1 Z1 hx n I1 ⟨T, av, t1, t2, t3⟩ k => ?_
  obtain ⟨G, g⟩ := av.rpl
  cases hp : p (ds.map (·.1)) with
  | none => trivial
  | some r =>
    obtain ⟨v, S', Fd, hr, hpre, rp, hf, h1⟩ := h S1 vs _ G g r hp
    have n' := nx_pre I1 hpre
    refine ⟨v, S', F1, Z1, hr, n.trans n', I1.r.mono (.pre hpre), ⟨Fd, rp, fun i => ?_, fun i hi => ?_, fun i hi => ?_⟩, fun hq => (k hq).trans ⟨rfl, hpre, fun _ => rfl, fun _ => rfl⟩⟩
    · by_cases z : 0 < Fd i
      · have := hf i z
        have : F1 i = 0 := Nat.eq_zero_of_not_pos fun y => by
          obtain ⟨o, e, _⟩ := I1.r.domF i y
          have := (List.getElem?_eq_some_iff.mp e).1
          omega
        have := h1 i
        omega
      · have := I1.nd i
        omega
    · have : Fd i = 0 := Nat.eq_zero_of_not_pos fun y => by have := hf i y; have := n.le; omega
      have := n.sub i hi
      omega
    · exact Nat.eq_zero_of_not_pos fun y => by
        have := hf i y
        obtain ⟨o, e, _⟩ := I1.r.domZ i hi
        have := (List.getElem?_eq_some_iff.mp e).1
        omega
end
def o1 (o : V → Sto → R V) : List V → Sto → R V := fun xs S => match xs with
  | [x] => o x S
  | _ => .bad
def o2 (o : V → V → Sto → R V) : List V → Sto → R V := fun xs S => match xs with
  | [x, y] => o x y S
  | _ => .bad
def p1 (p : D → Option D) : List D → Option D := fun xs => match xs with
  | [x] => p x
  | _ => none
def p2 (p : D → D → Option D) : List D → Option D := fun xs => match xs with
  | [x, y] => p x y
  | _ => none
def pOf (q : Bool) (e : Env) : Option D → X (D × Og)
  | some r => .ok (r, .fr) q e
  | none => .bad
@[simp] theorem pOf_some (q : Bool) (e : Env) (r : D) : pOf q e (some r) = .ok (r, .fr) q e := rfl
@[simp] theorem pOf_none (q : Bool) (e : Env) : pOf q e none = .bad := rfl
def pUn (p : D → Option D) (a : PE) : PE := fun e => (a e).bind fun x q e1 => pOf q e1 (p x.1)
def pBin (p : D → D → Option D) (a b : PE) : PE := fun e => (a e).bind fun x q e1 => (b e1).bind fun y q' e2 => if (x.2.st || q') = true then pOf (q && q') e2 (p x.1 y.1) else .bad
theorem pOf_eq (q : Bool) (e : Env) (x : Option D) : (match x with
  | some r => X.ok (r, Og.fr) q e
  | none => .bad) = pOf q e x := by cases x <;> rfl
theorem mUn_args (o : V → Sto → R V) (a : ME) : mCall (o1 o) (mCons a mNil) = fun σ S => (a σ S).bind o := by
  funext σ S
  rw [mCall_ap, mCons_ap]
  cases a σ S <;> rfl
theorem mBin_args (o : V → V → Sto → R V) (a b : ME) : mCall (o2 o) (mCons a (mCons b mNil)) = mBin o a b := by
  funext σ S
  rw [mCall_ap, mCons_ap, mBin_ap]
  cases a σ S with
  | ok x S1 =>
    simp only [bind_ok, mCons_ap]
    cases b σ S1 <;> rfl
  | _ => rfl
theorem pUn_args (p : D → Option D) (a : PE) : pCall (p1 p) (pCons a pNil) = pUn p a := by
  funext e
  unfold pCall pCons pNil pUn
  cases a e with
  | ok x q e1 =>
    simp only [xbind_ok, Bool.or_true, if_true, Bool.and_true]
    exact pOf_eq _ _ _
  | _ => rfl
theorem pBin_args (p : D → D → Option D) (a b : PE) : pCall (p2 p) (pCons a (pCons b pNil)) = pBin p a b := by
  funext e
  unfold pCall pCons pNil pBin
  cases a e with
  | ok x q e1 =>
    simp only [xbind_ok]
    cases b e1 with
    | ok y q' e2 =>
      simp only [xbind_ok, Bool.or_true, if_true, Bool.and_true]
      by_cases z : (x.2.st || q') = true
      · rw [if_pos z, if_pos z]
        exact pOf_eq _ _ _
      · rw [if_neg z, if_neg z]
        rfl
    | _ => rfl
  | _ => rfl
section
variable {ma mb mc : ME} {pa pb pc : PE}
theorem je_un {o : V → Sto → R V} {p : D → Option D} (h : JO (o1 o) (p1 p)) (ha : JE ma pa) : JE (fun σ S => (ma σ S).bind o) (pUn p pa) := by
  rw [← mUn_args, ← pUn_args]
  exact je_call h (ja_cons ha ja_nil)
theorem je_bin {o : V → V → Sto → R V} {p : D → D → Option D} (h : JO (o2 o) (p2 p)) (ha : JE ma pa) (hb : JE mb pb) : JE (mBin o ma mb) (pBin p pa pb) := by
  rw [← mBin_args, ← pBin_args]
  exact je_call h (ja_cons ha (ja_cons hb ja_nil))
theorem jo1 {o : V → Sto → R V} {p : D → Option D} (h : ∀ S x d F r, Rp false S x d F → p d = some r → Res S r (o x S)) : JO (o1 o) (p1 p) := by
  intro S vs ds G g r hp
  cases g with
  | nil _ => cases hp
  | cons a b _ =>
    cases b with
    | nil _ => exact h S _ _ _ r a hp
    | cons _ _ _ => cases hp
theorem jo2 {o : V → V → Sto → R V} {p : D → D → Option D} (h : ∀ S x y d e F G r, Rp false S x d F → Rp false S y e G → p d e = some r → Res S r (o x y S)) : JO (o2 o) (p2 p) := by
  intro S vs ds G g r hp
  cases g with
  | nil _ => cases hp
  | cons a b _ =>
    cases b with
    | nil _ => cases hp
    | cons a' b' _ =>
      cases b' with
      | nil _ => exact h S _ _ _ _ _ _ r a a' hp
      | cons _ _ _ => cases hp
end
section
variable {S : Sto} {v : V} {d : D} {F : Ft} {ds : List D} {kds : List (Key × D)} {w : Bool}
theorem Rp.rdL (r : Rp w S v (.lst ds) F) : ∃ i vs G, v = .ref i ∧ Mi.rdL S (.ref i) = some vs ∧ RpL w S vs ds G ∧ (∀ j, G j ≤ F j) ∧ Mi.rdT S (.ref i) = none ∧ Mi.rdK S (.ref i) = none := by
  cases r with
  | lst e r z => rcases e with e | e <;> exact ⟨_, _, _, rfl, by first | simp only [Mi.rdL, e] | simp only [Mi.rdL, e.2], r, fun j => by have := z j; omega, by first | simp only [Mi.rdT, e] | simp only [Mi.rdT, e.2], by first | simp only [Mi.rdK, e] | simp only [Mi.rdK, e.2]⟩
theorem Rp.rdT (r : Rp w S v (.tup ds) F) : ∃ i vs, v = .ref i ∧ Mi.rdT S (.ref i) = some vs ∧ RpL w S vs ds F ∧ Mi.rdL S (.ref i) = none ∧ Mi.rdK S (.ref i) = none ∧ S[i]? = some (.tup vs) := by
  cases r with
  | tup e r => exact ⟨_, _, rfl, by simp only [Mi.rdT, e], r, by simp only [Mi.rdL, e], by simp only [Mi.rdK, e], e⟩
theorem Rp.rdK (r : Rp w S v (.dk kds) F) : ∃ i kvs G, v = .ref i ∧ Mi.rdK S (.ref i) = some kvs ∧ kvs.map (·.1) = kds.map (·.1) ∧ RpL w S (kvs.map (·.2)) (kds.map (·.2)) G ∧ (∀ j, G j ≤ F j) ∧ Mi.rdL S (.ref i) = none ∧ Mi.rdT S (.ref i) = none := by
  cases r with
  | dk e k r z => rcases e with e | e <;> exact ⟨_, _, _, rfl, by first | simp only [Mi.rdK, e] | simp only [Mi.rdK, e.2], k, r, fun j => by have := z j; omega, by first | simp only [Mi.rdL, e] | simp only [Mi.rdL, e.2], by first | simp only [Mi.rdT, e] | simp only [Mi.rdT, e.2]⟩
/-- a value without parts -/
def scal : D → Option V
  | .non => some .non
  | .bl b => some (.bl b)
  | .int i => some (.int i)
  | .str x => some (.str x)
  | _ => none
@[simp] theorem scal_non : scal .non = some .non := rfl
@[simp] theorem scal_bl (b : Bool) : scal (.bl b) = some (.bl b) := rfl
@[simp] theorem scal_int (b : Int) : scal (.int b) = some (.int b) := rfl
@[simp] theorem scal_str (b : Str) : scal (.str b) = some (.str b) := rfl
@[simp] theorem scal_tup (b : List D) : scal (.tup b) = none := rfl
@[simp] theorem scal_lst (b : List D) : scal (.lst b) = none := rfl
theorem Rp.scal {u : V} (r : Rp w S v d F) (h : Vi.scal d = some u) : v = u ∧ flatV u = true := by
  cases r <;> first | (cases h; exact ⟨rfl, rfl⟩) | cases h
theorem RpL.scal : ∀ {vs : List V} {ds : List D} {F : Ft} {us : List V}, RpL w S vs ds F → allSome (ds.map Vi.scal) = some us → vs = us ∧ us.all flatV = true
  | _, _, _, _, .nil _, h => by cases h; exact ⟨rfl, rfl⟩
  | _, _, _, us, .cons (d := d) (ds := ds) a b _, h => by
    rw [List.map_cons] at h
    cases e1 : Vi.scal d with
    | none => rw [e1] at h; cases h
    | some u =>
      rw [e1] at h
      cases e2 : allSome (ds.map Vi.scal) with
      | none => rw [allSome, e2] at h; cases h
      | some l =>
        rw [allSome, e2] at h
        cases h
        obtain ⟨h1, h2⟩ := a.scal e1
        obtain ⟨h3, h4⟩ := b.scal e2
        subst h1; subst h3
        exact ⟨rfl, by rw [List.all_cons, h2, h4]; rfl⟩
theorem Rp.inv_int {i : Int} (r : Rp w S v (.int i) F) : v = .int i := by cases r; rfl
theorem Rp.inv_bl {i : Bool} (r : Rp w S v (.bl i) F) : v = .bl i := by cases r; rfl
theorem Rp.inv_str {i : Str} (r : Rp w S v (.str i) F) : v = .str i := by cases r; rfl
end
def dAdd : D → D → Option D
  | .int i, .int j => some (.int (i + j))
  | .str i, .str j => if i.length + j.length ≤ sizeLine then some (.str (i ++ j)) else none
  | .lst xs, .lst ys => if xs.length + ys.length ≤ sizeLine ∧ (xs ++ ys).all imm = true then some (.lst (xs ++ ys)) else none
  | .tup xs, .tup ys => if xs.length ≠ 0 ∧ ys.length ≠ 0 ∧ xs.length + ys.length ≤ sizeLine ∧ (xs ++ ys).all imm = true then some (.tup (xs ++ ys)) else none
  | _, _ => none
def dSub : D → D → Option D
  | .int i, .int j => some (.int (i - j))
  | _, _ => none
def dIAdd : D → D → Option D
  | .int i, .int j => some (.int (i + j))
  | _, _ => none
def dMul : D → D → Option D
  | .int i, .int j => if IntMulOk i j then some (.int (i * j)) else none
  | _, _ => none
def dDiv : D → D → Option D
  | .int i, .int j => if DivOk j then some (.int (i / j)) else none
  | _, _ => none
def dMod : D → D → Option D
  | .int i, .int j => if 0 < j then some (.int (i % j)) else none
  | _, _ => none
def dPow : D → D → Option D
  | .int i, .int j => if 0 ≤ j ∧ j ≤ 1000000 ∧ i.natAbs < 2 ^ 64 then some (.int (i ^ j.toNat)) else none
  | _, _ => none
def dNeg : D → Option D
  | .int i => some (.int (-i))
  | _ => none
def dCmp (p : Int → Int → Bool) : D → D → Option D
  | .int i, .int j => some (.bl (p i j))
  | _, _ => none
def isN : D → Option Bool
  | .hole => none
  | .non => some true
  | _ => some false
def dIs : D → D → Option D
  | x, .non => (isN x).map .bl
  | _, _ => none
def dIsN : D → D → Option D
  | x, .non => (isN x).map fun b => .bl (!b)
  | _, _ => none
theorem RpL.app {S : Sto} {w : Bool} : ∀ {vs vs' : List V} {ds ds' : List D} {F G : Ft}, RpL w S vs ds F → RpL w S vs' ds' G → RpL w S (vs ++ vs') (ds ++ ds') fun i => F i + G i
  | _, _, _, _, _, _, .nil z, b => b.congr fun i => by rw [z i]; omega
  | _, _, _, _, _, _, .cons a r z, b => .cons a (r.app b) fun i => by rw [z i]; omega
theorem jo_add : JO (o2 oAdd) (p2 dAdd) := jo2 fun S x y d e F G r a b h => by
  unfold dAdd at h
  split at h
  · cases h; rw [a.inv_int, b.inv_int]; exact .int
  · split at h
    · rename_i z
      cases h
      rw [a.inv_str, b.inv_str]
      show Res S _ (if _ then _ else _)
      rw [if_pos z]
      exact .str
    · cases h
  · split at h
    · rename_i z
      cases h
      obtain ⟨i, vs, G1, rfl, h1, r1, _⟩ := a.rdL
      obtain ⟨j, us, G2, rfl, h2, r2, _⟩ := b.rdL
      rw [oAdd_lst S h1 h2 (by rw [r1.len, r2.len]; exact z.1)]
      exact .lst (r1.app r2) z.2
    · cases h
  · split at h
    · rename_i z
      cases h
      obtain ⟨i, vs, rfl, h1, r1, h3, _⟩ := a.rdT
      obtain ⟨j, us, rfl, h2, r2, h4, _⟩ := b.rdT
      have e : oAdd (.ref i) (.ref j) S = .ok (.ref S.length) (S ++ [.tup (vs ++ us)]) := by
        unfold oAdd
        simp only [h3, h1, h2]
        exact if_pos ⟨fun q => z.1 (by rw [← r1.len, q]; rfl), fun q => z.2.1 (by rw [← r2.len, q]; rfl), by rw [r1.len, r2.len]; exact z.2.2.1⟩
      rw [e]
      exact .tup (r1.app r2) z.2.2.2
    · cases h
  · cases h
theorem jo_mod : JO (o2 oMod) (p2 dMod) := jo2 fun S x y d e F G r a b h => by
  unfold dMod at h
  split at h
  · split at h
    · rename_i z
      cases h; rw [a.inv_int, b.inv_int]; rw [oMod_int _ _ _ z]; exact .int
    · cases h
  · cases h
theorem jo_pow : JO (o2 oPow) (p2 dPow) := jo2 fun S x y d e F G r a b h => by
  unfold dPow at h
  split at h
  · split at h
    · rename_i z
      cases h; rw [a.inv_int, b.inv_int]; rw [oPow_int _ _ _ z]; exact .int
    · cases h
  · cases h
def rdP : Nat → D → Option PyData
  | 0, _ => none
  | n + 1, d => match d with
    | .non => some .none
    | .bl b => some (.bool b)
    | .int i => some (.int i)
    | .str x => some (.str x)
    | .lst xs => (allSome (xs.map (rdP n))).map .list
    | .tup xs => (allSome (xs.map (rdP n))).map .tuple
    | _ => none
section
variable {S : Sto} {w : Bool}
theorem RpL.rdP {f : D → Option PyData} {g : V → Option PyData} (k : ∀ v d F p, Rp w S v d F → f d = some p → g v = some p) : ∀ {vs : List V} {ds : List D} {F : Ft} {ps : List PyData}, RpL w S vs ds F → allSome (ds.map f) = some ps → allSome (vs.map g) = some ps
  | _, _, _, _, .nil _, h => h
  | _, _, _, ps, .cons (d := d) (ds := ds) a b _, h => by
    rw [List.map_cons] at h ⊢
    cases e1 : f d with
    | none => rw [e1] at h; cases h
    | some u =>
      rw [e1] at h
      rw [k _ _ _ _ a e1]
      cases e2 : allSome (ds.map f) with
      | none => rw [allSome, e2] at h; cases h
      | some l =>
        rw [allSome, e2] at h
        rw [allSome, RpL.rdP k b e2]
        exact h
theorem rdP_of : ∀ (n : Nat) (v : V) (d : D) (F : Ft) (p : PyData), Rp w S v d F → rdP n d = some p → rdD S n v = some p
  | 0, _, _, _, _, _, h => by cases h
  | n + 1, v, d, F, p, r, h => by
    have hl : ∀ {xs : List D} {vs : List V} {G : Ft} {f : List PyData → PyData}, RpL w S vs xs G → (allSome (xs.map (rdP n))).map f = some p → (allSome (vs.map (rdD S n))).map f = some p := by
      intro xs vs G f q k
      cases e2 : allSome (xs.map (rdP n)) with
      | none => rw [e2] at k; cases k
      | some l => rw [e2] at k; rw [RpL.rdP (fun v d F p => rdP_of n v d F p) q e2]; exact k
    cases r with
    | non _ => exact h
    | bl _ => exact h
    | int _ => exact h
    | str _ => exact h
    | hole _ => cases h
    | exc _ _ => cases h
    | dk _ _ _ _ => cases h
    | ins _ _ _ => cases h
    | tup e q => rw [rdD_tup e]; exact hl q h
    | lst e q z =>
      rcases e with e | e
      · rw [rdD_lst e]; exact hl q h
      · rw [rdD_lck e.2]; exact hl q h
end
def dEqD (neg : Bool) : D → D → Option D := fun x y => match rdP eqDepth x, rdP eqDepth y with
  | some d, some e => if SeqAt.shaped d = true ∧ SeqAt.shaped e = true then some (.bl (neg != PyData.eqv d e)) else none
  | _, _ => none
abbrev dEq := dEqD false
abbrev dNe := dEqD true
theorem jo_eqD (neg : Bool) : JO (o2 (oEqD neg)) (p2 (dEqD neg)) := jo2 fun S x y d e F G r a b h => by
  unfold dEqD at h
  split at h
  · rename_i d' e' h1 h2
    split at h
    · rename_i z
      cases h
      rw [oEqD_of S (rdP_of _ _ _ _ _ a h1) (rdP_of _ _ _ _ _ b h2) z.1 z.2]
      exact .bl
    · cases h
  · cases h
section
variable {ma mb mc : ME} {pa pb pc : PE} {mt mu : MT} {pt pu : PT}
def pAndV (a b : PE) : PE := fun e => (a e).bind fun x q e1 => match x.1 with
  | .bl true => (b e1).qq q
  | .bl false => .ok (.bl false, .fr) q e1
  | _ => .bad
def pOrV (a b : PE) : PE := fun e => (a e).bind fun x q e1 => match x.1 with
  | .bl true => .ok (.bl true, .fr) q e1
  | .bl false => (b e1).qq q
  | _ => .bad
theorem Po.done {S S1 : Sto} {σ : St} {e e1 : Env} {F Z F1 Z1 : Ft} {v : V} {d : D} {q : Bool} (n : Nx S F Z S1 F1 Z1) (I1 : EI S1 σ e1 F1 Z1) (k : q = true → Qt S e F Z S1 e1 F1 Z1) (h : Rp true S1 v d fun _ => 0) : Po RlE S σ e F Z (.ok v S1) (.ok (d, .fr) q e1) :=
  ⟨v, S1, F1, Z1, rfl, n, I1.r, ⟨_, h, tg_zero (fun _ => rfl) I1.nd n.sub⟩, k⟩
theorem je_and (ha : JE ma pa) (hb : JE mb pb) : JE (mAndV ma mb) (pAndV pa pb) := by
  intro S σ e F Z I
  refine Po.bind (ha S σ e F Z I) fun ⟨d, o⟩ q e' v S1 F1 Z1 hx n I1 ⟨Fd, r, t⟩ k => ?_
  cases d with
  | bl z =>
    rw [r.inv_bl]
    cases z with
    | true => exact (hb S1 σ e' F1 Z1 I1).after trs_e n k
    | false => exact Po.done n I1 k (.bl fun _ => rfl)
  | _ => trivial
def dNot : D → Option D
  | .bl b => some (.bl (!b))
  | _ => none
theorem jo_not : JO (o1 fun x S => match x with
  | .bl b => .ok (.bl (!b)) S
  | _ => .bad) (p1 dNot) := jo1 fun S x d F r a h => by
  unfold dNot at h
  split at h
  · cases h; rw [a.inv_bl]; exact .bl
  · cases h
theorem je_not (ha : JE ma pa) : JE (mNotV ma) (pUn dNot pa) := je_un jo_not ha
def pB (a : PE) : PT := fun e => (a e).bind fun x q e1 => match x.1 with
  | .bl b => .ok b q e1
  | _ => .bad
def pNot (a : PT) : PT := fun e => (a e).bind fun x q e1 => .ok (!x) q e1
def pAnd (a b : PT) : PT := fun e => (a e).bind fun x q e1 => if x = true then (b e1).qq q else .ok false q e1
def pOr (a b : PT) : PT := fun e => (a e).bind fun x q e1 => if x = true then .ok true q e1 else (b e1).qq q
def pIf (c : PT) (a b : PE) : PE := fun e => (c e).bind fun x q e1 => if x = true then (a e1).qq q else (b e1).qq q
theorem jt_b (ha : JE ma pa) : JT (mB ma) (pB pa) := by
  intro S σ e F Z I
  refine Po.bind (ha S σ e F Z I) fun ⟨d, o⟩ q e' v S1 F1 Z1 hx n I1 ⟨Fd, r, t⟩ k => ?_
  cases d with
  | bl z => rw [r.inv_bl]; exact ⟨_, S1, F1, Z1, rfl, n, I1.r, rfl, k⟩
  | _ => trivial
theorem jt_not (ha : JT mt pt) : JT (mNot mt) (pNot pt) := by
  intro S σ e F Z I
  refine Po.bind (ha S σ e F Z I) fun b q e' v S1 F1 Z1 hx n I1 hb k => ?_
  cases hb
  exact ⟨_, S1, F1, Z1, rfl, n, I1.r, rfl, k⟩
theorem jt_or (ha : JT mt pt) (hb : JT mu pu) : JT (mOr mt mu) (pOr pt pu) := by
  intro S σ e F Z I
  refine Po.bind (ha S σ e F Z I) fun b q e' v S1 F1 Z1 hx n I1 hv k => ?_
  cases hv
  by_cases z : b = true
  · rw [if_pos z, if_pos z]; exact ⟨_, S1, F1, Z1, rfl, n, I1.r, rfl, k⟩
  · rw [if_neg z, if_neg z]; exact (hb S1 σ e' F1 Z1 I1).after trs_b n k
end
end Vi
namespace Vi
open PySem PySem.Spec L2 Mi
/-- a part of the first value: its parts are among the first's -/
def JS1 (o : List V → Sto → R V) (p : List D → Option D) : Prop := ∀ S v vs d ds Fd G, Rp false S v d Fd → RpL false S vs ds G → ∀ r, p (d :: ds) = some r → ∃ u Fr, o (v :: vs) S = .ok u S ∧ Rp false S u r Fr ∧ ∀ i, 0 < Fr i → 0 < Fd i
def selT (r : D) : List (D × Og) → Og
  | (_, .zn) :: _ => tagI r .zn
  | _ => tagI r .an
def pSel (p : List D → Option D) (a : PA) : PE := fun e => (a e).bind fun ds q e' => match p (ds.map (·.1)) with
  | some r => .ok (r, selT r ds) q e'
  | none => .bad
theorem je_sel {o : List V → Sto → R V} {p : List D → Option D} {m : MA} {a : PA} (h : JS1 o p) (hn : p [] = none) (ha : JA m a) : JE (mCall o m) (pSel p a) := by
  intro S σ e F Z I
  refine Po.bind (ha S σ e F Z I) fun ds q e' vs S1 F1 Z1 hx n I1 ⟨T, av, t1, t2, t3⟩ k => ?_
  cases av with
  | nil _ => simp only [List.map_nil, hn]; trivial
  | @cons U U2 Fd v d o' vs ds r t av hu =>
    obtain ⟨G, g⟩ := av.rpl
    cases hp : p (((d, o') :: ds).map (·.1)) with
    | none => trivial
    | some x =>
      obtain ⟨u, Fr, hr, rp, hs⟩ := h S1 v vs d _ Fd G r.relax g x hp
      refine ⟨u, S1, F1, Z1, hr, n, I1.r, ⟨Fr, ?_, ?_⟩, k⟩
      · show Rp (selT x ((d, o') :: ds)).own S1 u x Fr
        cases o' <;> exact rp_tagI rp rfl
      · show Tg (selT x ((d, o') :: ds)) S F Z F1 Z1 Fr
        cases o' with
        | zn => exact tg_tagI rp (fun i z => ⟨(t i (hs i z)).1, (t i (hs i z)).2.2⟩) I1.nd n.sub
        | fr => exact tg_tagI rp (fun i z hi => by have h1 := t i; have h2 := t2 i hi; have h3 := hs i z; omega) I1.nd n.sub
        | an => exact tg_tagI rp (fun i z hi => t i (hs i z) hi) I1.nd n.sub
def pSel2 (p : D → D → Option D) (a b : PE) : PE := fun e => (a e).bind fun x q e1 => (b e1).bind fun y q' e2 => if (x.2.st || q') = true then (match p x.1 y.1 with
  | some r => .ok (r, selT r [x]) (q && q') e2
  | none => .bad) else .bad
def pSel1 (p : D → Option D) (a : PE) : PE := fun e => (a e).bind fun x q e1 => match p x.1 with
  | some r => .ok (r, selT r [x]) q e1
  | none => .bad
theorem selT_one (r : D) (x y : D × Og) : selT r [x, y] = selT r [x] := by
  obtain ⟨a, b⟩ := x
  cases b <;> rfl
theorem pSel2_args (p : D → D → Option D) (a b : PE) : pSel (p2 p) (pCons a (pCons b pNil)) = pSel2 p a b := by
  funext e
  unfold pSel pCons pNil pSel2
  cases a e with
  | ok x q e1 =>
    simp only [xbind_ok]
    cases b e1 with
    | ok y q' e2 =>
      simp only [xbind_ok, Bool.or_true, if_true, Bool.and_true]
      by_cases z : (x.2.st || q') = true
      · rw [if_pos z, if_pos z]
        simp only [xbind_ok, List.map_cons, List.map_nil, p2, selT_one]
      · rw [if_neg z, if_neg z]
        rfl
    | _ => rfl
  | _ => rfl
section
variable {ma mb mc : ME} {pa pb pc : PE}
theorem je_sel2 {o : V → V → Sto → R V} {p : D → D → Option D} (h : ∀ S v d Fd u e G r, Rp false S v d Fd → Rp false S u e G → p d e = some r → ∃ x Fr, o v u S = .ok x S ∧ Rp false S x r Fr ∧ ∀ i, 0 < Fr i → 0 < Fd i) (ha : JE ma pa) (hb : JE mb pb) : JE (mBin o ma mb) (pSel2 p pa pb) := by
  rw [← mBin_args, ← pSel2_args]
  refine je_sel (fun S v vs d ds Fd G a g r hp => ?_) rfl (ja_cons ha (ja_cons hb ja_nil))
  cases g with
  | nil _ => cases hp
  | cons b g' _ =>
    cases g' with
    | nil _ => exact h S v d Fd _ _ _ r a b hp
    | cons _ _ _ => cases hp
end
theorem RpL.get {S : Sto} {w : Bool} : ∀ {vs : List V} {ds : List D} {F : Ft} {j : Nat} {d : D}, RpL w S vs ds F → ds[j]? = some d → ∃ v G, vs[j]? = some v ∧ Rp w S v d G ∧ ∀ i, G i ≤ F i
  | _, _, _, _, _, .nil _, h => by simp at h
  | _, _, _, 0, _, .cons a _ z, h => by simp at h; subst h; exact ⟨_, _, rfl, a, fun i => by rw [z]; omega⟩
  | _, _, _, j + 1, _, .cons _ b z, h => by
    obtain ⟨v, G, h1, h2, h3⟩ := b.get (by simpa using h)
    exact ⟨v, G, by simpa using h1, h2, fun i => by rw [z]; have := h3 i; omega⟩
theorem RpO.get {S : Sto} {w : Bool} : ∀ {vs : List (Option V)} {ds : List D} {F : Ft} {j : Nat} {d : D}, RpO w S vs ds F → ds[j]? = some d → (∀ h : d = .hole, False) → ∃ v G, vs[j]? = some (some v) ∧ Rp w S v d G ∧ ∀ i, G i ≤ F i
  | _, _, _, _, _, .nil _, h, _ => by simp at h
  | _, _, _, 0, _, .cons a _ z, h, _ => by simp at h; subst h; exact ⟨_, _, rfl, a, fun i => by rw [z]; omega⟩
  | _, _, _, 0, _, .hole _, h, k => by simp at h; subst h; exact (k rfl).elim
  | _, _, _, j + 1, _, .cons _ b z, h, k => by
    obtain ⟨v, G, h1, h2, h3⟩ := b.get (by simpa using h) k
    exact ⟨v, G, by simpa using h1, h2, fun i => by rw [z]; have := h3 i; omega⟩
  | _, _, _, j + 1, _, .hole b, h, k => by
    obtain ⟨v, G, h1, h2, h3⟩ := b.get (by simpa using h) k
    exact ⟨v, G, by simpa using h1, h2, h3⟩
def dIx : D → D → Option D
  | .str z, .int i => if z.length ≤ sizeLine then (atI z.cps.toList i).map fun c => .str ⟨#[c]⟩ else none
  | .lst xs, .int i => (ixN xs.length i).bind fun j => xs[j]?
  | .tup xs, .int i => (ixN xs.length i).bind fun j => xs[j]?
  | _, _ => none
def keyD : D → Option Key
  | .int i => some (.inl i)
  | .str x => some (.inr x)
  | _ => none
def valD (kvs : List (Key × D)) (k : Key) : Option D := (kvs.find? fun kv => decide (kv.1 = k)).map (·.2)
def putD (kvs : List (Key × D)) (k : Key) (v : D) : List (Key × D) := if (kvs.any fun kv => decide (kv.1 = k)) = true then kvs.map (fun kv => if kv.1 = k then (kv.1, v) else kv) else kvs ++ [(k, v)]
def dropD (kvs : List (Key × D)) (k : Key) : List (Key × D) := kvs.filter fun kv => decide (kv.1 ≠ k)
def mergeD (kvs more : List (Key × D)) : List (Key × D) := more.foldl (fun acc kv => putD acc kv.1 kv.2) kvs
def dDGet : D → D → Option D
  | .dk kds, y => (keyD y).bind fun k => valD kds k
  | _, _ => none
section
variable {S : Sto} {w : Bool} {v u : V} {d : D} {F : Ft}
theorem Rp.key {k : Key} (r : Rp w S v d F) (h : keyD d = some k) : keyOf v = some k := by
  cases r <;> first | (cases h; rfl) | cases h
theorem RpL.val {k : Key} : ∀ {kvs : List (Key × V)} {kds : List (Key × D)} {F : Ft}, kvs.map (·.1) = kds.map (·.1) → RpL w S (kvs.map (·.2)) (kds.map (·.2)) F →
    match valD kds k with
    | some d => ∃ v G, valV kvs k = some v ∧ Rp w S v d G ∧ ∀ i, G i ≤ F i
    | none => valV kvs k = none
  | [], [], _, _, _ => rfl
  | [], _ :: _, _, h, _ => by cases h
  | _ :: _, [], _, h, _ => by cases h
  | p :: r, q :: s, F, h, g => by
    simp only [List.map_cons, List.cons.injEq] at h
    rw [List.map_cons, List.map_cons] at g
    cases g with
    | cons a b z =>
      by_cases e : q.1 = k
      · have e' : p.1 = k := h.1.trans e
        have h1 : valD (q :: s) k = some q.2 := by simp [valD, List.find?_cons, e]
        rw [h1, valV_pos e']
        exact ⟨_, _, rfl, a, fun i => by rw [z]; omega⟩
      · have e' : ¬ p.1 = k := fun x => e (h.1.symm.trans x)
        have h1 : valD (q :: s) k = valD s k := by simp [valD, List.find?_cons, e]
        rw [h1, valV_neg e']
        have := RpL.val (k := k) h.2 b
        cases x : valD s k with
        | none => rw [x] at this; exact this
        | some d => rw [x] at this; obtain ⟨v, G, h1, h2, h3⟩ := this; exact ⟨v, G, h1, h2, fun i => by rw [z]; have := h3 i; omega⟩
end
section
variable {ma mb mc : ME} {pa pb pc : PE}
theorem atI_of {vs : List V} {ds : List D} {S : Sto} {w : Bool} {G : Ft} {i : Int} {r : D} (g : RpL w S vs ds G) (h : ((ixN ds.length i).bind fun j => ds[j]?) = some r) : ∃ u Fr, atI vs i = some u ∧ Rp w S u r Fr ∧ ∀ j, Fr j ≤ G j := by
  unfold atI
  rw [g.len]
  cases e : ixN ds.length i with
  | none => rw [e] at h; cases h
  | some j => rw [e] at h; exact g.get h
theorem je_ix (ha : JE ma pa) (hb : JE mb pb) : JE (mBin oIx ma mb) (pSel2 dIx pa pb) := by
  refine je_sel2 (fun S v d Fd u e G r a b h => ?_) ha hb
  unfold dIx at h
  split at h
  · rename_i z i
    rw [a.inv_str, b.inv_int]
    split at h
    · rename_i hz
      cases q : atI z.cps.toList i with
      | none => rw [q] at h; cases h
      | some c =>
        rw [q] at h
        cases h
        refine ⟨_, fun _ => 0, ?_, .str fun _ => rfl, fun i k => absurd k (by simp)⟩
        unfold oIx
        simp only [hz, if_true, q]
    · cases h
  · rename_i xs i
    obtain ⟨j, vs, G1, rfl, h1, r1, h2, _⟩ := a.rdL
    rw [b.inv_int]
    obtain ⟨x, Fr, hx, rx, hf⟩ := atI_of r1 h
    exact ⟨x, Fr, oIx_lst h1 hx, rx, fun i k => by have := hf i; have := h2 i; omega⟩
  · rename_i xs i
    obtain ⟨j, vs, rfl, h1, r1, h3, _, h4⟩ := a.rdT
    rw [b.inv_int]
    obtain ⟨x, Fr, hx, rx, hf⟩ := atI_of r1 h
    exact ⟨x, Fr, oIx_tup h4 hx, rx, fun i k => by have := hf i; omega⟩
  · cases h
theorem je_dget (ha : JE ma pa) (hb : JE mb pb) : JE (mBin oDGet ma mb) (pSel2 dDGet pa pb) := by
  refine je_sel2 (fun S v d Fd u e G r a b h => ?_) ha hb
  unfold dDGet at h
  split at h
  · rename_i kds
    cases q : keyD e with
    | none => rw [q] at h; cases h
    | some k =>
      rw [q] at h
      have h : valD kds k = some r := h
      obtain ⟨i, kvs, G1, rfl, h1, hk, r1, h2, _⟩ := a.rdK
      have := RpL.val (k := k) hk r1
      rw [h] at this
      obtain ⟨x, Fr, hx, rx, hf⟩ := this
      exact ⟨x, Fr, by simp only [oDGet, h1, b.key q, hx], rx, fun i k => by have := hf i; have := h2 i; omega⟩
  · cases h
/-- x[i] of a list, a tuple, a text, or of a dict -/
def dSub2 : D → D → Option D
  | .dk kds, y => dDGet (.dk kds) y
  | x, y => dIx x y
theorem oIx_dk {S : Sto} {v u : V} {kds : List (Key × D)} {F : Ft} {w : Bool} (r : Rp w S v (.dk kds) F) : oIx v u S = .bad := by
  obtain ⟨i, kvs, G1, rfl, h1, hk, r1, h2, h3, h4⟩ := r.rdK
  cases u <;> simp only [oIx, h3, h4]
theorem je_sub (ha : JE ma pa) (hb : JE mb pb) : JE (mAlt (mBin oIx ma mb) (mBin oDGet ma mb)) (pSel2 dSub2 pa pb) := by
  intro S σ e F Z I
  have k1 := je_ix ha hb S σ e F Z I
  have k2 := je_dget ha hb S σ e F Z I
  have k0 := ja_cons ha (ja_cons hb ja_nil) S σ e F Z I
  unfold pSel2 at k1 k2 ⊢
  unfold mAlt
  unfold pCons pNil at k0
  cases hx : pa e with
  | bad => trivial
  | exc c x e' =>
    rw [hx] at k1
    obtain ⟨S', F', Z', hr, hn, he⟩ := k1
    rw [hr]
    exact ⟨S', F', Z', rfl, hn, he⟩
  | ok x q e1 =>
    rw [hx] at k1 k2 k0
    simp only [xbind_ok] at k1 k2 k0 ⊢
    cases hy : pb e1 with
    | bad => trivial
    | exc c x e' =>
      rw [hy] at k1
      obtain ⟨S', F', Z', hr, hn, he⟩ := k1
      rw [hr]
      exact ⟨S', F', Z', rfl, hn, he⟩
    | ok y q' e2 =>
      rw [hy] at k1 k2 k0
      simp only [xbind_ok, Bool.or_true, if_true, Bool.and_true] at k1 k2 k0 ⊢
      by_cases z : (x.2.st || q') = true
      · simp only [if_pos z] at k1 k2 k0 ⊢
        by_cases hd : ∃ kds, x.1 = .dk kds
        · obtain ⟨kds, hd⟩ := hd
          have e1 : dSub2 x.1 y.1 = dDGet x.1 y.1 := by rw [hd]; rfl
          rw [e1]
          have e2 : mBin oIx ma mb σ S = .bad := by
            obtain ⟨vs, S', F', Z', hr, hn, he, ⟨T, av, _⟩, hq⟩ := k0
            cases av with
            | cons r t av hu =>
              cases av with
              | cons r' t' av' hu' =>
                cases av' with
                | nil _ =>
                  have hd2 := hd
                  dsimp only at hd2
                  rw [hd2] at r
                  have hb : mBin oIx ma mb σ S = mCall (o2 oIx) (mCons ma (mCons mb mNil)) σ S := by rw [mBin_args]
                  rw [hb, mCall_ap, hr, bind_ok]
                  exact oIx_dk r
          rw [e2]
          exact k2
        · have e1 : dSub2 x.1 y.1 = dIx x.1 y.1 := by
            unfold dSub2
            split
            · rename_i h; exact absurd ⟨_, h⟩ hd
            · rfl
          rw [e1]
          cases h : dIx x.1 y.1 with
          | none => trivial
          | some r =>
            rw [h] at k1
            obtain ⟨v, S', F', Z', hr, rest⟩ := k1
            rw [hr]
            exact ⟨v, S', F', Z', rfl, rest⟩
      · rw [if_neg z]; trivial
def dFld (tab : List (Nat × Nat)) : D → Option D
  | .ins c fs => (look tab c).bind fun j => match fs[j]? with
    | some .hole => none
    | r => r
  | _ => none
def tagD : D → Option Tag
  | .non => some .non
  | .bl _ => some .bl
  | .int _ => some .int
  | .str _ => some .str
  | .lst _ => some .lst
  | .tup _ => some .tup
  | .dk _ => some .dct
  | .exc c none => some (.exc c)
  | .ins c _ => some (.ins c)
  | _ => none
theorem Rp.tag {S : Sto} {w : Bool} {v : V} {d : D} {F : Ft} {t : Tag} (r : Rp w S v d F) (h : tagD d = some t) : tagOf S v = some t := by
  cases r with
  | lst e _ _ => cases h; rcases e with e | e <;> first | simp only [tagOf, e] | simp only [tagOf, e.2]
  | dk e _ _ _ => cases h; rcases e with e | e <;> first | simp only [tagOf, e] | simp only [tagOf, e.2]
  | tup e _ => cases h; simp only [tagOf, e]
  | ins e _ _ => cases h; simp only [tagOf, e]
  | exc e _ => rename_i x _; cases x <;> cases h; simp only [tagOf, e]
  | hole _ => cases h
  | _ => cases h; rfl
def dIsi (tab : List (Tag × Bool)) (d : D) : Option D := ((tagD d).bind (lookT tab)).map .bl
def dCalled (tab : List (Nat × Str)) : D → Option D
  | .exc c _ => (look tab c).map .str
  | _ => none
theorem je_called {tab : List (Nat × Str)} (ha : JE ma pa) : JE (mCalled tab ma) (pUn (dCalled tab) pa) := je_un (o := oCalled tab) (jo1 fun S x d F r a h => by
  unfold dCalled at h
  split at h
  · cases a with
    | exc e z =>
      rename_i c x i
      cases q : look tab c with
      | none => rw [q] at h; cases h
      | some s => rw [q] at h; cases h; rw [oCalled_exc e q]; exact .str
  · cases h) ha
end
def dLen : List D → Option D
  | [.str z] => if z.length ≤ sizeLine then some (.int z.length) else none
  | [.lst xs] => some (.int xs.length)
  | [.tup xs] => some (.int xs.length)
  | [.dk xs] => some (.int xs.length)
  | _ => none
theorem RpL.one {S : Sto} {w : Bool} {vs : List V} {d : D} {G : Ft} (g : RpL w S vs [d] G) : ∃ v F, vs = [v] ∧ Rp w S v d F := by
  cases g with
  | cons a b _ => cases b; exact ⟨_, _, rfl, a⟩
theorem RpL.two {S : Sto} {w : Bool} {vs : List V} {d e : D} {G : Ft} (g : RpL w S vs [d, e] G) : ∃ v u F F', vs = [v, u] ∧ Rp w S v d F ∧ Rp w S u e F' := by
  cases g with
  | cons a b _ => obtain ⟨u, F', rfl, h⟩ := b.one; exact ⟨_, _, _, _, rfl, a, h⟩
theorem keys_len {kvs : List (Key × V)} {kds : List (Key × D)} (h : kvs.map (·.1) = kds.map (·.1)) : kvs.length = kds.length := by
  have := congrArg List.length h
  rwa [List.length_map, List.length_map] at this
theorem jo_len : JO oLen dLen := fun S vs ds G g r h => by
  unfold dLen at h
  split at h
  · obtain ⟨v, F, rfl, a⟩ := g.one
    split at h
    · rename_i hz
      cases h
      rw [a.inv_str]
      simp only [oLen, hz, if_true]
      exact .int
    · cases h
  · obtain ⟨v, F, rfl, a⟩ := g.one
    cases h
    obtain ⟨i, vs, G1, rfl, h1, r1, _⟩ := a.rdL
    simp only [oLen, h1, r1.len]
    exact .int
  · obtain ⟨v, F, rfl, a⟩ := g.one
    cases h
    obtain ⟨i, vs, rfl, h1, r1, h2, _⟩ := a.rdT
    simp only [oLen, h2, h1, r1.len]
    exact .int
  · obtain ⟨v, F, rfl, a⟩ := g.one
    cases h
    obtain ⟨i, kvs, G1, rfl, h1, hk, r1, _, h2, h3⟩ := a.rdK
    simp only [oLen, h2, h3, h1, keys_len hk]
    exact .int
  · cases h
def kD : Key → D
  | .inl i => .int i
  | .inr x => .str x
@[simp] theorem imm_kD (k : Key) : imm (kD k) = true := by cases k <;> rfl
def dList : List D → Option D
  | [.lst xs] => if xs.all imm = true then some (.lst xs) else none
  | [.tup xs] => if xs.all imm = true then some (.lst xs) else none
  | [.dk kds] => some (.lst (kds.map fun kv => kD kv.1))
  | _ => none
def dTuple : List D → Option D
  | [.lst xs] => if xs.all imm = true then some (.tup xs) else none
  | [.tup xs] => if xs.all imm = true then some (.tup xs) else none
  | _ => none
/-- a list of ints -/
def toI : D → Option Int
  | .int i => some i
  | _ => none
def toB : D → Option Bool
  | .bl i => some i
  | _ => none
def toS : D → Option Str
  | .str i => some i
  | _ => none
def keyIs (kds : List (Key × D)) : Option (List Int) := allSome (kds.map fun kv => match kv.1 with
  | .inl i => some i
  | .inr _ => none)
theorem ints_rpl {S : Sto} {w : Bool} : ∀ ns : List Int, RpL w S (ns.map V.int) (ns.map D.int) fun _ => 0
  | [] => .nil fun _ => rfl
  | _ :: r => .cons (.int fun _ => rfl) (ints_rpl r) fun _ => rfl
@[simp] theorem all_ints (ns : List Int) : (ns.map D.int).all imm = true := by rw [List.all_map]; simp [List.all_eq_true, imm]
@[simp] theorem all_strs (ns : List Str) : (ns.map D.str).all imm = true := by rw [List.all_map]; simp [List.all_eq_true, imm]
@[simp] theorem all_bls (ns : List Bool) : (ns.map D.bl).all imm = true := by rw [List.all_map]; simp [List.all_eq_true, imm]
def dSorted : List D → Option D
  | [.lst xs] => (allSome (xs.map toI)).map fun ns => .lst ((sortI ns).map .int)
  | [.dk kds] => (keyIs kds).bind fun ns => if ns.length < 1000000 then some (.lst ((sortI ns).map .int)) else none
  | _ => none
def dSum : List D → Option D
  | [.lst xs] => (allSome (xs.map toI)).map fun ns => .int ns.sum
  | _ => none
def dAll : List D → Option D
  | [.lst xs] => (allSome (xs.map toB)).map fun ns => .bl (ns.all id)
  | _ => none
def dAny : List D → Option D
  | [.lst xs] => (allSome (xs.map toB)).map fun ns => .bl (ns.any id)
  | _ => none
def dMax2 : List D → Option D
  | [.int i, .int j] => some (.int (if j > i then j else i))
  | _ => none
def dMin2 : List D → Option D
  | [.int i, .int j] => some (.int (if j < i then j else i))
  | _ => none
def dInt : List D → Option D
  | [.int i] => some (.int i)
  | [.bl k] => some (.int (if k then 1 else 0))
  | [.str a] => (PySem.intText? a).bind fun n => if a.length ≤ 640 then some (.int n) else none
  | _ => none
def pairD : D → Option (Key × D)
  | .tup [k, d] => (keyD k).map fun k => (k, d)
  | _ => none
def dDict : List D → Option D
  | [.dk kds] => if (kds.map (·.2)).all imm = true then some (.dk kds) else none
  | [.lst xs] => (allSome (xs.map pairD)).bind fun ps => if (ps.map (·.2)).all imm = true then some (.dk (mergeD [] ps)) else none
  | _ => none
/-- a list of pairs: keys alike, values of their own without parts -/
def KvR (S : Sto) (kvs : List (Key × V)) (kds : List (Key × D)) : Prop := kvs.map (·.1) = kds.map (·.1) ∧ RpL true S (kvs.map (·.2)) (kds.map (·.2)) fun _ => 0
theorem KvR.cons {S : Sto} {k : Key} {v : V} {d : D} {kvs : List (Key × V)} {kds : List (Key × D)} (h : Rp true S v d fun _ => 0) (r : KvR S kvs kds) : KvR S ((k, v) :: kvs) ((k, d) :: kds) :=
  ⟨by simp only [List.map_cons, r.1], .cons h r.2 fun _ => rfl⟩
theorem KvR.map {S : Sto} {k : Key} {v : V} {d : D} (h : Rp true S v d fun _ => 0) : ∀ {kvs : List (Key × V)} {kds : List (Key × D)}, KvR S kvs kds → RpL true S ((kvs.map fun kv => if kv.1 = k then (kv.1, v) else kv).map (·.2)) ((kds.map fun kv => if kv.1 = k then (kv.1, d) else kv).map (·.2)) fun _ => 0
  | [], [], _ => .nil fun _ => rfl
  | [], _ :: _, r => by cases r.1
  | _ :: _, [], r => by cases r.1
  | p :: r, q :: s, ⟨h1, h2⟩ => by
    simp only [List.map_cons, List.cons.injEq] at h1 ⊢
    rw [List.map_cons, List.map_cons] at h2
    cases h2 with
    | @cons _ Fa Fb _ _ _ _ a b z =>
      have za : Zf Fa := fun i => by have q : 0 = Fa i + Fb i := z i; omega
      have zb : Zf Fb := fun i => by have q : 0 = Fa i + Fb i := z i; omega
      refine .cons (F1 := fun _ => 0) ?_ (KvR.map h ⟨h1.2, b.congr fun i => (zb i).symm⟩) fun _ => rfl
      rw [h1.1]
      split
      · exact h
      · exact a.congr fun i => (za i).symm
def inD (x y : D) : Option Bool := match y with
  | .str z => (match x with
    | .str w => some (!(Builtin.Str.occurrences z w 0 z.length 1).isEmpty)
    | _ => none)
  | .lst ys => (match scal x, allSome (ys.map scal) with
    | some v, some vs => some (inV v vs)
    | _, _ => match rdP eqDepth x, rdP eqDepth (.lst ys) with
      | some d, some (.list ds) => if SeqAt.shaped d = true ∧ SeqAt.shaped (.list ds) = true then some (ds.any fun z => PyData.eqv z d) else none
      | _, _ => none)
  | .tup ys => (match scal x, allSome (ys.map scal) with
    | some v, some vs => some (inV v vs)
    | _, _ => none)
  | .dk kds => (match keyD x with
    | some k => some (valD kds k).isSome
    | none => match x with
      | .non => some false
      | _ => none)
  | _ => none
def dInN (neg : Bool) : D → D → Option D := fun x y => (inD x y).map fun b => .bl (neg != b)
def cutL (xs : List D) (lo hi : Option Int) : List D := (xs.drop (HT.sIx xs.length 0 lo)).take (HT.sIx xs.length xs.length hi - HT.sIx xs.length 0 lo)
abbrev PO := Env → X (Option Int)
def pNoP : PO := fun e => .ok none true e
def pPart (a : PE) : PO := fun e => (a e).bind fun x q e1 => match x.1 with
  | .int i => .ok (some i) q e1
  | _ => .bad
def dSl (d : D) (lo hi : Option Int) : Option D := match d with
  | .str z => if z.length ≤ sizeLine then some (.str (cutS z lo hi)) else none
  | .lst xs => if (cutL xs lo hi).all imm = true then some (.lst (cutL xs lo hi)) else none
  | .tup xs => if (HT.sIx xs.length 0 lo = 0 ∧ HT.sIx xs.length xs.length hi = xs.length) then none else if (cutL xs lo hi).all imm = true then some (.tup (cutL xs lo hi)) else none
  | _ => none
/-- a slice: all three quiet -/
def pSl (a : PE) (lo hi : PO) : PE := fun e => (a e).bind fun x q e1 => (lo e1).bind fun l q1 e2 => (hi e2).bind fun u q2 e3 => if (q1 && q2) = true then pOf q e3 (dSl x.1 l u) else .bad
theorem RpL.take {S : Sto} {w : Bool} : ∀ {vs : List V} {ds : List D} {F : Ft} (n : Nat), RpL w S vs ds F → ∃ G, RpL w S (vs.take n) (ds.take n) G
  | _, _, _, 0, _ => ⟨fun _ => 0, by simp; exact .nil fun _ => rfl⟩
  | _, _, _, _ + 1, .nil z => ⟨_, by simp; exact .nil z⟩
  | _, _, _, n + 1, .cons a b z => by
    obtain ⟨G, g⟩ := b.take n
    exact ⟨_, .cons a g fun _ => rfl⟩
theorem RpL.drop {S : Sto} {w : Bool} : ∀ {vs : List V} {ds : List D} {F : Ft} (n : Nat), RpL w S vs ds F → ∃ G, RpL w S (vs.drop n) (ds.drop n) G
  | _, _, _, 0, r => ⟨_, r⟩
  | _, _, _, _ + 1, .nil z => ⟨_, by simp; exact .nil z⟩
  | _, _, _, n + 1, .cons a b z => b.drop n
end Vi
namespace Vi
open PySem PySem.Spec L2 Mi
def allFr (ds : List (D × Og)) : Bool := ds.all fun x => x.2.own
def tagL (ds : List (D × Og)) : Og := if allFr ds = true then .fr else .an
section
variable {S S' S1 : Sto} {F Z F1 Z1 F' T U G Fd : Ft} {v : V} {d : D} {vs : List V} {ds : List (D × Og)} {w : Bool} {σ : St} {e : Env}
theorem AvR.own (h : AvR S F Z S' F' T vs ds U) (k : allFr ds = true) : RpL true S' vs (ds.map (·.1)) U := by
  induction h with
  | nil z => exact .nil z
  | @cons U U2 Fd v d o vs ds r t _ hu ih =>
    unfold allFr at k
    rw [List.all_cons, Bool.and_eq_true] at k
    cases o with
    | fr => exact .cons r (ih k.2) hu
    | zn => cases k.1
    | an => cases k.1
theorem AvR.any (h : AvR S F Z S' F' T vs ds U) (k : ∀ i, i < S.length → F' i + T i ≤ F i) : ∃ G, RpL false S' vs (ds.map (·.1)) G ∧ ∀ i, 0 < G i → i < S.length → 0 < F i + Z i := by
  induction h with
  | nil z => exact ⟨fun _ => 0, .nil fun _ => rfl, fun i h => absurd h (by simp)⟩
  | @cons U U2 Fd v d o vs ds r t _ hu ih =>
    obtain ⟨G, g, hg⟩ := ih
    refine ⟨fun i => Fd i + G i, .cons r.relax g fun _ => rfl, fun i hi hl => ?_⟩
    by_cases z : 0 < G i
    · exact hg i z hl
    · have z2 : 0 < Fd i := by have : 0 < Fd i + G i := hi; omega
      cases o with
      | fr => have := t i; have := k i hl; omega
      | zn => have := (t i z2).2.2 hl; omega
      | an => exact t i z2 hl
theorem RpL.bound {vs : List V} {ds : List D} (r : RpL w S vs ds F) {i : Nat} (h : S.length ≤ i) : F i = 0 := Nat.eq_zero_of_not_pos fun k => by have := r.lt k; omega
theorem Rp.bound (r : Rp w S v d F) {i : Nat} (h : S.length ≤ i) : F i = 0 := Nat.eq_zero_of_not_pos fun k => by have := r.lt k; omega
theorem EnvR.boundF (r : EnvR S σ e F Z) {i : Nat} (h : S.length ≤ i) : F i = 0 := Nat.eq_zero_of_not_pos fun k => by
  obtain ⟨o, e, _⟩ := r.domF i k
  have := (List.getElem?_eq_some_iff.mp e).1
  omega
theorem EnvR.boundZ (r : EnvR S σ e F Z) {i : Nat} (h : S.length ≤ i) : Z i = 0 := Nat.eq_zero_of_not_pos fun k => by
  obtain ⟨o, e, _⟩ := r.domZ i k
  have := (List.getElem?_eq_some_iff.mp e).1
  omega
end
def pLst (a : PA) : PE := fun e => (a e).bind fun ds q e' => if ds.length ≤ sizeLine then .ok (.lst (ds.map (·.1)), tagL ds) q e' else .bad
def pTup (a : PA) : PE := fun e => (a e).bind fun ds q e' => if ds.length ≤ sizeLine then .ok (.tup (ds.map (·.1)), tagL ds) q e' else .bad
theorem AvR.len {S S' : Sto} {F Z F' T U : Ft} {vs : List V} {ds : List (D × Og)} (h : AvR S F Z S' F' T vs ds U) : vs.length = ds.length := by
  induction h with
  | nil z => rfl
  | cons _ _ _ _ ih => rw [List.length_cons, List.length_cons, ih]
theorem je_lst {m : MA} {p : PA} (h : JA m p) : JE (mLst m) (pLst p) := by
  intro S σ e F Z I
  refine Po.bind (h S σ e F Z I) fun ds q e1 vs S1 F1 Z1 hx n I1 ⟨T, av, t1, t2, t3⟩ k => ?_
  have el : vs.length = ds.length := av.len
  show Po RlE S σ e F Z (if vs.length ≤ sizeLine then _ else _) _
  rw [el]
  by_cases z : ds.length ≤ sizeLine
  · rw [if_pos z, if_pos z]
    have p := pre_add S1 [Ob.lst vs]
    have n' := nx_pre I1 p
    refine ⟨_, _, F1, Z1, rfl, n.trans n', I1.r.mono (.pre p), ?_, fun hk => (k hk).trans ⟨rfl, p, fun _ => rfl, fun _ => rfl⟩⟩
    have e1 : (S1 ++ [Ob.lst vs])[S1.length]? = some (.lst vs) := by rw [get_new0]; rfl
    have bF := fun {i} (h : S1.length ≤ i) => I1.r.boundF h
    have bZ := fun {i} (h : S1.length ≤ i) => I1.r.boundZ h
    unfold tagL
    by_cases ha : allFr ds = true
    · rw [if_pos ha]
      have r := (av.own ha)
      refine ⟨fun j => T j + if j = S1.length then 1 else 0, .lst (.inl e1) (r.mono (.pre p)) fun _ => rfl, fun i => ?_, fun i hi => ?_, fun i hi => ?_⟩
      · show F1 i + (T i + if i = S1.length then 1 else 0) ≤ 1
        by_cases y : i = S1.length
        · rw [if_pos y, r.bound (by omega), bF (by omega)]; omega
        · rw [if_neg y]; have := t1 i; omega
      · show F1 i + (T i + if i = S1.length then 1 else 0) ≤ F i
        rw [if_neg (by have := n.le; omega)]; have := t2 i hi; omega
      · show T i + (if i = S1.length then 1 else 0) = 0
        have := t3 i hi
        by_cases y : i = S1.length
        · rw [bZ (by omega)] at hi; omega
        · rw [if_neg y]; omega
    · rw [if_neg ha]
      obtain ⟨G, g, hg⟩ := av.any t2
      refine ⟨fun j => G j + if j = S1.length then 1 else 0, .lst (.inl e1) (g.mono (.pre p)) fun _ => rfl, fun i hi hl => ?_⟩
      have hi : 0 < G i + if i = S1.length then 1 else 0 := hi
      rw [if_neg (by have := n.le; omega)] at hi
      exact hg i (by omega) hl
  · rw [if_neg z, if_neg z]; trivial
def pDict0 : PE := fun e => .ok (.dk [], .fr) true e
inductive XS where
  | nx (e : Env) | rt (d : D) (o : Og) (e : Env) | bk (e : Env) | ct (e : Env) | exc (c : Nat) (x : Option V) (e : Env) | bad
abbrev PS := Env → XS
def Pin (P : List Nat) (σ σ' : St) : Prop := ∀ j ∈ P, σ'[j]? = σ[j]?
def Aft (P : List Nat) (S : Sto) (σ : St) (F Z : Ft) (S' : Sto) (σ' : St) (e' : Env) : Prop := ∃ F' Z', Nx S F Z S' F' Z' ∧ EnvR S' σ' e' F' Z' ∧ Pin P σ σ'
def PoS (P : List Nat) (S : Sto) (σ : St) (F Z : Ft) (r : RS) : XS → Prop
  | .nx e' => ∃ σ' S', r = .nx σ' S' ∧ Aft P S σ F Z S' σ' e'
  | .bk e' => ∃ σ' S', r = .bk σ' S' ∧ Aft P S σ F Z S' σ' e'
  | .ct e' => ∃ σ' S', r = .ct σ' S' ∧ Aft P S σ F Z S' σ' e'
  | .exc c x e' => ∃ σ' S', r = .exc c x σ' S' ∧ Aft P S σ F Z S' σ' e'
  | .rt d o e' => ∃ v S' σ' F' Z' Fd, r = .rt v S' ∧ Nx S F Z S' F' Z' ∧ EnvR S' σ' e' F' Z' ∧ Pin P σ σ' ∧ Rp o.own S' v d Fd ∧ Tg o S F Z F' Z' Fd
  | .bad => True
def JS (P : List Nat) (m : MS) (p : PS) : Prop := ∀ (S : Sto) (σ : St) (e : Env) (F Z : Ft), EI S σ e F Z → PoS P S σ F Z (m σ S) (p e)
def X.lift {α : Type} : X α → (α → Bool → Env → XS) → XS
  | .ok a q e, f => f a q e
  | .exc c x e, _ => .exc c x e
  | .bad, _ => .bad
def XS.seq : XS → (Env → XS) → XS
  | .nx e, f => f e
  | r, _ => r
section
variable {α : Type}
@[simp] theorem xlift_ok (a : α) (q : Bool) (e : Env) (f : α → Bool → Env → XS) : (X.ok a q e).lift f = f a q e := rfl
@[simp] theorem xlift_exc (c : Nat) (x : Option V) (e : Env) (f : α → Bool → Env → XS) : (X.exc c x e : X α).lift f = .exc c x e := rfl
@[simp] theorem xlift_bad (f : α → Bool → Env → XS) : (X.bad : X α).lift f = .bad := rfl
@[simp] theorem xseq_nx (e : Env) (f : Env → XS) : (XS.nx e).seq f = f e := rfl
@[simp] theorem xseq_rt (d : D) (o : Og) (e : Env) (f : Env → XS) : (XS.rt d o e).seq f = .rt d o e := rfl
@[simp] theorem xseq_bk (e : Env) (f : Env → XS) : (XS.bk e).seq f = .bk e := rfl
@[simp] theorem xseq_ct (e : Env) (f : Env → XS) : (XS.ct e).seq f = .ct e := rfl
@[simp] theorem xseq_exc (c : Nat) (x : Option V) (e : Env) (f : Env → XS) : (XS.exc c x e).seq f = .exc c x e := rfl
@[simp] theorem xseq_bad (f : Env → XS) : XS.bad.seq f = .bad := rfl
end
section
variable {P : List Nat} {S S1 : Sto} {σ σ1 : St} {e e1 : Env} {F Z F1 Z1 : Ft} {α β : Type}
theorem Pin.refl : Pin P σ σ := fun _ _ => rfl
theorem Pin.trans {σ2 : St} (a : Pin P σ σ1) (b : Pin P σ1 σ2) : Pin P σ σ2 := fun j h => (b j h).trans (a j h)
theorem Aft.tr {S2 : Sto} {σ2 : St} {e2 : Env} (n : Nx S F Z S1 F1 Z1) (p : Pin P σ σ1) (h : Aft P S1 σ1 F1 Z1 S2 σ2 e2) : Aft P S σ F Z S2 σ2 e2 := by
  obtain ⟨F', Z', n', r, q⟩ := h
  exact ⟨F', Z', n.trans n', r, p.trans q⟩
theorem PoS.after {r : RS} {x : XS} (n : Nx S F Z S1 F1 Z1) (p : Pin P σ σ1) (h : PoS P S1 σ1 F1 Z1 r x) : PoS P S σ F Z r x := by
  cases x with
  | nx e' => obtain ⟨σ', S', hr, a⟩ := h; exact ⟨σ', S', hr, a.tr n p⟩
  | bk e' => obtain ⟨σ', S', hr, a⟩ := h; exact ⟨σ', S', hr, a.tr n p⟩
  | ct e' => obtain ⟨σ', S', hr, a⟩ := h; exact ⟨σ', S', hr, a.tr n p⟩
  | exc c x e' => obtain ⟨σ', S', hr, a⟩ := h; exact ⟨σ', S', hr, a.tr n p⟩
  | rt d o e' =>
    obtain ⟨v, S', σ', F', Z', Fd, hr, hn, he, hp, rp, t⟩ := h
    exact ⟨v, S', σ', F', Z', Fd, hr, n.trans hn, he, p.trans hp, rp, t.tr n⟩
  | bad => trivial
theorem PoS.lift {Rl : Rel α β} {r : R β} {x : X α} {g : β → Sto → RS} {f : α → Bool → Env → XS} (h : Po Rl S σ e F Z r x)
    (hf : ∀ a q e' v S' F' Z', x = .ok a q e' → Nx S F Z S' F' Z' → EI S' σ e' F' Z' → Rl S F Z S' F' Z' v a → (q = true → Qt S e F Z S' e' F' Z') → PoS P S σ F Z (g v S') (f a q e')) : PoS P S σ F Z (r.lift σ g) (x.lift f) := by
  cases x with
  | ok a q e' =>
    obtain ⟨v, S', F', Z', hr, hn, he, hl, hq⟩ := h
    subst hr
    exact hf a q e' v S' F' Z' rfl hn (hn.ei he) hl hq
  | exc c x e' =>
    obtain ⟨S', F', Z', hr, hn, he⟩ := h
    subst hr
    exact ⟨σ, S', rfl, F', Z', hn, he, .refl⟩
  | bad => trivial
theorem Aft.here {S' : Sto} {e' : Env} {F' Z' : Ft} (n : Nx S F Z S' F' Z') (r : EnvR S' σ e' F' Z') : Aft P S σ F Z S' σ e' := ⟨F', Z', n, r, .refl⟩
end
def pSkip : PS := fun e => .nx e
def pSeq (a b : PS) : PS := fun e => (a e).seq b
def pExpr (a : PE) : PS := fun e => (a e).lift fun _ _ e1 => .nx e1
def pSet (i : Nat) (a : PE) : PS := fun e => (a e).lift fun x _ e1 => match x.2 with
  | .fr => .nx (e1.set i (.ow x.1))
  | .zn => .nx (e1.set i (.fz x.1))
  | .an => .bad
def pRet (a : PE) : PS := fun e => (a e).lift fun x _ e1 => .rt x.1 x.2 e1
def pRetN : PS := fun e => .rt .non .fr e
def pBrk : PS := fun e => .bk e
def pIfS (c : PT) (a b : PS) : PS := fun e => (c e).lift fun x _ e1 => if x = true then a e1 else b e1
section
variable {P : List Nat} {ma mb : MS} {pa pb : PS} {m : ME} {p : PE} {mt : MT} {pt : PT}
theorem js_skip : JS P mSkip pSkip := fun S σ e F Z I => ⟨σ, S, rfl, .here (.refl I) I.r⟩
theorem js_seq (ha : JS P ma pa) (hb : JS P mb pb) : JS P (mSeq ma mb) (pSeq pa pb) := by
  intro S σ e F Z I
  have h := ha S σ e F Z I
  show PoS P S σ F Z ((ma σ S).seq mb) ((pa e).seq pb)
  cases hx : pa e with
  | nx e' =>
    rw [hx] at h
    obtain ⟨σ', S', hr, F', Z', n, r, pn⟩ := h
    rw [hr]
    exact (hb S' σ' e' F' Z' (n.ei r)).after n pn
  | bk e' => rw [hx] at h; obtain ⟨σ', S', hr, a⟩ := h; rw [hr]; exact ⟨σ', S', rfl, a⟩
  | ct e' => rw [hx] at h; obtain ⟨σ', S', hr, a⟩ := h; rw [hr]; exact ⟨σ', S', rfl, a⟩
  | exc c x e' => rw [hx] at h; obtain ⟨σ', S', hr, a⟩ := h; rw [hr]; exact ⟨σ', S', rfl, a⟩
  | rt d o e' => rw [hx] at h; obtain ⟨v, S', σ', F', Z', Fd, hr, rest⟩ := h; rw [hr]; exact ⟨v, S', σ', F', Z', Fd, rfl, rest⟩
  | bad => trivial
theorem js_ret (h : JE m p) : JS P (mRet m) (pRet p) := fun S σ e F Z I => PoS.lift (h S σ e F Z I) fun a q e' v S' F' Z' hx n I1 ⟨Fd, r, t⟩ k => ⟨v, S', σ, F', Z', Fd, rfl, n, I1.r, .refl, r, t⟩
theorem js_if (hc : JT mt pt) (ha : JS P ma pa) (hb : JS P mb pb) : JS P (mIfS mt ma mb) (pIfS pt pa pb) := fun S σ e F Z I => PoS.lift (hc S σ e F Z I) fun a q e' v S' F' Z' hx n I1 hl k => by
  cases hl
  by_cases z : a = true
  · rw [if_pos z, if_pos z]; exact (ha S' σ e' F' Z' I1).after n .refl
  · rw [if_neg z, if_neg z]; exact (hb S' σ e' F' Z' I1).after n .refl
theorem set_out {α : Type} {l : List α} {i : Nat} {a : α} (h : l.length ≤ i) : l.set i a = l := List.set_eq_of_length_le h
/-- a slot written -/
theorem EnvR.setOw {S : Sto} {σ : St} {e : Env} {F Z G : Ft} {v : V} {d : D} (i : Nat) (r : EnvR S σ e F Z) (h : Rp true S v d G) : ∃ F' Z', EnvR S (σ.set i (some v)) (e.set i (.ow d)) F' Z' ∧ (∀ j, F' j ≤ F j + G j) ∧ ∀ j, Z' j ≤ Z j := by
  by_cases z : i < e.length
  · obtain ⟨F1, Z1, F2, Z2, hF, hZ, _, _, k2, _⟩ := r.slot (List.getElem?_eq_getElem z)
    exact ⟨_, _, k2 v d G h, fun j => by have := hF j; show G j + F2 j ≤ _; omega, fun j => by have := hZ j; omega⟩
  · rw [set_out (by rw [r.len]; omega), set_out (by omega)]
    exact ⟨F, Z, r, fun j => by omega, fun j => by omega⟩
theorem EnvR.setFz {S : Sto} {σ : St} {e : Env} {F Z G : Ft} {v : V} {d : D} (i : Nat) (r : EnvR S σ e F Z) (h : Rp false S v d G) : ∃ F' Z', EnvR S (σ.set i (some v)) (e.set i (.fz d)) F' Z' ∧ (∀ j, F' j ≤ F j) ∧ ∀ j, Z' j ≤ Z j + G j := by
  by_cases z : i < e.length
  · obtain ⟨F1, Z1, F2, Z2, hF, hZ, _, _, _, k3⟩ := r.slot (List.getElem?_eq_getElem z)
    exact ⟨_, _, k3 v d G h, fun j => by have := hF j; omega, fun j => by have := hZ j; show G j + Z2 j ≤ _; omega⟩
  · rw [set_out (by rw [r.len]; omega), set_out (by omega)]
    exact ⟨F, Z, r, fun j => by omega, fun j => by omega⟩
theorem pin_set {σ : St} {i : Nat} {o : Option V} (h : i ∉ P) : Pin P σ (σ.set i o) := fun j hj => List.getElem?_set_ne (by intro z; subst z; exact h hj)
/-- a value of its own into a slot -/
theorem aft_ow {S S' : Sto} {σ : St} {e' : Env} {F Z F' Z' Fd : Ft} {v : V} {d : D} {i : Nat} (hi : i ∉ P) (n : Nx S F Z S' F' Z') (I : EI S' σ e' F' Z') (r : Rp true S' v d Fd) (t : Tg .fr S F Z F' Z' Fd) : Aft P S σ F Z S' (σ.set i (some v)) (e'.set i (.ow d)) := by
  obtain ⟨F2, Z2, r2, hF, hZ⟩ := I.r.setOw i r
  obtain ⟨t1, t2, t3⟩ := t
  refine ⟨F2, Z2, ⟨n.le, n.fr, fun j => by have := hF j; have := t1 j; omega, fun j hj => by have := hF j; have := t2 j hj; omega, fun j hj h => n.zs j hj (by have := hZ j; omega), fun j h => ?_⟩, r2, pin_set hi⟩
  have := hF j
  have := hZ j
  have := t3 j (by omega)
  have := I.dj j (by omega)
  omega
theorem aft_fz {S S' : Sto} {σ : St} {e' : Env} {F Z F' Z' Fd : Ft} {v : V} {d : D} {i : Nat} (hi : i ∉ P) (n : Nx S F Z S' F' Z') (I : EI S' σ e' F' Z') (r : Rp false S' v d Fd) (t : Tg .zn S F Z F' Z' Fd) : Aft P S σ F Z S' (σ.set i (some v)) (e'.set i (.fz d)) := by
  obtain ⟨F2, Z2, r2, hF, hZ⟩ := I.r.setFz i r
  refine ⟨F2, Z2, ⟨n.le, n.fr, fun j => by have := hF j; have := I.nd j; omega, fun j hj => by have := hF j; have := n.sub j hj; omega, fun j hj h => ?_, fun j h => ?_⟩, r2, pin_set hi⟩
  · by_cases z : 0 < Z' j
    · exact n.zs j hj z
    · exact (t j (by have := hZ j; omega)).2 hj
  · have := hF j
    by_cases z : 0 < Z' j
    · have := I.dj j z; omega
    · have := (t j (by have := hZ j; omega)).1; omega
theorem js_set (i : Nat) (h : JE m p) (hi : i ∉ P := by decide) : JS P (mSet i m) (pSet i p) := fun S σ e F Z I => PoS.lift (h S σ e F Z I) fun ⟨d, o⟩ q e' v S' F' Z' hx n I1 ⟨Fd, r, t⟩ k => by
  cases o with
  | fr => exact ⟨_, S', rfl, aft_ow hi n I1 r t⟩
  | zn => exact ⟨_, S', rfl, aft_fz hi n I1 r t⟩
  | an => trivial
def pAug (i : Nat) (o : D → D → Option D) (a : PE) : PS := pSet i (pBin o (pVar i) a)
/-- a, b = e: a tuple of imms, or of frozen ones -/
def setAllD : List Nat → List D → Env → Option Env
  | [], [], e => some e
  | i :: is, d :: ds, e => setAllD is ds (e.set i (.ow d))
  | _, _, _ => none
def setAllZ : List Nat → List D → Env → Option Env
  | [], [], e => some e
  | i :: is, d :: ds, e => setAllZ is ds (e.set i (.fz d))
  | _, _, _ => none
def pSetT (is : List Nat) (a : PE) : PS := fun e => (a e).lift fun x _ e1 => match x.1 with
  | .tup ds => (match x.2 with
    | .fr => (match setAllD is ds e1 with
      | some e2 => .nx e2
      | none => .bad)
    | .zn => (match setAllZ is ds e1 with
      | some e2 => .nx e2
      | none => .bad)
    | .an => .bad)
  | _ => .bad
end
end Vi
namespace Vi
open PySem PySem.Spec L2 Mi
inductive Plc where
  | sl (i : Nat) | fl (p : Plc) (j : Nat) | ix (p : Plc) (k : Nat) | ky (p : Plc) (k : Key)
def nh : D → Option D
  | .hole => none
  | d => some d
def stF (j : Nat) : D → Option D
  | .ins _ fs => (fs[j]?).bind nh
  | _ => none
def stI (k : Nat) : D → Option D
  | .lst xs => (xs[k]?).bind nh
  | .tup xs => (xs[k]?).bind nh
  | _ => none
def stK (k : Key) : D → Option D
  | .dk kds => (valD kds k).bind nh
  | _ => none
/-- the first of the key -/
def rep1 : List (Key × D) → Key → D → List (Key × D)
  | [], _, _ => []
  | q :: s, k, d => if q.1 = k then (q.1, d) :: s else q :: rep1 s k d
def puF (j : Nat) (x : D) : D → D
  | .ins c fs => .ins c (fs.set j x)
  | d => d
def puI (k : Nat) (x : D) : D → D
  | .lst xs => .lst (xs.set k x)
  | .tup xs => .tup (xs.set k x)
  | d => d
def puK (k : Key) (x : D) : D → D
  | .dk kds => .dk (rep1 kds k x)
  | d => d
/-- what stands at an own place -/
def getPl (e : Env) : Plc → Option D
  | .sl i => match e[i]? with
    | some (.ow d) => some d
    | _ => none
  | .fl p j => (getPl e p).bind (stF j)
  | .ix p k => (getPl e p).bind (stI k)
  | .ky p k => (getPl e p).bind (stK k)
def putPl (e : Env) : Plc → D → Env
  | .sl i, x => e.set i (.ow x)
  | .fl p j, x => match getPl e p with
    | some b => putPl e p (puF j x b)
    | none => e
  | .ix p k, x => match getPl e p with
    | some b => putPl e p (puI k x b)
    | none => e
  | .ky p k, x => match getPl e p with
    | some b => putPl e p (puK k x b)
    | none => e
/-- the value at a place -/
def At (S : Sto) (σ : St) : Plc → V → Prop
  | .sl i, w => σ[i]? = some (some w)
  | .fl p j, w => ∃ i c fs, At S σ p (.ref i) ∧ S[i]? = some (.ins c fs) ∧ fs[j]? = some (some w)
  | .ix p k, w => ∃ i vs, At S σ p (.ref i) ∧ (S[i]? = some (.lst vs) ∨ S[i]? = some (.tup vs)) ∧ vs[k]? = some w
  | .ky p k, w => ∃ i kvs, At S σ p (.ref i) ∧ S[i]? = some (.dK kvs) ∧ valV kvs k = some w
theorem At.fn {S : Sto} {σ : St} : ∀ {p : Plc} {w w' : V}, At S σ p w → At S σ p w' → w = w'
  | .sl i, w, w', h, h' => by
    have h : σ[i]? = some (some w) := h
    have h' : σ[i]? = some (some w') := h'
    rw [h] at h'; cases h'; rfl
  | .fl p j, w, w', ⟨i, c, fs, a, b, d⟩, ⟨i', c', fs', a', b', d'⟩ => by
    cases At.fn a a'; rw [b] at b'; cases b'; rw [d] at d'; cases d'; rfl
  | .ix p k, w, w', ⟨i, vs, a, b, d⟩, ⟨i', vs', a', b', d'⟩ => by
    cases At.fn a a'
    rcases b with b | b <;> rcases b' with b' | b' <;> rw [b] at b' <;> cases b' <;> rw [d] at d' <;> cases d' <;> rfl
  | .ky p k, w, w', ⟨i, kvs, a, b, d⟩, ⟨i', kvs', a', b', d'⟩ => by
    cases At.fn a a'; rw [b] at b'; cases b'; rw [d] at d'; cases d'; rfl
theorem At.pre {S S' : Sto} {σ : St} (q : S <+: S') : ∀ {p : Plc} {w : V}, At S σ p w → At S' σ p w
  | .sl i, w, h => h
  | .fl p j, w, ⟨i, c, fs, a, b, d⟩ => ⟨i, c, fs, At.pre q a, pre_get' b q, d⟩
  | .ix p k, w, ⟨i, vs, a, b, d⟩ => ⟨i, vs, At.pre q a, b.imp (fun b => pre_get' b q) (fun b => pre_get' b q), d⟩
  | .ky p k, w, ⟨i, kvs, a, b, d⟩ => ⟨i, kvs, At.pre q a, pre_get' b q, d⟩
section
variable {S : Sto} {w : Bool}
theorem RpL.zoom : ∀ {vs : List V} {ds : List D} {F : Ft} {j : Nat} {d : D}, RpL true S vs ds F → ds[j]? = some d → ∃ v G R, vs[j]? = some v ∧ Rp true S v d G ∧ (∀ i, F i = G i + R i) ∧ ∀ S' d' G', Kp R S S' → Rp true S' v d' G' → RpL true S' vs (ds.set j d') fun i => G' i + R i
  | _, _, _, _, _, .nil _, h => by simp at h
  | _, _, _, 0, _, .cons (F2 := R) a b z, h => by
    simp at h; subst h
    exact ⟨_, _, R, rfl, a, z, fun S' d' G' kp r => .cons r (b.mono kp) fun _ => rfl⟩
  | _, _, _, j + 1, _, .cons (F1 := A) a b z, h => by
    obtain ⟨v, G, R, h1, h2, h3, h4⟩ := b.zoom (by simpa using h)
    refine ⟨v, G, fun i => A i + R i, by simpa using h1, h2, fun i => by show _ = G i + (A i + R i); rw [z, h3]; omega, fun S' d' G' kp r => ?_⟩
    exact .cons (a.mono (kp.le fun i q => by omega)) (h4 S' d' G' (kp.le fun i q => by show 0 < A i + R i; omega) r) fun i => by show G' i + (A i + R i) = A i + (G' i + R i); omega
theorem RpO.zoom : ∀ {vs : List (Option V)} {ds : List D} {F : Ft} {j : Nat} {d : D}, RpO true S vs ds F → ds[j]? = some d → (∀ h : d = .hole, False) → ∃ v G R, vs[j]? = some (some v) ∧ Rp true S v d G ∧ (∀ i, F i = G i + R i) ∧ ∀ S' d' G', Kp R S S' → Rp true S' v d' G' → RpO true S' vs (ds.set j d') fun i => G' i + R i
  | _, _, _, _, _, .nil _, h, _ => by simp at h
  | _, _, _, 0, _, .cons (F2 := R) a b z, h, _ => by
    simp at h; subst h
    exact ⟨_, _, R, rfl, a, z, fun S' d' G' kp r => .cons r (b.mono kp) fun _ => rfl⟩
  | _, _, _, 0, _, .hole _, h, k => by simp at h; subst h; exact (k rfl).elim
  | _, _, _, j + 1, _, .cons (F1 := A) a b z, h, k => by
    obtain ⟨v, G, R, h1, h2, h3, h4⟩ := b.zoom (by simpa using h) k
    refine ⟨v, G, fun i => A i + R i, by simpa using h1, h2, fun i => by show _ = G i + (A i + R i); rw [z, h3]; omega, fun S' d' G' kp r => ?_⟩
    exact .cons (a.mono (kp.le fun i q => by omega)) (h4 S' d' G' (kp.le fun i q => by show 0 < A i + R i; omega) r) fun i => by show G' i + (A i + R i) = A i + (G' i + R i); omega
  | _, _, _, j + 1, _, .hole b, h, k => by
    obtain ⟨v, G, R, h1, h2, h3, h4⟩ := b.zoom (by simpa using h) k
    exact ⟨v, G, R, by simpa using h1, h2, h3, fun S' d' G' kp r => .hole (h4 S' d' G' kp r)⟩
/-- any field written anew -/
theorem RpO.set : ∀ {vs : List (Option V)} {ds : List D} {F : Ft} (j : Nat) {v : V} {d : D} {G : Ft}, RpO true S vs ds F → Rp true S v d G → ∃ F', RpO true S (vs.set j (some v)) (ds.set j d) F' ∧ ∀ i, F' i ≤ F i + G i
  | _, _, F, j, _, _, _, .nil z, r => ⟨F, .nil z, fun i => by omega⟩
  | _, _, _, 0, _, _, _, .cons a b z, r => ⟨_, .cons r b fun _ => rfl, fun i => by have := z i; omega⟩
  | _, _, _, 0, _, _, _, .hole b, r => ⟨_, .cons r b fun _ => rfl, fun i => by omega⟩
  | _, _, _, j + 1, _, _, _, .cons a b z, r => by
    obtain ⟨F', h, hf⟩ := b.set j r
    exact ⟨_, .cons a h fun _ => rfl, fun i => by have := z i; have := hf i; omega⟩
  | _, _, _, j + 1, _, _, _, .hole b, r => by
    obtain ⟨F', h, hf⟩ := b.set j r
    exact ⟨_, .hole h, hf⟩
theorem RpL.set : ∀ {vs : List V} {ds : List D} {F : Ft} (j : Nat) {v : V} {d : D} {G : Ft}, RpL true S vs ds F → Rp true S v d G → ∃ F', RpL true S (vs.set j v) (ds.set j d) F' ∧ ∀ i, F' i ≤ F i + G i
  | _, _, F, j, _, _, _, .nil z, r => ⟨F, .nil z, fun i => by omega⟩
  | _, _, _, 0, _, _, _, .cons a b z, r => ⟨_, .cons r b fun _ => rfl, fun i => by have := z i; omega⟩
  | _, _, _, j + 1, _, _, _, .cons a b z, r => by
    obtain ⟨F', h, hf⟩ := b.set j r
    exact ⟨_, .cons a h fun _ => rfl, fun i => by have := z i; have := hf i; omega⟩
/-- the first of a key, exchanged -/
theorem RpL.zoomK {k : Key} : ∀ {kvs : List (Key × V)} {kds : List (Key × D)} {F : Ft} {d : D}, kvs.map (·.1) = kds.map (·.1) → RpL true S (kvs.map (·.2)) (kds.map (·.2)) F → valD kds k = some d →
    ∃ v G R, valV kvs k = some v ∧ Rp true S v d G ∧ (∀ i, F i = G i + R i) ∧ ∀ S' d' G', Kp R S S' → Rp true S' v d' G' → RpL true S' (kvs.map (·.2)) ((rep1 kds k d').map (·.2)) fun i => G' i + R i
  | [], [], _, _, _, _, h => by cases h
  | [], _ :: _, _, _, h, _, _ => by cases h
  | _ :: _, [], _, _, h, _, _ => by cases h
  | p :: r, q :: s, F, d, h, g, hd => by
    simp only [List.map_cons, List.cons.injEq] at h
    rw [List.map_cons, List.map_cons] at g
    cases g with
    | @cons _ A B _ _ _ _ a b z =>
      by_cases e : q.1 = k
      · have e' : p.1 = k := h.1.trans e
        have h1 : valD (q :: s) k = some q.2 := by simp [valD, List.find?_cons, e]
        rw [h1] at hd
        cases hd
        refine ⟨p.2, A, B, valV_pos e', a, z, fun S' d' G' kp r => ?_⟩
        unfold rep1
        rw [if_pos e]
        exact .cons r (b.mono kp) fun _ => rfl
      · have e' : ¬ p.1 = k := fun x => e (h.1.symm.trans x)
        have h1 : valD (q :: s) k = valD s k := by simp [valD, List.find?_cons, e]
        rw [h1] at hd
        obtain ⟨v, G, R, h2, h3, h4, h5⟩ := RpL.zoomK (k := k) h.2 b hd
        refine ⟨v, G, fun i => A i + R i, by rw [valV_neg e']; exact h2, h3, fun i => by show _ = G i + (A i + R i); rw [z, h4]; omega, fun S' d' G' kp r => ?_⟩
        unfold rep1
        rw [if_neg e]
        exact .cons (a.mono (kp.le fun i q => by show 0 < A i + R i; omega)) (h5 S' d' G' (kp.le fun i q => by show 0 < A i + R i; omega) r) fun i => by show G' i + (A i + R i) = A i + (G' i + R i); omega
theorem rep1_keys (k : Key) (d : D) : ∀ kds : List (Key × D), (rep1 kds k d).map (·.1) = kds.map (·.1)
  | [] => rfl
  | q :: s => by
    unfold rep1
    split
    · rfl
    · rw [List.map_cons, List.map_cons, rep1_keys k d s]
/-- decided: no key twice -/
def ndB (kds : List (Key × D)) : Bool := decide (kds.map (·.1)).Nodup
end
theorem nh_some {d r : D} (h : nh d = some r) : d = r ∧ (r = .hole → False) := by
  cases d <;> cases h <;> exact ⟨rfl, fun h => nomatch h⟩
theorem put_fl {e : Env} {p : Plc} {j : Nat} {b x : D} (h : getPl e p = some b) : putPl e (.fl p j) x = putPl e p (puF j x b) := by
  rw [putPl, h]
theorem put_ix {e : Env} {p : Plc} {j : Nat} {b x : D} (h : getPl e p = some b) : putPl e (.ix p j) x = putPl e p (puI j x b) := by
  rw [putPl, h]
theorem put_ky {e : Env} {p : Plc} {j : Key} {b x : D} (h : getPl e p = some b) : putPl e (.ky p j) x = putPl e p (puK j x b) := by
  rw [putPl, h]
/-- a place, taken apart: its value, and what another tree in its place makes -/
theorem zoomP {S : Sto} {σ : St} {e : Env} {F Z : Ft} (I : EI S σ e F Z) : ∀ {p : Plc} {d : D}, getPl e p = some d → ∃ w F1 G, (∀ i, F i = F1 i + G i) ∧ Rp true S w d F1 ∧ At S σ p w ∧
    (∀ S' d' F2, Kp (fun i => G i + Z i) S S' → Rp true S' w d' F2 → EnvR S' σ (putPl e p d') (fun i => F2 i + G i) Z) ∧ (∀ S', Kp G S S' → At S' σ p w)
  | .sl i, d, h => by
    unfold getPl at h
    split at h
    · rename_i d' hs
      cases h
      obtain ⟨F1, Z1, F2, Z2, hF, hZ, ⟨z, v, hv, r⟩, k1, k2, k3⟩ := I.r.slot hs
      refine ⟨v, F1, F2, hF, r, hv, fun S' d' G kp r' => ?_, fun _ _ => hv⟩
      have h1 := k1 (some v)
      have kp' : Kp (fun i => F2 i + Z2 i) S S' := kp.le fun j q => by have := hZ j; have := z j; omega
      obtain ⟨Fa, Za, Fb, Zb, hFa, hZa, ⟨za, zb⟩, _, k2', _⟩ := (h1.mono kp').slot (s := .no) (List.getElem?_set_self (List.getElem?_eq_some_iff.mp hs).1)
      have := k2' v d' G r'
      rw [List.set_set, List.set_set, set_self hv] at this
      exact this.congr (fun j => by have := hFa j; have := za j; show G j + F2 j = G j + Fb j; omega) fun j => by have := hZ j; have := z j; have := hZa j; have := zb j; omega
    · cases h
  | .fl p j, d, h => by
    unfold getPl at h
    cases hb : getPl e p with
    | none => rw [hb] at h; cases h
    | some b =>
      rw [hb] at h
      have h : stF j b = some d := h
      obtain ⟨u, F1, G, hF, rb, hat, hk, hka⟩ := zoomP I hb
      cases b with
      | ins c fs =>
        have h : (fs[j]?).bind nh = some d := h
        cases hf : fs[j]? with
        | none => rw [hf] at h; cases h
        | some x =>
          rw [hf] at h
          obtain ⟨rfl, hh⟩ := nh_some h
          cases rb with
          | @ins _ F0 i _ vs _ es ro z =>
            obtain ⟨v, G1, R, h1, h2, h3, h4⟩ := ro.zoom hf hh
            refine ⟨v, G1, fun a => R a + (if a = i then 1 else 0) + G a, fun a => by show _ = _ + (_ + _); rw [hF, z, h3]; omega, h2, ⟨i, c, vs, hat, es, h1⟩, fun S' d' F2 kp r' => ?_, fun S' kp => ?_⟩
            · have e2 : putPl e (.fl p j) d' = putPl e p (.ins c (fs.set j d')) := (put_fl hb).trans rfl
              rw [e2]
              have hi : S'[i]? = some (.ins c vs) := kp i _ es (.inl (by show 0 < R i + (if i = i then 1 else 0) + G i + Z i; rw [if_pos rfl]; omega))
              exact (hk S' _ _ (kp.le fun a q => by show 0 < R a + (if a = i then 1 else 0) + G a + Z a; omega) (.ins hi (h4 S' d' F2 (kp.le fun a q => by show 0 < R a + (if a = i then 1 else 0) + G a + Z a; omega) r') fun _ => rfl)).congr (fun a => by show F2 a + (R a + _ + G a) = F2 a + R a + _ + G a; omega) fun _ => rfl
            · exact ⟨i, c, vs, hka S' (kp.le fun a q => by show 0 < R a + _ + G a; omega), kp i _ es (.inl (by show 0 < R i + (if i = i then 1 else 0) + G i; rw [if_pos rfl]; omega)), h1⟩
      | _ => cases h
  | .ix p k, d, h => by
    unfold getPl at h
    cases hb : getPl e p with
    | none => rw [hb] at h; cases h
    | some b =>
      rw [hb] at h
      have h : stI k b = some d := h
      obtain ⟨u, F1, G, hF, rb, hat, hk, hka⟩ := zoomP I hb
      cases b with
      | lst xs =>
        have h : (xs[k]?).bind nh = some d := h
        cases hf : xs[k]? with
        | none => rw [hf] at h; cases h
        | some x =>
          rw [hf] at h
          obtain ⟨rfl, hh⟩ := nh_some h
          cases rb with
          | @lst _ F0 i vs _ es ro z =>
            have es : S[i]? = some (.lst vs) := es.elim id fun q => by cases q.1
            obtain ⟨v, G1, R, h1, h2, h3, h4⟩ := ro.zoom hf
            refine ⟨v, G1, fun a => R a + (if a = i then 1 else 0) + G a, fun a => by show _ = _ + (_ + _); rw [hF, z, h3]; omega, h2, ⟨i, vs, hat, .inl es, h1⟩, fun S' d' F2 kp r' => ?_, fun S' kp => ?_⟩
            · have e2 : putPl e (.ix p k) d' = putPl e p (.lst (xs.set k d')) := (put_ix hb).trans rfl
              rw [e2]
              have hi : S'[i]? = some (.lst vs) := kp i _ es (.inl (by show 0 < R i + (if i = i then 1 else 0) + G i + Z i; rw [if_pos rfl]; omega))
              exact (hk S' _ _ (kp.le fun a q => by show 0 < R a + (if a = i then 1 else 0) + G a + Z a; omega) (.lst (.inl hi) (h4 S' d' F2 (kp.le fun a q => by show 0 < R a + (if a = i then 1 else 0) + G a + Z a; omega) r') fun _ => rfl)).congr (fun a => by show F2 a + (R a + _ + G a) = F2 a + R a + _ + G a; omega) fun _ => rfl
            · exact ⟨i, vs, hka S' (kp.le fun a q => by show 0 < R a + _ + G a; omega), .inl (kp i _ es (.inl (by show 0 < R i + (if i = i then 1 else 0) + G i; rw [if_pos rfl]; omega))), h1⟩
      | tup xs =>
        have h : (xs[k]?).bind nh = some d := h
        cases hf : xs[k]? with
        | none => rw [hf] at h; cases h
        | some x =>
          rw [hf] at h
          obtain ⟨rfl, hh⟩ := nh_some h
          cases rb with
          | @tup _ i vs _ es ro =>
            obtain ⟨v, G1, R, h1, h2, h3, h4⟩ := ro.zoom hf
            refine ⟨v, G1, fun a => R a + G a, fun a => by show _ = _ + (_ + _); rw [hF, h3]; omega, h2, ⟨i, vs, hat, .inr es, h1⟩, fun S' d' F2 kp r' => ?_, fun S' kp => ?_⟩
            · have e2 : putPl e (.ix p k) d' = putPl e p (.tup (xs.set k d')) := (put_ix hb).trans rfl
              rw [e2]
              have hi : S'[i]? = some (.tup vs) := kp i _ es (.inr (by exact id))
              exact (hk S' _ _ (kp.le fun a q => by show 0 < R a + G a + Z a; omega) (.tup hi (h4 S' d' F2 (kp.le fun a q => by show 0 < R a + G a + Z a; omega) r'))).congr (fun a => by show F2 a + (R a + G a) = F2 a + R a + G a; omega) fun _ => rfl
            · exact ⟨i, vs, hka S' (kp.le fun a q => by show 0 < R a + G a; omega), .inr (kp i _ es (.inr (by exact id))), h1⟩
      | _ => cases h
  | .ky p k, d, h => by
    unfold getPl at h
    cases hb : getPl e p with
    | none => rw [hb] at h; cases h
    | some b =>
      rw [hb] at h
      have h : stK k b = some d := h
      obtain ⟨u, F1, G, hF, rb, hat, hk, hka⟩ := zoomP I hb
      cases b with
      | dk kds =>
        have h : (valD kds k).bind nh = some d := h
        cases hf : valD kds k with
        | none => rw [hf] at h; cases h
        | some x =>
          rw [hf] at h
          obtain ⟨rfl, hh⟩ := nh_some h
          cases rb with
          | @dk _ F0 i kvs _ es hks ro z =>
            have es : S[i]? = some (.dK kvs) := es.elim id fun q => by cases q.1
            obtain ⟨v, G1, R, h1, h2, h3, h4⟩ := ro.zoomK hks hf
            refine ⟨v, G1, fun a => R a + (if a = i then 1 else 0) + G a, fun a => by show _ = _ + (_ + _); rw [hF, z, h3]; omega, h2, ⟨i, kvs, hat, es, h1⟩, fun S' d' F2 kp r' => ?_, fun S' kp => ?_⟩
            · have e2 : putPl e (.ky p k) d' = putPl e p (.dk (rep1 kds k d')) := (put_ky hb).trans rfl
              rw [e2]
              have hi : S'[i]? = some (.dK kvs) := kp i _ es (.inl (by show 0 < R i + (if i = i then 1 else 0) + G i + Z i; rw [if_pos rfl]; omega))
              exact (hk S' _ _ (kp.le fun a q => by show 0 < R a + (if a = i then 1 else 0) + G a + Z a; omega) (.dk (.inl hi) (hks.trans (rep1_keys k d' kds).symm) (h4 S' d' F2 (kp.le fun a q => by show 0 < R a + (if a = i then 1 else 0) + G a + Z a; omega) r') fun _ => rfl)).congr (fun a => by show F2 a + (R a + _ + G a) = F2 a + R a + _ + G a; omega) fun _ => rfl
            · exact ⟨i, kvs, hka S' (kp.le fun a q => by show 0 < R a + _ + G a; omega), kp i _ es (.inl (by show 0 < R i + (if i = i then 1 else 0) + G i; rw [if_pos rfl]; omega)), h1⟩
      | _ => cases h
end Vi
namespace Vi
open PySem PySem.Spec L2 Mi
def okPl (e : Env) (P : Plc) : Option Plc := if (getPl e P).isSome = true then some P else none
def plFld (tab : List (Nat × Nat)) (pl : Env → Option Plc) : Env → Option Plc := fun e => (pl e).bind fun P => match getPl e P with
  | some (.ins c _) => (look tab c).bind fun j => okPl e (.fl P j)
  | _ => none
theorem EI.pre {S S' : Sto} {σ : St} {e : Env} {F Z : Ft} (I : EI S σ e F Z) (p : S <+: S') : EI S' σ e F Z := ⟨I.r.mono (.pre p), I.nd, I.dj⟩
section
variable {m mi : ME} {pl : Env → Option Plc} {pi : PE}
/-- an item of a list or tuple -/
def plIx (pl : Env → Option Plc) (pi : PE) : Env → Option Plc := fun e => (pl e).bind fun P => match pi e with
  | .ok (.int k, _) true _ => (match getPl e P with
    | some (.lst xs) => (ixN xs.length k).bind fun j => okPl e (.ix P j)
    | some (.tup xs) => (ixN xs.length k).bind fun j => okPl e (.ix P j)
    | _ => none)
  | _ => none
def plKy (pl : Env → Option Plc) (pi : PE) : Env → Option Plc := fun e => (pl e).bind fun P => match pi e with
  | .ok (d, _) true _ => (match getPl e P with
    | some (.dk _) => (keyD d).bind fun k => okPl e (.ky P k)
    | _ => none)
  | _ => none
def plSub (pl : Env → Option Plc) (pi : PE) : Env → Option Plc := fun e => match plIx pl pi e with
  | some P => some P
  | none => plKy pl pi e
end
def isL : D → Bool
  | .lst _ => true
  | _ => false
def isK : D → Bool
  | .dk _ => true
  | _ => false
def doBM (p : D → List D → Option (D × D)) (P : Plc) (d : D) (a : PA) : PE := fun e => (a e).bind fun ds q e1 => if (q && allFr ds) = true then (match p d (ds.map (·.1)) with
  | some (d', r) => .ok (r, .fr) false (putPl e P d')
  | none => .bad) else .bad
def pBM (ty : D → Bool) (p : D → List D → Option (D × D)) (pl : Env → Option Plc) (a : PA) : PE := fun e => match pl e with
  | none => .bad
  | some P => match getPl e P with
    | none => .bad
    | some d => if ty d = true then doBM p P d a e else .bad
/-- of a list one way, of a dict another -/
def pBM2 (p p' : D → List D → Option (D × D)) (pl : Env → Option Plc) (a : PA) : PE := fun e => match pl e with
  | none => .bad
  | some P => match getPl e P with
    | none => .bad
    | some d => if isL d = true then doBM p P d a e else if isK d = true then doBM p' P d a e else .bad
def mAppend : D → List D → Option (D × D)
  | .lst xs, [y] => if xs.length < sizeLine then some (.lst (xs ++ [y]), .non) else none
  | _, _ => none
def mExtend : D → List D → Option (D × D)
  | .lst xs, [.lst ys] => if xs.length + ys.length ≤ sizeLine then some (.lst (xs ++ ys), .non) else none
  | _, _ => none
def mPop : D → List D → Option (D × D)
  | .lst xs, [] => (xs[xs.length - 1]?).map fun y => (.lst xs.dropLast, y)
  | .lst xs, [.int k] => if -(2 ^ 63) ≤ k ∧ k < 2 ^ 63 then (seqIndex? k xs.length).bind fun j => (xs[j]?).map fun y => (.lst (xs.eraseIdx j), y) else none
  | _, _ => none
def mDPop : D → List D → Option (D × D)
  | .dk kds, [y] => (keyD y).bind fun k => (valD kds k).bind fun v => if (imm v || ndB kds) = true then some (.dk (dropD kds k), v) else none
  | .dk kds, [y, z] => (keyD y).bind fun k => match valD kds k with
    | some v => if (imm v || ndB kds) = true then some (.dk (dropD kds k), v) else none
    | none => some (.dk kds, z)
  | _, _ => none
theorem Rp.lstT {S : Sto} {x : V} {xs : List D} {F : Ft} (r : Rp true S x (.lst xs) F) : ∃ i vs F1, x = .ref i ∧ S[i]? = some (.lst vs) ∧ RpL true S vs xs F1 ∧ ∀ j, F j = F1 j + if j = i then 1 else 0 := by
  cases r with
  | lst e r z => exact ⟨_, _, _, rfl, e.elim id fun q => (by cases q.1), r, z⟩
theorem Rp.dkT {S : Sto} {x : V} {kds : List (Key × D)} {F : Ft} (r : Rp true S x (.dk kds) F) : ∃ i kvs F1, x = .ref i ∧ S[i]? = some (.dK kvs) ∧ kvs.map (·.1) = kds.map (·.1) ∧ RpL true S (kvs.map (·.2)) (kds.map (·.2)) F1 ∧ ∀ j, F j = F1 j + if j = i then 1 else 0 := by
  cases r with
  | dk e k r z => exact ⟨_, _, _, rfl, e.elim id fun q => (by cases q.1), k, r, z⟩
end Vi
namespace Vi
open PySem PySem.Spec L2 Mi
def dSetF (tab : List (Nat × Nat)) (x : D) : D → Option D
  | .ins c fs => (look tab c).map fun j => .ins c (fs.set j x)
  | _ => none
def pSetF (tab : List (Nat × Nat)) (pl : Env → Option Plc) (a : PE) : PS := fun e => (a e).lift fun x _ e1 => if x.2.own = true then (match pl e1 with
  | some P => (match (getPl e1 P).bind (dSetF tab x.1) with
    | some d' => .nx (putPl e1 P d')
    | none => .bad)
  | none => .bad) else .bad
def dSetI (x y : D) : D → Option D
  | .lst xs => (match y with
    | .int k => (ixN xs.length k).map fun j => .lst (xs.set j x)
    | _ => none)
  | .dk kds => (keyD y).bind fun k => if kds.length < sizeLine ∧ (imm x || ndB kds) = true then some (.dk (putD kds k x)) else none
  | _ => none
def pSetI (pl : Env → Option Plc) (i : PE) (a : PE) : PS := fun e => (a e).lift fun x _ e1 => if x.2.own = true then (match pl e1 with
  | some P => (i e1).lift fun y q e2 => if q = true then (match (getPl e1 P).bind (dSetI x.1 y.1) with
    | some d' => .nx (putPl e1 P d')
    | none => .bad) else .bad
  | none => .bad) else .bad
theorem Rp.insT {S : Sto} {x : V} {c : Nat} {ds : List D} {F : Ft} (r : Rp true S x (.ins c ds) F) : ∃ i fs F1, x = .ref i ∧ S[i]? = some (.ins c fs) ∧ RpO true S fs ds F1 ∧ ∀ j, F j = F1 j + if j = i then 1 else 0 := by
  cases r with
  | ins e r z => exact ⟨_, _, _, rfl, e, r, z⟩
end Vi
namespace Vi
open PySem PySem.Spec L2 Mi
inductive PArg where
  | v (p : PE) | io (pl : Env → Option Plc) | d (p : PE) (pl : Env → Option Plc)
inductive AVal where
  | v (d : D) (o : Og) | io (P : Plc)
def evV (p : PE) (r : Env → X (List AVal)) : Env → X (List AVal) := fun e => (p e).bind fun x q e1 => (r e1).bind fun as q' e2 => if (x.2.st || q') = true then .ok (.v x.1 x.2 :: as) (q && q') e2 else .bad
def evI (pl : Env → Option Plc) (r : Env → X (List AVal)) : Env → X (List AVal) := fun e => match pl e with
  | some P => (r e).bind fun as q' e2 => if q' = true then .ok (.io P :: as) true e2 else .bad
  | none => .bad
def isAnX : X (D × Og) → Bool
  | .ok (_, .an) _ _ => true
  | _ => false
/-- a value, or the place where it stands if it is owned there -/
def evD (p : PE) (pl : Env → Option Plc) (r : Env → X (List AVal)) : Env → X (List AVal) := fun e => if isAnX (p e) = true then evI pl r e else evV p r e
def evA : List PArg → Env → X (List AVal)
  | [], e => .ok [] true e
  | .v p :: r, e => evV p (evA r) e
  | .io pl :: r, e => evI pl (evA r) e
  | .d p pl :: r, e => evD p pl (evA r) e
inductive AvX (S : Sto) (F Z : Ft) (S' : Sto) (σ : St) (F' T : Ft) : List V → List AVal → Ft → Prop
  | nil {U : Ft} : Zf U → AvX S F Z S' σ F' T [] [] U
  | v {U U2 Fd : Ft} {v : V} {d : D} {o : Og} {vs : List V} {as : List AVal} : Rp o.own S' v d Fd → Tga o S F Z F' T Fd → AvX S F Z S' σ F' T vs as U2 → (∀ i, U i = frp o Fd i + U2 i) → AvX S F Z S' σ F' T (v :: vs) (.v d o :: as) U
  | io {U : Ft} {v : V} {P : Plc} {vs : List V} {as : List AVal} : At S' σ P v → AvX S F Z S' σ F' T vs as U → AvX S F Z S' σ F' T (v :: vs) (.io P :: as) U
def RlX (σ : St) : Rel (List AVal) (List V) := fun S F Z S' F' Z' vs as => ∃ T, AvX S F Z S' σ F' T vs as T ∧ (∀ i, F' i + T i ≤ 1) ∧ (∀ i, i < S.length → F' i + T i ≤ F i) ∧ ∀ i, 0 < Z' i → T i = 0
def JAr (m : MA) (as : List PArg) : Prop := ∀ (S : Sto) (σ : St) (e : Env) (F Z : Ft), EI S σ e F Z → Po (RlX σ) S σ e F Z (m σ S) (evA as e)
section
variable {S S1 S2 S' : Sto} {σ : St} {e e1 e2 : Env} {F Z F1 Z1 F2 Z2 F' T T' U G Fd : Ft} {v w : V} {d : D} {o : Og} {vs : List V} {as : List AVal}
theorem AvX.tr (h : AvX S1 F1 Z1 S' σ F' T vs as U) (n : Nx S F Z S1 F1 Z1) (ht : ∀ i, T i ≤ T' i) (hz : ∀ i, (i < S1.length → 0 < Z1 i) → F' i = 0 → T i = 0 → i < S'.length → T' i = 0) : AvX S F Z S' σ F' T' vs as U := by
  induction h with
  | nil z => exact .nil z
  | io a _ ih => exact .io a ih
  | @v U U2 Fd v d o vs ds r t _ hu ih =>
    refine .v r ?_ ih hu
    cases o with
    | fr => exact fun i => Nat.le_trans (t i) (ht i)
    | zn => exact fun i k => ⟨(t i k).1, hz i (t i k).2.2 (t i k).1 (t i k).2.1 (r.lt k), fun hi => n.zs i hi ((t i k).2.2 (Nat.lt_of_lt_of_le hi n.le))⟩
    | an =>
      intro i k hi
      have h1 := t i k (Nat.lt_of_lt_of_le hi n.le)
      have h2 := n.sub i hi
      have h3 := n.zs i hi
      omega
/-- a value ahead of others -/
theorem rlx_cons {q' : Bool} (n1 : Nx S F Z S1 F1 Z1) (I1 : EI S1 σ e1 F1 Z1) (r : Rp o.own S1 v d Fd) (t : Tg o S F Z F1 Z1 Fd) (n2 : Nx S1 F1 Z1 S2 F2 Z2) (h : RlX σ S1 F1 Z1 S2 F2 Z2 vs as) (k2 : q' = true → Qt S1 e1 F1 Z1 S2 e2 F2 Z2) (z : (o.st || q') = true) : RlX σ S F Z S2 F2 Z2 (v :: vs) (.v d o :: as) := by
  obtain ⟨T, av, t1, t2, t3⟩ := h
  have zs2 := n2.zs
  cases o with
  | fr =>
    have hb : ∀ i, S1.length ≤ i → Fd i = 0 := fun i hi => r.bound hi
    refine ⟨fun i => Fd i + T i, .v (r.mono (n2.kp I1.r fun i k => by have := t.1 i; omega)) (fun i => Nat.le_add_right _ _) (av.tr n1 (fun i => Nat.le_add_left _ _) fun i hz _ h0 hl => ?_) fun i => rfl, fun i => ?_, fun i hi => ?_, fun i hi => ?_⟩
    · show Fd i + T i = 0
      by_cases q : i < S1.length
      · have := t.2.2 i (hz q); omega
      · have := hb i (by omega); omega
    · show F2 i + (Fd i + T i) ≤ 1
      by_cases q : i < S1.length
      · have := t.1 i; have := t2 i q; omega
      · have := hb i (by omega); have := t1 i; omega
    · show F2 i + (Fd i + T i) ≤ F i
      have := t.2.1 i hi
      have := t2 i (Nat.lt_of_lt_of_le hi n1.le)
      omega
    · show Fd i + T i = 0
      have := t3 i hi
      by_cases q : i < S1.length
      · have := t.2.2 i (zs2 i q hi); omega
      · have := hb i (by omega); omega
  | zn =>
    refine ⟨T, .v (r.mono (n2.kp I1.r fun i k => (t i k).1)) (fun i k => ?_) (av.tr n1 (fun i => Nat.le_refl _) fun i _ _ h _ => h) fun i => by simp [frp], t1, fun i hi => ?_, t3⟩
    · have q := r.lt k
      have := t2 i q
      have := (t i k).1
      exact ⟨by omega, by omega, (t i k).2⟩
    · have := t2 i (Nat.lt_of_lt_of_le hi n1.le)
      have := n1.sub i hi
      omega
  | an =>
    have hq : q' = true := by simpa using z
    refine ⟨T, .v (r.mono (.pre (k2 hq).p)) t (av.tr n1 (fun i => Nat.le_refl _) fun i _ _ h _ => h) fun i => by simp [frp], t1, fun i hi => ?_, t3⟩
    have := t2 i (Nat.lt_of_lt_of_le hi n1.le)
    have := n1.sub i hi
    omega
theorem jar_nil : JAr mNil [] := fun S σ e F Z I => .pure I ⟨fun _ => 0, .nil fun _ => rfl, I.nd, fun _ _ => Nat.le_refl _, fun _ _ => rfl⟩
theorem jar_v {m : ME} {p : PE} {ms : MA} {ps : List PArg} (h : JE m p) (hs : JAr ms ps) : JAr (mCons m ms) (.v p :: ps) := by
  intro S σ e F Z I
  refine Po.bind (h S σ e F Z I) fun ⟨d, o⟩ q e1 v S1 F1 Z1 hx n1 I1 ⟨Fd, r, t⟩ k1 => ?_
  have h2 := hs S1 σ e1 F1 Z1 I1
  cases hx2 : evA ps e1 with
  | bad => trivial
  | exc c x e2 =>
    rw [hx2] at h2
    obtain ⟨S', F', Z', hr, hn, he⟩ := h2
    rw [hr]
    exact ⟨S', F', Z', rfl, n1.trans hn, he⟩
  | ok ds q' e2 =>
    rw [hx2] at h2
    obtain ⟨vs, S2, F2, Z2, hr, n2, he, hl, k2⟩ := h2
    rw [hr]
    show Po (RlX σ) S σ e F Z (.ok (v :: vs) S2) (if (o.st || q') = true then .ok (.v d o :: ds) (q && q') e2 else .bad)
    by_cases z : (o.st || q') = true
    · rw [if_pos z]
      exact ⟨v :: vs, S2, F2, Z2, rfl, n1.trans n2, he, rlx_cons n1 I1 r t n2 hl k2 z, fun hh => by rw [Bool.and_eq_true] at hh; exact (k1 hh.1).trans (k2 hh.2)⟩
    · rw [if_neg z]; trivial
def isH : Option D → Bool
  | some .hole => true
  | _ => false
def holP (e : Env) : Plc → Bool
  | .sl i => match e[i]? with
    | some (.ow .hole) => true
    | _ => false
  | .fl p j => match getPl e p with
    | some (.ins _ fs) => isH fs[j]?
    | _ => false
  | .ix p k => match getPl e p with
    | some (.lst xs) => isH xs[k]?
    | some (.tup xs) => isH xs[k]?
    | _ => false
  | .ky p k => match getPl e p with
    | some (.dk kds) => isH (valD kds k)
    | _ => false
theorem isH_eq {x : Option D} (h : isH x = true) : x = some .hole := by
  cases x with
  | none => cases h
  | some d => cases d <;> first | rfl | cases h
theorem Rp.hole0 {w : Bool} {v : V} (r : Rp w S v .hole F) : Zf F := by
  cases r with
  | hole z => exact z
theorem RpO.fill {j : Nat} {G : Ft} (r : Rp true S w d G) : ∀ {vs : List (Option V)} {ds : List D} {F : Ft}, RpO true S vs ds F → ds[j]? = some .hole → vs[j]? = some (some w) → RpO true S vs (ds.set j d) fun i => F i + G i := by
  induction j with
  | zero =>
    intro vs ds F h h1 h2
    cases h with
    | nil _ => simp at h1
    | cons a b z =>
      simp at h1 h2
      subst h1 h2
      cases a with
      | hole z0 => exact .cons r b fun i => by have := z i; have := z0 i; show _ + G i = _; omega
    | hole b =>
      simp at h2
      subst h2
      exact .cons r b fun i => by show _ + G i = _; omega
  | succ j ih =>
    intro vs ds F h h1 h2
    cases h with
    | nil _ => simp at h1
    | cons a b z => exact .cons a (ih b (by simpa using h1) (by simpa using h2)) fun i => by have := z i; show _ + G i = _ + (_ + G i); omega
    | hole b => exact .hole (ih b (by simpa using h1) (by simpa using h2))
theorem RpL.fill {j : Nat} {G : Ft} (r : Rp true S w d G) : ∀ {vs : List V} {ds : List D} {F : Ft}, RpL true S vs ds F → ds[j]? = some .hole → vs[j]? = some w → RpL true S vs (ds.set j d) fun i => F i + G i := by
  induction j with
  | zero =>
    intro vs ds F h h1 h2
    cases h with
    | nil _ => simp at h1
    | cons a b z =>
      simp at h1 h2
      subst h1 h2
      cases a with
      | hole z0 => exact .cons r b fun i => by have := z i; have := z0 i; show _ + G i = _; omega
  | succ j ih =>
    intro vs ds F h h1 h2
    cases h with
    | nil _ => simp at h1
    | cons a b z => exact .cons a (ih b (by simpa using h1) (by simpa using h2)) fun i => by have := z i; show _ + G i = _ + (_ + G i); omega
theorem RpL.fillK {k : Key} {G : Ft} (r : Rp true S w d G) : ∀ {kvs : List (Key × V)} {kds : List (Key × D)} {F : Ft}, kvs.map (·.1) = kds.map (·.1) → RpL true S (kvs.map (·.2)) (kds.map (·.2)) F → valD kds k = some .hole → valV kvs k = some w → RpL true S (kvs.map (·.2)) ((rep1 kds k d).map (·.2)) fun i => F i + G i
  | [], [], _, _, _, h, _ => by cases h
  | [], _ :: _, _, h, _, _, _ => by cases h
  | _ :: _, [], _, h, _, _, _ => by cases h
  | p :: l, q :: s, F, h, g, h1, h2 => by
    simp only [List.map_cons, List.cons.injEq] at h
    rw [List.map_cons, List.map_cons] at g
    unfold rep1
    cases g with
    | cons a b z =>
      by_cases e : q.1 = k
      · rw [if_pos e]
        have x1 : valD (q :: s) k = some q.2 := by simp [valD, List.find?_cons, e]
        rw [x1] at h1
        rw [valV_pos (h.1.trans e)] at h2
        cases h2
        cases h1' : q.2 with
        | hole =>
          rw [h1'] at a
          have z0 := a.hole0
          exact .cons r b fun i => by have := z i; have := z0 i; show _ + G i = _; omega
        | _ => rw [h1'] at h1; cases h1
      · rw [if_neg e]
        have x1 : valD (q :: s) k = valD s k := by simp [valD, List.find?_cons, e]
        rw [x1] at h1
        rw [valV_neg (fun y => e (h.1.symm.trans y))] at h2
        exact .cons a (RpL.fillK r h.2 b h1 h2) fun i => by have := z i; show _ + G i = _ + (_ + G i); omega
/-- a hole filled -/
theorem fillP {A : Ft} (I : EI S σ e F Z) (r : Rp true S w d A) : ∀ {p : Plc}, holP e p = true → At S σ p w → EnvR S σ (putPl e p d) (fun i => F i + A i) Z
  | .sl i, h, hat => by
    dsimp only [holP] at h
    split at h
    · rename_i hs
      obtain ⟨F1, Z1, F2, Z2, hF, hZ, ⟨z, v, hv, rh⟩, k1, k2, k3⟩ := I.r.slot hs
      have hat : σ[i]? = some (some w) := hat
      have := k2 w d A r
      rw [set_self hat] at this
      cases rh with
      | hole zh => exact this.congr (fun j => by have := hF j; have := zh j; show F j + A j = A j + F2 j; omega) fun j => by have := hZ j; have := z j; omega
    · cases h
  | .fl p j, h, hat => by
    dsimp only [holP] at h
    split at h
    · rename_i c fs hb
      obtain ⟨i, c', vs, hp, es, hv⟩ := hat
      obtain ⟨u, F1, G, hF, rb, hat2, hk, _⟩ := zoomP I hb
      cases hp.fn hat2
      obtain ⟨i', vs', B, e', es', ro, z⟩ := rb.insT
      cases e'
      rw [es'] at es
      cases es
      rw [put_fl hb]
      exact (hk S _ _ Kp.refl (.ins es' (RpO.fill r ro (isH_eq h) hv) fun _ => rfl)).congr (fun a => by have := hF a; have := z a; show F a + A a = (B a + A a + _) + G a; omega) fun _ => rfl
    · cases h
  | .ix p j, h, hat => by
    dsimp only [holP] at h
    obtain ⟨i, vs, hp, es, hv⟩ := hat
    split at h
    · rename_i xs hb
      obtain ⟨u, F1, G, hF, rb, hat2, hk, _⟩ := zoomP I hb
      cases hp.fn hat2
      obtain ⟨i', vs', B, e', es', ro, z⟩ := rb.lstT
      cases e'
      have : vs' = vs := by rcases es with es | es <;> rw [es'] at es <;> cases es; rfl
      subst this
      rw [put_ix hb]
      exact (hk S _ _ Kp.refl (.lst (.inl es') (RpL.fill r ro (isH_eq h) hv) fun _ => rfl)).congr (fun a => by have := hF a; have := z a; show F a + A a = (B a + A a + _) + G a; omega) fun _ => rfl
    · rename_i xs hb
      obtain ⟨u, F1, G, hF, rb, hat2, hk, _⟩ := zoomP I hb
      cases hp.fn hat2
      obtain ⟨i', vs', e', hT, ro, _, _, es'⟩ := rb.rdT
      cases e'
      have : vs' = vs := by rcases es with es | es <;> rw [es'] at es <;> cases es; rfl
      subst this
      rw [put_ix hb]
      exact (hk S _ _ Kp.refl (.tup es' (RpL.fill r ro (isH_eq h) hv))).congr (fun a => by have := hF a; show F a + A a = (F1 a + A a) + G a; omega) fun _ => rfl
    · cases h
  | .ky p k, h, hat => by
    dsimp only [holP] at h
    obtain ⟨i, kvs, hp, es, hv⟩ := hat
    split at h
    · rename_i kds hb
      obtain ⟨u, F1, G, hF, rb, hat2, hk, _⟩ := zoomP I hb
      cases hp.fn hat2
      obtain ⟨i', kvs', B, e', es', hks, ro, z⟩ := rb.dkT
      cases e'
      rw [es'] at es
      cases es
      rw [put_ky hb]
      exact (hk S _ _ Kp.refl (.dk (.inl es') (hks.trans (rep1_keys k d kds).symm) (RpL.fillK r hks ro (isH_eq h) hv) fun _ => rfl)).congr (fun a => by have := hF a; have := z a; show F a + A a = (B a + A a + _) + G a; omega) fun _ => rfl
    · cases h
/-- a hole's value stays where what is around it stays -/
theorem hol_at (I : EI S σ e F Z) (kp : Kp F S S') : ∀ {p : Plc}, holP e p = true → At S σ p w → At S' σ p w
  | .sl i, h, hat => hat
  | .fl p j, h, ⟨i, c', vs, hp, es, hv⟩ => by
    dsimp only [holP] at h
    split at h
    · rename_i c fs hb
      obtain ⟨u, F1, G, hF, rb, hat2, hk, hka⟩ := zoomP I hb
      cases hp.fn hat2
      obtain ⟨i', vs', B, e', es', ro, z⟩ := rb.insT
      cases e'
      exact ⟨i, c', vs, hka S' (kp.le fun a q => by have := hF a; omega), kp i _ es (.inl (by have := hF i; have := z i; rw [if_pos rfl] at this; omega)), hv⟩
    · cases h
  | .ix p j, h, ⟨i, vs, hp, es, hv⟩ => by
    dsimp only [holP] at h
    split at h
    · rename_i xs hb
      obtain ⟨u, F1, G, hF, rb, hat2, hk, hka⟩ := zoomP I hb
      cases hp.fn hat2
      obtain ⟨i', vs', B, e', es', ro, z⟩ := rb.lstT
      cases e'
      exact ⟨i, vs, hka S' (kp.le fun a q => by have := hF a; omega), es.imp (fun es => kp i _ es (.inl (by have := hF i; have := z i; rw [if_pos rfl] at this; omega))) fun es => kp i _ es (.inl (by have := hF i; have := z i; rw [if_pos rfl] at this; omega)), hv⟩
    · rename_i xs hb
      obtain ⟨u, F1, G, hF, rb, hat2, hk, hka⟩ := zoomP I hb
      cases hp.fn hat2
      obtain ⟨i', vs', e', hT, ro, _, _, es'⟩ := rb.rdT
      cases e'
      exact ⟨i, vs, hka S' (kp.le fun a q => by have := hF a; omega), es.imp (fun es => by rw [es'] at es; cases es) fun es => kp i _ es (.inr (by exact id)), hv⟩
    · cases h
  | .ky p k, h, ⟨i, kvs, hp, es, hv⟩ => by
    dsimp only [holP] at h
    split at h
    · rename_i kds hb
      obtain ⟨u, F1, G, hF, rb, hat2, hk, hka⟩ := zoomP I hb
      cases hp.fn hat2
      obtain ⟨i', kvs', B, e', es', hks, ro, z⟩ := rb.dkT
      cases e'
      exact ⟨i, kvs, hka S' (kp.le fun a q => by have := hF a; omega), kp i _ es (.inl (by have := hF i; have := z i; rw [if_pos rfl] at this; omega)), hv⟩
    · cases h
end
end Vi
namespace Vi
open PySem PySem.Spec L2 Mi
inductive RF where
  | ok (d : D) (o : Og) (outs : List D) | exc (c : Nat) (x : Option V) (outs : List D) | bad
abbrev PF := List D → RF
def wrp : List Bool → List D → Env
  | b :: bs, d :: ds => (if b = true then .ow d else .fz d) :: wrp bs ds
  | _, _ => []
def PoF (mask : List Bool) (S : Sto) (vs : List V) (F Z : Ft) (r : R V) : RF → Prop
  | .ok d o outs => ∃ v S' F' Fd, r = .ok v S' ∧ Nx S F Z S' F' Z ∧ EnvR S' (vs.map some) (wrp mask outs) F' Z ∧ Rp o.own S' v d Fd ∧ Tg o S F Z F' Z Fd
  | .exc c x outs => ∃ S' F', r = .exc c x S' ∧ Nx S F Z S' F' Z ∧ EnvR S' (vs.map some) (wrp mask outs) F' Z
  | .bad => True
/-- the function does to values what p does to trees; the mask tells which arguments it may change -/
def JF (f : Fn) (mask : List Bool) (p : PF) : Prop := ∀ S vs ds F Z, EI S (vs.map some) (wrp mask ds) F Z → ds.length = mask.length → PoF mask S vs F Z (f vs S) (p ds)
def prep : List Bool → List AVal → Env → Option (List D × Env)
  | [], [], e => some ([], e)
  | b :: bs, .v d o :: as, e => if (!b || o.own) = true then (prep bs as e).map fun x => (d :: x.1, x.2) else none
  | b :: bs, .io P :: as, e => match getPl e P with
    | some d => (prep bs as (putPl e P .hole)).map fun x => (d :: x.1, x.2)
    | none => none
  | _, _, _ => none
def isAn : AVal → Bool
  | .v _ .an => true
  | _ => false
def noAn (mask : List Bool) (as : List AVal) : Bool := mask.all (fun b => !b) || as.all fun a => !isAn a
def isIo : AVal → Bool
  | .io _ => true
  | _ => false
def allHol (as : List AVal) (e : Env) : Bool := as.all fun a => match a with
  | .io P => holP e P
  | _ => true
def fillB : List AVal → List D → Env → Option Env
  | [], _, e => some e
  | .v _ _ :: as, _ :: ds, e => fillB as ds e
  | .io P :: as, d :: ds, e => if holP e P = true then fillB as ds (putPl e P d) else none
  | _, _, _ => none
def mixO : List Bool → List D → List D → List D
  | b :: bs, d :: ds, o :: os => (if b = true then o else d) :: mixO bs ds os
  | _, _, _ => []
def isZn : AVal → Bool
  | .v _ .zn => true
  | .v d .fr => imm d
  | _ => false
def retT (o : Og) (as : List AVal) : Og := match o with
  | .fr => .fr
  | .zn => if as.all isZn = true then .zn else .an
  | .an => .an
def callP (mask : List Bool) (p : PF) (as : List AVal) (q : Bool) (e : Env) : X (D × Og) :=
  if noAn mask as = true then (match prep mask as e with
    | some (ds, e2) => if allHol as e2 = true then (match p ds with
      | .ok d o outs => (match fillB as (mixO mask ds outs) e2 with
        | some e3 => .ok (d, retT o as) (q && as.all fun a => !isIo a) e3
        | none => .bad)
      | .exc c x outs => (match fillB as (mixO mask ds outs) e2 with
        | some e3 => .exc c x e3
        | none => .bad)
      | .bad => .bad) else .bad
    | none => .bad) else .bad
inductive PR (S : Sto) (σ : St) : List Bool → List V → List AVal → List D → Ft → Ft → Ft → Prop
  | nil {A B C : Ft} : Zf A → Zf B → Zf C → PR S σ [] [] [] [] A B C
  | ov {Fc Zt Zr Fc' A : Ft} {bs : List Bool} {vs : List V} {as : List AVal} {ds : List D} {v : V} {d : D} : Rp true S v d A → PR S σ bs vs as ds Fc Zt Zr → (∀ i, Fc' i = A i + Fc i) → PR S σ (true :: bs) (v :: vs) (.v d .fr :: as) (d :: ds) Fc' Zt Zr
  | zt {Fc Zt Zr Zt' A : Ft} {bs : List Bool} {vs : List V} {as : List AVal} {ds : List D} {v : V} {d : D} : Rp false S v d A → PR S σ bs vs as ds Fc Zt Zr → (∀ i, Zt' i = A i + Zt i) → PR S σ (false :: bs) (v :: vs) (.v d .fr :: as) (d :: ds) Fc Zt' Zr
  | zr {Fc Zt Zr Zr' A : Ft} {bs : List Bool} {vs : List V} {as : List AVal} {ds : List D} {v : V} {d : D} {o : Og} : Rp false S v d A → PR S σ bs vs as ds Fc Zt Zr → (∀ i, Zr' i = A i + Zr i) → PR S σ (false :: bs) (v :: vs) (.v d o :: as) (d :: ds) Fc Zt Zr'
  | oi {Fc Zt Zr Fc' A : Ft} {bs : List Bool} {vs : List V} {as : List AVal} {ds : List D} {v : V} {d : D} {P : Plc} : Rp true S v d A → At S σ P v → PR S σ bs vs as ds Fc Zt Zr → (∀ i, Fc' i = A i + Fc i) → PR S σ (true :: bs) (v :: vs) (.io P :: as) (d :: ds) Fc' Zt Zr
  | zi {Fc Zt Zr Zt' A : Ft} {bs : List Bool} {vs : List V} {as : List AVal} {ds : List D} {v : V} {d : D} {P : Plc} : Rp true S v d A → At S σ P v → PR S σ bs vs as ds Fc Zt Zr → (∀ i, Zt' i = A i + Zt i) → PR S σ (false :: bs) (v :: vs) (.io P :: as) (d :: ds) Fc Zt' Zr
section
variable {S S0 S1 S2 S' : Sto} {σ : St} {e e1 e2 : Env} {F Z F0 Z0 F1 Z1 F2 Z2 F' T T' U G Fd Fe : Ft} {v w : V} {d : D} {o : Og} {vs : List V} {as : List AVal} {mask : List Bool} {ds : List D}
theorem PR.env {Fc Zt Zr : Ft} (h : PR S σ mask vs as ds Fc Zt Zr) : EnvR S (vs.map some) (wrp mask ds) Fc (fun i => Zt i + Zr i) := by
  induction h with
  | nil a b c => exact .nil a fun i => by show _ + _ = 0; rw [b, c]
  | ov r _ z ih => exact .ow r ih z
  | zt r _ z ih => exact .fz r ih fun i => by have := z i; show _ + _ = _ + (_ + _); omega
  | zr r _ z ih => exact .fz r ih fun i => by have := z i; show _ + _ = _ + (_ + _); omega
  | oi r _ _ z ih => exact .ow r ih z
  | zi r _ _ z ih => exact .fz r.weak ih fun i => by have := z i; show _ + _ = _ + (_ + _); omega
theorem PR.allF {Fc Zt Zr : Ft} (h : PR S σ mask vs as ds Fc Zt Zr) (k : mask.all (fun b => !b) = true) : Zf Fc := by
  induction h with
  | nil a b c => exact a
  | ov _ _ _ _ => simp at k
  | oi _ _ _ _ _ => simp at k
  | zt _ _ _ ih => exact ih (by simpa using k)
  | zr _ _ _ ih => exact ih (by simpa using k)
  | zi _ _ _ _ ih => exact ih (by simpa using k)
theorem PR.allZ {Fc Zt Zr : Ft} (h : PR S σ mask vs as ds Fc Zt Zr) (k : as.all isZn = true) : Zf Fc ∧ Zf Zt := by
  induction h with
  | nil a b c => exact ⟨a, b⟩
  | ov r _ z ih =>
    rw [List.all_cons, Bool.and_eq_true] at k
    obtain ⟨h1, h2⟩ := ih k.2
    exact ⟨fun i => by rw [z, r.imm0 k.1 i, h1 i], h2⟩
  | zt r _ z ih =>
    rw [List.all_cons, Bool.and_eq_true] at k
    obtain ⟨h1, h2⟩ := ih k.2
    exact ⟨h1, fun i => by rw [z, r.imm0 k.1 i, h2 i]⟩
  | zr r _ z ih =>
    rw [List.all_cons, Bool.and_eq_true] at k
    exact ih k.2
  | oi _ _ _ _ _ => simp [isZn] at k
  | zi _ _ _ _ ih => simp [isZn] at k
theorem PR.bounds {Fc Zt Zr : Ft} (h : PR S σ mask vs as ds Fc Zt Zr) {i : Nat} (hi : S.length ≤ i) : Fc i = 0 ∧ Zt i + Zr i = 0 := ⟨h.env.boundF hi, h.env.boundZ hi⟩
theorem PR.lens {Fc Zt Zr : Ft} (h : PR S σ mask vs as ds Fc Zt Zr) : ds.length = mask.length ∧ vs.length = mask.length := by
  induction h with
  | nil _ _ _ => exact ⟨rfl, rfl⟩
  | ov _ _ _ ih => exact ⟨congrArg Nat.succ ih.1, congrArg Nat.succ ih.2⟩
  | zt _ _ _ ih => exact ⟨congrArg Nat.succ ih.1, congrArg Nat.succ ih.2⟩
  | zr _ _ _ ih => exact ⟨congrArg Nat.succ ih.1, congrArg Nat.succ ih.2⟩
  | oi _ _ _ _ ih => exact ⟨congrArg Nat.succ ih.1, congrArg Nat.succ ih.2⟩
  | zi _ _ _ _ ih => exact ⟨congrArg Nat.succ ih.1, congrArg Nat.succ ih.2⟩
/-- the arguments laid out -/
theorem prep_ok {Fe : Ft} (av : AvX S0 F0 Z0 S σ F1 T vs as U) (t2 : ∀ i, i < S0.length → F1 i + T i ≤ F0 i) : ∀ {mask : List Bool} {ds : List D} {e e' : Env} {Fe : Ft}, EI S σ e Fe Z → prep mask as e = some (ds, e') →
    ∃ Fc Zt Zr G, PR S σ mask vs as ds Fc Zt Zr ∧ EI S σ e' G Z ∧ (∀ i, Fc i + Zt i + G i ≤ Fe i + U i) ∧
      (∀ i, 0 < Zr i → (F1 i = 0 ∧ T i = 0 ∧ (i < S0.length → 0 < Z0 i)) ∨ (as.all (fun a => !isAn a) = false ∧ (i < S0.length → 0 < F0 i + Z0 i))) ∧ ((as.all fun a => !isIo a) = true → e' = e ∧ G = Fe) := by
  induction av with
  | nil z =>
    intro mask ds e e' Fe I h
    cases mask with
    | nil => cases h; exact ⟨fun _ => 0, fun _ => 0, fun _ => 0, Fe, .nil (fun _ => rfl) (fun _ => rfl) fun _ => rfl, I, fun i => by show 0 + 0 + Fe i ≤ _; omega, fun i k => absurd k (by simp), fun _ => ⟨rfl, rfl⟩⟩
    | cons _ _ => cases h
  | @io U v P vs as hat _ ih =>
    intro mask ds e e' Fe I h
    cases mask with
    | nil => cases h
    | cons b bs =>
      unfold prep at h
      split at h
      · rename_i d hg
        cases hq : prep bs as (putPl e P .hole) with
        | none => rw [hq] at h; cases h
        | some x =>
          rw [hq] at h
          cases h
          obtain ⟨w, A, G1, hF, r, hat2, hk, _⟩ := zoomP I hg
          cases hat.fn hat2
          have er := hk S .hole (fun _ => 0) Kp.refl (.hole fun _ => rfl)
          have nd := I.nd
          have dj := I.dj
          have I' : EI S σ (putPl e P .hole) G1 Z := ⟨er.congr (fun i => by show G1 i = 0 + G1 i; omega) fun _ => rfl, fun i => by have := nd i; have := hF i; omega, fun i h => by have := dj i h; have := hF i; omega⟩
          obtain ⟨Fc, Zt, Zr, G, pr, Ie, hs, hz, _⟩ := ih I' hq
          cases b with
          | true => exact ⟨fun i => A i + Fc i, Zt, Zr, G, .oi r hat pr fun _ => rfl, Ie, fun i => by have := hs i; have := hF i; show A i + Fc i + _ + _ ≤ _; omega, fun i k => (hz i k).imp id fun y => ⟨by rw [List.all_cons, y.1, Bool.and_false], y.2⟩, fun k => by simp [isIo] at k⟩
          | false => exact ⟨Fc, fun i => A i + Zt i, Zr, G, .zi r hat pr fun _ => rfl, Ie, fun i => by have := hs i; have := hF i; show Fc i + (A i + Zt i) + _ ≤ _; omega, fun i k => (hz i k).imp id fun y => ⟨by rw [List.all_cons, y.1, Bool.and_false], y.2⟩, fun k => by simp [isIo] at k⟩
      · cases h
  | @v U U2 Fd v d o vs as r t _ hu ih =>
    intro mask ds e e' Fe I h
    cases mask with
    | nil => cases h
    | cons b bs =>
      unfold prep at h
      split at h
      · rename_i hb
        cases hq : prep bs as e with
        | none => rw [hq] at h; cases h
        | some x =>
          rw [hq] at h
          cases h
          obtain ⟨Fc, Zt, Zr, G, pr, Ie, hs, hz, hio⟩ := ih I hq
          have hio' : ((AVal.v d o :: as).all fun a => !isIo a) = true → x.2 = e ∧ G = Fe := fun k => hio (by simpa [isIo] using k)
          have hz' : ∀ i, 0 < Zr i → (F1 i = 0 ∧ T i = 0 ∧ (i < S0.length → 0 < Z0 i)) ∨ ((AVal.v d o :: as).all (fun a => !isAn a) = false ∧ (i < S0.length → 0 < F0 i + Z0 i)) := fun i k => (hz i k).imp id fun y => ⟨by rw [List.all_cons, y.1, Bool.and_false], y.2⟩
          cases o with
          | fr =>
            cases b with
            | true => exact ⟨fun i => Fd i + Fc i, Zt, Zr, G, .ov r pr fun _ => rfl, Ie, fun i => by have := hs i; have : U i = Fd i + U2 i := hu i; show Fd i + Fc i + _ + _ ≤ _; omega, hz', hio'⟩
            | false => exact ⟨Fc, fun i => Fd i + Zt i, Zr, G, .zt r.weak pr fun _ => rfl, Ie, fun i => by have := hs i; have : U i = Fd i + U2 i := hu i; show Fc i + (Fd i + Zt i) + _ ≤ _; omega, hz', hio'⟩
          | zn =>
            cases b with
            | true => cases hb
            | false =>
              refine ⟨Fc, Zt, fun i => Fd i + Zr i, G, .zr r pr fun _ => rfl, Ie, fun i => by have := hs i; have : U i = 0 + U2 i := hu i; omega, fun i k => ?_, hio'⟩
              have k : 0 < Fd i + Zr i := k
              by_cases y : 0 < Zr i
              · exact hz' i y
              · exact .inl (t i (by omega))
          | an =>
            cases b with
            | true => cases hb
            | false =>
              refine ⟨Fc, Zt, fun i => Fd i + Zr i, G, .zr r pr fun _ => rfl, Ie, fun i => by have := hs i; have : U i = 0 + U2 i := hu i; omega, fun i k => ?_, hio'⟩
              have k : 0 < Fd i + Zr i := k
              by_cases y : 0 < Zr i
              · exact hz' i y
              · exact .inr ⟨rfl, t i (by omega)⟩
      · cases h
/-- where the arguments' places are -/
inductive Ats (S : Sto) (σ : St) : List V → List AVal → Prop
  | nil : Ats S σ [] []
  | v {v : V} {d : D} {o : Og} {vs : List V} {as : List AVal} : Ats S σ vs as → Ats S σ (v :: vs) (.v d o :: as)
  | io {v : V} {P : Plc} {vs : List V} {as : List AVal} : At S σ P v → Ats S σ vs as → Ats S σ (v :: vs) (.io P :: as)
theorem PR.ats {Fc Zt Zr : Ft} (h : PR S σ mask vs as ds Fc Zt Zr) (I : EI S σ e F Z) (kp : Kp F S S') (hh : allHol as e = true) : Ats S' σ vs as := by
  induction h with
  | nil _ _ _ => exact .nil
  | ov _ _ _ ih => exact .v (ih (by simpa [allHol] using hh))
  | zt _ _ _ ih => exact .v (ih (by simpa [allHol] using hh))
  | zr _ _ _ ih => exact .v (ih (by simpa [allHol] using hh))
  | oi _ hat _ _ ih =>
    unfold allHol at hh
    rw [List.all_cons, Bool.and_eq_true] at hh
    exact .io (hol_at I kp hh.1 hat) (ih hh.2)
  | zi _ hat _ _ ih =>
    unfold allHol at hh
    rw [List.all_cons, Bool.and_eq_true] at hh
    exact .io (hol_at I kp hh.1 hat) (ih hh.2)
/-- the places filled again -/
theorem fill_ok {Fc Zt Zr : Ft} (h : PR S σ mask vs as ds Fc Zt Zr) (ha : Ats S' σ vs as) : ∀ {outs : List D} {e e3 : Env} {G F' Zx : Ft}, Kp Zt S S' → EnvR S' (vs.map some) (wrp mask outs) F' Zx → EI S' σ e G Z → (∀ i, G i + F' i + Zt i ≤ 1) → (∀ i, 0 < Z i → G i + F' i + Zt i = 0) → fillB as (mixO mask ds outs) e = some e3 →
    ∃ F2, EnvR S' σ e3 F2 Z ∧ (∀ i, F2 i ≤ G i + F' i + Zt i) ∧ ((as.all fun a => !isIo a) = true → e3 = e ∧ F2 = G) := by
  induction h with
  | nil _ _ _ =>
    intro outs e e3 G F' Zx kp er I nd dj hf
    unfold fillB at hf
    cases hf
    exact ⟨G, I.r, fun i => by omega, fun _ => ⟨rfl, rfl⟩⟩
  | ov r _ z ih =>
    intro outs e e3 G F' Zx kp er I nd dj hf
    cases outs with
    | nil => cases hf
    | cons d' outs =>
      cases ha with
      | v ha =>
        cases er with
        | ow r' er zz =>
          obtain ⟨F2, h1, h2, h3⟩ := ih ha kp er I (fun i => by have := nd i; have := zz i; omega) (fun i h => by have := dj i h; have := zz i; omega) hf
          exact ⟨F2, h1, fun i => by have := h2 i; have := zz i; omega, fun k => h3 (by simpa [isIo] using k)⟩
  | zt r _ z ih =>
    intro outs e e3 G F' Zx kp er I nd dj hf
    cases outs with
    | nil => cases hf
    | cons d' outs =>
      cases ha with
      | v ha =>
        cases er with
        | fz r' er zz =>
          obtain ⟨F2, h1, h2, h3⟩ := ih ha (kp.le fun i q => by have := z i; omega) er I (fun i => by have := nd i; have := z i; omega) (fun i h => by have := dj i h; have := z i; omega) hf
          exact ⟨F2, h1, fun i => by have := h2 i; have := z i; omega, fun k => h3 (by simpa [isIo] using k)⟩
  | zr r _ z ih =>
    intro outs e e3 G F' Zx kp er I nd dj hf
    cases outs with
    | nil => cases hf
    | cons d' outs =>
      cases ha with
      | v ha =>
        cases er with
        | fz r' er zz =>
          obtain ⟨F2, h1, h2, h3⟩ := ih ha kp er I nd dj hf
          exact ⟨F2, h1, h2, fun k => h3 (by simpa [isIo] using k)⟩
  | oi r hat _ z ih =>
    intro outs e e3 G F' Zx kp er I nd dj hf
    cases outs with
    | nil => cases hf
    | cons d' outs =>
      cases ha with
      | io hat' ha =>
        cases er with
        | @ow _ Fa Fb _ _ _ _ _ r' er zz =>
          simp only [mixO, if_true, fillB] at hf
          split at hf
          · rename_i hh
            have er2 := fillP I r' hh hat'
            have I2 : EI S' σ _ (fun i => G i + Fa i) Z := ⟨er2, fun i => by have := nd i; have := zz i; show G i + Fa i ≤ 1; omega, fun i h => by have := dj i h; have := zz i; show G i + Fa i = 0; omega⟩
            obtain ⟨F2, h1, h2, h3⟩ := ih ha kp er I2 (fun i => by have := nd i; have := zz i; show G i + Fa i + _ + _ ≤ 1; omega) (fun i h => by have := dj i h; have := zz i; show G i + Fa i + _ + _ = 0; omega) hf
            exact ⟨F2, h1, fun i => by have := h2 i; have := zz i; omega, fun k => by simp [isIo] at k⟩
          · cases hf
  | @zi Fc Zt0 Zr Zt' A bs vs as ds v d P r hat _ z ih =>
    intro outs e e3 G F' Zx kp er I nd dj hf
    cases outs with
    | nil => cases hf
    | cons d' outs =>
      cases ha with
      | io hat' ha =>
        cases er with
        | fz r' er zz =>
          simp only [mixO, if_neg Bool.false_ne_true, fillB] at hf
          split at hf
          · rename_i hh
            have er2 := fillP I (r.mono (kp.le fun i q => by have := z i; omega)) hh hat'
            have I2 : EI S' σ _ (fun i => G i + A i) Z := ⟨er2, fun i => by have := nd i; have := z i; show G i + A i ≤ 1; omega, fun i h => by have := dj i h; have := z i; show G i + A i = 0; omega⟩
            obtain ⟨F2, h1, h2, h3⟩ := ih ha (kp.le fun i q => by have := z i; omega) er I2 (fun i => by have := nd i; have := z i; show G i + A i + _ + _ ≤ 1; omega) (fun i h => by have := dj i h; have := z i; show G i + A i + _ + _ = 0; omega) hf
            exact ⟨F2, h1, fun i => by have := h2 i; have := z i; omega, fun k => by simp [isIo] at k⟩
          · cases hf
theorem pre_of (hl : S.length ≤ S'.length) (h : ∀ (i : Nat) (o : Ob), S[i]? = some o → S'[i]? = some o) : S <+: S' := by
  rw [List.prefix_iff_getElem?]
  intro i hi
  rw [h i S[i] (List.getElem?_eq_getElem hi)]
/-- a call behind its arguments -/
theorem call_ok {f : Fn} {p : PF} {q : Bool} (hf : JF f mask p) (n : Nx S0 F0 Z0 S F1 Z1) (I : EI S σ e1 F1 Z1) (hl : RlX σ S0 F0 Z0 S F1 Z1 vs as) (kq : q = true → Qt S0 e F0 Z0 S e1 F1 Z1) : Po RlE S0 σ e F0 Z0 (f vs S) (callP mask p as q e1) := by
  obtain ⟨T, av, t1, t2, t3⟩ := hl
  unfold callP
  by_cases hna : noAn mask as = true
  · rw [if_pos hna]
    cases hp : prep mask as e1 with
    | none => trivial
    | some x =>
      obtain ⟨ds, e2⟩ := x
      dsimp only
      by_cases hh : allHol as e2 = true
      · rw [if_pos hh]
        obtain ⟨Fc, Zt, Zr, G, pr, I2, hs, hz, hio⟩ := prep_ok (Fe := F1) av t2 I hp
        have dj1 := I.dj
        have sum1 : ∀ i, Fc i + Zt i + G i ≤ 1 := fun i => by have := hs i; have := t1 i; omega
        have zr0 : ∀ i, 0 < Zr i → Fc i = 0 := fun i k => by
          rcases hz i k with h | h
          · have := hs i; omega
          · unfold noAn at hna
            rw [h.1, Bool.or_false] at hna
            exact pr.allF hna i
        have Ic : EI S (vs.map some) (wrp mask ds) Fc (fun i => Zt i + Zr i) := ⟨pr.env, fun i => by have := sum1 i; omega, fun i h => by
          have h : 0 < Zt i + Zr i := h
          by_cases y : 0 < Zr i
          · exact zr0 i y
          · have := sum1 i; have := pr.allF; omega⟩
        have hc := hf S vs ds Fc _ Ic pr.lens.1
        have fcd := pr.env.domF
        have key : ∀ {S' : Sto} {F' : Ft} {outs : List D} {e3 : Env}, Nx S Fc (fun i => Zt i + Zr i) S' F' (fun i => Zt i + Zr i) → EnvR S' (vs.map some) (wrp mask outs) F' (fun i => Zt i + Zr i) → fillB as (mixO mask ds outs) e2 = some e3 →
            ∃ F2, EnvR S' σ e3 F2 Z1 ∧ (∀ i, F2 i ≤ G i + F' i + Zt i) ∧ Nx S0 F0 Z0 S' F2 Z1 ∧ ((as.all fun a => !isIo a) = true → e3 = e1 ∧ F2 = F1) := by
          intro S' F' outs e3 nc er hfill
          have kpG : Kp G S S' := .of_fr nc.fr (fun i h => by have := sum1 i; omega) fcd
          have z1 : ∀ i, 0 < Z1 i → Fc i = 0 ∧ Zt i = 0 ∧ G i = 0 := fun i h => by have := hs i; have := dj1 i h; have := t3 i h; omega
          have kpE : Kp (fun i => G i + Z1 i) S S' := .of_fr nc.fr (fun i h => by
            have h : 0 < G i + Z1 i := h
            by_cases y : 0 < Z1 i
            · exact (z1 i y).1
            · have := sum1 i; omega) fcd
          have I3 : EI S' σ e2 G Z1 := ⟨I2.r.mono kpE, I2.nd, I2.dj⟩
          have kpZ : Kp Zt S S' := .of_fr nc.fr (fun i h => by have := sum1 i; omega) fcd
          have bG : ∀ i, S.length ≤ i → G i = 0 := fun i h => I2.r.boundF h
          have bZ : ∀ i, S.length ≤ i → Zt i = 0 := fun i h => by have := (pr.bounds h).2; omega
          have bZ1 : ∀ i, S.length ≤ i → Z1 i = 0 := fun i h => I.r.boundZ h
          have ndd : ∀ i, G i + F' i + Zt i ≤ 1 := fun i => by
            by_cases y : i < S.length
            · have := nc.sub i y; have := sum1 i; omega
            · have := bG i (by omega); have := bZ i (by omega); have := nc.nd i; omega
          have djj : ∀ i, 0 < Z1 i → G i + F' i + Zt i = 0 := fun i h => by
            by_cases y : i < S.length
            · have := nc.sub i y; have := z1 i h; omega
            · have := bZ1 i (by omega); omega
          obtain ⟨F2, h1, h2, h3⟩ := fill_ok pr (pr.ats I2 kpG hh) kpZ er I3 ndd djj hfill
          refine ⟨F2, h1, h2, ⟨Nat.le_trans n.le nc.le, fun i ob g1 g2 => ?_, fun i => by have := h2 i; have := ndd i; omega, fun i hi => ?_, n.zs, fun i h => by have := h2 i; have := djj i h; omega⟩, fun k => ?_⟩
          · have hi := (List.getElem?_eq_some_iff.mp g1).1
            exact nc.fr i ob (n.fr i ob g1 g2) (by have := hs i; have := t2 i hi; omega)
          · have := h2 i
            have := nc.sub i (Nat.lt_of_lt_of_le hi n.le)
            have := hs i
            have := t2 i hi
            omega
          · obtain ⟨a1, a2⟩ := hio k
            obtain ⟨b1, b2⟩ := h3 k
            exact ⟨b1.trans a1, b2.trans a2⟩
        cases hr : p ds with
        | bad => trivial
        | exc c x outs =>
          rw [hr] at hc
          obtain ⟨S', F', hfr, nc, er⟩ := hc
          dsimp only
          cases hfill : fillB as (mixO mask ds outs) e2 with
          | none => trivial
          | some e3 =>
            obtain ⟨F2, h1, h2, h3, _⟩ := key nc er hfill
            exact ⟨S', F2, Z1, hfr, h3, h1⟩
        | ok d o outs =>
          rw [hr] at hc
          obtain ⟨v, S', F', Fd, hfr, nc, er, rv, tv⟩ := hc
          dsimp only
          cases hfill : fillB as (mixO mask ds outs) e2 with
          | none => trivial
          | some e3 =>
            obtain ⟨F2, h1, h2, h3, h4⟩ := key nc er hfill
            have bG : ∀ i, S.length ≤ i → G i = 0 := fun i h => I2.r.boundF h
            have bZ : ∀ i, S.length ≤ i → Zt i = 0 ∧ Zr i = 0 ∧ Fc i = 0 := fun i h => by have := pr.bounds h; omega
            have bF1 : ∀ i, S.length ≤ i → F1 i = 0 := fun i h => I.r.boundF h
            have bZ1 : ∀ i, S.length ≤ i → Z1 i = 0 := fun i h => I.r.boundZ h
            have anp : ∀ i, i < S0.length → 0 < Fc i + (Zt i + Zr i) → 0 < F0 i + Z0 i := fun i hi k => by
              by_cases y : 0 < Zr i
              · rcases hz i y with g | g
                · have := g.2.2 hi; omega
                · exact g.2 hi
              · have := hs i; have := t2 i hi; omega
            refine ⟨v, S', F2, Z1, hfr, h3, h1, ⟨Fd, ?_, ?_⟩, fun k => ?_⟩
            · show Rp (retT o as).own S' v d Fd
              cases o with
              | fr => exact rv
              | zn => unfold retT; dsimp only; split <;> exact rv
              | an => exact rv
            · show Tg (retT o as) S0 F0 Z0 F2 Z1 Fd
              cases o with
              | fr =>
                refine ⟨fun i => ?_, fun i hi => ?_, fun i h => ?_⟩
                · have := h2 i
                  by_cases y : i < S.length
                  · have := tv.2.1 i y; have := sum1 i; omega
                  · have := bG i (by omega); have := bZ i (by omega); have := tv.1 i; omega
                · have := h2 i
                  have := tv.2.1 i (Nat.lt_of_lt_of_le hi n.le)
                  have := hs i
                  have := t2 i hi
                  omega
                · by_cases y : i < S.length
                  · have := tv.2.1 i y; have := hs i; have := dj1 i h; have := t3 i h; omega
                  · have := bZ1 i (by omega); omega
              | zn =>
                unfold retT
                dsimp only
                split
                · rename_i hzn
                  obtain ⟨c0, zt0⟩ := pr.allZ hzn
                  have noio : (as.all fun a => !isIo a) = true := by
                    rw [List.all_eq_true] at hzn ⊢
                    intro a ha
                    have := hzn a ha
                    cases a with
                    | io P => cases this
                    | v d o => rfl
                  have noan : as.all (fun a => !isAn a) = true := by
                    rw [List.all_eq_true] at hzn ⊢
                    intro a ha
                    have := hzn a ha
                    cases a with
                    | io P => rfl
                    | v d o => cases o <;> first | rfl | cases this
                  obtain ⟨_, e2F⟩ := h4 noio
                  intro i k
                  rw [e2F]
                  by_cases y : i < S.length
                  · have hzr : 0 < Zr i := by have h9 : 0 < Zt i + Zr i := (tv i k).2 y; have := zt0 i; omega
                    rcases hz i hzr with g | g
                    · exact ⟨g.1, g.2.2⟩
                    · rw [noan] at g; cases g.1
                  · exact ⟨bF1 i (by omega), fun hi => by have := n.le; omega⟩
                · intro i k hi
                  have y := Nat.lt_of_lt_of_le hi n.le
                  have h9 : 0 < Zt i + Zr i := (tv i k).2 y
                  exact anp i hi (by omega)
              | an =>
                intro i k hi
                have y := Nat.lt_of_lt_of_le hi n.le
                exact anp i hi (tv i k y)
            · rw [Bool.and_eq_true] at k
              obtain ⟨a1, a2⟩ := h4 k.2
              have qt := kq k.1
              refine ⟨a1.trans qt.e, pre_of (Nat.le_trans n.le nc.le) fun i ob g1 => ?_, fun i => by rw [a2]; exact qt.f i, qt.z⟩
              have hi := (List.getElem?_eq_some_iff.mp g1).1
              refine nc.fr i ob (pre_get' g1 qt.p) ?_
              have := t2 i hi
              rw [qt.f i] at this
              by_cases y : 0 < Fc i
              · have h8 := hs i
                rw [qt.f i] at h8
                have := (hio k.2).2
                rw [this] at h8
                rw [qt.f i] at h8
                omega
              · omega
      · rw [if_neg hh]; trivial
  · rw [if_neg hna]; trivial
end
def pApp (mask : List Bool) (p : PF) (as : List PArg) : PE := fun e => (evA as e).bind fun avs q e1 => callP mask p avs q e1
theorem AvX.len {S F Z S' σ F' T vs as U} (h : AvX S F Z S' σ F' T vs as U) : vs.length = as.length := by
  induction h with
  | nil _ => rfl
  | v _ _ _ _ ih => rw [List.length_cons, List.length_cons, ih]
  | io _ _ ih => rw [List.length_cons, List.length_cons, ih]
theorem evV_len {p : PE} {r : Env → X (List AVal)} {n : Nat} (hr : ∀ e avs q e1, r e = .ok avs q e1 → avs.length = n) {e : Env} {avs : List AVal} {q : Bool} {e1 : Env} (h : evV p r e = .ok avs q e1) : avs.length = n + 1 := by
  unfold evV at h
  cases hp : p e with
  | bad => rw [hp] at h; cases h
  | exc _ _ _ => rw [hp] at h; cases h
  | ok x q1 e2 =>
    rw [hp] at h
    simp only [xbind_ok] at h
    cases hq : r e2 with
    | bad => rw [hq] at h; cases h
    | exc _ _ _ => rw [hq] at h; cases h
    | ok ys q2 e3 =>
      rw [hq] at h
      simp only [xbind_ok] at h
      split at h
      · cases h; rw [List.length_cons, hr _ _ _ _ hq]
      · cases h
theorem evI_len {pl : Env → Option Plc} {r : Env → X (List AVal)} {n : Nat} (hr : ∀ e avs q e1, r e = .ok avs q e1 → avs.length = n) {e : Env} {avs : List AVal} {q : Bool} {e1 : Env} (h : evI pl r e = .ok avs q e1) : avs.length = n + 1 := by
  unfold evI at h
  split at h
  · cases hq : r e with
    | bad => rw [hq] at h; cases h
    | exc _ _ _ => rw [hq] at h; cases h
    | ok ys q2 e3 =>
      rw [hq] at h
      simp only [xbind_ok] at h
      split at h
      · cases h; rw [List.length_cons, hr _ _ _ _ hq]
      · cases h
  · cases h
theorem evA_len : ∀ {as : List PArg} {e : Env} {avs : List AVal} {q : Bool} {e1 : Env}, evA as e = .ok avs q e1 → avs.length = as.length
  | [], _, _, _, _, h => by cases h; rfl
  | .v p :: r, e, avs, q, e1, h => evV_len (fun _ _ _ _ h => evA_len (as := r) h) h
  | .io pl :: r, e, avs, q, e1, h => evI_len (fun _ _ _ _ h => evA_len (as := r) h) h
  | .d p pl :: r, e, avs, q, e1, h => by
    have h : evD p pl (evA r) e = .ok avs q e1 := h
    unfold evD at h
    split at h
    · exact evI_len (fun _ _ _ _ h => evA_len (as := r) h) h
    · exact evV_len (fun _ _ _ _ h => evA_len (as := r) h) h
theorem je_app {f : Fn} {mask : List Bool} {p : PF} {m : MA} {as : List PArg} {k : Nat} (hf : JF f mask p) (ha : JAr m as) (hn : as.length = k := by rfl) : JE (mApp k f m) (pApp mask p as) := by
  intro S σ e F Z I
  refine Po.bind (ha S σ e F Z I) fun avs q e1 vs S1 F1 Z1 hx n I1 hl kq => ?_
  have h1 : vs.length = k := by obtain ⟨T, av, _⟩ := hl; rw [av.len, evA_len hx, hn]
  rw [if_pos h1]
  exact call_ok hf n I1 hl kq
/-- methods' tables -/
inductive MtR (mask : List Bool) : List (Nat × Fn) → List (Nat × PF) → Prop
  | nil : MtR mask [] []
  | cons {c : Nat} {f : Fn} {p : PF} {r : List (Nat × Fn)} {s : List (Nat × PF)} : JF f mask p → MtR mask r s → MtR mask ((c, f) :: r) ((c, p) :: s)
theorem MtR.get {mask : List Bool} : ∀ {r : List (Nat × Fn)} {s : List (Nat × PF)} {c : Nat} {p : PF}, MtR mask r s → look s c = some p → ∃ f, look r c = some f ∧ JF f mask p
  | _, _, _, _, .nil, h => by cases h
  | _, _, c, p, .cons (c := d) hf hr, h => by
    unfold look at h ⊢
    by_cases z : d = c
    · rw [if_pos z] at h ⊢; cases h; exact ⟨_, rfl, hf⟩
    · rw [if_neg z] at h ⊢; exact hr.get h
def methV (mask : List Bool) (tab : List (Nat × PF)) (p : PE) (as : List PArg) : PE := fun e => (p e).bind fun x q e1 => match x.1 with
  | .ins c _ => (match look tab c with
    | some pf => (evA as e1).bind fun avs q' e2 => if (x.2.st || q') = true then callP mask pf (.v x.1 x.2 :: avs) (q && q') e2 else .bad
    | none => .bad)
  | _ => .bad
def methI (mask : List Bool) (tab : List (Nat × PF)) (pl : Env → Option Plc) (as : List PArg) : PE := fun e => match pl e with
  | some P => (match getPl e P with
    | some (.ins c _) => (match look tab c with
      | some pf => (evA as e).bind fun avs q' e2 => if q' = true then callP mask pf (.io P :: avs) true e2 else .bad
      | none => .bad)
    | _ => .bad)
  | none => .bad
def pMeth (mask : List Bool) (tab : List (Nat × PF)) (r : PArg) (as : List PArg) : PE := fun e => match r with
  | .v p => methV mask tab p as e
  | .io pl => methI mask tab pl as e
  | .d p pl => if isAnX (p e) = true then methI mask tab pl as e else methV mask tab p as e
end Vi
namespace Vi
open PySem PySem.Spec L2 Mi
def outsOf : List Bool → List D → Env → List D
  | true :: bs, _ :: ds, e => (match e with
    | .ow d :: _ => d
    | _ => .hole) :: outsOf bs ds e.tail
  | false :: bs, d :: ds, e => d :: outsOf bs ds e.tail
  | _, _, _ => []
def finP (mask : List Bool) (ds : List D) : XS → RF
  | .rt d o e => .ok d o (outsOf mask ds e)
  | .nx e => .ok .non .fr (outsOf mask ds e)
  | .exc c x e => .exc c x (outsOf mask ds e)
  | _ => .bad
def pFn (n : Nat) (mask : List Bool) (b : PS) : PF := fun ds => finP mask ds (b (wrp mask ds ++ List.replicate (n - ds.length) .no))
def pinsM (k : Nat) : List Bool → List Nat
  | [] => []
  | b :: bs => if b = true then k :: pinsM (k + 1) bs else pinsM (k + 1) bs
theorem pinsM_in : ∀ {mask : List Bool} {k j : Nat}, mask[j]? = some true → k + j ∈ pinsM k mask
  | [], _, _, h => by simp at h
  | b :: bs, k, 0, h => by
    simp at h
    subst h
    unfold pinsM
    rw [if_pos rfl]
    exact List.mem_cons_self
  | b :: bs, k, j + 1, h => by
    have := pinsM_in (k := k + 1) (j := j) (by simpa using h)
    unfold pinsM
    have e : k + (j + 1) = k + 1 + j := by omega
    rw [e]
    split
    · exact List.mem_cons_of_mem _ this
    · exact this
theorem EnvR.app_no {S : Sto} (n : Nat) : ∀ {σ : St} {e : Env} {F Z : Ft}, EnvR S σ e F Z → EnvR S (σ ++ List.replicate n none) (e ++ List.replicate n .no) F Z
  | _, _, _, _, .nil a b => by
    induction n with
    | zero => exact .nil a b
    | succ n ih => rw [List.nil_append, List.nil_append, List.replicate_succ, List.replicate_succ]; exact .no ih
  | _, _, _, _, .no h => .no (h.app_no n)
  | _, _, _, _, .ow r h z => .ow r (h.app_no n) z
  | _, _, _, _, .fz r h z => .fz r (h.app_no n) z
theorem outs_ok {S S' : Sto} : ∀ {mask : List Bool} {vs : List V} {ds : List D} {σ' : St} {e' : Env} {F Z F' Z' : Ft}, EnvR S (vs.map some) (wrp mask ds) F Z → Kp Z S S' → EnvR S' σ' e' F' Z' → (∀ j : Nat, mask[j]? = some true → σ'[j]? = (vs.map some)[j]?) → ds.length = mask.length →
    ∃ F'' : Ft, EnvR S' (vs.map some) (wrp mask (outsOf mask ds e')) F'' Z ∧ ∀ i, F'' i ≤ F' i
  | [], vs, ds, σ', e', F, Z, F', Z', h, kp, h', hp, hl => by
    cases ds with
    | nil =>
      cases vs with
      | nil => cases h with
        | nil a b => exact ⟨fun _ => 0, .nil (fun _ => rfl) b, fun i => by show 0 ≤ _; omega⟩
      | cons _ _ => cases h
    | cons _ _ => cases hl
  | b :: bs, vs, [], _, _, _, _, _, _, _, _, _, _, hl => by cases hl
  | b :: bs, [], d :: ds, _, _, _, _, _, _, h, _, _, _, _ => by
    unfold wrp at h
    cases b <;> cases h
  | true :: bs, v :: vs, d :: ds, σ', e', F, Z, F', Z', h, kp, h', hp, hl => by
    have h : EnvR S (some v :: vs.map some) (.ow d :: wrp bs ds) F Z := h
    cases h with
    | ow r hin z =>
      have hl : ds.length = bs.length := by simpa using hl
      have h0 := hp 0 rfl
      cases h' with
      | nil _ _ => simp at h0
      | @no _ _ o σ e hh =>
        obtain ⟨F2, h2, h3⟩   := outs_ok (mask := bs) (vs := vs) (ds := ds) hin kp hh (fun j hj => by simpa using hp (j + 1) (by simpa using hj)) hl
        exact ⟨F2, .ow (F1 := fun _ => 0) (.hole fun _ => rfl) h2 fun i => by show _ = 0 + _; omega, h3⟩
      | @ow _ Fa Fb _ v' d' σ e r' hh zz =>
        simp at h0
        subst h0
        obtain ⟨F2, h2, h3⟩   := outs_ok (mask := bs) (vs := vs) (ds := ds) hin kp hh (fun j hj => by simpa using hp (j + 1) (by simpa using hj)) hl
        exact ⟨_, .ow r' h2 fun _ => rfl, fun i => by have := h3 i; have := zz i; omega⟩
      | fz r' hh zz =>
        obtain ⟨F2, h2, h3⟩   := outs_ok (mask := bs) (vs := vs) (ds := ds) hin kp hh (fun j hj => by simpa using hp (j + 1) (by simpa using hj)) hl
        exact ⟨F2, .ow (F1 := fun _ => 0) (.hole fun _ => rfl) h2 fun i => by show _ = 0 + _; omega, h3⟩
  | false :: bs, v :: vs, d :: ds, σ', e', F, Z, F', Z', h, kp, h', hp, hl => by
    have h : EnvR S (some v :: vs.map some) (.fz d :: wrp bs ds) F Z := h
    cases h with
    | fz r h z =>
      have hl : ds.length = bs.length := by simpa using hl
      have rr := r.mono (kp.le fun i q => by have := z i; omega)
      cases h' with
      | nil a b =>
        obtain ⟨F2, h2, h3⟩ := outs_ok (mask := bs) (vs := vs) (ds := ds) (σ' := []) (e' := []) h (kp.le fun i q => by have := z i; omega) (.nil a b) (fun j hj => by have := hp (j + 1) (by simpa using hj); simpa using this) hl
        exact ⟨F2, .fz rr h2 z, h3⟩
      | no hh =>
        obtain ⟨F2, h2, h3⟩   := outs_ok (mask := bs) (vs := vs) (ds := ds) h (kp.le fun i q => by have := z i; omega) hh (fun j hj => by simpa using hp (j + 1) (by simpa using hj)) hl
        exact ⟨F2, .fz rr h2 z, h3⟩
      | ow r' hh zz =>
        obtain ⟨F2, h2, h3⟩   := outs_ok (mask := bs) (vs := vs) (ds := ds) h (kp.le fun i q => by have := z i; omega) hh (fun j hj => by simpa using hp (j + 1) (by simpa using hj)) hl
        exact ⟨F2, .fz rr h2 z, fun i => by have := h3 i; have := zz i; omega⟩
      | fz r' hh zz =>
        obtain ⟨F2, h2, h3⟩   := outs_ok (mask := bs) (vs := vs) (ds := ds) h (kp.le fun i q => by have := z i; omega) hh (fun j hj => by simpa using hp (j + 1) (by simpa using hj)) hl
        exact ⟨F2, .fz rr h2 z, h3⟩
theorem map_get_some {vs : List V} {n j : Nat} (h : j < vs.length) : (vs.map some ++ List.replicate n (none : Option V))[j]? = (vs.map some)[j]? := List.getElem?_append_left (by rw [List.length_map]; exact h)
theorem jf_of {n : Nat} {m : MS} {mask : List Bool} {b : PS} (h : JS (pinsM 0 mask) m b) : JF (fnOf n m) mask (pFn n mask b) := by
  intro S vs ds F Z I hl
  have hvl : vs.length = ds.length := by
    have := I.r.len
    rw [List.length_map] at this
    rw [this]
    clear this
    have : ∀ (mask : List Bool) (ds : List D), ds.length = mask.length → (wrp mask ds).length = ds.length := by
      intro mask
      induction mask with
      | nil => intro ds h; cases ds <;> first | rfl | cases h
      | cons b bs ih => intro ds h; cases ds with
        | nil => cases h
        | cons d ds => simp [wrp, ih ds (by simpa using h)]
    exact this mask ds hl
  have I0 : EI S (vs.map some ++ List.replicate (n - vs.length) none) (wrp mask ds ++ List.replicate (n - vs.length) .no) F Z := ⟨I.r.app_no _, I.nd, I.dj⟩
  have hb := h S _ _ F Z I0
  rw [fnOf_ap]
  unfold pFn
  rw [← hvl]
  have dz : ∀ {S' F' Z'}, Nx S F Z S' F' Z' → Kp Z S S' := fun nn => .of_fr nn.fr I.dj I.r.domF
  have pinned : ∀ {σ' : St}, Pin (pinsM 0 mask) (vs.map some ++ List.replicate (n - vs.length) none) σ' → ∀ j : Nat, mask[j]? = some true → σ'[j]? = (vs.map some)[j]? := fun hp j hj => by
    have hj2 := (List.getElem?_eq_some_iff.mp hj).1
    rw [hp j (by have := pinsM_in (k := 0) hj; simpa using this), map_get_some (by omega)]
  have nx2 : ∀ {S' F' Z' F''}, Nx S F Z S' F' Z' → (∀ i, F'' i ≤ F' i) → Nx S F Z S' F'' Z := fun nn hh => ⟨nn.le, nn.fr, fun i => Nat.le_trans (hh i) (nn.nd i), fun i hi => Nat.le_trans (hh i) (nn.sub i hi), fun i _ k => k, fun i k => by
    have := hh i
    obtain ⟨o, e, _⟩ := I.r.domZ i k
    have := nn.sub i (List.getElem?_eq_some_iff.mp e).1
    have := I.dj i k
    omega⟩
  have tg2 : ∀ {S' F' Z' F'' o Fd}, Nx S F Z S' F' Z' → (∀ i, F'' i ≤ F' i) → Tg o S F Z F' Z' Fd → Tg o S F Z F'' Z Fd := fun {S' F' Z' F'' o Fd} nn hh t => by
    cases o with
    | fr => exact ⟨fun i => by have := hh i; have := t.1 i; omega, fun i hi => by have := hh i; have := t.2.1 i hi; omega, fun i k => by
        obtain ⟨o, e, _⟩ := I.r.domZ i k
        have := t.2.1 i (List.getElem?_eq_some_iff.mp e).1
        have := I.dj i k
        omega⟩
    | zn => exact fun i k => ⟨by have := hh i; have := (t i k).1; omega, (t i k).2⟩
    | an => exact t
  cases hx : b (wrp mask ds ++ List.replicate (n - vs.length) .no) with
  | bad => trivial
  | bk e' => trivial
  | ct e' => trivial
  | nx e' =>
    rw [hx] at hb
    obtain ⟨σ', S', hr, F', Z', nn, er, hp⟩ := hb
    rw [hr]
    obtain ⟨F'', h1, h2⟩ := outs_ok I.r (dz nn) er (pinned hp) hl
    exact ⟨.non, S', F'', fun _ => 0, rfl, nx2 nn h2, h1, .non fun _ => rfl, tg_zero (fun _ => rfl) (nx2 nn h2).nd (nx2 nn h2).sub⟩
  | exc c x e' =>
    rw [hx] at hb
    obtain ⟨σ', S', hr, F', Z', nn, er, hp⟩ := hb
    rw [hr]
    obtain ⟨F'', h1, h2⟩ := outs_ok I.r (dz nn) er (pinned hp) hl
    exact ⟨S', F'', rfl, nx2 nn h2, h1⟩
  | rt d o e' =>
    rw [hx] at hb
    obtain ⟨v, S', σ', F', Z', Fd, hr, nn, er, hp, rv, t⟩ := hb
    rw [hr]
    obtain ⟨F'', h1, h2⟩ := outs_ok I.r (dz nn) er (pinned hp) hl
    exact ⟨v, S', F'', Fd, rfl, nx2 nn h2, h1, rv, tg2 nn h2 t⟩
def unC (j : Nat) : XS → XS
  | .nx e => .nx (e.set j .no)
  | .rt d o e => .rt d o e
  | .bk e => .bk (e.set j .no)
  | .ct e => .ct (e.set j .no)
  | _ => .bad
def pTry (b : PS) (sub : Nat → Bool) (j : Nat) (s : PS) : PS := fun e => match b e with
  | .exc c x e1 => if sub c = true then unC j (s (e1.set j (.ow (.exc c x)))) else .exc c x e1
  | r => r
def unB : XS → XS
  | .exc _ _ _ => .bad
  | r => r
def pTryN (b : PS) (sub : Nat → Bool) (s : PS) : PS := fun e => match b e with
  | .exc c x e1 => if sub c = true then unB (s e1) else .exc c x e1
  | r => r
inductive ItD where
  | v (d : D) | t (ds : List D)
inductive ItsR (S : Sto) : List Itv → List ItD → Ft → Prop
  | nil {F : Ft} : Zf F → ItsR S [] [] F
  | v {F F1 F2 : Ft} {x : V} {d : D} {r : List Itv} {s : List ItD} : Rp false S x d F1 → ItsR S r s F2 → (∀ i, F i = F1 i + F2 i) → ItsR S (.v x :: r) (.v d :: s) F
  | t {F F1 F2 : Ft} {xs : List V} {ds : List D} {r : List Itv} {s : List ItD} : RpL false S xs ds F1 → ItsR S r s F2 → (∀ i, F i = F1 i + F2 i) → ItsR S (.t xs :: r) (.t ds :: s) F
theorem ItsR.mono {S S' : Sto} : ∀ {r : List Itv} {s : List ItD} {F : Ft}, ItsR S r s F → Kp F S S' → ItsR S' r s F
  | _, _, _, .nil z, _ => .nil z
  | _, _, _, .v a b z, k => .v (a.mono (k.le fun i q => by have := z i; omega)) (b.mono (k.le fun i q => by have := z i; omega)) z
  | _, _, _, .t a b z, k => .t (a.mono (k.le fun i q => by have := z i; omega)) (b.mono (k.le fun i q => by have := z i; omega)) z
def slI (d : D) : Sl := if imm d = true then .ow d else .fz d
def setIs : List Nat → List D → Env → Option Env
  | [], [], e => some e
  | i :: is, d :: ds, e => setIs is ds (e.set i (slI d))
  | _, _, _ => none
abbrev TgD := ItD → Env → Option Env
def tdName (i : Nat) : TgD := fun it e => match it with
  | .v d => some (e.set i (slI d))
  | .t _ => none
def tdTup (is : List Nat) : TgD := fun it e => match it with
  | .t ds => setIs is ds e
  | .v (.tup ds) => setIs is ds e
  | _ => none
/-- the target does to slots what its function tells -/
inductive ItR (S : Sto) : Itv → ItD → Ft → Prop
  | v {F : Ft} {x : V} {d : D} : Rp false S x d F → ItR S (.v x) (.v d) F
  | t {F : Ft} {xs : List V} {ds : List D} : RpL false S xs ds F → ItR S (.t xs) (.t ds) F
def JG (is : List Nat) (tg : Mi.Tg) (td : TgD) : Prop := ∀ (P : List Nat) (S S' : Sto) (σ0 σ : St) (e e2 : Env) (F Z F' Z' G : Ft) (it : Itv) (itd : ItD), (∀ i ∈ is, i ∉ P) → Nx S F Z S' F' Z' → EI S' σ e F' Z' → Pin P σ0 σ → ItR S' it itd G → Tg .zn S F Z F' Z' G → td itd e = some e2 → ∃ σ2 F2 Z2, tg it σ S' = some σ2 ∧ Nx S F Z S' F2 Z2 ∧ EnvR S' σ2 e2 F2 Z2 ∧ Pin P σ0 σ2 ∧ ∀ j, F2 j ≤ F' j
theorem aft_slI {P : List Nat} {S S' : Sto} {σ0 σ : St} {e' : Env} {F Z F' Z' Fd : Ft} {v : V} {d : D} {i : Nat} (hi : i ∉ P) (n : Nx S F Z S' F' Z') (I : EI S' σ e' F' Z') (pn : Pin P σ0 σ) (r : Rp false S' v d Fd) (t : Tg .zn S F Z F' Z' Fd) : ∃ F2 Z2, Nx S F Z S' F2 Z2 ∧ EnvR S' (σ.set i (some v)) (e'.set i (slI d)) F2 Z2 ∧ Pin P σ0 (σ.set i (some v)) ∧ ∀ j, F2 j ≤ F' j := by
  unfold slI
  by_cases z : imm d = true
  · rw [if_pos z]
    obtain ⟨F2, Z2, r2, hF, hZ⟩ := I.r.setOw i (zero_imm r z)
    have hF : ∀ j, F2 j ≤ F' j + 0 := hF
    refine ⟨F2, Z2, ⟨n.le, n.fr, fun j => by have := hF j; have := I.nd j; omega, fun j hj => by have := hF j; have := n.sub j hj; omega, fun j hj h => n.zs j hj (by have := hZ j; omega), fun j h => ?_⟩, r2, pn.trans (pin_set hi), fun j => by have := hF j; omega⟩
    have := hF j; have := hZ j; have := I.dj j (by omega); omega
  · rw [if_neg z]
    obtain ⟨F2, Z2, r2, hF, hZ⟩ := I.r.setFz i r
    refine ⟨F2, Z2, ⟨n.le, n.fr, fun j => by have := hF j; have := I.nd j; omega, fun j hj => by have := hF j; have := n.sub j hj; omega, fun j hj h => ?_, fun j h => ?_⟩, r2, pn.trans (pin_set hi), hF⟩
    · by_cases y : 0 < Z' j
      · exact n.zs j hj y
      · exact (t j (by have := hZ j; omega)).2 hj
    · have := hF j
      by_cases y : 0 < Z' j
      · have := I.dj j y; omega
      · have := (t j (by have := hZ j; omega)).1; omega
theorem jg_name (i : Nat) : JG [i] (tgName i) (tdName i) := by
  intro P S S' σ0 σ e e2 F Z F' Z' G it itd hi n I pn r t h
  cases r with
  | v r =>
    cases h
    obtain ⟨F2, Z2, n2, r2, p2, hF⟩ := aft_slI (hi i List.mem_cons_self) n I pn r t
    exact ⟨_, F2, Z2, rfl, n2, r2, p2, hF⟩
  | t r => cases h
def pFor1 (tg : TgD) (b : PS) : List ItD → PS
  | [], e => .nx e
  | it :: r, e => match tg it e with
    | some e1 => (match b e1 with
      | .nx e2 => pFor1 tg b r e2
      | .ct e2 => pFor1 tg b r e2
      | .bk e2 => .nx e2
      | x => x)
    | none => .bad
/-- the items, quiet; the flag tells that what is walked is no part of what is owned -/
abbrev PI := Env → X (List ItD × Bool)
def RlI : Rel (List ItD × Bool) Src := fun S F Z S' F' Z' s a => ∃ Fd Fx, ItsR S' s.its a.1 Fd ∧ (∀ i, Fd i ≤ Fx i) ∧ (∀ i, 0 < Fx i → i < S'.length) ∧ (∀ S'', Kp Fx S' S'' → s.chk S'' = true) ∧ (∀ i, 0 < Fx i → i < S.length → 0 < F i + Z i) ∧ (a.2 = true → Tg .zn S F Z F' Z' Fx)
abbrev JI (m : St → Sto → R Src) (p : PI) : Prop := JX RlI m p
def pFor (src : PI) (tg : TgD) (b : PS) : PS := fun e => (src e).lift fun x _ e1 => if x.2 = true then pFor1 tg b x.1 e1 else .bad
section
variable {P : List Nat} {mb : MS} {pb : PS} {is : List Nat} {tg : Mi.Tg} {td : TgD}
theorem for_ok (hg : JG is tg td) (hb : JS P mb pb) (hi : ∀ i ∈ is, i ∉ P) {chk : Sto → Bool} {S0 : Sto} {σ0 : St} {F0 Z0 : Ft} : ∀ {its : List Itv} {itds : List ItD} {S : Sto} {σ : St} {e : Env} {F Z Fd Fx : Ft}, Nx S0 F0 Z0 S F Z → EI S σ e F Z → Pin P σ0 σ → ItsR S its itds Fd → (∀ i, Fd i ≤ Fx i) → (∀ i, 0 < Fx i → i < S.length) → (∀ S', Kp Fx S S' → chk S' = true) → Tg .zn S0 F0 Z0 F Z Fx → PoS P S0 σ0 F0 Z0 (mFor1 chk tg mb its σ S) (pFor1 td pb itds e)
  | _, _, S, σ, e, F, Z, Fd, Fx, n, I, pn, .nil _, hle, hlt, hc, ht => by
    show PoS P S0 σ0 F0 Z0 (if chk S = true then .nx σ S else .bad) (.nx e)
    rw [if_pos (hc S Kp.refl)]
    exact ⟨σ, S, rfl, F, Z, n, I.r, pn⟩
  | it :: r, itd :: s, S, σ, e, F, Z, Fd, Fx, n, I, pn, h, hle, hlt, hc, ht => by
    have key : ∃ G R, ItR S it itd G ∧ ItsR S r s R ∧ (∀ i, Fd i = G i + R i) := by
      cases h with
      | v a b z => exact ⟨_, _, .v a, b, z⟩
      | t a b z => exact ⟨_, _, .t a, b, z⟩
    obtain ⟨G, R, hit, hrest, hz⟩ := key
    unfold mFor1 pFor1
    rw [if_pos (hc S Kp.refl)]
    cases htd : td itd e with
    | none => trivial
    | some e1 =>
      obtain ⟨σ1, F1, Z1, h1, n1, er1, pn1, hF1⟩ := hg P S0 S σ0 σ e e1 F0 Z0 F Z G it itd hi n I pn hit (fun i k => ht i (by have := hz i; have := hle i; omega)) htd
      rw [h1]
      dsimp only
      have hb1 := hb S σ1 e1 F1 Z1 (n1.ei er1)
      have f1 : ∀ i, 0 < Fx i → F1 i = 0 := fun i k => by have := (ht i k).1; have := hF1 i; omega
      have go : ∀ {σ2 S2 e2}, Aft P S σ1 F1 Z1 S2 σ2 e2 → PoS P S0 σ0 F0 Z0 (mFor1 chk tg mb r σ2 S2) (pFor1 td pb s e2) := fun {σ2 S2 e2} ⟨F2, Z2, n2, er2, p2⟩ => by
        have nn := n1.trans n2
        have kx : Kp Fx S S2 := n2.kp er1 f1
        exact for_ok hg hb hi nn (nn.ei er2) (pn1.trans p2) (hrest.mono (kx.le fun i k => by have := hz i; have := hle i; omega)) (fun i => by have := hz i; have := hle i; omega) (fun i k => Nat.lt_of_lt_of_le (hlt i k) n2.le) (fun S' k => hc S' (kx.trans k)) fun i k => ⟨by have := n2.sub i (hlt i k); have := f1 i k; omega, (ht i k).2⟩
      cases hx : pb e1 with
      | nx e2 => rw [hx] at hb1; obtain ⟨σ2, S2, hr, a⟩ := hb1; rw [hr]; exact go a
      | ct e2 => rw [hx] at hb1; obtain ⟨σ2, S2, hr, a⟩ := hb1; rw [hr]; exact go a
      | bk e2 => rw [hx] at hb1; obtain ⟨σ2, S2, hr, a⟩ := hb1; rw [hr]; exact ⟨σ2, S2, rfl, a.tr n1 pn1⟩
      | exc c x e2 => rw [hx] at hb1; obtain ⟨σ2, S2, hr, a⟩ := hb1; rw [hr]; exact ⟨σ2, S2, rfl, a.tr n1 pn1⟩
      | rt d o e2 => rw [hx] at hb1; have hb1 := PoS.after n1 pn1 hb1; obtain ⟨v, S', σ', F', Z', Fd, hr, rest⟩ := hb1; rw [hr]; exact ⟨v, S', σ', F', Z', Fd, rfl, rest⟩
      | bad => trivial
theorem js_for {src : St → Sto → R Src} {psrc : PI} (hs : JI src psrc) (hg : JG is tg td) (hb : JS P mb pb) (hi : ∀ i ∈ is, i ∉ P := by decide) : JS P (mFor src tg mb) (pFor psrc td pb) := fun S σ e F Z I => by
  rw [mFor_ap]
  refine PoS.lift (hs S σ e F Z I) fun ⟨its, ok⟩ q e1 s S1 F1 Z1 hx n I1 ⟨Fd, Fx, h1, h2, h3, h4, _, h5⟩ k => ?_
  by_cases z : ok = true
  · rw [if_pos z]
    exact for_ok hg hb hi n I1 .refl h1 h2 h3 h4 (h5 z)
  · rw [if_neg z]; trivial
end
def okSrc (o : Og) (q : Bool) : Bool := q && o.st
theorem src_zn {S S' : Sto} {F Z F' Z' Fd : Ft} {e e' : Env} {o : Og} {q : Bool} (t : Tg o S F Z F' Z' Fd) (qt : q = true → Qt S e F Z S' e' F' Z') (h : okSrc o q = true) : Tg .zn S F Z F' Z' Fd := by
  unfold okSrc at h
  rw [Bool.and_eq_true] at h
  have hq := qt h.1
  cases o with
  | an => cases h.2
  | zn => exact t
  | fr => exact fun i k => ⟨by have := t.1 i; omega, fun hi => by have := t.2.1 i hi; rw [hq.f i] at this; omega⟩
theorem src_mem {S : Sto} {F Z F' Z' Fd : Ft} {o : Og} (t : Tg o S F Z F' Z' Fd) : ∀ i, 0 < Fd i → i < S.length → 0 < F i + Z i := fun i k hi => by
  cases o with
  | fr => have := t.2.1 i hi; omega
  | zn => have := (t i k).2 hi; omega
  | an => exact t i k hi
def strIts (z : Str) : List ItD := z.cps.toList.map fun c => .v (.str ⟨#[c]⟩)
def itemsD : D → Option (List ItD)
  | .lst xs => some (xs.map .v)
  | .tup xs => some (xs.map .v)
  | .str z => some (strIts z)
  | _ => none
def pWalk (p : PE) : PI := fun e => (p e).bind fun x q e1 => match itemsD x.1 with
  | some its => .ok (its, okSrc x.2 q) q e1
  | none => .bad
theorem its_of {S : Sto} : ∀ {vs : List V} {ds : List D} {F : Ft}, RpL false S vs ds F → ItsR S (vs.map .v) (ds.map .v) F
  | _, _, _, .nil z => .nil z
  | _, _, _, .cons a b z => .v a (its_of b) z
theorem its_str {S : Sto} : ∀ l : List Nat, ItsR S (l.map fun c => .v (.str ⟨#[c]⟩)) (l.map fun c => ItD.v (.str ⟨#[c]⟩)) fun _ => 0
  | [] => .nil fun _ => rfl
  | _ :: l => .v (.str fun _ => rfl) (its_str l) fun _ => rfl
/-- a list as a source's store-side: its place, and the look at it -/
theorem Rp.srcL {S : Sto} {v : V} {xs : List D} {F : Ft} (r : Rp false S v (.lst xs) F) : ∃ i vs Fd, ∃ o : Ob, v = .ref i ∧ (o = .lst vs ∨ o = .lck (.lst vs)) ∧ S[i]? = some o ∧ RpL false S vs xs Fd ∧ (∀ j, Fd j ≤ F j) ∧ ∀ S', Kp F S S' → S'[i]? = some o := by
  cases r with
  | @lst _ F0 i vs _ es r z =>
    rcases es with es | ⟨_, es⟩
    · exact ⟨i, vs, F0, _, rfl, .inl rfl, es, r, fun j => by have := z j; omega, fun S' k => k i _ es (.inl (by have := z i; rw [if_pos rfl] at this; omega))⟩
    · exact ⟨i, vs, F0, _, rfl, .inr rfl, es, r, fun j => by have := z j; omega, fun S' k => k i _ es (.inl (by have := z i; rw [if_pos rfl] at this; omega))⟩
theorem ji_walk {m : ME} {p : PE} (h : JE m p) : JI (mWalk m) (pWalk p) := by
  intro S σ e F Z I
  rw [mWalk_ap]
  refine Po.bind (h S σ e F Z I) fun ⟨d, o⟩ q e1 v S1 F1 Z1 hx n I1 ⟨Fd, r, t⟩ k => ?_
  have r := r.relax
  cases d with
  | lst xs =>
    obtain ⟨i, vs, F0, ob, rfl, ho, es, rv, hle, hkp⟩ := r.srcL
    rcases ho with ho | ho
    · subst ho
      rw [kWalk_lst _ es]
      exact ⟨_, S1, F1, Z1, rfl, n, I1.r, ⟨F0, Fd, its_of rv, hle, fun j y => r.lt y, fun S' kp => decide_eq_true (hkp S' kp), src_mem t, fun hh => src_zn t k hh⟩, k⟩
    · subst ho
      rw [kWalk_lck _ es]
      exact ⟨_, S1, F1, Z1, rfl, n, I1.r, ⟨F0, Fd, its_of rv, hle, fun j y => r.lt y, fun S' kp => decide_eq_true (hkp S' kp), src_mem t, fun hh => src_zn t k hh⟩, k⟩
  | tup xs =>
    obtain ⟨i, vs, rfl, hT, rT, _, _, es⟩ := r.rdT
    rw [kWalk_tup _ es]
    exact ⟨_, S1, F1, Z1, rfl, n, I1.r, ⟨Fd, Fd, its_of rT, fun _ => Nat.le_refl _, fun j y => r.lt y, fun S' kp => decide_eq_true (kp i _ es (.inr (by exact id))), src_mem t, fun hh => src_zn t k hh⟩, k⟩
  | str z =>
    rw [r.inv_str]
    refine ⟨_, S1, F1, Z1, rfl, n, I1.r, ⟨fun _ => 0, fun _ => 0, its_str _, fun _ => Nat.le_refl _, fun j y => absurd y (by simp), fun S' kp => rfl, fun i y => absurd y (by simp), fun hh i y => absurd y (by simp)⟩, k⟩
  | _ => trivial
def intIts (lo : Int) (n : Nat) : List ItD := (List.range n).map fun k => .v (.int (lo + (k : Nat)))
theorem its_int {S : Sto} {lo : Int} : ∀ l : List Nat, ItsR S (l.map fun k => .v (.int (lo + (k : Nat)))) (l.map fun k => ItD.v (.int (lo + (k : Nat)))) fun _ => 0
  | [] => .nil fun _ => rfl
  | _ :: l => .v (.int fun _ => rfl) (its_int l) fun _ => rfl
theorem nat62 {j : Int} (h : j.natAbs < 4611686018427387904) : -(2 ^ 62) ≤ j ∧ j < 2 ^ 62 := by
  have e : (2 : Int) ^ 62 = 4611686018427387904 := by decide +kernel
  rw [e]
  omega
def oneI : List (D × Og) → Option Int
  | [(.int j, _)] => if j.natAbs < 4611686018427387904 then some j else none
  | _ => none
def twoI : List (D × Og) → Option (Int × Int)
  | [(.int i, _), (.int j, _)] => if i.natAbs < 4611686018427387904 ∧ j.natAbs < 4611686018427387904 then some (i, j) else none
  | _ => none
def pRange1 (a : PA) : PI := fun e => (a e).bind fun ds q e1 => match oneI ds with
  | some j => .ok (intIts 0 j.toNat, true) q e1
  | none => .bad
def pRange2 (a : PA) : PI := fun e => (a e).bind fun ds q e1 => match twoI ds with
  | some (i, j) => .ok (intIts i (j - i).toNat, true) q e1
  | none => .bad
theorem RlI.zero {S S1 : Sto} {F Z F1 Z1 : Ft} {its : List Itv} {itds : List ItD} {b : Bool} (h : ItsR S1 its itds fun _ => 0) : RlI S F Z S1 F1 Z1 ⟨its, fun _ => true⟩ (itds, b) := ⟨fun _ => 0, fun _ => 0, h, fun _ => Nat.le_refl _, fun j y => absurd y (by simp), fun S' kp => rfl, fun i y => absurd y (by simp), fun hh i y => absurd y (by simp)⟩
theorem oneI_of {S F Z S' F' T vs ds U} {j : Int} (av : AvR S F Z S' F' T vs ds U) (h : oneI ds = some j) : vs = [.int j] ∧ -(2 ^ 62) ≤ j ∧ j < 2 ^ 62 := by
  unfold oneI at h
  split at h
  · split at h
    · rename_i hz
      cases h
      cases av with
      | cons r _ av _ =>
        cases av
        rw [r.inv_int]
        exact ⟨rfl, nat62 hz⟩
    · cases h
  · cases h
theorem ji_range1 {m : MA} {p : PA} (h : JA m p) : JI (mRange1 m) (pRange1 p) := by
  intro S σ e F Z I
  refine Po.bind (h S σ e F Z I) fun ds q e1 vs S1 F1 Z1 hx n I1 ⟨T, av, t1, t2, t3⟩ k => ?_
  cases ho : oneI ds with
  | none => trivial
  | some j =>
    obtain ⟨rfl, hz⟩ := oneI_of av ho
    dsimp only
    rw [if_pos hz]
    exact ⟨_, S1, F1, Z1, rfl, n, I1.r, .zero (its_int _), k⟩
def enumD : Nat → List D → List ItD
  | _, [] => []
  | n, x :: xs => .t [.int (n : Int), x] :: enumD (n + 1) xs
def pEnum (a : PE) : PI := fun e => (a e).bind fun x q e1 => match x.1 with
  | .lst xs => .ok (enumD 0 xs, okSrc x.2 q) q e1
  | _ => .bad
def zipD : List D → List D → List ItD
  | x :: xs, y :: ys => .t [x, y] :: zipD xs ys
  | _, _ => []
def pZip (a b : PE) : PI := fun e => (a e).bind fun x q e1 => (b e1).bind fun y q' e2 => if (q && q') = true then (match x.1, y.1 with
  | .lst xs, .lst ys => .ok (zipD xs ys, okSrc x.2 true && okSrc y.2 true) true e2
  | _, _ => .bad) else .bad
end Vi
namespace Vi
open PySem PySem.Spec L2 Mi
def frz1 : Sl → Sl
  | .ow d => .fz d
  | s => s
def frzAll (e : Env) : Env := e.map frz1
theorem EnvR.frz {S : Sto} : ∀ {σ : St} {e : Env} {F Z : Ft}, EnvR S σ e F Z → EnvR S σ (frzAll e) (fun _ => 0) (fun i => F i + Z i)
  | _, _, _, _, .nil a b => .nil (fun _ => rfl) fun i => by show _ + _ = 0; rw [a, b]
  | _, _, _, _, .no h => .no h.frz
  | _, _, _, _, .ow (F1 := A) (F2 := B) (Z := Z) r h z => .fz r.weak h.frz fun i => by have := z i; show _ + Z i = A i + (B i + Z i); omega
  | _, _, F, _, .fz (Z1 := A) (Z2 := B) r h z => .fz r h.frz fun i => by have := z i; show F i + _ = A i + (F i + B i); omega
theorem EI.frz {S : Sto} {σ : St} {e : Env} {F Z : Ft} (I : EI S σ e F Z) : EI S σ (frzAll e) (fun _ => 0) (fun i => F i + Z i) := ⟨I.r.frz, fun _ => by omega, fun _ _ => rfl⟩
def wipeE (e : Env) : List Nat → Env
  | [] => e
  | v :: vs => (wipeE e vs).set v .no
def lcGoD (td : TgD) (c : PT) (p : PE) (e0 : Env) : List ItD → List D → Option (List D)
  | [], acc => some acc
  | it :: r, acc => (td it e0).bind fun e1 => match c e1 with
    | .ok b true e2 => if b = true then (match p e2 with
      | .ok (d, .fr) true _ => if acc.length < sizeLine then lcGoD td c p e0 r (acc ++ [d]) else none
      | _ => none) else lcGoD td c p e0 r acc
    | _ => none
def pLc (src : PI) (own : List Nat) (td : TgD) (c : PT) (p : PE) : PE := fun e => match src (frzAll e) with
  | .ok x true _ => (match lcGoD td c p (wipeE (frzAll e) own) x.1 [] with
    | some ds => .ok (.lst ds, .fr) true e
    | none => .bad)
  | _ => .bad
def pYes : PT := fun e => .ok true true e
def truD : D → Option Bool
  | .non => some false
  | .bl b => some b
  | .int i => some (i != 0)
  | .str y => if y.length ≤ sizeLine then some ((y.length : Int) != 0) else none
  | .lst xs => some (!xs.isEmpty)
  | .tup xs => some (!xs.isEmpty)
  | _ => none
def pTru (a : PE) : PT := fun e => (a e).bind fun x q e1 => match truD x.1 with
  | some b => .ok b q e1
  | none => .bad
theorem Res.done {S S1 S2 : Sto} {σ : St} {e e1 : Env} {F Z F1 Z1 : Ft} {r : D} {x : R V} {q : Bool} (n : Nx S F Z S1 F1 Z1) (I1 : EI S1 σ e1 F1 Z1) (k : q = true → Qt S e F Z S1 e1 F1 Z1) (h : Res S1 r x) : Po RlE S σ e F Z x (.ok (r, .fr) q e1) := by
  obtain ⟨v, S', Fd, hr, hp, rp, hf, h1⟩ := h
  refine ⟨v, S', F1, Z1, hr, n.trans (nx_pre I1 hp), I1.r.mono (.pre hp), ⟨Fd, rp, fun i => ?_, fun i hi => ?_, fun i hi => ?_⟩, fun hk => (k hk).trans ⟨rfl, hp, fun _ => rfl, fun _ => rfl⟩⟩
  · by_cases z : 0 < Fd i
    · have := hf i z; have := I1.r.boundF (i := i) (by omega); have := h1 i; omega
    · have := I1.nd i; omega
  · have : Fd i = 0 := Nat.eq_zero_of_not_pos fun y => by have := hf i y; have := n.le; omega
    have := n.sub i hi
    omega
  · exact Nat.eq_zero_of_not_pos fun y => by have := hf i y; have := I1.r.boundZ (i := i) (by omega); omega
theorem Res.two {o : V → V → Sto → R V} {p : D → D → Option D} (h : JO (o2 o) (p2 p)) {S : Sto} {x y : V} {d e r : D} {F G : Ft} (a : Rp false S x d F) (b : Rp false S y e G) (hp : p d e = some r) : Res S r (o x y S) := h S [x, y] [d, e] _ (.cons a (.cons b (.nil (F := fun _ => 0) fun _ => rfl) fun _ => rfl) fun _ => rfl) r hp
def JOm (o : Mth) (p : List D → Option D) : Prop := ∀ S x xs d ds G, RpL false S (x :: xs) (d :: ds) G → ∀ r, p (d :: ds) = some r → Res S r (o x xs S)
def tyD (Ty : String) : D → Bool
  | .str _ => Ty == "str"
  | .lst _ => Ty == "list"
  | .dk _ => Ty == "dict"
  | _ => false
theorem tyD_of {Ty : String} {S : Sto} {w : Bool} {v : V} {d : D} {F : Ft} (r : Rp w S v d F) (h : tyD Ty d = true) : tyS Ty S v = true := by
  cases r with
  | lst e _ _ => rcases e with e | e <;> first | (simp only [tyS, e]; exact h) | (simp only [tyS, e.2]; exact h)
  | dk e _ _ _ => rcases e with e | e <;> first | (simp only [tyS, e]; exact h) | (simp only [tyS, e.2]; exact h)
  | str _ => exact h
  | _ => cases h
def pBq (Ty : String) (p : List D → Option D) (a : PE) (as : PA) : PE := fun e => (a e).bind fun x q e1 => if tyD Ty x.1 = true then (as e1).bind fun ds q' e2 => if (x.2.st || q') = true then pOf (q && q') e2 (p (x.1 :: ds.map (·.1))) else .bad else .bad
theorem je_bq {Ty : String} {o : Mth} {p : List D → Option D} {m : ME} {a : PE} {ms : MA} {as : PA} (ho : JOm o p) (h : JE m a) (hs : JA ms as) : JE (mBM Ty o m ms) (pBq Ty p a as) := by
  intro S σ e F Z I
  rw [mBM_ap]
  refine Po.bind (h S σ e F Z I) fun ⟨d, og⟩ q e1 v S1 F1 Z1 hx n I1 ⟨Fd, r, t⟩ k => ?_
  by_cases hty : tyD Ty d = true
  · rw [if_pos hty, if_pos (tyD_of r hty)]
    have h2 := hs S1 σ e1 F1 Z1 I1
    cases hy : as e1 with
    | bad => trivial
    | exc c x e2 => rw [hy] at h2; obtain ⟨S', F', Z', hr, hn, he⟩ := h2; rw [hr]; exact ⟨S', F', Z', rfl, n.trans hn, he⟩
    | ok ds q' e2 =>
      rw [hy] at h2
      obtain ⟨vs, S2, F2, Z2, hr, n2, er2, ⟨T, av, t1, t2, t3⟩, k2⟩ := h2
      rw [hr]
      simp only [bind_ok, xbind_ok]
      by_cases z : (og.st || q') = true
      · rw [if_pos z]
        have rv : Rp false S2 v d Fd := by
          cases og with
          | an => exact r.relax.mono (.pre (k2 (by simpa using z)).p)
          | fr => exact (r.mono (n2.kp I1.r fun i k => by have := t.1 i; omega)).relax
          | zn => exact (r.mono (n2.kp I1.r fun i k => (t i k).1)).relax
        obtain ⟨G, g⟩ := av.rpl
        cases hp : p (d :: ds.map (·.1)) with
        | none => trivial
        | some x => exact Res.done (S2 := S2) (n.trans n2) (n2.ei er2) (fun hq => by rw [Bool.and_eq_true] at hq; exact (k hq.1).trans (k2 hq.2)) (ho S2 v vs d _ _ (.cons rv g fun _ => rfl) x hp)
      · rw [if_neg z]; trivial
  · rw [if_neg hty]; trivial
def qCount : List D → Option D
  | [.lst xs, y] => match scal y, allSome (xs.map scal) with
    | some v, some vs => some (.int (vs.countP fun z => eqV z v : Nat))
    | _, _ => none
  | _ => none
theorem jom_count : JOm oCount qCount := fun S x xs d ds G g r h => by
  unfold qCount at h
  split at h
  · rename_i e0
    cases e0
    split at h
    · rename_i v us e1 e2
      cases h
      obtain ⟨x, u, F, F', e, a, b⟩ := g.two
      cases e
      obtain ⟨rfl, f1⟩ := b.scal e1
      obtain ⟨i, vs, G1, rfl, h1, r1, _⟩ := a.rdL
      obtain ⟨rfl, f2⟩ := r1.scal e2
      rw [oCount_of S h1 f1 f2]
      exact .int
    · cases h
  · cases h
def makeP (mask : List Bool) (p : PF) (c l : Nat) (as : List AVal) (q : Bool) (e : Env) : X (D × Og) :=
  if (as.all fun a => !isIo a) = true ∧ mask.all (fun b => !b) = true then (match prep mask as e with
    | some (ds, _) => (match p (.ins c (List.replicate l .hole) :: ds) with
      | .ok .non _ (o :: _) => .ok (o, .fr) q e
      | .exc c x _ => .exc c x e
      | _ => .bad)
    | none => .bad) else .bad
/-- C(..): the arguments stay as they are -/
def pMake (c l : Nat) (mask : List Bool) (p : PF) (as : List PArg) : PE := fun e => (evA as e).bind fun avs q e1 => makeP mask p c l avs q e1
end Vi
namespace Vi
open PySem PySem.Spec L2 Mi
/-- what becomes of a slot: frozen and back (j), as it was (k), whatever it is (o) -/
inductive Kd where
  | j | k | o
def frzL : List Kd → Env → Env
  | .j :: ks, .ow d :: e => .fz d :: frzL ks e
  | _ :: ks, s :: e => s :: frzL ks e
  | _, e => e
def kil : Sl → Sl
  | .fz d => if imm d = true then .ow d else .no
  | s => s
def thaw1 : Option Kd → Option Sl → Sl → Sl
  | some .j, some (.ow d), _ => .ow d
  | some .k, some (.fz d), _ => .fz d
  | some .j, some (.fz d), _ => .fz d
  | _, _, s => kil s
def thawL : List Kd → Env → Env → Env
  | ks, e0, s :: e => thaw1 ks.head? e0.head? s :: thawL ks.tail e0.tail e
  | _, _, [] => []
def thawS (ks : List Kd) (e0 : Env) : XS → XS
  | .nx e => .nx (thawL ks e0 e)
  | .bk e => .bk (thawL ks e0 e)
  | .ct e => .ct (thawL ks e0 e)
  | .exc c x e => .exc c x (thawL ks e0 e)
  | .rt d o e => .rt d (match o with
    | .fr => .fr
    | _ => .an) (thawL ks e0 e)
  | .bad => .bad
def pFz (ks : List Kd) (b : PS) : PS := fun e => thawS ks e (b (frzL ks e))
section
variable {S S' : Sto}
/-- what B of it all is, given back -/
inductive Bk (S : Sto) : List Kd → St → Env → Ft → Ft → Prop
  | end_ {ks : List Kd} {B Zk : Ft} : Zf B → Zf Zk → Bk S ks [] [] B Zk
  | out {σ : St} {e : Env} {B Zk : Ft} : Zf B → Zf Zk → Bk S [] σ e B Zk
  | j {ks : List Kd} {σ : St} {e : Env} {v : V} {d : D} {A B B' Zk : Ft} : Rp true S v d A → Bk S ks σ e B Zk → (∀ i, B' i = A i + B i) → Bk S (.j :: ks) (some v :: σ) (.ow d :: e) B' Zk
  | k {kd : Kd} {ks : List Kd} {σ : St} {e : Env} {v : V} {d : D} {A B Zk Zk' : Ft} : kd ≠ .o → Rp false S v d A → Bk S ks σ e B Zk → (∀ i, Zk' i = A i + Zk i) → Bk S (kd :: ks) (some v :: σ) (.fz d :: e) B Zk'
  | other {kd : Kd} {ks : List Kd} {σ : St} {e : Env} {o : Option V} {s : Sl} {B Zk : Ft} : (∀ d, ¬ (kd = .j ∧ s = .ow d)) → (∀ d, ¬ (kd ≠ .o ∧ s = .fz d)) → Bk S ks σ e B Zk → Bk S (kd :: ks) (o :: σ) (s :: e) B Zk
theorem Bk.mono {ks : List Kd} {σ : St} {e : Env} {B Zk : Ft} (h : Bk S ks σ e B Zk) : Kp (fun i => B i + Zk i) S S' → Bk S' ks σ e B Zk := by
  induction h with
  | end_ a b => intro _; exact .end_ a b
  | out a b => intro _; exact .out a b
  | @j ks σ e v d A B B' Zk r _ z ih => intro kp; exact .j (r.mono (kp.le fun i q => by have := z i; show 0 < B' i + Zk i; omega)) (ih (kp.le fun i q => by have := z i; have q : 0 < B i + Zk i := q; show 0 < B' i + Zk i; omega)) z
  | @k kd ks σ e v d A B Zk Zk' hk r _ z ih => intro kp; exact .k hk (r.mono (kp.le fun i q => by have := z i; show 0 < B i + Zk' i; omega)) (ih (kp.le fun i q => by have := z i; have q : 0 < B i + Zk i := q; show 0 < B i + Zk' i; omega)) z
  | other a b _ ih => intro kp; exact .other a b (ih kp)
theorem EnvR.bk : ∀ {ks : List Kd} {σ : St} {e : Env} {F Z : Ft}, EnvR S σ e F Z → ∃ A B Zk : Ft, EnvR S σ (Vi.frzL ks e) A (fun i => Z i + B i) ∧ (∀ i, F i = A i + B i) ∧ Bk S ks σ e B Zk ∧ ∀ i, Zk i ≤ Z i
  | [], σ, e, F, Z, h => by
    have e1 : Vi.frzL [] e = e := by cases e <;> rfl
    rw [e1]
    exact ⟨F, fun _ => 0, fun _ => 0, h, fun i => by show _ = F i + 0; omega, .out (fun _ => rfl) (fun _ => rfl), fun i => by show 0 ≤ _; omega⟩
  | k :: ks, _, _, F, Z, .nil a b => ⟨F, fun _ => 0, fun _ => 0, by cases k <;> exact .nil a b, fun i => by show _ = F i + 0; omega, .end_ (fun _ => rfl) (fun _ => rfl), fun i => by show 0 ≤ _; omega⟩
  | k :: ks, _, _, F, Z, .no h => by
    obtain ⟨A, B, Zk, h1, h2, h3, h4⟩ := h.bk (ks := ks)
    exact ⟨A, B, Zk, by cases k <;> exact .no h1, h2, .other (fun d q => by cases q.2) (fun d q => by cases q.2) h3, h4⟩
  | .j :: ks, _, _, F, Z, .ow (F1 := C) r h z => by
    obtain ⟨A, B, Zk, h1, h2, h3, h4⟩ := h.bk (ks := ks)
    exact ⟨A, fun i => C i + B i, Zk, .fz r.weak h1 fun i => by show Z i + (C i + B i) = C i + (Z i + B i); omega, fun i => by have := z i; have := h2 i; show F i = A i + (C i + B i); omega, .j r h3 fun _ => rfl, h4⟩
  | .k :: ks, _, _, F, Z, .ow (F1 := C) r h z => by
    obtain ⟨A, B, Zk, h1, h2, h3, h4⟩ := h.bk (ks := ks)
    exact ⟨fun i => C i + A i, B, Zk, .ow r h1 fun _ => rfl, fun i => by have := z i; have := h2 i; show F i = C i + A i + B i; omega, .other (fun d q => by cases q.1) (fun d q => by cases q.2) h3, h4⟩
  | .o :: ks, _, _, F, Z, .ow (F1 := C) r h z => by
    obtain ⟨A, B, Zk, h1, h2, h3, h4⟩ := h.bk (ks := ks)
    exact ⟨fun i => C i + A i, B, Zk, .ow r h1 fun _ => rfl, fun i => by have := z i; have := h2 i; show F i = C i + A i + B i; omega, .other (fun d q => by cases q.1) (fun d q => by cases q.2) h3, h4⟩
  | .j :: ks, _, _, F, Z, .fz (Z1 := C) (Z2 := E) r h z => by
    obtain ⟨A, B, Zk, h1, h2, h3, h4⟩ := h.bk (ks := ks)
    exact ⟨A, B, fun i => C i + Zk i, .fz r h1 fun i => (by have := z i; show Z i + B i = C i + (E i + B i); omega), h2, .k (by intro h; cases h) r h3 fun _ => rfl, fun i => by have := h4 i; have := z i; show C i + Zk i ≤ _; omega⟩
  | .o :: ks, _, _, F, Z, .fz (Z1 := C) (Z2 := E) r h z => by
    obtain ⟨A, B, Zk, h1, h2, h3, h4⟩ := h.bk (ks := ks)
    exact ⟨A, B, Zk, .fz r h1 fun i => (by have := z i; show Z i + B i = C i + (E i + B i); omega), h2, .other (fun d q => by cases q.1) (fun d q => (q.1 rfl).elim) h3, fun i => by have := h4 i; have := z i; omega⟩
  | .k :: ks, _, _, F, Z, .fz (Z1 := C) (Z2 := E) r h z => by
    obtain ⟨A, B, Zk, h1, h2, h3, h4⟩ := h.bk (ks := ks)
    exact ⟨A, B, fun i => C i + Zk i, .fz r h1 fun i => (by have := z i; show Z i + B i = C i + (E i + B i); omega), h2, .k (by intro h; cases h) r h3 fun _ => rfl, fun i => by have := h4 i; have := z i; show C i + Zk i ≤ _; omega⟩
end
/-- what is walked: the keys of a dict, or the items -/
def itemsK : D → Option (List ItD)
  | .dk kds => some (kds.map fun kv => .v (kD kv.1))
  | d => itemsD d
def pWk (its : D → Option (List ItD)) (p : PE) : PI := fun e => (p e).bind fun x q e1 => match its x.1 with
  | some l => .ok (l, okSrc x.2 q) q e1
  | none => .bad
/-- a walk over a dict that is frozen, or of its own -/
def pForK (p : PE) (its : D → Option (List ItD)) (tg : TgD) (b : PS) : PS := fun e => match p e with
  | .ok (d, o) _ _ => if (isK d && !o.st) = true then .bad else pFor (pWk its p) tg b e
  | _ => .bad
end Vi
namespace Vi
open PySem PySem.Spec L2 Mi
def evP : List (PE × PE) → Env → Option (List (Key × D))
  | [], _ => some []
  | (k, v) :: r, e => match k e, v e with
    | .ok (a, _) true _, .ok (b, .fr) true _ => if imm b = true then (keyD a).bind fun kk => (evP r e).map fun l => (kk, b) :: l else none
    | _, _ => none
def pDisp (r : List (PE × PE)) : PE := fun e => match evP r e with
  | some kds => if kds.length ≤ 15 then .ok (.dk (mergeD [] kds), .fr) true e else .bad
  | none => .bad
def dMulL : D → D → Option D
  | .lst xs, .int k => if -(2 ^ 63) ≤ k ∧ k < 2 ^ 63 ∧ xs.length * k.toNat ≤ sizeLine ∧ xs.all imm = true then some (.lst (List.replicate k.toNat xs).flatten) else none
  | x, y => dMul x y
/-- the first one strict -/
def pBinS (p : D → D → Option D) (a b : PE) : PE := fun e => (a e).bind fun x q e1 => (b e1).bind fun y q' e2 => if x.2.own = true then pOf (q && q') e2 (p x.1 y.1) else .bad
end Vi
namespace Vi
open PySem PySem.Spec L2 Mi
/-- what the trees tell of the law, the machine tells -/
theorem run_law {f : Fn} {p : PF} (hf : JF f [false] p) {ns : List Int} (h : ∃ o outs, p [.lst (ns.map .int)] = .ok (.bl true) o outs) : ∃ S, f [.ref 0] [.lck (.lst (ns.map V.int))] = .ok (.bl true) S := by
  obtain ⟨o, outs, h⟩ := h
  have r : Rp false [Ob.lck (.lst (ns.map V.int))] (.ref 0) (.lst (ns.map .int)) (one 0) := .lst (F1 := fun _ => 0) (.inr ⟨rfl, rfl⟩) (ints_rpl ns) fun _ => rfl
  have I : EI [Ob.lck (.lst (ns.map V.int))] ([V.ref 0].map some) (wrp [false] [.lst (ns.map .int)]) (fun _ => 0) (one 0) := ⟨.fz r (.nil (Z := fun _ => 0) (fun _ => rfl) fun _ => rfl) fun i => by omega, fun _ => by omega, fun _ _ => rfl⟩
  have k := hf _ [.ref 0] [.lst (ns.map .int)] _ _ I rfl
  rw [h] at k
  obtain ⟨v, S', F', Fd, hr, n, er, rv, t⟩ := k
  have rv := rv.relax
  rw [rv.inv_bl] at hr
  exact ⟨S', hr⟩
section
variable (e : Env)
@[simp] theorem pC_ap (d : D) : pC d e = .ok (d, .fr) true e := rfl
@[simp] theorem pVar_ow {i : Nat} {d : D} (h : e[i]? = some (.ow d)) : pVar i e = .ok (d, tagI d .an) true e := by unfold pVar; rw [h]
@[simp] theorem pNil_ap : pNil e = .ok [] true e := rfl
@[simp] theorem pCons_ap (a : PE) (r : PA) : pCons a r e = (a e).bind fun d q e1 => (r e1).bind fun ds q' e2 => if (d.2.st || q') = true then .ok (d :: ds) (q && q') e2 else .bad := rfl
@[simp] theorem pUn_ap (p : D → Option D) (a : PE) : pUn p a e = (a e).bind fun x q e1 => pOf q e1 (p x.1) := rfl
@[simp] theorem pBin_ap (p : D → D → Option D) (a b : PE) : pBin p a b e = (a e).bind fun x q e1 => (b e1).bind fun y q' e2 => if (x.2.st || q') = true then pOf (q && q') e2 (p x.1 y.1) else .bad := rfl
@[simp] theorem pBinS_ap (p : D → D → Option D) (a b : PE) : pBinS p a b e = (a e).bind fun x q e1 => (b e1).bind fun y q' e2 => if x.2.own = true then pOf (q && q') e2 (p x.1 y.1) else .bad := rfl
def kCall (p : List D → Option D) : List (D × Og) → Bool → Env → X (D × Og) := fun ds q e' => match p (ds.map (·.1)) with
  | some r => .ok (r, .fr) q e'
  | none => .bad
@[simp] theorem pCall_ap (p : List D → Option D) (a : PA) : pCall p a e = (a e).bind (kCall p) := rfl
theorem kCall_ap (p : List D → Option D) (ds : List (D × Og)) (q : Bool) : kCall p ds q e = pOf q e (p (ds.map (·.1))) := by
  unfold kCall
  cases p (ds.map (·.1)) <;> rfl
def kSel (t : D → Og) (q : Bool) (e : Env) : Option D → X (D × Og)
  | some r => .ok (r, t r) q e
  | none => .bad
@[simp] theorem kSel_some (t : D → Og) (q : Bool) (d : D) : kSel t q e (some d) = .ok (d, t d) q e := rfl
@[simp] theorem kSel_none (t : D → Og) (q : Bool) : kSel t q e none = .bad := rfl
theorem pSel2_ap (p : D → D → Option D) (a b : PE) : pSel2 p a b e = (a e).bind fun x q e1 => (b e1).bind fun y q' e2 => if (x.2.st || q') = true then kSel (fun r => selT r [x]) (q && q') e2 (p x.1 y.1) else .bad := by
  unfold pSel2
  congr 1
theorem pSel1_ap (p : D → Option D) (a : PE) : pSel1 p a e = (a e).bind fun x q e1 => kSel (fun r => selT r [x]) q e1 (p x.1) := by
  unfold pSel1
  congr 1
@[simp] theorem selT_zn (r d : D) (l : List (D × Og)) : selT r ((d, .zn) :: l) = tagI r .zn := rfl
@[simp] theorem selT_an (r d : D) (l : List (D × Og)) : selT r ((d, .an) :: l) = tagI r .an := rfl
@[simp] theorem selT_fr (r d : D) (l : List (D × Og)) : selT r ((d, .fr) :: l) = tagI r .an := rfl
@[simp] theorem own_fr : Og.fr.own = true := rfl
@[simp] theorem own_zn : Og.zn.own = false := rfl
@[simp] theorem own_an : Og.an.own = false := rfl
@[simp] theorem imm_int (i : Int) : imm (.int i) = true := rfl
@[simp] theorem imm_bl (i : Bool) : imm (.bl i) = true := rfl
@[simp] theorem imm_str (i : Str) : imm (.str i) = true := rfl
@[simp] theorem imm_non : imm .non = true := rfl
@[simp] theorem imm_exc (c : Nat) (x : Option V) : imm (.exc c x) = true := rfl
@[simp] theorem imm_lst (xs : List D) : imm (.lst xs) = false := rfl
@[simp] theorem imm_dk (xs : List (Key × D)) : imm (.dk xs) = false := rfl
@[simp] theorem imm_ins (c : Nat) (xs : List D) : imm (.ins c xs) = false := rfl
@[simp] theorem imm_hole : imm .hole = false := rfl
@[simp] theorem imm_tup (xs : List D) : imm (.tup xs) = xs.all imm := by unfold imm; exact immL_all xs
def kAndP (b : PE) : D × Og → Bool → Env → X (D × Og) := fun x q e1 => match x.1 with
  | .bl true => (b e1).qq q
  | .bl false => .ok (.bl false, .fr) q e1
  | _ => .bad
def kOrP (b : PE) : D × Og → Bool → Env → X (D × Og) := fun x q e1 => match x.1 with
  | .bl true => .ok (.bl true, .fr) q e1
  | .bl false => (b e1).qq q
  | _ => .bad
@[simp] theorem pAndV_ap (a b : PE) : pAndV a b e = (a e).bind (kAndP b) := rfl
@[simp] theorem pOrV_ap (a b : PE) : pOrV a b e = (a e).bind (kOrP b) := rfl
@[simp] theorem kAndP_bl (b : PE) (x : Bool) (o : Og) (q : Bool) : kAndP b (.bl x, o) q e = if x = true then (b e).qq q else .ok (.bl false, .fr) q e := by cases x <;> rfl
@[simp] theorem kOrP_bl (b : PE) (x : Bool) (o : Og) (q : Bool) : kOrP b (.bl x, o) q e = if x = true then .ok (.bl true, .fr) q e else (b e).qq q := by cases x <;> rfl
def kBP : D × Og → Bool → Env → X Bool := fun x q e1 => match x.1 with
  | .bl b => .ok b q e1
  | _ => .bad
@[simp] theorem pB_ap (a : PE) : pB a e = (a e).bind kBP := rfl
@[simp] theorem kBP_bl (b : Bool) (o : Og) (q : Bool) : kBP (.bl b, o) q e = .ok b q e := rfl
@[simp] theorem pNot_ap (a : PT) : pNot a e = (a e).bind fun x q e1 => .ok (!x) q e1 := rfl
@[simp] theorem pAnd_ap (a b : PT) : pAnd a b e = (a e).bind fun x q e1 => if x = true then (b e1).qq q else .ok false q e1 := rfl
@[simp] theorem pOr_ap (a b : PT) : pOr a b e = (a e).bind fun x q e1 => if x = true then .ok true q e1 else (b e1).qq q := rfl
@[simp] theorem pIf_ap (c : PT) (a b : PE) : pIf c a b e = (c e).bind fun x q e1 => if x = true then (a e1).qq q else (b e1).qq q := rfl
@[simp] theorem pYes_ap : pYes e = .ok true true e := rfl
def kTru : D × Og → Bool → Env → X Bool := fun x q e1 => match truD x.1 with
  | some b => .ok b q e1
  | none => .bad
@[simp] theorem pTru_ap (a : PE) : pTru a e = (a e).bind kTru := rfl
@[simp] theorem kTru_lst (xs : List D) (o : Og) (q : Bool) : kTru (.lst xs, o) q e = .ok (!xs.isEmpty) q e := rfl
@[simp] theorem kTru_bl (b : Bool) (o : Og) (q : Bool) : kTru (.bl b, o) q e = .ok b q e := rfl
def kLstP : List (D × Og) → Bool → Env → X (D × Og) := fun ds q e' => if ds.length ≤ sizeLine then .ok (.lst (ds.map (·.1)), tagL ds) q e' else .bad
def kTupP : List (D × Og) → Bool → Env → X (D × Og) := fun ds q e' => if ds.length ≤ sizeLine then .ok (.tup (ds.map (·.1)), tagL ds) q e' else .bad
@[simp] theorem pLst_ap (a : PA) : pLst a e = (a e).bind kLstP := rfl
@[simp] theorem pTup_ap (a : PA) : pTup a e = (a e).bind kTupP := rfl
@[simp] theorem pDict0_ap : pDict0 e = .ok (.dk [], .fr) true e := rfl
@[simp] theorem pSkip_ap : pSkip e = .nx e := rfl
@[simp] theorem pSeq_ap (a b : PS) : pSeq a b e = (a e).seq b := rfl
@[simp] theorem pExpr_ap (a : PE) : pExpr a e = (a e).lift fun _ _ e1 => .nx e1 := rfl
def kSet (i : Nat) : D × Og → Bool → Env → XS := fun x _ e1 => match x.2 with
  | .fr => .nx (e1.set i (.ow x.1))
  | .zn => .nx (e1.set i (.fz x.1))
  | .an => .bad
@[simp] theorem pSet_ap (i : Nat) (a : PE) : pSet i a e = (a e).lift (kSet i) := rfl
@[simp] theorem kSet_fr (i : Nat) (d : D) (q : Bool) : kSet i (d, .fr) q e = .nx (e.set i (.ow d)) := rfl
@[simp] theorem kSet_zn (i : Nat) (d : D) (q : Bool) : kSet i (d, .zn) q e = .nx (e.set i (.fz d)) := rfl
@[simp] theorem pRet_ap (a : PE) : pRet a e = (a e).lift fun x _ e1 => .rt x.1 x.2 e1 := rfl
@[simp] theorem pRetN_ap : pRetN e = .rt .non .fr e := rfl
@[simp] theorem pBrk_ap : pBrk e = .bk e := rfl
@[simp] theorem pIfS_ap (c : PT) (a b : PS) : pIfS c a b e = (c e).lift fun x _ e1 => if x = true then a e1 else b e1 := rfl
@[simp] theorem pAug_ap (i : Nat) (o : D → D → Option D) (a : PE) : pAug i o a e = pSet i (pBin o (pVar i) a) e := rfl
def kCat (sub : Nat → Bool) (j : Nat) (s : PS) : XS → XS
  | .exc c x e1 => if sub c = true then unC j (s (e1.set j (.ow (.exc c x)))) else .exc c x e1
  | r => r
@[simp] theorem pTry_ap (b : PS) (sub : Nat → Bool) (j : Nat) (s : PS) : pTry b sub j s e = kCat sub j s (b e) := by
  unfold pTry kCat
  cases b e <;> rfl
@[simp] theorem kCat_nx (sub : Nat → Bool) (j : Nat) (s : PS) : kCat sub j s (.nx e) = .nx e := rfl
@[simp] theorem kCat_rt (sub : Nat → Bool) (j : Nat) (s : PS) (d : D) (o : Og) : kCat sub j s (.rt d o e) = .rt d o e := rfl
@[simp] theorem kCat_exc (sub : Nat → Bool) (j : Nat) (s : PS) (c : Nat) (x : Option V) : kCat sub j s (.exc c x e) = if sub c = true then unC j (s (e.set j (.ow (.exc c x)))) else .exc c x e := rfl
@[simp] theorem unC_nx (j : Nat) : unC j (.nx e) = .nx (e.set j .no) := rfl
@[simp] theorem unC_rt (j : Nat) (d : D) (o : Og) : unC j (.rt d o e) = .rt d o e := rfl
@[simp] theorem pFn_ap (n : Nat) (mask : List Bool) (b : PS) (ds : List D) : pFn n mask b ds = finP mask ds (b (wrp mask ds ++ List.replicate (n - ds.length) .no)) := rfl
@[simp] theorem finP_rt (mask : List Bool) (ds : List D) (d : D) (o : Og) : finP mask ds (.rt d o e) = .ok d o (outsOf mask ds e) := rfl
@[simp] theorem finP_nx (mask : List Bool) (ds : List D) : finP mask ds (.nx e) = .ok .non .fr (outsOf mask ds e) := rfl
@[simp] theorem finP_exc (mask : List Bool) (ds : List D) (c : Nat) (x : Option V) : finP mask ds (.exc c x e) = .exc c x (outsOf mask ds e) := rfl
@[simp] theorem wrp_nil (bs : List Bool) : wrp bs [] = [] := by cases bs <;> rfl
@[simp] theorem wrp_t (bs : List Bool) (d : D) (ds : List D) : wrp (true :: bs) (d :: ds) = .ow d :: wrp bs ds := rfl
@[simp] theorem wrp_f (bs : List Bool) (d : D) (ds : List D) : wrp (false :: bs) (d :: ds) = .fz d :: wrp bs ds := rfl
@[simp] theorem outs_nil (ds : List D) : outsOf [] ds e = [] := by cases ds <;> rfl
@[simp] theorem outs_f (bs : List Bool) (d : D) (ds : List D) : outsOf (false :: bs) (d :: ds) e = d :: outsOf bs ds e.tail := rfl
@[simp] theorem outs_t (bs : List Bool) (d x : D) (ds : List D) : outsOf (true :: bs) (d :: ds) (.ow x :: e) = x :: outsOf bs ds e := rfl
@[simp] theorem outs_tn (bs : List Bool) (d : D) (ds : List D) : outsOf (true :: bs) (d :: ds) (.no :: e) = .hole :: outsOf bs ds e := rfl
end
section
variable (e : Env)
@[simp] theorem evA_nil : evA [] e = .ok [] true e := rfl
@[simp] theorem evA_v (p : PE) (r : List PArg) : evA (.v p :: r) e = (p e).bind fun x q e1 => (evA r e1).bind fun as q' e2 => if (x.2.st || q') = true then .ok (.v x.1 x.2 :: as) (q && q') e2 else .bad := rfl
@[simp] theorem evA_d (p : PE) (pl : Env → Option Plc) (r : List PArg) : evA (.d p pl :: r) e = if isAnX (p e) = true then evI pl (evA r) e else evV p (evA r) e := rfl
@[simp] theorem evV_ap (p : PE) (r : Env → X (List AVal)) : evV p r e = (p e).bind fun x q e1 => (r e1).bind fun as q' e2 => if (x.2.st || q') = true then .ok (.v x.1 x.2 :: as) (q && q') e2 else .bad := rfl
@[simp] theorem isAnX_an (d : D) (q : Bool) : isAnX (.ok (d, .an) q e) = true := rfl
@[simp] theorem isAnX_fr (d : D) (q : Bool) : isAnX (.ok (d, .fr) q e) = false := rfl
@[simp] theorem isAnX_zn (d : D) (q : Bool) : isAnX (.ok (d, .zn) q e) = false := rfl
@[simp] theorem pApp_ap (mask : List Bool) (p : PF) (as : List PArg) : pApp mask p as e = (evA as e).bind fun avs q e1 => callP mask p avs q e1 := rfl
end
def endC (mask : List Bool) (ds : List D) (as : List AVal) (q : Bool) (e2 : Env) : RF → X (D × Og)
  | .ok d o outs => (match fillB as (mixO mask ds outs) e2 with
    | some e3 => .ok (d, retT o as) (q && as.all fun a => !isIo a) e3
    | none => .bad)
  | .exc c x outs => (match fillB as (mixO mask ds outs) e2 with
    | some e3 => .exc c x e3
    | none => .bad)
  | .bad => .bad
end Vi
namespace Vi
open PySem PySem.Spec L2 Mi
section
variable {α β : Type}
@[simp high] theorem xbind_ok' (a : α) (q : Bool) (e : Env) (f : α → Bool → Env → X β) : (X.ok a q e).bind f = f a q e := Eq.trans rfl rfl
@[simp high] theorem xlift_ok' (a : α) (q : Bool) (e : Env) (f : α → Bool → Env → XS) : (X.ok a q e).lift f = f a q e := Eq.trans rfl rfl
@[simp high] theorem xseq_nx' (e : Env) (f : Env → XS) : (XS.nx e).seq f = f e := Eq.trans rfl rfl
@[simp high] theorem pSeq_ap' (e : Env) (a b : PS) : pSeq a b e = (a e).seq b := Eq.trans rfl rfl
end
section
variable (e : Env)
@[simp] theorem pVar_at (i : Nat) : pVar i e = match e[i]? with
  | some (.ow d) => .ok (d, tagI d .an) true e
  | some (.fz d) => .ok (d, tagI d .zn) true e
  | _ => .bad := rfl
@[simp] theorem pMv_at (i : Nat) : pMv i e = match e[i]? with
  | some (.ow d) => if imm d = true then .ok (d, .fr) true e else .ok (d, .fr) false (e.set i .no)
  | some (.fz d) => .ok (d, tagI d .zn) true e
  | _ => .bad := rfl
@[simp] theorem tagI_ap (d : D) (o : Og) : tagI d o = if imm d = true then .fr else o := rfl
@[simp] theorem pSel2_at (p : D → D → Option D) (a b : PE) : pSel2 p a b e = (a e).bind fun x q e1 => (b e1).bind fun y q' e2 => if (x.2.st || q') = true then kSel (fun r => selT r [x]) (q && q') e2 (p x.1 y.1) else .bad := pSel2_ap e p a b
@[simp] theorem pSel1_at (p : D → Option D) (a : PE) : pSel1 p a e = (a e).bind fun x q e1 => kSel (fun r => selT r [x]) q e1 (p x.1) := pSel1_ap e p a
@[simp] theorem kCall_at (p : List D → Option D) (ds : List (D × Og)) (q : Bool) : kCall p ds q e = pOf q e (p (ds.map (·.1))) := kCall_ap e p ds q
def kFldP (tab : List (Nat × Nat)) (e : Env) : Plc → Option Plc := fun P => match getPl e P with
  | some (.ins c _) => (look tab c).bind fun j => okPl e (.fl P j)
  | _ => none
@[simp] theorem plFld_at (tab : List (Nat × Nat)) (pl : Env → Option Plc) : plFld tab pl e = (pl e).bind (kFldP tab e) := rfl
@[simp] theorem kFldP_at (tab : List (Nat × Nat)) (P : Plc) : kFldP tab e P = match getPl e P with
  | some (.ins c _) => (look tab c).bind fun j => okPl e (.fl P j)
  | _ => none := rfl
@[simp] theorem getPl_sl (i : Nat) : getPl e (.sl i) = match e[i]? with
  | some (.ow d) => some d
  | _ => none := by rw [getPl] <;> rfl
@[simp] theorem getPl_fl (p : Plc) (j : Nat) : getPl e (.fl p j) = (getPl e p).bind (stF j) := by rw [getPl]
@[simp] theorem getPl_ix (p : Plc) (j : Nat) : getPl e (.ix p j) = (getPl e p).bind (stI j) := by rw [getPl]
@[simp] theorem getPl_ky (p : Plc) (j : Key) : getPl e (.ky p j) = (getPl e p).bind (stK j) := by rw [getPl]
@[simp] theorem stF_ins (j c : Nat) (fs : List D) : stF j (.ins c fs) = (fs[j]?).bind nh := rfl
@[simp] theorem stI_lst (j : Nat) (fs : List D) : stI j (.lst fs) = (fs[j]?).bind nh := rfl
@[simp] theorem stI_tup (j : Nat) (fs : List D) : stI j (.tup fs) = (fs[j]?).bind nh := rfl
@[simp] theorem stK_dk (j : Key) (fs : List (Key × D)) : stK j (.dk fs) = (valD fs j).bind nh := rfl
@[simp] theorem nh_lst (x : List D) : nh (.lst x) = some (.lst x) := rfl
@[simp] theorem nh_tup (x : List D) : nh (.tup x) = some (.tup x) := rfl
@[simp] theorem nh_dk (x : List (Key × D)) : nh (.dk x) = some (.dk x) := rfl
@[simp] theorem nh_ins (c : Nat) (x : List D) : nh (.ins c x) = some (.ins c x) := rfl
@[simp] theorem nh_int (x : Int) : nh (.int x) = some (.int x) := rfl
@[simp] theorem nh_bl (x : Bool) : nh (.bl x) = some (.bl x) := rfl
@[simp] theorem nh_str (x : Str) : nh (.str x) = some (.str x) := rfl
@[simp] theorem nh_non : nh .non = some .non := rfl
@[simp] theorem nh_hole : nh .hole = none := rfl
@[simp] theorem okPl_ap (P : Plc) : okPl e P = if (getPl e P).isSome = true then some P else none := rfl
@[simp] theorem putPl_sl (i : Nat) (x : D) : putPl e (.sl i) x = e.set i (.ow x) := by rw [putPl]
@[simp] theorem putPl_fl (p : Plc) (j : Nat) (x : D) : putPl e (.fl p j) x = match getPl e p with
    | some b => putPl e p (puF j x b)
    | none => e := by rw [putPl] <;> rfl
@[simp] theorem putPl_ix (p : Plc) (j : Nat) (x : D) : putPl e (.ix p j) x = match getPl e p with
    | some b => putPl e p (puI j x b)
    | none => e := by rw [putPl] <;> rfl
@[simp] theorem putPl_ky (p : Plc) (j : Key) (x : D) : putPl e (.ky p j) x = match getPl e p with
    | some b => putPl e p (puK j x b)
    | none => e := by rw [putPl] <;> rfl
@[simp] theorem puF_ins (j c : Nat) (x : D) (fs : List D) : puF j x (.ins c fs) = .ins c (fs.set j x) := rfl
@[simp] theorem puI_lst (j : Nat) (x : D) (fs : List D) : puI j x (.lst fs) = .lst (fs.set j x) := rfl
@[simp] theorem puI_tup (j : Nat) (x : D) (fs : List D) : puI j x (.tup fs) = .tup (fs.set j x) := rfl
@[simp] theorem puK_dk (j : Key) (x : D) (fs : List (Key × D)) : puK j x (.dk fs) = .dk (rep1 fs j x) := rfl
def kIxP (e : Env) (x : X (D × Og)) : Plc → Option Plc := fun P => match x with
  | .ok (.int k, _) true _ => (match getPl e P with
    | some (.lst xs) => (ixN xs.length k).bind fun j => okPl e (.ix P j)
    | some (.tup xs) => (ixN xs.length k).bind fun j => okPl e (.ix P j)
    | _ => none)
  | _ => none
@[simp] theorem kIxP_int (k : Int) (o : Og) (e1 : Env) (P : Plc) : kIxP e (.ok (.int k, o) true e1) P = match getPl e P with
    | some (.lst xs) => (ixN xs.length k).bind fun j => okPl e (.ix P j)
    | some (.tup xs) => (ixN xs.length k).bind fun j => okPl e (.ix P j)
    | _ => none := rfl
@[simp] theorem plIx_at (pl : Env → Option Plc) (pi : PE) : plIx pl pi e = (pl e).bind (kIxP e (pi e)) := rfl
def kKyP (e : Env) (x : X (D × Og)) : Plc → Option Plc := fun P => match x with
  | .ok (d, _) true _ => (match getPl e P with
    | some (.dk _) => (keyD d).bind fun k => okPl e (.ky P k)
    | _ => none)
  | _ => none
@[simp] theorem kKyP_ok (d : D) (o : Og) (e1 : Env) (P : Plc) : kKyP e (.ok (d, o) true e1) P = match getPl e P with
    | some (.dk _) => (keyD d).bind fun k => okPl e (.ky P k)
    | _ => none := rfl
@[simp] theorem plKy_at (pl : Env → Option Plc) (pi : PE) : plKy pl pi e = (pl e).bind (kKyP e (pi e)) := rfl
@[simp] theorem plSub_at (pl : Env → Option Plc) (pi : PE) : plSub pl pi e = match plIx pl pi e with
  | some P => some P
  | none => plKy pl pi e := rfl
@[simp] theorem holP_sl (i : Nat) : holP e (.sl i) = match e[i]? with
    | some (.ow .hole) => true
    | _ => false := rfl
@[simp] theorem holP_fl (p : Plc) (j : Nat) : holP e (.fl p j) = match getPl e p with
    | some (.ins _ fs) => isH fs[j]?
    | _ => false := rfl
@[simp] theorem isH_hole : isH (some .hole) = true := rfl
@[simp] theorem pSetF_at (tab : List (Nat × Nat)) (pl : Env → Option Plc) (a : PE) : pSetF tab pl a e = (a e).lift fun x _ e1 => if x.2.own = true then (match pl e1 with
  | some P => (match (getPl e1 P).bind (dSetF tab x.1) with
    | some d' => .nx (putPl e1 P d')
    | none => .bad)
  | none => .bad) else .bad := rfl
@[simp] theorem dSetF_ins (tab : List (Nat × Nat)) (x : D) (c : Nat) (fs : List D) : dSetF tab x (.ins c fs) = (look tab c).map fun j => .ins c (fs.set j x) := rfl
@[simp] theorem pSetI_at (pl : Env → Option Plc) (i a : PE) : pSetI pl i a e = (a e).lift fun x _ e1 => if x.2.own = true then (match pl e1 with
  | some P => (i e1).lift fun y q e2 => if q = true then (match (getPl e1 P).bind (dSetI x.1 y.1) with
    | some d' => .nx (putPl e1 P d')
    | none => .bad) else .bad
  | none => .bad) else .bad := rfl
@[simp] theorem dSetI_lst (x : D) (k : Int) (xs : List D) : dSetI x (.int k) (.lst xs) = (ixN xs.length k).map fun j => .lst (xs.set j x) := rfl
@[simp] theorem dSetI_dk (x y : D) (kds : List (Key × D)) : dSetI x y (.dk kds) = (keyD y).bind fun k => if kds.length < sizeLine ∧ (imm x || ndB kds) = true then some (.dk (putD kds k x)) else none := rfl
@[simp] theorem keyD_int (i : Int) : keyD (.int i) = some (.inl i) := rfl
@[simp] theorem keyD_str (i : Str) : keyD (.str i) = some (.inr i) := rfl
@[simp] theorem keyD_non : keyD .non = none := rfl
def kDo (p : D → List D → Option (D × D)) (P : Plc) (d : D) (e : Env) : List (D × Og) → Bool → Env → X (D × Og) := fun ds q e1 => if (q && allFr ds) = true then (match p d (ds.map (·.1)) with
  | some (d', r) => .ok (r, .fr) false (putPl e P d')
  | none => .bad) else .bad
@[simp] theorem doBM_ap (p : D → List D → Option (D × D)) (P : Plc) (d : D) (a : PA) : doBM p P d a e = (a e).bind (kDo p P d e) := rfl
@[simp] theorem kDo_ap (p : D → List D → Option (D × D)) (P : Plc) (d : D) (ds : List (D × Og)) (q : Bool) (e1 : Env) : kDo p P d e ds q e1 = if (q && allFr ds) = true then (match p d (ds.map (·.1)) with
  | some (d', r) => .ok (r, .fr) false (putPl e P d')
  | none => .bad) else .bad := rfl
@[simp] theorem pBM_at (ty : D → Bool) (p : D → List D → Option (D × D)) (pl : Env → Option Plc) (a : PA) : pBM ty p pl a e = match pl e with
  | none => .bad
  | some P => match getPl e P with
    | none => .bad
    | some d => if ty d = true then doBM p P d a e else .bad := rfl
@[simp] theorem pBM2_at (p p' : D → List D → Option (D × D)) (pl : Env → Option Plc) (a : PA) : pBM2 p p' pl a e = match pl e with
  | none => .bad
  | some P => match getPl e P with
    | none => .bad
    | some d => if isL d = true then doBM p P d a e else if isK d = true then doBM p' P d a e else .bad := rfl
@[simp] theorem isL_lst (x : List D) : isL (.lst x) = true := rfl
@[simp] theorem isL_dk (x : List (Key × D)) : isL (.dk x) = false := rfl
@[simp] theorem isK_dk (x : List (Key × D)) : isK (.dk x) = true := rfl
@[simp] theorem isK_lst (x : List D) : isK (.lst x) = false := rfl
@[simp] theorem isK_tup (x : List D) : isK (.tup x) = false := rfl
@[simp] theorem allFr_ap (ds : List (D × Og)) : allFr ds = ds.all fun x => x.2.own := rfl
@[simp] theorem tagL_ap (ds : List (D × Og)) : tagL ds = if allFr ds = true then .fr else .an := rfl
@[simp] theorem kLst_at (ds : List (D × Og)) (q : Bool) : kLstP ds q e = if ds.length ≤ sizeLine then .ok (.lst (ds.map (·.1)), tagL ds) q e else .bad := rfl
@[simp] theorem kTup_at (ds : List (D × Og)) (q : Bool) : kTupP ds q e = if ds.length ≤ sizeLine then .ok (.tup (ds.map (·.1)), tagL ds) q e else .bad := rfl
@[simp] theorem mAppend_lst (xs : List D) (y : D) : mAppend (.lst xs) [y] = if xs.length < sizeLine then some (.lst (xs ++ [y]), .non) else none := rfl
@[simp] theorem mExtend_lst (xs ys : List D) : mExtend (.lst xs) [.lst ys] = if xs.length + ys.length ≤ sizeLine then some (.lst (xs ++ ys), .non) else none := rfl
@[simp] theorem mPop_0 (xs : List D) : mPop (.lst xs) [] = (xs[xs.length - 1]?).map fun y => (.lst xs.dropLast, y) := rfl
@[simp] theorem mPop_1 (xs : List D) (k : Int) : mPop (.lst xs) [.int k] = if -(2 ^ 63) ≤ k ∧ k < 2 ^ 63 then (seqIndex? k xs.length).bind fun j => (xs[j]?).map fun y => (.lst (xs.eraseIdx j), y) else none := rfl
@[simp] theorem mDPop_1 (kds : List (Key × D)) (y : D) : mDPop (.dk kds) [y] = (keyD y).bind fun k => (valD kds k).bind fun v => if (imm v || ndB kds) = true then some (.dk (dropD kds k), v) else none := rfl
@[simp] theorem pFor_at (src : PI) (tg : TgD) (b : PS) : pFor src tg b e = (src e).lift fun x _ e1 => if x.2 = true then pFor1 tg b x.1 e1 else .bad := Eq.trans rfl rfl
def kForK (p : PE) (its : D → Option (List ItD)) (tg : TgD) (b : PS) (e : Env) : X (D × Og) → XS
  | .ok (d, o) _ _ => if (isK d && !o.st) = true then .bad else pFor (pWk its p) tg b e
  | _ => .bad
@[simp] theorem pForK_at (p : PE) (its : D → Option (List ItD)) (tg : TgD) (b : PS) : pForK p its tg b e = kForK p its tg b e (p e) := by
  unfold pForK kForK
  cases p e <;> rfl
@[simp] theorem kForK_ok (p : PE) (its : D → Option (List ItD)) (tg : TgD) (b : PS) (d : D) (o : Og) (q : Bool) (e1 : Env) : kForK p its tg b e (.ok (d, o) q e1) = if (isK d && !o.st) = true then .bad else pFor (pWk its p) tg b e := rfl
def kWk (its : D → Option (List ItD)) : D × Og → Bool → Env → X (List ItD × Bool) := fun x q e1 => match its x.1 with
  | some l => .ok (l, okSrc x.2 q) q e1
  | none => .bad
@[simp] theorem pWk_at (its : D → Option (List ItD)) (p : PE) : pWk its p e = (p e).bind (kWk its) := rfl
@[simp] theorem kWk_lst (xs : List D) (o : Og) (q : Bool) : kWk itemsK (.lst xs, o) q e = .ok (xs.map .v, okSrc o q) q e := rfl
@[simp] theorem kWk_tup (xs : List D) (o : Og) (q : Bool) : kWk itemsK (.tup xs, o) q e = .ok (xs.map .v, okSrc o q) q e := rfl
@[simp] theorem kWk_dk (xs : List (Key × D)) (o : Og) (q : Bool) : kWk itemsK (.dk xs, o) q e = .ok (xs.map fun kv => .v (kD kv.1), okSrc o q) q e := rfl
def kWa : D × Og → Bool → Env → X (List ItD × Bool) := fun x q e1 => match itemsD x.1 with
  | some its => .ok (its, okSrc x.2 q) q e1
  | none => .bad
@[simp] theorem pWalk_at (p : PE) : pWalk p e = (p e).bind kWa := rfl
@[simp] theorem kWa_lst (xs : List D) (o : Og) (q : Bool) : kWa (.lst xs, o) q e = .ok (xs.map .v, okSrc o q) q e := rfl
@[simp] theorem kWa_tup (xs : List D) (o : Og) (q : Bool) : kWa (.tup xs, o) q e = .ok (xs.map .v, okSrc o q) q e := rfl
@[simp] theorem kWa_str (z : Str) (o : Og) (q : Bool) : kWa (.str z, o) q e = .ok (strIts z, okSrc o q) q e := rfl
@[simp] theorem okSrc_ap (o : Og) (q : Bool) : okSrc o q = (q && o.st) := rfl
def kR1 (x : X (List (D × Og))) : X (List ItD × Bool) := x.bind fun ds q e1 => match oneI ds with
  | some j => .ok (intIts 0 j.toNat, true) q e1
  | none => .bad
@[simp] theorem pRange1_at (a : PA) : pRange1 a e = kR1 (a e) := by
  have h : pRange1 a e = kR1 (a e) := Eq.refl _
  rw [h]
theorem kR1_go (j : Int) (o : Og) (q : Bool) (h : j.natAbs < 4611686018427387904) : kR1 (.ok [(.int j, o)] q e) = .ok (intIts 0 j.toNat, true) q e := by
  unfold kR1
  have : oneI [(.int j, o)] = some j := if_pos h
  rw [xbind_ok, this]
@[simp] theorem kR1_int (j : Int) (o : Og) (q : Bool) : kR1 (.ok [(.int j, o)] q e) = if j.natAbs < 4611686018427387904 then .ok (intIts 0 j.toNat, true) q e else .bad := by
  by_cases h : j.natAbs < 4611686018427387904
  · rw [if_pos h, kR1_go _ _ _ _ h]
  · rw [if_neg h]
    unfold kR1
    have : oneI [(.int j, o)] = none := if_neg h
    rw [xbind_ok, this]
@[simp high] theorem kR1_nat (n : Nat) (o : Og) (q : Bool) (h : n < 1000000) : kR1 (.ok [(.int (n : Int), o)] q e) = .ok (intIts 0 n, true) q e := by
  rw [kR1_go _ _ _ _ (by omega), Int.toNat_natCast]
@[simp high] theorem kR1_nat1 (n : Nat) (o : Og) (q : Bool) (h : n < 1000000) : kR1 (.ok [(.int ((n : Int) + 1), o)] q e) = .ok (intIts 0 (n + 1), true) q e := by
  have := kR1_go e ((n + 1 : Nat) : Int) o q (by omega)
  rw [Int.toNat_natCast] at this
  exact this
def kR2 (x : X (List (D × Og))) : X (List ItD × Bool) := x.bind fun ds q e1 => match twoI ds with
  | some (i, j) => .ok (intIts i (j - i).toNat, true) q e1
  | none => .bad
@[simp] theorem pRange2_at (a : PA) : pRange2 a e = kR2 (a e) := by
  have h : pRange2 a e = kR2 (a e) := Eq.refl _
  rw [h]
theorem kR2_go (i j : Int) (o o' : Og) (q : Bool) (h : i.natAbs < 4611686018427387904 ∧ j.natAbs < 4611686018427387904) : kR2 (.ok [(.int i, o), (.int j, o')] q e) = .ok (intIts i (j - i).toNat, true) q e := by
  unfold kR2
  have : twoI [(.int i, o), (.int j, o')] = some (i, j) := if_pos h
  rw [xbind_ok, this]
@[simp] theorem kR2_int (i j : Int) (o o' : Og) (q : Bool) : kR2 (.ok [(.int i, o), (.int j, o')] q e) = if i.natAbs < 4611686018427387904 ∧ j.natAbs < 4611686018427387904 then .ok (intIts i (j - i).toNat, true) q e else .bad := by
  by_cases h : i.natAbs < 4611686018427387904 ∧ j.natAbs < 4611686018427387904
  · rw [if_pos h, kR2_go _ _ _ _ _ _ h]
  · rw [if_neg h]
    unfold kR2
    have : twoI [(.int i, o), (.int j, o')] = none := if_neg h
    rw [xbind_ok, this]
def kEn : D × Og → Bool → Env → X (List ItD × Bool) := fun x q e1 => match x.1 with
  | .lst xs => .ok (enumD 0 xs, okSrc x.2 q) q e1
  | _ => .bad
@[simp] theorem pEnum_at (p : PE) : pEnum p e = (p e).bind kEn := rfl
@[simp] theorem kEn_lst (xs : List D) (o : Og) (q : Bool) : kEn (.lst xs, o) q e = .ok (enumD 0 xs, okSrc o q) q e := rfl
@[simp] theorem tdName_v (i : Nat) (d : D) : tdName i (.v d) e = some (e.set i (slI d)) := rfl
@[simp] theorem tdTup_t (is : List Nat) (ds : List D) : tdTup is (.t ds) e = setIs is ds e := rfl
@[simp] theorem tdTup_v (is : List Nat) (ds : List D) : tdTup is (.v (.tup ds)) e = setIs is ds e := rfl
@[simp] theorem setIs_nil : setIs [] [] e = some e := rfl
@[simp] theorem setIs_cons (i : Nat) (is : List Nat) (d : D) (ds : List D) : setIs (i :: is) (d :: ds) e = setIs is ds (e.set i (slI d)) := rfl
@[simp] theorem slI_ap (d : D) : slI d = if imm d = true then .ow d else .fz d := rfl
@[simp] theorem pFz_at (ks : List Kd) (b : PS) : pFz ks b e = thawS ks e (b (frzL ks e)) := rfl
@[simp] theorem frzL_nil : frzL [] e = e := by cases e <;> rfl
@[simp] theorem frzL_jo (ks : List Kd) (d : D) : frzL (.j :: ks) (.ow d :: e) = .fz d :: frzL ks e := rfl
@[simp] theorem frzL_jf (ks : List Kd) (d : D) : frzL (.j :: ks) (.fz d :: e) = .fz d :: frzL ks e := rfl
@[simp] theorem frzL_jn (ks : List Kd) : frzL (.j :: ks) (.no :: e) = .no :: frzL ks e := rfl
@[simp] theorem frzL_k (ks : List Kd) (s : Sl) : frzL (.k :: ks) (s :: e) = s :: frzL ks e := by cases s <;> rfl
@[simp] theorem frzL_o (ks : List Kd) (s : Sl) : frzL (.o :: ks) (s :: e) = s :: frzL ks e := by cases s <;> rfl
@[simp] theorem frzL_e (ks : List Kd) : frzL ks [] = [] := by cases ks with
  | nil => rfl
  | cons k ks => cases k <;> rfl
@[simp] theorem thawS_nx (ks : List Kd) (e0 : Env) : thawS ks e0 (.nx e) = .nx (thawL ks e0 e) := rfl
@[simp] theorem thawS_rt (ks : List Kd) (e0 : Env) (d : D) : thawS ks e0 (.rt d .fr e) = .rt d .fr (thawL ks e0 e) := rfl
@[simp] theorem thawL_cons (ks : List Kd) (e0 : Env) (s : Sl) : thawL ks e0 (s :: e) = thaw1 ks.head? e0.head? s :: thawL ks.tail e0.tail e := by rw [thawL]
@[simp] theorem thawL_nil (ks : List Kd) (e0 : Env) : thawL ks e0 [] = [] := by rw [thawL]
@[simp] theorem thaw1_jo (d : D) (s : Sl) : thaw1 (some .j) (some (.ow d)) s = .ow d := rfl
@[simp] theorem thaw1_jf (d : D) (s : Sl) : thaw1 (some .j) (some (.fz d)) s = .fz d := rfl
@[simp] theorem thaw1_kf (d : D) (s : Sl) : thaw1 (some .k) (some (.fz d)) s = .fz d := rfl
@[simp] theorem thaw1_ko (d : D) (s : Sl) : thaw1 (some .k) (some (.ow d)) s = kil s := rfl
@[simp] theorem thaw1_kn (s : Sl) : thaw1 (some .k) (some .no) s = kil s := rfl
@[simp] theorem thaw1_jn (s : Sl) : thaw1 (some .j) (some .no) s = kil s := rfl
@[simp] theorem thaw1_o (x : Option Sl) (s : Sl) : thaw1 (some .o) x s = kil s := by cases x with
  | none => rfl
  | some y => cases y <;> rfl
@[simp] theorem kil_ow (d : D) : kil (.ow d) = .ow d := rfl
@[simp] theorem kil_no : kil .no = .no := rfl
@[simp] theorem kil_fz (d : D) : kil (.fz d) = if imm d = true then .ow d else .no := rfl
@[simp] theorem evI_ap (pl : Env → Option Plc) (r : Env → X (List AVal)) : evI pl r e = match pl e with
  | some P => (r e).bind fun as q' e2 => if q' = true then .ok (.io P :: as) true e2 else .bad
  | none => .bad := rfl
@[simp] theorem callP_at (mask : List Bool) (p : PF) (as : List AVal) (q : Bool) : callP mask p as q e = if noAn mask as = true then (match prep mask as e with
    | some (ds, e2) => if allHol as e2 = true then endC mask ds as q e2 (p ds) else .bad
    | none => .bad) else .bad := by
  unfold callP
  by_cases hc : noAn mask as = true
  · rw [if_pos hc, if_pos hc]
    cases hp : prep mask as e with
    | none => rfl
    | some x =>
      dsimp only
      by_cases hh : allHol as x.2 = true
      · rw [if_pos hh, if_pos hh]
        generalize p x.1 = r
        cases r <;> rfl
      · rw [if_neg hh, if_neg hh]
  · rw [if_neg hc, if_neg hc]
@[simp] theorem noAn_ap (mask : List Bool) (as : List AVal) : noAn mask as = (mask.all (fun b => !b) || as.all fun a => !isAn a) := rfl
@[simp] theorem isAn_io (P : Plc) : isAn (.io P) = false := rfl
@[simp] theorem isAn_fr (d : D) : isAn (.v d .fr) = false := rfl
@[simp] theorem isAn_zn (d : D) : isAn (.v d .zn) = false := rfl
@[simp] theorem isAn_an (d : D) : isAn (.v d .an) = true := rfl
@[simp] theorem isIo_io (P : Plc) : isIo (.io P) = true := rfl
@[simp] theorem isIo_v (d : D) (o : Og) : isIo (.v d o) = false := rfl
@[simp] theorem isZn_zn (d : D) : isZn (.v d .zn) = true := rfl
@[simp] theorem isZn_fr (d : D) : isZn (.v d .fr) = imm d := rfl
@[simp] theorem isZn_an (d : D) : isZn (.v d .an) = false := rfl
@[simp] theorem isZn_io (P : Plc) : isZn (.io P) = false := rfl
@[simp] theorem prep_nil : prep [] [] e = some ([], e) := rfl
@[simp] theorem prep_v (b : Bool) (bs : List Bool) (d : D) (o : Og) (as : List AVal) : prep (b :: bs) (.v d o :: as) e = if (!b || o.own) = true then (prep bs as e).map fun x => (d :: x.1, x.2) else none := rfl
@[simp] theorem prep_io (b : Bool) (bs : List Bool) (P : Plc) (as : List AVal) : prep (b :: bs) (.io P :: as) e = match getPl e P with
    | some d => (prep bs as (putPl e P .hole)).map fun x => (d :: x.1, x.2)
    | none => none := rfl
@[simp] theorem allHol_nil : allHol [] e = true := rfl
@[simp] theorem allHol_v (d : D) (o : Og) (as : List AVal) : allHol (.v d o :: as) e = allHol as e := rfl
@[simp] theorem allHol_io (P : Plc) (as : List AVal) : allHol (.io P :: as) e = (holP e P && allHol as e) := rfl
@[simp] theorem endC_ok (mask : List Bool) (ds : List D) (as : List AVal) (q : Bool) (d : D) (o : Og) (outs : List D) : endC mask ds as q e (.ok d o outs) = match fillB as (mixO mask ds outs) e with
    | some e3 => .ok (d, retT o as) (q && as.all fun a => !isIo a) e3
    | none => .bad := rfl
@[simp] theorem endC_exc (mask : List Bool) (ds : List D) (as : List AVal) (q : Bool) (c : Nat) (x : Option V) (outs : List D) : endC mask ds as q e (.exc c x outs) = match fillB as (mixO mask ds outs) e with
    | some e3 => .exc c x e3
    | none => .bad := rfl
@[simp] theorem mixO_nil (ds os : List D) : mixO [] ds os = [] := rfl
@[simp] theorem mixO_cons (b : Bool) (bs : List Bool) (d o : D) (ds os : List D) : mixO (b :: bs) (d :: ds) (o :: os) = (if b = true then o else d) :: mixO bs ds os := rfl
@[simp] theorem fillB_nil (ds : List D) : fillB [] ds e = some e := by cases ds <;> rfl
@[simp] theorem fillB_v (d : D) (o : Og) (as : List AVal) (x : D) (ds : List D) : fillB (.v d o :: as) (x :: ds) e = fillB as ds e := rfl
@[simp] theorem fillB_io (P : Plc) (as : List AVal) (x : D) (ds : List D) : fillB (.io P :: as) (x :: ds) e = if holP e P = true then fillB as ds (putPl e P x) else none := rfl
@[simp] theorem retT_fr (as : List AVal) : retT .fr as = .fr := rfl
@[simp] theorem retT_zn (as : List AVal) : retT .zn as = if as.all isZn = true then .zn else .an := rfl
@[simp] theorem retT_an (as : List AVal) : retT .an as = .an := rfl
def kMethV (mask : List Bool) (tab : List (Nat × PF)) (as : List PArg) : D × Og → Bool → Env → X (D × Og) := fun x q e1 => match x.1 with
  | .ins c _ => (match look tab c with
    | some pf => (evA as e1).bind fun avs q' e2 => if (x.2.st || q') = true then callP mask pf (.v x.1 x.2 :: avs) (q && q') e2 else .bad
    | none => .bad)
  | _ => .bad
@[simp] theorem pMeth_v (mask : List Bool) (tab : List (Nat × PF)) (p : PE) (as : List PArg) : pMeth mask tab (.v p) as e = (p e).bind (kMethV mask tab as) := rfl
@[simp] theorem kMethV_ins (mask : List Bool) (tab : List (Nat × PF)) (as : List PArg) (c : Nat) (fs : List D) (o : Og) (q : Bool) : kMethV mask tab as (.ins c fs, o) q e = match look tab c with
    | some pf => (evA as e).bind fun avs q' e2 => if (o.st || q') = true then callP mask pf (.v (.ins c fs) o :: avs) (q && q') e2 else .bad
    | none => .bad := rfl
@[simp] theorem pMeth_d (mask : List Bool) (tab : List (Nat × PF)) (p : PE) (pl : Env → Option Plc) (as : List PArg) : pMeth mask tab (.d p pl) as e = if isAnX (p e) = true then methI mask tab pl as e else (p e).bind (kMethV mask tab as) := rfl
@[simp] theorem methI_at (mask : List Bool) (tab : List (Nat × PF)) (pl : Env → Option Plc) (as : List PArg) : methI mask tab pl as e = match pl e with
  | some P => (match getPl e P with
    | some (.ins c _) => (match look tab c with
      | some pf => (evA as e).bind fun avs q' e2 => if q' = true then callP mask pf (.io P :: avs) true e2 else .bad
      | none => .bad)
    | _ => .bad)
  | none => .bad := rfl
@[simp] theorem pMake_at (c l : Nat) (mask : List Bool) (p : PF) (as : List PArg) : pMake c l mask p as e = (evA as e).bind fun avs q e1 => makeP mask p c l avs q e1 := rfl
def endM (q : Bool) (e : Env) : RF → X (D × Og)
  | .ok .non _ (o :: _) => .ok (o, .fr) q e
  | .exc c x _ => .exc c x e
  | _ => .bad
@[simp] theorem endM_ok (q : Bool) (o : Og) (d : D) (r : List D) : endM q e (.ok .non o (d :: r)) = .ok (d, .fr) q e := rfl
@[simp] theorem endM_exc (q : Bool) (c : Nat) (x : Option V) (r : List D) : endM q e (.exc c x r) = .exc c x e := rfl
@[simp] theorem makeP_at (mask : List Bool) (p : PF) (c l : Nat) (as : List AVal) (q : Bool) : makeP mask p c l as q e = if (as.all fun a => !isIo a) = true ∧ mask.all (fun b => !b) = true then (match prep mask as e with
    | some (ds, _) => endM q e (p (.ins c (List.replicate l .hole) :: ds))
    | none => .bad) else .bad := by
  unfold makeP
  by_cases hc : (as.all fun a => !isIo a) = true ∧ mask.all (fun b => !b) = true
  · rw [if_pos hc, if_pos hc]
    cases hp : prep mask as e with
    | none => rfl
    | some x =>
      dsimp only
      generalize p (.ins c (List.replicate l .hole) :: x.1) = r
      cases r with
      | ok d o outs => cases d <;> cases outs <;> rfl
      | _ => rfl
  · rw [if_neg hc, if_neg hc]
@[simp] theorem pLc_at (src : PI) (own : List Nat) (td : TgD) (c : PT) (p : PE) : pLc src own td c p e = match src (frzAll e) with
  | .ok x true _ => (match lcGoD td c p (wipeE (frzAll e) own) x.1 [] with
    | some ds => .ok (.lst ds, .fr) true e
    | none => .bad)
  | _ => .bad := rfl
@[simp] theorem frzAll_nil : frzAll [] = [] := rfl
@[simp] theorem frzAll_ow (d : D) : frzAll (.ow d :: e) = .fz d :: frzAll e := rfl
@[simp] theorem frzAll_fz (d : D) : frzAll (.fz d :: e) = .fz d :: frzAll e := rfl
@[simp] theorem frzAll_no : frzAll (.no :: e) = .no :: frzAll e := rfl
@[simp] theorem wipeE_nil : wipeE e [] = e := rfl
@[simp] theorem wipeE_cons (v : Nat) (vs : List Nat) : wipeE e (v :: vs) = (wipeE e vs).set v .no := rfl
@[simp] theorem pSl_at (a : PE) (lo hi : PO) : pSl a lo hi e = (a e).bind fun x q e1 => (lo e1).bind fun l q1 e2 => (hi e2).bind fun u q2 e3 => if (q1 && q2) = true then pOf q e3 (dSl x.1 l u) else .bad := rfl
@[simp] theorem pNoP_at : pNoP e = .ok none true e := rfl
def kPart : D × Og → Bool → Env → X (Option Int) := fun x q e1 => match x.1 with
  | .int i => .ok (some i) q e1
  | _ => .bad
@[simp] theorem pPart_at (a : PE) : pPart a e = (a e).bind kPart := rfl
@[simp] theorem kPart_int (i : Int) (o : Og) (q : Bool) : kPart (.int i, o) q e = .ok (some i) q e := rfl
@[simp] theorem pDisp_at (r : List (PE × PE)) : pDisp r e = match evP r e with
  | some kds => if kds.length ≤ 15 then .ok (.dk (mergeD [] kds), .fr) true e else .bad
  | none => .bad := rfl
@[simp] theorem evP_nil : evP [] e = some [] := rfl
def kEv (a b : X (D × Og)) (r : Option (List (Key × D))) : Option (List (Key × D)) := match a, b with
    | .ok (a, _) true _, .ok (b, .fr) true _ => if imm b = true then (keyD a).bind fun kk => r.map fun l => (kk, b) :: l else none
    | _, _ => none
@[simp] theorem evP_cons (k v : PE) (r : List (PE × PE)) : evP ((k, v) :: r) e = kEv (k e) (v e) (evP r e) := by rw [evP]; rfl
@[simp] theorem kEv_ok (a b : D) (o : Og) (e1 e2 : Env) (r : Option (List (Key × D))) : kEv (.ok (a, o) true e1) (.ok (b, .fr) true e2) r = if imm b = true then (keyD a).bind fun kk => r.map fun l => (kk, b) :: l else none := rfl
@[simp] theorem pSetT_at (is : List Nat) (a : PE) : pSetT is a e = (a e).lift fun x _ e1 => match x.1 with
  | .tup ds => (match x.2 with
    | .fr => (match setAllD is ds e1 with
      | some e2 => .nx e2
      | none => .bad)
    | .zn => (match setAllZ is ds e1 with
      | some e2 => .nx e2
      | none => .bad)
    | .an => .bad)
  | _ => .bad := rfl
@[simp] theorem setAllD_nil : setAllD [] [] e = some e := rfl
@[simp] theorem setAllD_cons (i : Nat) (is : List Nat) (d : D) (ds : List D) : setAllD (i :: is) (d :: ds) e = setAllD is ds (e.set i (.ow d)) := rfl
@[simp] theorem setAllZ_nil : setAllZ [] [] e = some e := rfl
@[simp] theorem setAllZ_cons (i : Nat) (is : List Nat) (d : D) (ds : List D) : setAllZ (i :: is) (d :: ds) e = setAllZ is ds (e.set i (.fz d)) := rfl
@[simp] theorem pBq_at (Ty : String) (p : List D → Option D) (a : PE) (as : PA) : pBq Ty p a as e = (a e).bind fun x q e1 => if tyD Ty x.1 = true then (as e1).bind fun ds q' e2 => if (x.2.st || q') = true then pOf (q && q') e2 (p (x.1 :: ds.map (·.1))) else .bad else .bad := rfl
@[simp] theorem tyD_lst (x : List D) : tyD "list" (.lst x) = true := rfl
@[simp] theorem tyD_dk (x : List (Key × D)) : tyD "dict" (.dk x) = true := rfl
@[simp] theorem tyD_str (x : Str) : tyD "str" (.str x) = true := rfl
end
section
variable (i j : Int) (x y : List D) (s t : Str) (kds : List (Key × D))
@[simp] theorem dAdd_int : dAdd (.int i) (.int j) = some (.int (i + j)) := rfl
@[simp] theorem dAdd_lst : dAdd (.lst x) (.lst y) = if x.length + y.length ≤ sizeLine ∧ (x ++ y).all imm = true then some (.lst (x ++ y)) else none := rfl
@[simp] theorem dAdd_str : dAdd (.str s) (.str t) = if s.length + t.length ≤ sizeLine then some (.str (s ++ t)) else none := rfl
@[simp] theorem dSub_int : dSub (.int i) (.int j) = some (.int (i - j)) := rfl
@[simp] theorem dIAdd_int : dIAdd (.int i) (.int j) = some (.int (i + j)) := rfl
@[simp] theorem dMulL_int : dMulL (.int i) (.int j) = if IntMulOk i j then some (.int (i * j)) else none := rfl
@[simp] theorem dMulL_lst : dMulL (.lst x) (.int j) = if -(2 ^ 63) ≤ j ∧ j < 2 ^ 63 ∧ x.length * j.toNat ≤ sizeLine ∧ x.all imm = true then some (.lst (List.replicate j.toNat x).flatten) else none := rfl
@[simp] theorem dDiv_int : dDiv (.int i) (.int j) = if DivOk j then some (.int (i / j)) else none := rfl
@[simp] theorem dMod_int : dMod (.int i) (.int j) = if 0 < j then some (.int (i % j)) else none := rfl
@[simp] theorem dPow_int : dPow (.int i) (.int j) = if 0 ≤ j ∧ j ≤ 1000000 ∧ i.natAbs < 2 ^ 64 then some (.int (i ^ j.toNat)) else none := rfl
@[simp] theorem dNeg_int : dNeg (.int i) = some (.int (-i)) := rfl
@[simp] theorem dCmp_int (p : Int → Int → Bool) : dCmp p (.int i) (.int j) = some (.bl (p i j)) := rfl
@[simp] theorem dNot_bl (b : Bool) : dNot (.bl b) = some (.bl (!b)) := rfl
@[simp] theorem dIs_non (d : D) : dIs d .non = (isN d).map .bl := by cases d <;> rfl
@[simp] theorem dIsN_non (d : D) : dIsN d .non = (isN d).map fun b => .bl (!b) := by cases d <;> rfl
@[simp] theorem isN_non : isN .non = some true := rfl
@[simp] theorem isN_int : isN (.int i) = some false := rfl
@[simp] theorem isN_bl (b : Bool) : isN (.bl b) = some false := rfl
@[simp] theorem isN_str : isN (.str s) = some false := rfl
@[simp] theorem isN_lst : isN (.lst x) = some false := rfl
@[simp] theorem isN_tup : isN (.tup x) = some false := rfl
@[simp] theorem isN_dk : isN (.dk kds) = some false := rfl
@[simp] theorem isN_exc (c : Nat) (z : Option V) : isN (.exc c z) = some false := rfl
@[simp] theorem isN_ins (c : Nat) : isN (.ins c x) = some false := rfl
@[simp] theorem dIx_lst : dIx (.lst x) (.int i) = (ixN x.length i).bind fun j => x[j]? := rfl
@[simp] theorem dIx_tup : dIx (.tup x) (.int i) = (ixN x.length i).bind fun j => x[j]? := rfl
@[simp] theorem dSub2_lst : dSub2 (.lst x) (.int i) = (ixN x.length i).bind fun j => x[j]? := rfl
@[simp] theorem dSub2_tup : dSub2 (.tup x) (.int i) = (ixN x.length i).bind fun j => x[j]? := rfl
@[simp] theorem dSub2_dk (d : D) : dSub2 (.dk kds) d = (keyD d).bind fun k => valD kds k := rfl
@[simp] theorem dDGet_dk (d : D) : dDGet (.dk kds) d = (keyD d).bind fun k => valD kds k := rfl
@[simp] theorem dFld_ins (tab : List (Nat × Nat)) (c : Nat) : dFld tab (.ins c x) = (look tab c).bind fun j => (x[j]?).bind nh := by
  show ((look tab c).bind fun j => match x[j]? with
    | some .hole => none
    | r => r) = _
  congr 1
  funext j
  cases x[j]? with
  | none => rfl
  | some d => cases d <;> rfl
@[simp] theorem dIsi_ap (tab : List (Tag × Bool)) (d : D) : dIsi tab d = ((tagD d).bind (lookT tab)).map .bl := rfl
@[simp] theorem tagD_non : tagD .non = some .non := rfl
@[simp] theorem tagD_int : tagD (.int i) = some .int := rfl
@[simp] theorem tagD_bl (b : Bool) : tagD (.bl b) = some .bl := rfl
@[simp] theorem tagD_str : tagD (.str s) = some .str := rfl
@[simp] theorem tagD_lst : tagD (.lst x) = some .lst := rfl
@[simp] theorem tagD_tup : tagD (.tup x) = some .tup := rfl
@[simp] theorem tagD_dk : tagD (.dk kds) = some .dct := rfl
@[simp] theorem tagD_exc (c : Nat) : tagD (.exc c none) = some (.exc c) := rfl
@[simp] theorem tagD_ins (c : Nat) : tagD (.ins c x) = some (.ins c) := rfl
@[simp] theorem dCalled_exc (tab : List (Nat × Str)) (c : Nat) (z : Option V) : dCalled tab (.exc c z) = (look tab c).map .str := rfl
@[simp] theorem dLen_lst : dLen [.lst x] = some (.int x.length) := rfl
@[simp] theorem dLen_tup : dLen [.tup x] = some (.int x.length) := rfl
@[simp] theorem dLen_dk : dLen [.dk kds] = some (.int kds.length) := rfl
@[simp] theorem dList_lst : dList [.lst x] = if x.all imm = true then some (.lst x) else none := rfl
@[simp] theorem dList_dk : dList [.dk kds] = some (.lst (kds.map fun kv => kD kv.1)) := rfl
@[simp] theorem dTuple_lst : dTuple [.lst x] = if x.all imm = true then some (.tup x) else none := rfl
@[simp] theorem dSorted_lst : dSorted [.lst x] = (allSome (x.map toI)).map fun ns => .lst ((sortI ns).map .int) := rfl
@[simp] theorem dSorted_dk : dSorted [.dk kds] = (keyIs kds).bind fun ns => if ns.length < 1000000 then some (.lst ((sortI ns).map .int)) else none := rfl
@[simp] theorem dSum_lst : dSum [.lst x] = (allSome (x.map toI)).map fun ns => .int ns.sum := rfl
@[simp] theorem dAll_lst : dAll [.lst x] = (allSome (x.map toB)).map fun ns => .bl (ns.all id) := rfl
@[simp] theorem dAny_lst : dAny [.lst x] = (allSome (x.map toB)).map fun ns => .bl (ns.any id) := rfl
@[simp] theorem dInt_bl (b : Bool) : dInt [.bl b] = some (.int (if b then 1 else 0)) := rfl
@[simp] theorem dInt_int : dInt [.int i] = some (.int i) := rfl
@[simp] theorem dDict_dk : dDict [.dk kds] = if (kds.map (·.2)).all imm = true then some (.dk kds) else none := rfl
@[simp] theorem dMax2_int : dMax2 [.int i, .int j] = some (.int (if j > i then j else i)) := rfl
@[simp] theorem dMin2_int : dMin2 [.int i, .int j] = some (.int (if j < i then j else i)) := rfl
@[simp] theorem dInN_dk (neg : Bool) (k : Key) : dInN neg (kD k) (.dk kds) = some (.bl (neg != (valD kds k).isSome)) := by cases k <;> rfl
@[simp] theorem dInN_dki (neg : Bool) : dInN neg (.int i) (.dk kds) = some (.bl (neg != (valD kds (.inl i)).isSome)) := rfl
@[simp] theorem dInN_dkn (neg : Bool) : dInN neg .non (.dk kds) = some (.bl (neg != false)) := rfl
theorem allSome_map {α β γ : Type} (f : α → β) (g : β → Option γ) (h : α → γ) (e : ∀ a, g (f a) = some (h a)) : ∀ l : List α, allSome ((l.map f).map g) = some (l.map h)
  | [] => rfl
  | a :: l => by rw [List.map_cons, List.map_cons, e a, allSome, allSome_map f g h e l]; rfl
@[simp] theorem toI_ints (l : List Int) : allSome ((l.map D.int).map toI) = some l := (allSome_map D.int toI id (fun _ => rfl) l).trans (by rw [List.map_id])
@[simp] theorem toB_bls (l : List Bool) : allSome ((l.map D.bl).map toB) = some l := (allSome_map D.bl toB id (fun _ => rfl) l).trans (by rw [List.map_id])
@[simp] theorem toS_strs (l : List Str) : allSome ((l.map D.str).map toS) = some l := (allSome_map D.str toS id (fun _ => rfl) l).trans (by rw [List.map_id])
@[simp] theorem scal_ints (l : List Int) : allSome ((l.map D.int).map scal) = some (l.map V.int) := allSome_map D.int scal V.int (fun _ => rfl) l
@[simp] theorem scal_bls (l : List Bool) : allSome ((l.map D.bl).map scal) = some (l.map V.bl) := allSome_map D.bl scal V.bl (fun _ => rfl) l
@[simp] theorem rdP_int (n : Nat) : rdP (n + 1) (.int i) = some (.int i) := rfl
@[simp] theorem rdP_bl (n : Nat) (b : Bool) : rdP (n + 1) (.bl b) = some (.bool b) := rfl
@[simp] theorem rdP_non (n : Nat) : rdP (n + 1) .non = some .none := rfl
@[simp] theorem rdP_str (n : Nat) : rdP (n + 1) (.str s) = some (.str s) := rfl
theorem rdP_lst (n : Nat) : rdP (n + 1) (.lst x) = (allSome (x.map (rdP n))).map .list := by rw [rdP]
theorem rdP_tup (n : Nat) : rdP (n + 1) (.tup x) = (allSome (x.map (rdP n))).map .tuple := by rw [rdP]
theorem eqD_of {neg : Bool} {d d' : D} {p p' : PyData} (h : rdP eqDepth d = some p) (h' : rdP eqDepth d' = some p') (s : SeqAt.shaped p = true) (s' : SeqAt.shaped p' = true) : dEqD neg d d' = some (.bl (neg != PyData.eqv p p')) := by
  unfold dEqD
  rw [h, h']
  exact if_pos ⟨s, s'⟩
@[simp] theorem dEqD_int (neg : Bool) : dEqD neg (.int i) (.int j) = some (.bl (neg != (i == j))) := eqD_of (p := .int i) (p' := .int j) rfl rfl rfl rfl
@[simp] theorem dEqD_bl (neg : Bool) (a b : Bool) : dEqD neg (.bl a) (.bl b) = some (.bl (neg != (a == b))) := eqD_of (p := .bool a) (p' := .bool b) rfl rfl rfl rfl
@[simp] theorem dEqD_ni (neg : Bool) : dEqD neg .non (.int j) = some (.bl (neg != false)) := eqD_of (p := .none) (p' := .int j) rfl rfl rfl rfl
@[simp] theorem dEqD_in (neg : Bool) : dEqD neg (.int i) .non = some (.bl (neg != false)) := eqD_of (p := .int i) (p' := .none) rfl rfl rfl rfl
@[simp] theorem dEqD_nn (neg : Bool) : dEqD neg .non .non = some (.bl (neg != true)) := eqD_of (p := .none) (p' := .none) rfl rfl rfl rfl
end
theorem for_invD {tg : TgD} {b : PS} (P : List ItD → Env → Prop) (h : ∀ it r e, P (it :: r) e → ∃ e1 e2, tg it e = some e1 ∧ (b e1 = .nx e2 ∨ b e1 = .ct e2) ∧ P r e2) : ∀ {its : List ItD} {e : Env}, P its e → ∃ e', pFor1 tg b its e = .nx e' ∧ P [] e'
  | [], e, p => ⟨e, rfl, p⟩
  | it :: r, e, p => by
    obtain ⟨e1, e2, h1, h2, h3⟩ := h it r e p
    obtain ⟨e', h4, h5⟩ := for_invD P h h3
    refine ⟨e', ?_, h5⟩
    unfold pFor1
    rw [h1]
    dsimp only
    rcases h2 with h2 | h2 <;> rw [h2] <;> exact h4
end Vi
namespace Vi
open PySem PySem.Spec L2 Mi
abbrev IL := List (Int × Int)
def lk (l : IL) (t : Int) : Option Int := (l.find? fun p => decide (p.1 = t)).map (·.2)
theorem lk_nil (t : Int) : lk [] t = none := rfl
theorem lk_cons (p : Int × Int) (l : IL) (t : Int) : lk (p :: l) t = if p.1 = t then some p.2 else lk l t := by
  unfold lk
  rw [List.find?_cons]
  by_cases h : p.1 = t <;> simp [h]
theorem lk_none {l : IL} {t : Int} : lk l t = none ↔ t ∉ l.map (·.1) := by
  induction l with
  | nil => simp [lk_nil]
  | cons p r ih =>
    rw [lk_cons]
    by_cases h : p.1 = t
    · simp [h]
    · rw [if_neg h, ih]
      simp only [List.map_cons, List.mem_cons, not_or]
      exact ⟨fun k => ⟨fun q => h q.symm, k⟩, fun k => k.2⟩
theorem perm_of_mem {a b : List Int} (ha : a.Nodup) (hb : b.Nodup) (h : ∀ x, x ∈ a ↔ x ∈ b) : a.Perm b := (List.perm_ext_iff_of_nodup ha hb).mpr h
/-- two tables alike as maps -/
structure Lk2 (A B : IL) : Prop where
  na : (A.map (·.1)).Nodup
  nb : (B.map (·.1)).Nodup
  eq : ∀ t, lk A t = lk B t
theorem Lk2.perm {A B : IL} (h : Lk2 A B) : (A.map (·.1)).Perm (B.map (·.1)) := perm_of_mem h.na h.nb fun x => by
  have := h.eq x
  constructor
  · intro m
    refine Decidable.byContradiction fun q => ?_
    rw [lk_none.mpr q] at this
    exact lk_none.mp this m
  · intro m
    refine Decidable.byContradiction fun q => ?_
    rw [lk_none.mpr q] at this
    exact lk_none.mp this.symm m
theorem Lk2.len {A B : IL} (h : Lk2 A B) : A.length = B.length := by
  have := h.perm.length_eq
  rwa [List.length_map, List.length_map] at this
end Vi
namespace Vi
open PySem PySem.Spec L2 Mi
class Enc (α : Type) where
  en : α → D
  pd : α → PyData
  dp : Nat
  rd : ∀ (n : Nat) (a : α), dp ≤ n → rdP (n + 1) (en a) = some (pd a)
  lay : ∀ a, PyData.canLay0 (pd a) = true
  dep : ∀ a, PyData.depth (pd a) ≤ dp
  eq : ∀ a b, PyData.eqv (pd a) (pd b) = true ↔ a = b
variable {α β γ : Type}
abbrev en [Enc α] (a : α) : D := Enc.en a
theorem enc_eqv [Enc α] [DecidableEq α] (a b : α) : PyData.eqv (Enc.pd a) (Enc.pd b) = decide (a = b) := by
  by_cases h : a = b
  · rw [(Enc.eq a b).mpr h, decide_eq_true h]
  · rw [decide_eq_false h]
    cases e : PyData.eqv (Enc.pd a) (Enc.pd b) with
    | false => rfl
    | true => exact absurd ((Enc.eq a b).mp e) h
instance encInt : Enc Int where
  en := .int
  pd := .int
  dp := 0
  rd := fun n a _ => rfl
  lay := fun a => rfl
  dep := fun a => Nat.le_refl _
  eq := fun a b => by
    show (a == b) = true ↔ _
    exact beq_iff_eq
def oI : Option Int → D
  | none => .non
  | some i => .int i
def oP : Option Int → PyData
  | none => .none
  | some i => .int i
instance encOpt : Enc (Option Int) where
  en := oI
  pd := oP
  dp := 0
  rd := fun n a _ => by cases a <;> rfl
  lay := fun a => by cases a <;> rfl
  dep := fun a => by cases a <;> exact Nat.le_refl _
  eq := fun a b => by
    cases a with
    | none =>
      cases b with
      | none => exact ⟨fun _ => rfl, fun _ => rfl⟩
      | some j => exact ⟨(fun h => nomatch h), (fun h => nomatch h)⟩
    | some i =>
      cases b with
      | none => exact ⟨(fun h => nomatch h), (fun h => nomatch h)⟩
      | some j => show (i == j) = true ↔ _; rw [beq_iff_eq]; exact ⟨fun h => by rw [h], fun h => Option.some.inj h⟩
theorem depAll_le [Enc α] : ∀ l : List α, PyData.depthAll (l.map Enc.pd) ≤ Enc.dp α
  | [] => Nat.zero_le _
  | a :: l => by
    show max (PyData.depth (Enc.pd a)) (PyData.depthAll (l.map Enc.pd)) ≤ _
    exact Nat.max_le.mpr ⟨Enc.dep a, depAll_le l⟩
theorem layAll [Enc α] : ∀ l : List α, PyData.canLayAll0 (l.map Enc.pd) = true
  | [] => rfl
  | a :: l => by
    show (PyData.canLay0 (Enc.pd a) && PyData.canLayAll0 (l.map Enc.pd)) = true
    rw [Enc.lay a, layAll l]; rfl
theorem eqAll [Enc α] : ∀ l m : List α, PyData.eqvAll (l.map Enc.pd) (m.map Enc.pd) = true ↔ l = m
  | [], [] => ⟨fun _ => rfl, fun _ => rfl⟩
  | [], _ :: _ => ⟨(fun h => nomatch h), (fun h => nomatch h)⟩
  | _ :: _, [] => ⟨(fun h => nomatch h), (fun h => nomatch h)⟩
  | a :: l, b :: m => by
    show (PyData.eqv (Enc.pd a) (Enc.pd b) && PyData.eqvAll (l.map Enc.pd) (m.map Enc.pd)) = true ↔ _
    rw [Bool.and_eq_true, Enc.eq, eqAll l m, List.cons.injEq]
instance encList [Enc α] : Enc (List α) where
  en := fun l => .lst (l.map Enc.en)
  pd := fun l => .list (l.map Enc.pd)
  dp := Enc.dp α + 1
  rd := fun n l h => by
    rw [rdP_lst]
    obtain ⟨m, rfl⟩ : ∃ m, n = m + 1 := ⟨n - 1, by omega⟩
    rw [allSome_map Enc.en (rdP (m + 1)) Enc.pd (fun a => Enc.rd m a (by omega)) l]
    rfl
  lay := fun l => layAll l
  dep := fun l => by
    show PyData.depthAll (l.map Enc.pd) + 1 ≤ _
    have := depAll_le l
    omega
  eq := fun l m => eqAll l m
theorem rdP_two (n : Nat) (d e : D) (p q : PyData) (h : rdP n d = some p) (h' : rdP n e = some q) : rdP (n + 1) (.tup [d, e]) = some (.tuple [p, q]) := by
  rw [rdP_tup]
  simp [h, h', allSome]
instance encProd [Enc α] [Enc β] : Enc (α × β) where
  en := fun p => .tup [Enc.en p.1, Enc.en p.2]
  pd := fun p => .tuple [Enc.pd p.1, Enc.pd p.2]
  dp := max (Enc.dp α) (Enc.dp β) + 1
  rd := fun n p h => by
    obtain ⟨m, rfl⟩ : ∃ m, n = m + 1 := ⟨n - 1, by omega⟩
    exact rdP_two _ _ _ _ _ (Enc.rd m p.1 (by omega)) (Enc.rd m p.2 (by omega))
  lay := fun p => by
    show (PyData.canLay0 (Enc.pd p.1) && (PyData.canLay0 (Enc.pd p.2) && true)) = true
    rw [Enc.lay, Enc.lay]; rfl
  dep := fun p => by
    show max (PyData.depth (Enc.pd p.1)) (max (PyData.depth (Enc.pd p.2)) 0) + 1 ≤ _
    have := Enc.dep p.1
    have := Enc.dep p.2
    omega
  eq := fun p q => by
    show (PyData.eqv (Enc.pd p.1) (Enc.pd q.1) && (PyData.eqv (Enc.pd p.2) (Enc.pd q.2) && true)) = true ↔ _
    rw [Bool.and_true, Bool.and_eq_true, Enc.eq, Enc.eq]
    exact ⟨fun h => Prod.ext h.1 h.2, fun h => by rw [h]; exact ⟨rfl, rfl⟩⟩
theorem enc_shaped [Enc α] (h : Enc.dp α ≤ 64) (a : α) : SeqAt.shaped (Enc.pd a) = true := by
  unfold SeqAt.shaped
  rw [Enc.lay, Bool.true_and]
  exact decide_eq_true (Nat.le_trans (Enc.dep a) h)
/-- == and != of values of one kind -/
theorem dEqD_enc [Enc α] [DecidableEq α] (neg : Bool) (a b : α) (h : Enc.dp α ≤ 11 := by decide) : dEqD neg (Enc.en a) (Enc.en b) = some (.bl (neg != decide (a = b))) := by
  rw [eqD_of (Enc.rd 11 a h) (Enc.rd 11 b h) (enc_shaped (Nat.le_trans h (by decide)) a) (enc_shaped (Nat.le_trans h (by decide)) b), enc_eqv]
@[simp] theorem dEq_ints (neg : Bool) (a b : List Int) : dEqD neg (.lst (a.map .int)) (.lst (b.map .int)) = some (.bl (neg != decide (a = b))) := dEqD_enc neg a b
theorem all_en [Enc α] (h : ∀ a : α, imm (Enc.en a) = true) (l : List α) : (l.map (Enc.en (α := α))).all imm = true := by rw [List.all_map, List.all_eq_true]; exact fun a _ => h a
@[simp] theorem imm_oI (a : Option Int) : imm (oI a) = true := by cases a <;> rfl
@[simp] theorem all_oI (l : List (Option Int)) : (l.map oI).all imm = true := all_en (α := Option Int) imm_oI l
theorem inV_ints (t : Int) (l : List Int) : inV (.int t) (l.map V.int) = decide (t ∈ l) := by
  unfold inV
  rw [List.any_map]
  induction l with
  | nil => rfl
  | cons a r ih =>
    rw [List.any_cons, ih]
    by_cases h : a = t
    · subst h
      simp [eqV]
    · have : (a == t) = false := by simpa using h
      simp [eqV, this, Ne.symm h]
@[simp] theorem dIn_ints (neg : Bool) (t : Int) (l : List Int) : dInN neg (.int t) (.lst (l.map .int)) = some (.bl (neg != decide (t ∈ l))) := by
  unfold dInN
  have : inD (.int t) (.lst (l.map .int)) = some (decide (t ∈ l)) := by
    unfold inD
    simp only [scal_int, scal_ints, inV_ints]
  rw [this]
  rfl
/-- the set of some ints as a dict of True -/
def gs (l : List Int) : List (Key × D) := mergeD [] (l.map fun i => (.inl i, .bl true))
end Vi
namespace Vi
open PySem PySem.Spec L2 Mi
@[simp] theorem toI_ints' (l : List Int) : allSome (l.map (toI ∘ D.int)) = some l := by rw [← List.map_map]; exact toI_ints l
@[simp] theorem toB_bls' (l : List Bool) : allSome (l.map (toB ∘ D.bl)) = some l := by rw [← List.map_map]; exact toB_bls l
@[simp] theorem toS_strs' (l : List Str) : allSome (l.map (toS ∘ D.str)) = some l := by rw [← List.map_map]; exact toS_strs l
@[simp] theorem imm_ints (l : List Int) : (l.map D.int).all imm = true := by rw [List.all_map, List.all_eq_true]; exact fun _ _ => rfl
@[simp] theorem imm_bls (l : List Bool) : (l.map D.bl).all imm = true := by rw [List.all_map, List.all_eq_true]; exact fun _ _ => rfl
@[simp] theorem imm_strs (l : List Str) : (l.map D.str).all imm = true := by rw [List.all_map, List.all_eq_true]; exact fun _ _ => rfl
/-- a slice of a list of anything -/
def cut {α : Type} (xs : List α) (lo hi : Option Int) : List α := (xs.drop (HT.sIx xs.length 0 lo)).take (HT.sIx xs.length xs.length hi - HT.sIx xs.length 0 lo)
@[simp] theorem cutL_map {α : Type} (f : α → D) (l : List α) (lo hi : Option Int) : cutL (l.map f) lo hi = (cut l lo hi).map f := by
  unfold cutL cut
  simp only [List.map_take, List.map_drop, List.length_map]
@[simp] theorem dSl_ints (l : List Int) (lo hi : Option Int) : dSl (.lst (l.map .int)) lo hi = some (.lst ((cut l lo hi).map .int)) := by
  show (if (cutL (l.map D.int) lo hi).all imm = true then _ else _) = _
  rw [cutL_map, if_pos (imm_ints _)]
end Vi
namespace Vi
open PySem PySem.Spec L2 Mi
def pWalkF (p : PE) : PI := fun e => (p e).bind fun x q e1 => match x with
  | (.dk kds, .fr) => .ok (kds.map fun kv => .v (kD kv.1), okSrc .fr q) q e1
  | (d, o) => match itemsD d with
    | some its => .ok (its, okSrc o q) q e1
    | none => .bad
def kWf : D × Og → Bool → Env → X (List ItD × Bool) := fun x q e1 => match x with
  | (.dk kds, .fr) => .ok (kds.map fun kv => .v (kD kv.1), okSrc .fr q) q e1
  | (d, o) => match itemsD d with
    | some its => .ok (its, okSrc o q) q e1
    | none => .bad
@[simp] theorem pWalkF_at (p : PE) (e : Env) : pWalkF p e = (p e).bind kWf := Eq.trans rfl rfl
@[simp] theorem kWf_lst (xs : List D) (o : Og) (q : Bool) (e : Env) : kWf (.lst xs, o) q e = .ok (xs.map .v, okSrc o q) q e := rfl
@[simp] theorem kWf_tup (xs : List D) (o : Og) (q : Bool) (e : Env) : kWf (.tup xs, o) q e = .ok (xs.map .v, okSrc o q) q e := rfl
@[simp] theorem kWf_dk (xs : List (Key × D)) (q : Bool) (e : Env) : kWf (.dk xs, .fr) q e = .ok (xs.map fun kv => .v (kD kv.1), okSrc .fr q) q e := rfl
end Vi
namespace Mi
open PySem PySem.Spec L2
end Mi
namespace Vi
open PySem PySem.Spec L2 Mi
/-- a change of something told just now -/
def pBMF (ty : D → Bool) (p : D → List D → Option (D × D)) (a : PE) (as : PA) : PE := fun e => (a e).bind fun x _ e1 => if (x.2.own && ty x.1) = true then (as e1).bind fun ds q e2 => if (q && allFr ds) = true then (match p x.1 (ds.map (·.1)) with
  | some (_, r) => .ok (r, .fr) false e2
  | none => .bad) else .bad else .bad
/-- two fresh lists, one behind the other, with their parts -/
def addM (q : Bool) (e : Env) : D → D → X (D × Og)
  | .lst xs, .lst ys => if xs.length + ys.length ≤ sizeLine then .ok (.lst (xs ++ ys), .fr) q e else .bad
  | x, y => pOf q e (dAdd x y)
def pAddM (a b : PE) : PE := fun e => (a e).bind fun x q e1 => (b e1).bind fun y q' e2 => if (x.2.own && y.2.own) = true then addM (q && q') e2 x.1 y.1 else .bad
theorem je_addM {ma mb : ME} {pa pb : PE} (ha : JE ma pa) (hb : JE mb pb) : JE (mBin oAdd ma mb) (pAddM pa pb) := by
  intro S σ e F Z I
  have h := ja_cons ha (ja_cons hb ja_nil) S σ e F Z I
  rw [← mBin_args, mCall_ap]
  unfold pCons pNil at h
  unfold pAddM
  cases hx : pa e with
  | bad => trivial
  | exc c x e1 => rw [hx] at h; obtain ⟨S', F', Z', hr, hn, he⟩ := h; rw [hr]; exact ⟨S', F', Z', rfl, hn, he⟩
  | ok x q e1 =>
    rw [hx] at h
    simp only [xbind_ok] at h ⊢
    cases hy : pb e1 with
    | bad => trivial
    | exc c y e2 => rw [hy] at h; obtain ⟨S', F', Z', hr, hn, he⟩ := h; rw [hr]; exact ⟨S', F', Z', rfl, hn, he⟩
    | ok y q' e2 =>
      rw [hy] at h
      obtain ⟨d, o⟩ := x
      obtain ⟨d2, o2'⟩ := y
      simp only [xbind_ok, Bool.or_true, if_true, Bool.and_true] at h ⊢
      by_cases z : (o.own && o2'.own) = true
      · rw [if_pos z]
        rw [Bool.and_eq_true] at z
        have z2 : (o.st || q') = true := by cases o <;> first | rfl | cases z.1
        rw [if_pos z2] at h
        obtain ⟨vs, S1, F1, Z1, hr, n, er, ⟨T, av, t1, t2, t3⟩, qt⟩ := h
        rw [hr, bind_ok]
        have hall : allFr [(d, o), (d2, o2')] = true := by
          show (o.own && (o2'.own && true)) = true
          rw [z.1, z.2]; rfl
        have rr := av.own hall
        have I1 := n.ei er
        simp only [List.map_cons, List.map_nil] at rr
        cases rr with
        | @cons _ G1 G2 v _ vs2 _ r r2 hT =>
          cases r2 with
          | @cons _ G3 G4 w _ vs3 _ r' r3 hT2 =>
            cases r3 with
            | nil z4 =>
              unfold addM
              split
              · rename_i xs ys
                obtain ⟨i, us, A, rfl, es, ra, zz⟩ := r.lstT
                obtain ⟨j, ws, B, rfl, es2, rb, zz2⟩ := r'.lstT
                split
                · rename_i hlen
                  have e0 : o2 oAdd [V.ref i, V.ref j] S1 = .ok (.ref S1.length) (S1 ++ [.lst (us ++ ws)]) := by
                    show oAdd (V.ref i) (V.ref j) S1 = _
                    have q1 : rdL S1 (.ref i) = some us := by simp only [rdL, es]
                    have q2 : rdL S1 (.ref j) = some ws := by simp only [rdL, es2]
                    unfold oAdd
                    simp only [q1, q2]
                    rw [ra.len, rb.len, if_pos hlen]
                  rw [e0]
                  have p := pre_add S1 [Ob.lst (us ++ ws)]
                  have n' := nx_pre I1 p
                  have e1' : (S1 ++ [Ob.lst (us ++ ws)])[S1.length]? = some (.lst (us ++ ws)) := by rw [get_new0]; rfl
                  have bF := fun {i} (h : S1.length ≤ i) => I1.r.boundF h
                  have bZ := fun {i} (h : S1.length ≤ i) => I1.r.boundZ h
                  have rab : RpL true S1 (us ++ ws) (xs ++ ys) (fun k => A k + B k) := ra.app rb
                  have hab : ∀ k, A k + B k ≤ T k := fun k => by have := hT k; have := hT2 k; have := zz k; have := zz2 k; omega
                  refine ⟨_, _, F1, Z1, rfl, n.trans n', er.mono (.pre p), ⟨fun k => A k + B k + if k = S1.length then 1 else 0, .lst (.inl e1') (rab.mono (.pre p)) fun _ => rfl, fun k => ?_, fun k hk => ?_, fun k hk => ?_⟩, fun hk => (qt hk).trans ⟨rfl, p, fun _ => rfl, fun _ => rfl⟩⟩
                  · show F1 k + (A k + B k + if k = S1.length then 1 else 0) ≤ 1
                    by_cases y : k = S1.length
                    · have := rab.bound (i := k) (by omega)
                      rw [if_pos y, this, bF (by omega)]; omega
                    · rw [if_neg y]; have := t1 k; have := hab k; omega
                  · show F1 k + (A k + B k + if k = S1.length then 1 else 0) ≤ F k
                    rw [if_neg (by have := n.le; omega)]; have := t2 k hk; have := hab k; omega
                  · show A k + B k + (if k = S1.length then 1 else 0) = 0
                    have := t3 k hk
                    by_cases y : k = S1.length
                    · rw [bZ (by omega)] at hk; omega
                    · rw [if_neg y]; have := hab k; omega
                · trivial
              · cases hp : dAdd d d2 with
                | none => trivial
                | some rr => exact Res.done (S2 := S1) n (n.ei er) qt (Res.two jo_add r.relax r'.relax hp)
      · rw [if_neg z]; trivial
/-- a part of a tuple told just now -/
def ixF (k : Int) (q : Bool) (e : Env) : D × Og → X (D × Og)
  | (.tup ds, .fr) => (match (ixN ds.length k).bind fun j => ds[j]? with
    | some r => .ok (r, .fr) q e
    | none => .bad)
  | _ => .bad
def pIxF (k : Int) (a : PE) : PE := fun e => (a e).bind fun x q e1 => ixF k q e1 x
end Vi
namespace Vi
open PySem PySem.Spec L2 Mi
section
variable (e : Env)
@[simp] theorem pBMF_at (ty : D → Bool) (p : D → List D → Option (D × D)) (a : PE) (as : PA) : pBMF ty p a as e = (a e).bind fun x _ e1 => if (x.2.own && ty x.1) = true then (as e1).bind fun ds q e2 => if (q && allFr ds) = true then (match p x.1 (ds.map (·.1)) with
  | some (_, r) => .ok (r, .fr) false e2
  | none => .bad) else .bad else .bad := rfl
@[simp] theorem pIxF_at (k : Int) (a : PE) : pIxF k a e = (a e).bind fun x q e1 => ixF k q e1 x := rfl
@[simp] theorem ixF_tup (k : Int) (q : Bool) (ds : List D) : ixF k q e (.tup ds, .fr) = kSel (fun _ => .fr) q e ((ixN ds.length k).bind fun j => ds[j]?) := by
  show (match (ixN ds.length k).bind fun j => ds[j]? with
    | some r => X.ok (r, Og.fr) q e
    | none => .bad) = _
  cases (ixN ds.length k).bind fun j => ds[j]? <;> rfl
@[simp] theorem addM_lst (q : Bool) (xs ys : List D) : addM q e (.lst xs) (.lst ys) = if xs.length + ys.length ≤ sizeLine then .ok (.lst (xs ++ ys), .fr) q e else .bad := rfl
@[simp] theorem pAddM_at (a b : PE) : pAddM a b e = (a e).bind fun x q e1 => (b e1).bind fun y q' e2 => if (x.2.own && y.2.own) = true then addM (q && q') e2 x.1 y.1 else .bad := rfl
end
end Vi
namespace Vi
open PySem PySem.Spec L2 Mi
section
variable (e : Env)
@[simp] theorem holP_ix (p : Plc) (k : Nat) : holP e (.ix p k) = match getPl e p with
    | some (.lst xs) => isH xs[k]?
    | some (.tup xs) => isH xs[k]?
    | _ => false := by rw [holP] <;> rfl
@[simp] theorem holP_ky (p : Plc) (k : Key) : holP e (.ky p k) = match getPl e p with
    | some (.dk kds) => isH (valD kds k)
    | _ => false := by rw [holP] <;> rfl
end
end Vi
namespace Vi
open PySem PySem.Spec L2 Mi
/-- what a turn of a loop's body must come to -/
def TurnQ (N : Env → Prop) (Q : XS → Prop) : XS → Prop
  | .nx e => N e
  | .ct e => N e
  | .bk e => Q (.nx e)
  | x => Q x
section
variable (N : Env → Prop) (Q : XS → Prop) (e : Env)
@[simp] theorem turn_nx : TurnQ N Q (.nx e) = N e := rfl
@[simp] theorem turn_ct : TurnQ N Q (.ct e) = N e := rfl
@[simp] theorem turn_bk : TurnQ N Q (.bk e) = Q (.nx e) := rfl
@[simp] theorem turn_rt (d : D) (o : Og) : TurnQ N Q (.rt d o e) = Q (.rt d o e) := rfl
@[simp] theorem turn_exc (c : Nat) (x : Option V) : TurnQ N Q (.exc c x e) = Q (.exc c x e) := rfl
end
theorem TurnQ.mono {N N' : Env → Prop} {Q : XS → Prop} (h : ∀ e, N e → N' e) {x : XS} (t : TurnQ N Q x) : TurnQ N' Q x := by
  cases x with
  | nx e => exact h _ t
  | ct e => exact h _ t
  | bk e => exact t
  | rt _ _ _ => exact t
  | exc _ _ _ => exact t
  | bad => exact t
@[simp] theorem frz1_ow' (d : D) : frz1 (.ow d) = .fz d := rfl
@[simp] theorem frz1_no' : frz1 .no = .no := rfl
@[simp] theorem frz1_fz' (d : D) : frz1 (.fz d) = .fz d := rfl
def kZip (x : D × Og) (q : Bool) : D × Og → Bool → Env → X (List ItD × Bool) := fun y q' e2 => if (q && q') = true then (match x.1, y.1 with
  | .lst xs, .lst ys => .ok (zipD xs ys, okSrc x.2 true && okSrc y.2 true) true e2
  | _, _ => .bad) else .bad
@[simp] theorem pZip_at (a b : PE) (e : Env) : pZip a b e = (a e).bind fun x q e1 => (b e1).bind (kZip x q) := rfl
@[simp] theorem kZip_lst (xs ys : List D) (o o' : Og) (q q' : Bool) (e : Env) : kZip (.lst xs, o) q (.lst ys, o') q' e = if (q && q') = true then .ok (zipD xs ys, okSrc o true && okSrc o' true) true e else .bad := rfl
def kCatN (sub : Nat → Bool) (s : PS) : XS → XS
  | .exc c x e1 => if sub c = true then unB (s e1) else .exc c x e1
  | r => r
@[simp] theorem pTryN_ap (b : PS) (sub : Nat → Bool) (s : PS) (e : Env) : pTryN b sub s e = kCatN sub s (b e) := by
  unfold pTryN kCatN
  cases b e <;> rfl
section
variable (sub : Nat → Bool) (s : PS) (e : Env)
@[simp] theorem kCatN_nx : kCatN sub s (.nx e) = .nx e := rfl
@[simp] theorem kCatN_rt (d : D) (o : Og) : kCatN sub s (.rt d o e) = .rt d o e := rfl
@[simp] theorem kCatN_exc (c : Nat) (x : Option V) : kCatN sub s (.exc c x e) = if sub c = true then unB (s e) else .exc c x e := rfl
@[simp] theorem unB_nx : unB (.nx e) = .nx e := rfl
@[simp] theorem unB_rt (d : D) (o : Og) : unB (.rt d o e) = .rt d o e := rfl
end
end Vi
namespace Mi
open PySem PySem.Spec L2
open PyProof.Rows hiding St
/-- the class object has the form of an exception's class with a dict -/
def oexIn (K : PySem.W.Frag) (C : Addr) : Bool := match K.lookup C with
  | some ⟨.type "type", _, .cls cd, sl⟩ => (match cd.mro, sl.toList with
    | .ref C' :: bm, [_, _, _, _, some (.builtin n), _] => C' == C && n == "ValueError.__new__" && !cd.hasDel && cd.hasDict && PySem.HandSPX.refsVE bm
    | _, _ => false)
  | _ => false
theorem oex_of {K : PySem.W.Frag} {C : Addr} (q : oexIn K C = true) (sa : PySem.W.findIn K (.ref C) "__setattr__" = some (some (.builtin "object.__setattr__"))) (exC : PySem.W.subIn K (.ref C) (.type "BaseException") = some true)
    (tyC : PySem.W.typeIn K (.ref C) = some (.type "type")) (kC : PySem.W.keepIn K (.ref C) = true) : OexC K C := by
  refine ⟨?_, sa, exC, tyC, kC⟩
  unfold oexIn at q
  split at q
  · rename_i dd cd sl ho
    split at q
    · rename_i C' bm k0 k1 k2 k3 n k5 hm hs
      simp only [Bool.and_eq_true, beq_iff_eq, Bool.not_eq_true'] at q
      obtain ⟨⟨⟨⟨rfl, rfl⟩, hdel⟩, hdi⟩, ht⟩ := q
      obtain ⟨nm, bs, mro, ns, qn, hd, sn, sub, ab, col, del⟩ := cd
      dsimp only at hm hdel hdi
      subst hm hdel hdi
      have hsl : sl = #[k0, k1, k2, k3, some (.builtin "ValueError.__new__"), k5] := by
        obtain ⟨l⟩ := sl
        simp only at hs
        rw [hs]
      subst hsl
      exact ⟨nm, qn, ns, bs, bm, sn, sub, ab, col, dd, k0, k1, k2, k3, k5, ho, ht⟩
    · cases q
  · cases q
/-- x.__init__ is ValueError's -/
def HiF (K : PySem.W.Frag) (mg : Str → Option Value) (x : Str) : Prop := ∃ C : Addr, mg x = some (.ref C) ∧ PySem.W.specialIn K (.ref C) "__getattribute__" = some (some (.builtin "type.__getattribute__")) ∧ PySem.W.readsIn K C (.type "type") = true ∧
  PySem.W.findCls K (.ref C) (.type "type") "__init__" = some (.val (.builtin "ValueError.__init__"))
theorem pe_hinit {X : Cx} {e : Expr} {es : List Expr} {ta : TA} {x : Str} {p1 p2 pos : Pos} {pl : Sem Bool} (F : HiF X.K X.mg x) (hg : Gl X x) (ha : PA X (e :: es) ta) (hdb : (x == ("__debug__" : Str)) = false := by decide)
    (hc : eval (.Call (.Attribute (.Name x p1) "__init__" p2) (e :: es) [] pos) X.env = (do
      let ov ← eval (.Name x p1) X.env
      standAt p2.atName
      let (f, first) ← holding [ov] (getMethod ov "__init__" pl)
      callWith pos f first (backTo pos (starEach (e :: es) X.env)) (backToKw pos (keywordEach [] X.env))) := by rfl)
    (he : starEach (e :: es) X.env = (false, eval e X.env) :: starEach es X.env := by rfl) (hpl : (backTo pos (starEach es X.env)).any (·.1) = false := by rfl) :
    PE X (.Call (.Attribute (.Name x p1) "__init__" p2) (e :: es) [] pos) (tVeI X.K ta) := by
  obtain ⟨Ca, hm, hs, hr, hf⟩ := F
  refine ⟨fun pins s σ H Q I h => ?_⟩
  refine PySem.W.methodCall_KW (pl := pl) (ld_glob I hg hm ?_ hdb) hc
  refine PySem.W.method_cls I.kIn hs (PySem.W.cls_value I.kIn hr hf (by decide +kernel) ?_)
  show wpAny _ _ (callWith pos (Value.builtin "ValueError.__init__") [] (backTo pos (starEach (e :: es) X.env)) []) _ _ _
  refine PyProof.Rows.callWith_method1 (thn (ha.run pos pins _ σ H _ (I.tok _) h) fun us s1 ⟨vs, H1, I1, r1, a, C, ws, ev, hl, T, ea, q⟩ => ?_) he hpl
  subst ev
  cases r1 with
  | @cons _ u0 _ ur ra rw' =>
    obtain rfl : u0 = Value.ref a := ra
    have hlen : ur.length ≤ sizeLine := by
      rw [← Paired.length rw', sizeLine_eq]
      omega
    exact oinit_ok T I1 ea hlen fun s' J => ⟨.non, H1, J, rfl, q⟩
/-- what __init__(self, words, row) does -/
def rowSp (K : PySem.W.Frag) : Sp := fun vs H Q _ => ∃ (a C : Addr) (x y : V), vs = [.ref a, x, y] ∧ OexC K C ∧ PySem.W.findIn K (.ref C) "row" = some none ∧ H a = some (exo a C none) ∧
  ∀ dx, H dx = none → dx ≠ a → Q .non (upd (upd H dx (exd dx [(("row" : Str), y)])) a (exo a C (some dx)))
section
variable {P : Program} {w : World} {K : PySem.W.Frag} {mg : Str → Option Value} {base : Heap}
theorem rowInit {x qual : Str} {st : Stmt} {a : Addr} {fd : FuncData} (F : Fun K x qual st a fd) (Sc : FnScope ["self", "words", "row"] ["self", "words", "row"] (defScope st))
    (hbody : ∀ (X : Cx) (cdv : Value) (A : Around) (outer : List Env) (s : Shared) (H : Hp) (E : XK), X = cxOf (L2.CX P w) P w K mg base ["self", "words", "row"] qual (defScope st) a cdv A outer s H E → PSs X (defBody st) (tSeq (tDrop (tVeI X.K (tCons (tVar 0) (tCons (tVar 1) tNil)))) (tOst X.K "row" (tVar 0) (tVar 2)))) :
    FnOk P w K mg base (L2.CX P w) 1 a fd ["self", "words", "row"] (rowSp K) := by
  refine F.okX (k := 0) Sc (fun vs H Q E h => ?_) (fun cdv A outer s H vs Q E hr h => ?_)
  · obtain ⟨_, _, _, _, rfl, _⟩ := h
    rfl
  · obtain ⟨b, C, u, y, rfl, T, hno, e, q⟩ := h
    refine ⟨_, hbody _ cdv A outer s H E rfl, ?_⟩
    exact ⟨_, rfl, _, rfl, b, C, [u], rfl, Nat.le_of_lt (by show 1 < 1000; decide), T, e, _, rfl, _, rfl, b, C, rfl, T, hno, .inl ⟨e, q⟩⟩
end
/-- the class of exceptions at the place c, with __init__(self, words, row) -/
def XrF (T : Tab) (P : Program) (w : World) (K : PySem.W.Frag) (mg : Str → Option Value) (base : Heap) (c : Nat) (x : Str) : Prop := T.xs[c]? = some x ∧ ∃ (C fI : Addr) (fd : FuncData), mg x = some (.ref C) ∧ OexC K C ∧ PySem.W.findIn K (.ref C) "row" = some none ∧
  PySem.W.findIn K (.ref C) "__init__" = some (some (.ref fI)) ∧ PySem.W.typeIn K (.ref fI) = some (.type "function") ∧ Binds K fd ["self", "words", "row"] [] ∧ FnOk P w K mg base (L2.CX P w) 1 fI fd ["self", "words", "row"] (rowSp K)
section
variable {T : Tab} {W : WX} {X : Cx} {k : Nat} {pos p p2 pos' : Pos} {x mm : Str} {e : Expr} {m : ME}
theorem xd_heap {H : Hp} {a C dx : Addr} {fs : List (Str × V)} (ha : H a = none) (hd : H dx = none) (hne : dx ≠ a) : upd (del (upd (upd (upd H a (exo a C none)) dx (exd dx fs)) a (exo a C (some dx))) a) dx (.xd fs) = upd H dx (.xd fs) := by
  funext b
  by_cases h1 : b = dx
  · rw [h1, upd_same, upd_same]
  · rw [upd_ne h1, upd_ne h1]
    by_cases h2 : b = a
    · rw [h2, del_same, ha]
    · rw [del_ne h2, upd_ne h2, upd_ne h1, upd_ne h2]
end
end Mi
namespace Mi
open PySem PySem.Spec L2
open PyProof.Rows hiding St
/-- an exception's row -/
def oRow : V → Sto → R V := fun v S1 => match v with
  | .ref i => match S1[i]? with
    | some (.exc _ (some x)) => .ok x S1
    | _ => .bad
  | _ => .bad
/-- the fields of exceptions may be read, and "row" is none of the classes' own -/
def RowF (T : Tab) (K : PySem.W.Frag) (mg : Str → Option Value) : Prop := ∀ (c : Nat) (x : Str) (C : Addr), T.xs[c]? = some x → mg x = some (.ref C) → XfC K C ∧ PySem.W.findIn K (.ref C) "row" = some none
section
variable {T : Tab} {W : WX} {X : Cx} {o : Expr} {ma : ME} {pos : Pos}
theorem de_row (F : RowF T X.K X.mg) (ho : DE T X W o ma) (hb : attributeBase o "row" X.env (eval o X.env) = eval o X.env := by rfl) : DE T X W (.Attribute o "row" pos) (mUn oRow ma) := by
  refine ⟨fun pins s σ H Q I h => ?_⟩
  obtain ⟨ρ, S, τ, r, l, h⟩ := h
  have h' : den (gm T X) W VR ma σ H (fun w H1 => ∃ ρ1 S1 i c x, Rep (gm T X) ρ1 S1 H1 ∧ VR ρ1 (.ref i) w ∧ S1[i]? = some (.exc c (some x)) ∧ ∀ y, VR ρ1 x y → Q y H1) := by
    refine ⟨ρ, S, τ, r, l, Post.bind h fun ρ1 S1 H1 v w p1 r1 x1 h1 => ?_⟩
    unfold oRow at h1
    split at h1
    · split at h1
      · rename_i i _ c x es
        exact ⟨ρ1, S1, i, c, x, r1, x1, es, fun y hy => h1 ρ1 H1 _ Ext.refl r1 hy⟩
      · exact h1.elim
    · exact h1.elim
  refine attr_of hb (thn (ho.run pins s σ H _ I h') fun u s1 ⟨w, H1, I1, rx, ρ1, S1, i, c, x, r1, x1, es1, q1⟩ => ?_)
  obtain ⟨ad, u', ew, er, eh, ob⟩ := r1.ref es1 x1
  subst ew
  obtain rfl : u = Value.ref ad := rx
  obtain ⟨C2, dd, ⟨y2, hx2, hm2⟩, eu, dr⟩ := ob
  obtain ⟨b, y, eb, vy, hd⟩ := dr
  subst eb
  obtain ⟨XF, hno⟩ := F c y2 C2 hx2 hm2
  subst eu
  have hk : ObjOk X.prog X.w H1 s1.heap ad (ExK C2 (some b) ad) := I1.hok ad _ eh
  obtain ⟨oe, vs, ho1, hc1, hd1, hf1⟩ := (show ∃ (oe : Obj) (vs : Array Value), s1.heap.get? ad = some oe ∧ oe.cls = .ref C2 ∧ oe.dict = some b ∧ oe.data = .fields vs from hk.1)
  have hx : ObjOk X.prog X.w H1 s1.heap b (.xd [(("row" : Str), y)]) := I1.hok b _ hd
  obtain ⟨mA, hns, hr⟩ := hx
  obtain ⟨od, hod, hl⟩ := lookIn_ns hns
  obtain ⟨uu, hu, ru⟩ := RelO.some_of (v := y) (o := mA "row") (hr "row")
  have J : PySem.W.InstAt s1.heap ad oe C2 (some od) := ⟨ho1, hc1, by unfold PySem.W.notCls; rw [hf1] <;> rfl, by rw [hd1]; exact hod⟩
  exact HandSPX.exc_get I1.kIn J XF.ga XF.gg XF.exC (PySem.W.findObj_own XF.hdC hno rfl (by rw [hl, hu])) (handed_of ru) ⟨y, H1, I1.tok _, ru, q1 y vy⟩
end
end Mi
namespace Vi
open PySem PySem.Spec L2 Mi
def kRaiseR (c : Nat) : X (D × Og) → XS
  | .ok (.int n, _) _ e1 => .exc c (some (.int n)) e1
  | .exc d x e1 => .exc d x e1
  | _ => .bad
def pRaiseR (c : Nat) (p : PE) : PS := fun e => kRaiseR c (p e)
@[simp] theorem pRaiseR_at (c : Nat) (p : PE) (e : Env) : pRaiseR c p e = kRaiseR c (p e) := Eq.trans rfl rfl
@[simp] theorem kRaiseR_int (c : Nat) (n : Int) (o : Og) (q : Bool) (e : Env) : kRaiseR c (.ok (.int n, o) q e) = .exc c (some (.int n)) e := Eq.trans rfl rfl
@[simp] theorem kRaiseR_exc (c d : Nat) (x : Option V) (e : Env) : kRaiseR c (.exc d x e) = .exc d x e := Eq.trans rfl rfl
def dRow : D → Option D
  | .exc _ (some (.int n)) => some (.int n)
  | _ => none
theorem jo_row : JO (o1 oRow) (p1 dRow) := jo1 fun S x d F r a h => by
  unfold dRow at h
  split at h
  · cases h
    cases a with
    | exc es z =>
      rename_i c n i
      rw [show oRow (.ref i) S = .ok (.int n) S by unfold oRow; simp only [es]]
      exact .int
  · cases h
@[simp] theorem dRow_exc (c : Nat) (n : Int) : dRow (.exc c (some (.int n))) = some (.int n) := rfl
end Vi
namespace Mi
open PySem PySem.Spec L2
open PyProof.Rows hiding St
def okMul (z : Str) (k : Int) : Prop := -1000 ≤ k ∧ k ≤ 1000 ∧ z.length ≤ 1000
instance (z : Str) (k : Int) : Decidable (okMul z k) := by unfold okMul; exact inferInstance
theorem okMul.ok {z : Str} {k : Int} (h : okMul z k) : MulOk z k := by
  obtain ⟨h1, h2, h3⟩ := h
  have hz : z.length * k.toNat ≤ 1000 * 1000 := Nat.mul_le_mul h3 (by omega)
  refine ⟨?_, fun h0 _ q => ?_, fun h0 _ => ?_⟩
  · rw [Bool.or_eq_false_iff]
    exact ⟨decide_eq_false (by omega), decide_eq_false (by omega)⟩
  · have : (z.length : Int) ≤ (2 ^ 63 - 1) / k := by
      rw [Int.le_ediv_iff_mul_le (by omega)]
      have : (z.length : Int) * k ≤ 1000 * 1000 := Int.mul_le_mul (by omega) h2 (by omega) (by omega)
      omega
    omega
  · unfold Builtin.Str.tooLong
    exact decide_eq_false (by unfold sizeLine; omega)
def oMulS : V → V → Sto → R V := fun x y S => match x, y with
  | .str z, .int k => if okMul z k then .ok (.str (Txt.mul z k)) S else .bad
  | _, _ => .bad
theorem op2_mulS {T : Tab} {X : Cx} : Op2 T X (binaryOp .Mult) oMulS := by
  refine ⟨opR_of fun pins s σ H x y v u Q ρ S a b τ I rx ry r va vb h => ?_, fun x y S => ?_⟩
  · unfold oMulS at h
    split at h
    · cases va
      cases vb
      split at h
      · rename_i hz
        obtain ⟨t, rfl⟩ := rx
        obtain ⟨t', rfl⟩ := ry
        exact SB.mul hz.ok fun t' k => ⟨.str (Txt.mul _ _), H, I.tok _, ⟨_, rfl⟩, h ρ H _ Ext.refl r rfl⟩
      · exact h.elim
    · exact h.elim
  · unfold oMulS
    repeat' split
    all_goals trivial
end Mi
namespace Vi
open PySem PySem.Spec L2
open PyProof.Rows hiding St
open Mi
def dMulS : D → D → Option D
  | .str z, .int k => if okMul z k then some (.str (Txt.mul z k)) else none
  | _, _ => none
theorem jo_mulS : JO (o2 oMulS) (p2 dMulS) := jo2 fun S x y d e F G r a b h => by
  unfold dMulS at h
  split at h
  · split at h
    · rename_i z
      cases h; rw [a.inv_str, b.inv_int]
      have : oMulS (.str _) (.int _) S = .ok (.str _) S := if_pos z
      rw [this]; exact .str
    · cases h
  · cases h
end Vi
namespace Mi
open PySem PySem.Spec PySem.Calls L2
open PyProof.Rows hiding St
open PySem.W (findIn specialIn takesIn subIn mroIn hasDictIn InstAt clsIn any_some looks_findIn looks_find looks_subIn class_get KitX Frag findObj Looks check_slot handedOut_of)
section
variable {prog : Program} {w : World} {A : Around} {E : Value → Shared → Prop} {s : Shared} {K : Frag} {x D : Addr} {ox : Obj} {od : Option Obj}
theorem findObj_dataD {C : Addr} {name : Str} {a g : Value} (hc : (clsIn K C).isSome = true) (ha : findIn K (.ref C) name = some (some a)) (hg : specialIn K a "__get__" = some (some g)) (ht : takesIn K a = some true) : PySem.W.findObj K C od name = some (.bind g a) := by
  obtain ⟨cd, hc⟩ := Option.isSome_iff_exists.mp hc
  unfold PySem.W.findObj
  rw [hc, Option.bind_some, ha, Option.bind_some]
  simp [hg, ht]
theorem kin_classD {Q : Option Value → Shared → Prop} (hga : findIn K (.ref D) "__getattribute__" = some (some (.builtin "BaseException.__getattribute__"))) (hgt : findIn K (.ref D) "__getattr__" = some none) (hsub : subIn K (.ref D) (.type "BaseException") = some true)
    (hdct : hasDictIn K D = true) (ha : findIn K (.ref D) "__class__" = some (some (.builtin "object.__class__")))
    (hn : specialIn K (.builtin "object.__class__") "__get__" = some (some (.builtin "getset_descriptor.__get__"))) (htk : takesIn K (.builtin "object.__class__") = some true) (hm : mroIn K D (.type "object") = some true)
    (X : K.In s.heap) (I : InstAt s.heap x ox D od) (h : Q (some (.ref D)) { s with toks := s.toks + 1 }) : wpAny (model prog w) A (getAttr? (.ref x) "__class__") Q E s := by
  have hf : findObj K D od "__class__" = some (.bind (.builtin "getset_descriptor.__get__") (.builtin "object.__class__")) := findObj_dataD (by obtain ⟨cd, hc, _⟩ := any_some hdct; rw [hc]; rfl) ha hn htk
  obtain ⟨hp, g, d, t, os⟩ := s
  have L0 := I.type (M := model prog w)
  have L1 := looks_findIn (M := model prog w) X hga
  have L2 := looks_findIn (M := model prog w) X hgt
  have L3 := looks_find (M := model prog w) X I hf
  have sub : Looks (model prog w) hp (isInstance (.ref x) (.type "BaseException")) true := L0.andThen (looks_subIn X hsub)
  have hx0 : (false && onTheHeap (Value.builtin "BaseException.__getattribute__")) = false := rfl
  have hx2 : (Value.builtin "BaseException.__getattribute__" == Value.builtin "object.__getattribute__") = false := by decide +kernel
  have hx1 : (onTheHeap (Value.ref D) && Value.builtin "BaseException.__getattribute__" == Value.builtin "object.__getattribute__") = false := by rw [hx2]; rfl
  unfold getAttr? getAttrBy? getAttrBy
  refine wpAny_bind (wpAny_mkText (wpAny_bind (wpAny_attempt (wpAny_holding (wpAny_bind (L0.at (wpAny_bind (L1.at ?_))))))))
  show wpAny _ _ (if (onTheHeap (Value.ref D) && Value.builtin "BaseException.__getattribute__" == Value.builtin "object.__getattribute__") = true then _ else _) _ _ _
  rw [hx1, if_neg Bool.false_ne_true]
  unfold getAttrByItsOwn hookBefore
  refine wpAny_bind ?_
  rw [if_pos (show onTheHeap (Value.ref D) = true from rfl)]
  refine L2.at ?_
  refine wpAny_bind (wpAny_attempt (wpAny_holding ?_))
  unfold callGetattribute
  rw [hx0, if_neg Bool.false_ne_true]
  unfold boundAndCalled
  rw [PySem.F.excAttr_ValueError.ga.bind (.ref x)]
  refine wpAny_bind (wpAny_pure ?_)
  show wpAny _ _ (call (.builtin "BaseException.__getattribute__") [.ref x, .str "__class__" t]) _ _ _
  refine wpAny_call (codeAny_call_builtin PySem.F.excAttr_ValueError.ga.plain PySem.F.entry_bexc_ga ?_)
  refine @check_slot (model prog w) _ _ ⟨hp, g, d, t + 1, os⟩ "BaseException.__getattribute__" "BaseException" "__getattribute__" (.ref x) [.str "__class__" t] [] _ (by decide +kernel) (by decide +kernel) sub (PySem.F.args_bexc_ga (.ref x) (.str "__class__" t)) ?_
  unfold Builtin.«object.__getattribute__»
  refine wpAny_bind (wpAny_of_eq (a := ((Value.ref x : Value), [Value.str "__class__" t])) (by first | rfl | (simp only [slotArgs]; rfl)) ?_)
  refine wpAny_bind (wpAny_pure (wpAny_bind (L0.at (wpAny_bind (L3.at ?_)))))
  show wpAny _ _ (holding [Value.builtin "object.__class__"] (call (.builtin "getset_descriptor.__get__") [.builtin "object.__class__", .ref x, .ref D]) >>= ret) _ _ _
  refine wpAny_bind (wpAny_holding (wpAny_call (class_get (s := ⟨hp, g, d, t + 1, os⟩) (ox := ox) (od := od) X I hm ?_)))
  refine wpAny_pure ?_
  show wpAny _ _ (handedOut (.ref D)) _ _ _
  rw [handedOut_of (v := .ref D) rfl]
  first
    | exact wpAny_pure (wpAny_pure h)
    | exact wpAny_pure h
    | exact wpAny_pure (wpAny_bind (wpAny_pure (wpAny_pure h)))
theorem kitx_excD (hga : findIn K (.ref D) "__getattribute__" = some (some (.builtin "BaseException.__getattribute__"))) (hgt : findIn K (.ref D) "__getattr__" = some none) (hsub : subIn K (.ref D) (.type "BaseException") = some true) (hdct : hasDictIn K D = true) (ha : findIn K (.ref D) "__class__" = some (some (.builtin "object.__class__")))
    (hn : specialIn K (.builtin "object.__class__") "__get__" = some (some (.builtin "getset_descriptor.__get__"))) (htk : takesIn K (.builtin "object.__class__") = some true) (hm : mroIn K D (.type "object") = some true) :
    KitX K (.ref x) (.ref D) (fun h => InstAt h x ox D od) where
  ty := fun _ _ _ I => I.type
  it := fun _ _ X _ => by
    obtain ⟨cdD, hcD, _⟩ := any_some hdct
    unfold clsIn at hcD
    split at hcD
    · rename_i c' d' cd' sl' ho
      intro A' Q' E' s' k q
      unfold isType loadHead
      exact wpAny_bind (wpAny_loadPart (k _ _ (X _ _ ho)) (wpAny_pure q))
    · cases hcD
  ne := fun h tp dd its n sl X htp => by
    obtain ⟨cdD, hcD, _⟩ := any_some hdct
    refine Bool.eq_false_iff.mpr fun q => ?_
    have e : D = tp := Value.ref.inj (beq_iff_eq.mp q)
    subst e
    unfold clsIn at hcD
    split at hcD
    · rename_i c' d' cd' sl' ho
      have z := (X _ _ ho).symm.trans htp
      cases z
    · cases hcD
  ca := fun X I k => kin_classD hga hgt hsub hdct ha hn htk hm X I k
end
/-- what an object is, also of an exception with a row -/
def tagX (S : Sto) : V → Option Tag
  | .non => some .non
  | .bl _ => some .bl
  | .int _ => some .int
  | .str _ => some .str
  | .ref i => match S[i]? with
    | some (.lst _) => some .lst
    | some (.lck (.lst _)) => some .lst
    | some (.tup _) => some .tup
    | some (.dK _) => some .dct
    | some (.lck (.dK _)) => some .dct
    | some (.exc c _) => some (.exc c)
    | some (.ins c _) => some (.ins c)
    | _ => none
  | _ => none
theorem tagX_of {S : Sto} {v : V} (h : ¬ ∃ i c y, v = .ref i ∧ S[i]? = some (.exc c (some y))) : tagX S v = tagOf S v := by
  cases v with
  | ref i =>
    unfold tagX tagOf
    dsimp only
    cases hS : S[i]? with
    | none => rfl
    | some o =>
      cases o with
      | exc c x =>
        cases x with
        | none => rfl
        | some y => exact absurd ⟨i, c, y, rfl, hS⟩ h
      | lck o' => cases o' <;> rfl
      | _ => rfl
  | _ => rfl
def mIsiX (tab : List (Tag × Bool)) (a : ME) : ME := fun σ S => (a σ S).bind fun v S1 => match tagX S1 v with
  | some t => match lookT tab t with
    | some b => .ok (.bl b) S1
    | none => .bad
  | none => .bad
section
variable {T : Tab} {W : WX} {X : Cx} {pins : List (Addr × Obj)} {σ : L2.St} {H : Hp} {s : Shared} {k : Nat} {e ce : Expr} {m : ME} {p pos : Pos}
theorem kit_tagX {ρ : List Addr} {S : Sto} {v w : V} {u t : Value} {g : Tag} (I : Inv X pins σ H s) (r : Rep (gm T X) ρ S H) (x : VR ρ v w) (rw' : RelV w u) (e : tagX S v = some g) (ht : TagV T X.K X.mg g t) :
    ∃ P : Heap → Prop, PySem.W.KitX X.K u t P ∧ P s.heap ∧ u ≠ .builtin "__main__.__loader__#opaque" := by
  by_cases hx : ∃ i c y, v = .ref i ∧ S[i]? = some (.exc c (some y))
  · obtain ⟨i, c, x', rfl, es⟩ := hx
    have e : some (Tag.exc c) = some g := by
      rw [← e]
      simp only [tagX, es]
    cases e
    obtain ⟨y, C, hx, hm, et, xc⟩ := ht
    subst et
    obtain ⟨a, u', ew, er, eh, C2, dd, xc2, eu, dr⟩ := r.ref es x
    subst ew
    obtain ⟨y2, hx2, hm2⟩ := xc2
    have q1 : some y = some y2 := hx.symm.trans hx2
    cases q1
    have q2 : some (Value.ref C) = some (Value.ref C2) := hm.symm.trans hm2
    cases q2
    obtain ⟨b, y', eb, vy, hd⟩ := dr
    subst eb
    subst eu
    have hk : ObjOk X.prog X.w H s.heap a (ExK C (some b) a) := I.hok a _ eh
    obtain ⟨oe, vs, ho1, hc1, hd1, hf1⟩ := (show ∃ (oe : Obj) (vs : Array Value), s.heap.get? a = some oe ∧ oe.cls = .ref C ∧ oe.dict = some b ∧ oe.data = .fields vs from hk.1)
    have hxo : ObjOk X.prog X.w H s.heap b (.xd [(("row" : Str), y')]) := I.hok b _ hd
    obtain ⟨mA, hns, hr⟩ := hxo
    obtain ⟨od, hod, hl⟩ := lookIn_ns hns
    cases rw'
    exact ⟨_, kitx_excD xc.hg xc.hk xc.hs xc.hd xc.ha xc.hn xc.ht xc.hm, (⟨ho1, hc1, by unfold PySem.W.notCls; rw [hf1] <;> rfl, by rw [hd1]; exact hod⟩ : PySem.W.InstAt s.heap a oe C (some od)), fun z => nomatch z⟩
  · have e' : tagOf S v = some g := by rw [← tagX_of hx]; exact e
    exact kit_tag I r x rw' e' ht
theorem de_isiX {cw : V} {cv : Value} {tab : List (Tag × Bool)} (hm : X.mg "isinstance" = none) (he : DE T X W e m) (hc : PE X ce (tC cw)) (hcv : ClsV cw cv) (ht : ITab T X.K X.mg [cv] tab) (hg : Gl X "isinstance" := by rfl)
    (hs1 : starEach [e, ce] X.env = (false, eval e X.env) :: starEach [ce] X.env := by rfl) (hs2 : starEach [ce] X.env = (false, eval ce X.env) :: starEach [] X.env := by rfl) (hpl : (backTo pos (starEach [ce] X.env)).any (·.1) = false := by rfl) :
    DE T X W (.Call (.Name "isinstance" p) [e, ce] [] pos) (mIsiX tab m) := by
  have hcall : CallR X (.builtin "isinstance") (fun xs H Q => ∃ ρ S v x g b, xs = [x, cw] ∧ Rep (gm T X) ρ S H ∧ VR ρ v x ∧ tagX S v = some g ∧ lookT tab g = some b ∧ Q (.bl b) H) := by
    intro pins s σ H xs us Q I r h
    obtain ⟨ρ, S, v, x, g, b, rfl, rp, vx, eg, el, q⟩ := h
    obtain ⟨u1, u2, rfl, r1, r2⟩ := vals2 r
    have e2 := hcv.eq r2
    subst e2
    obtain ⟨t, tv, ka⟩ := ht.get el
    obtain ⟨P, Z, pp, hx⟩ := kit_tagX I rp vx r1 eg tv
    have ko : PySem.W.kitOne X.K t u2 = some b := by
      unfold PySem.W.kitAny at ka
      cases h1 : PySem.W.kitOne X.K t u2 with
      | none => rw [h1] at ka; cases ka
      | some c =>
        rw [h1] at ka
        cases c with
        | true => exact ka
        | false => exact ka
    exact PySem.W.kia_one Z I.kIn pp ko hx fun tk => ⟨.bl b, H, I.tok tk, rfl, q⟩
  refine (pe_callB hcall hg hm (by decide +kernel) (pa_cons he (pa_cons hc pa_nil hs2) hs1) (by decide) (by decide) hs1 hpl).imp fun σ H Q h => ?_
  obtain ⟨ρ, S, τ, r, l, h⟩ := h
  refine ⟨ρ, S, τ, r, l, Post.bind h fun ρ1 S1 H1 v w p1 r1 x1 h1 => ?_⟩
  split at h1
  · rename_i g eg
    split at h1
    · rename_i b eb
      exact ⟨ρ1, S1, v, w, g, b, rfl, r1, x1, eg, eb, h1 ρ1 H1 _ Ext.refl r1 rfl⟩
    · exact h1.elim
  · exact h1.elim
theorem de_is1X {x : Str} {p2 : Pos} {tab : List (Tag × Bool)} (hm : X.mg "isinstance" = none) (F : IsiF T X.K X.mg [x] tab) (he : DE T X W e m) (hgx : Gl X x := by rfl) (hn : x ≠ "__name__" := by decide) (hd : (x == ("__debug__" : Str)) = false := by decide) (hg : Gl X "isinstance" := by rfl)
    (hs1 : starEach [e, .Name x p2] X.env = (false, eval e X.env) :: starEach [.Name x p2] X.env := by rfl) (hs2 : starEach [.Name x p2] X.env = (false, eval (.Name x p2) X.env) :: starEach [] X.env := by rfl) (hpl : (backTo pos (starEach [.Name x p2] X.env)).any (·.1) = false := by rfl) :
    DE T X W (.Call (.Name "isinstance" p) [e, .Name x p2] [] pos) (mIsiX tab m) := by
  obtain ⟨vs, hv, ht⟩ := F
  cases hv with
  | cons h1 h2 =>
    cases h2
    obtain ⟨cw, hc, he2⟩ := nm_pe (p := p2) h1 hgx hn hd
    exact de_isiX hm he he2 hc ht hg hs1 hs2 hpl
end
end Mi
namespace Vi
open PySem PySem.Spec L2
open PyProof.Rows hiding St
open Mi
def oIsiX (tab : List (Tag × Bool)) : V → Sto → R V := fun v S1 => match tagX S1 v with
  | some t => match lookT tab t with
    | some b => .ok (.bl b) S1
    | none => .bad
  | none => .bad
def tagXD : D → Option Tag
  | .exc c (some _) => some (.exc c)
  | d => tagD d
theorem Rp.tagX {S : Sto} {w : Bool} {v : V} {d : D} {F : Ft} {t : Tag} (r : Rp w S v d F) (h : tagXD d = some t) : Mi.tagX S v = some t := by
  by_cases hx : ∃ i c y, v = .ref i ∧ S[i]? = some (.exc c (some y))
  · obtain ⟨i, c, y, rfl, es⟩ := hx
    cases r with
    | exc e _ =>
      rw [es] at e
      cases e
      cases h
      simp only [Mi.tagX, es]
    | lst e _ _ => exact absurd e (by rw [es]; rintro (q | ⟨_, q⟩) <;> cases q)
    | dk e _ _ _ => exact absurd e (by rw [es]; rintro (q | ⟨_, q⟩) <;> cases q)
    | tup e _ => rw [es] at e; cases e
    | ins e _ _ => rw [es] at e; cases e
    | hole _ => cases h
  · rw [tagX_of hx]
    refine r.tag ?_
    unfold tagXD at h
    split at h
    · rename_i c y
      cases r with
      | exc e _ => exact absurd ⟨_, _, _, rfl, e⟩ hx
    · exact h
def dIsiX (tab : List (Tag × Bool)) (d : D) : Option D := ((tagXD d).bind (lookT tab)).map .bl
theorem je_isiX {tab : List (Tag × Bool)} {ma : ME} {pa : PE} (ha : JE ma pa) : JE (mIsiX tab ma) (pUn (dIsiX tab) pa) := je_un (o := oIsiX tab) (jo1 fun S x d F r a h => by
  unfold dIsiX at h
  cases q : tagXD d with
  | none => rw [q] at h; cases h
  | some t =>
    rw [q] at h
    simp only [Option.bind_some] at h
    have ht := a.tagX q
    cases q2 : lookT tab t with
    | none => rw [q2] at h; cases h
    | some b =>
      rw [q2] at h
      cases h
      have : oIsiX tab x S = .ok (.bl b) S := by unfold oIsiX; rw [ht]; dsimp only; rw [q2]
      rw [this]
      exact .bl) ha
@[simp] theorem dIsiX_exc (tab : List (Tag × Bool)) (c : Nat) (n : V) : dIsiX tab (.exc c (some n)) = (lookT tab (.exc c)).map .bl := rfl
@[simp] theorem dIsiX_non (tab : List (Tag × Bool)) : dIsiX tab .non = (lookT tab .non).map .bl := rfl
end Vi
namespace Mi
open PySem PySem.Spec PySem.Calls L2
open PyProof.Rows hiding St
theorem pe_excK {X : Cx} {C : Addr} {bmB : List Value} {B newId initId : String} {x : Str} {e : Expr} {ta : TE} {p pos : Pos} (F : ExcBaseFacts B newId initId bmB) (q : PySem.W.excIn X.K C bmB newId = true) (gC : X.mg x = some (.ref C)) (kC : PySem.W.keepIn X.K (.ref C) = true) (hg : Gl X x)
    (he : PE X e ta) (hs : starEach [e] X.env = (false, eval e X.env) :: starEach [] X.env := by rfl) (hdb : (x == ("__debug__" : Str)) = false := by decide) :
    PE X (.Call (.Name x p) [e] [] pos) (fun σ H Q => ta σ H fun _ H1 => ∀ a, H1 a = none → Q (.ref a) (upd H1 a (ExK C none a))) := by
  refine ⟨fun pins s σ H Q I h => ?_⟩
  refine wpAny_Call_Name_kw (ld_glob I hg gC ?_ hdb)
  refine PySem.W.callWith_K (h₀ := X.base) I.ok.mod.kin kC ?_ hs (by rfl)
  rw [hs]
  show wpAny _ _ (spliced ((false, eval e X.env) :: backTo pos (starEach [] X.env))) _ _ s
  refine Calls.spliced_cons (thn (he.run pins s σ H _ I h) fun u s1 ⟨v, H1, I1, r1, q1⟩ => ?_)
  refine Calls.spliced_nil ⟨I1.kIn, ?_⟩
  show wpAny _ _ (call (.ref C) [u]) _ _ _
  obtain ⟨bm, N, nm, qn, bs, hdct, sn, sub, ab, col, dd, k0, k1, k2, k3, k5, mN, hC, hN, hni, T⟩ := exc_obj I1.kIn q
  refine wpAny_call_exc_subT F T hC hN hni (fun h' a hm => ?_) (by show 1 ≤ sizeLine; rw [sizeLine_eq]; omega)
  have hn : H1 a = none := I1.hok.gone hm.new
  obtain ⟨t, ht, _, _⟩ := hm.there
  exact ⟨.ref a, upd H1 a (ExK C none a), I1.laidN hm.keeps hm.new hn (exK_ok ht rfl rfl ⟨_, rfl⟩), rfl, q1 a hn⟩
def oExc1 (c : Nat) : V → Sto → R V := fun _ S1 => .ok (.ref S1.length) (S1 ++ [.exc c none])
theorem de_exc1 {T : Tab} {W : WX} {X : Cx} {c : Nat} {x : Str} {e : Expr} {m : ME} {p pos : Pos} (F : XcF T X.K X.mg c x) (he : DE T X W e m) (hg : Gl X x := by rfl) (hs : starEach [e] X.env = (false, eval e X.env) :: starEach [] X.env := by rfl) (hdb : (x == ("__debug__" : Str)) = false := by decide) :
    DE T X W (.Call (.Name x p) [e] [] pos) (mUn (oExc1 c) m) := by
  obtain ⟨hx, Ca, gC, q, kC, sC, tC⟩ := F
  refine (pe_excK PySem.F.excBase_ValueError q gC kC hg he hs hdb).imp fun σ H Q h => ?_
  obtain ⟨ρ, S, τ, r, l, h⟩ := h
  refine ⟨ρ, S, τ, r, l, Post.bind h fun ρ1 S1 H1 v w p1 r1 x1 h1 => ?_⟩
  intro a np
  exact h1 _ _ _ (Ext.new np) (r1.alloc (o := .exc c none) np ⟨Ca, none, ⟨x, hx, gC⟩, rfl, rfl⟩) (new_ref r1.len)
end Mi
namespace Vi
open PySem PySem.Spec L2
open PyProof.Rows hiding St
open Mi
def dExc1 (c : Nat) : D → Option D := fun _ => some (.exc c none)
theorem je_exc1 {c : Nat} {ma : ME} {pa : PE} (ha : JE ma pa) : JE (mUn (oExc1 c) ma) (pUn (dExc1 c) pa) := je_un (o := oExc1 c) (jo1 fun S x d F r a h => by
  unfold dExc1 at h
  cases h
  exact ⟨_, _, fun _ => 0, rfl, pre_add _ _, .exc (by rw [get_new0]; rfl) (fun _ => rfl), fun i k => absurd k (by simp), fun i => by simp⟩) ha
end Vi
namespace Mi
open PySem PySem.Spec PySem.Calls L2
open PyProof.Rows hiding St
theorem pe_of_mk {X : Cx} {e : Expr} {t : L2.St → Hp → XK → Prop} (h : PMk X e t) : PE X e (fun σ H Q => t σ H fun cls d H3 => ∃ C, cls = .ref C ∧ ∀ a, H3 a = none → Q (.ref a) (upd H3 a (ExK C d a))) := by
  refine ⟨fun pins s σ H Q I q => ?_⟩
  refine wpAny_mono (h pins s σ H _ I q) (fun u s' hu => ?_) fun _ _ z => z
  obtain ⟨a, oe, vs, sI, H', cls, d, rfl, J, k, ga, ho, hz, hd, h1, hn, os, hb, _, C, rfl, qq⟩ := hu
  have new : ObjOk X.prog X.w (upd H' a (ExK C d a)) s'.heap a (ExK C d a) := exK_ok ho hz.1 hz.2 ⟨vs, hd⟩
  obtain ⟨h2, g2, d2, t2, os2⟩ := s'
  obtain ⟨G, g1, d1, t1, os1⟩ := sI
  have J2 : Inv X pins σ (upd H' a (ExK C d a)) ⟨h2, g2, d2, t2, os2⟩ := J.call' (ch := []) os (Un.laidN k ga hn) (J.hok.laidN k hn new) hb (fun b z => absurd z (by simp))
  exact ⟨.ref a, _, J2, rfl, qq a hn⟩
def oExcR (c : Nat) : List V → Sto → R V := fun vs S1 => match vs with
  | [.str _, y] => .ok (.ref S1.length) (S1 ++ [.exc c (some y)])
  | _ => .bad
section
variable {T : Tab} {W : WX} {X : Cx} {k : Nat} {pos p : Pos} {x : Str} {e1 e2 : Expr} {ms : MA}
theorem de_excR {c : Nat} (C : Ctx X W k) (F : XrF T X.prog X.w X.K X.mg X.base c x) (ha : DA T X W [e1, e2] ms) (hk : 2 ≤ k) (hg : Gl X x := by rfl) (hdb : (x == ("__debug__" : Str)) = false := by decide)
    (h1 : starEach [e1, e2] X.env = (false, eval e1 X.env) :: starEach [e2] X.env := by rfl) (hpl : (backTo pos (starEach [e2] X.env)).any (·.1) = false := by rfl) :
    DE T X W (.Call (.Name x p) [e1, e2] [] pos) (mCall (oExcR c) ms) := by
  obtain ⟨hx, Ca, fI, fd, gC, T1, hno, iC, tI, hb, F1⟩ := F
  refine (pe_of_mk (pmk_oex (dvs := []) (ds := []) T1 iC tI F1 (C.room.mono hk) hb .nil passL hg gC ha hdb h1 hpl)).imp fun σ H Q h => ?_
  obtain ⟨ρ, S, τ, r, l, h⟩ := h
  refine ⟨ρ, S, τ, r, l, Post.bind h fun ρ1 S1 H1 vs ws p1 r1 x1 h1 => ?_⟩
  unfold oExcR at h1
  split at h1
  · rename_i z y
    cases x1 with
    | cons a b =>
      cases b with
      | cons a' b' =>
        rename_i w2 _
        cases b'
        cases a
        refine ⟨by show 2 ≤ 1000; decide, fun a ha => ⟨a, Ca, .str z, _, rfl, T1, hno, upd_same, fun dx hd hne => ?_⟩⟩
        have hd2 : H1 dx = none := by rw [upd_ne hne] at hd; exact hd
        refine ⟨rfl, dx, [(("row" : Str), _)], upd_same, by rw [upd_ne hne, upd_same], hd2, ?_⟩
        rw [xd_heap ha hd2 hne]
        refine ⟨Ca, rfl, fun b hb => ?_⟩
        have hbd : b ≠ dx := fun q => by rw [q, upd_same] at hb; cases hb
        have hb1 : H1 b = none := by rw [upd_ne hbd] at hb; exact hb
        have ex : Ext ρ1 H1 (ρ1 ++ [b]) (upd (upd H1 dx (.xd [(("row" : Str), _)])) b (ExK Ca (some dx) b)) := (Ext.aside hd2).trans (Ext.new hb)
        exact h1 _ _ _ ex ((r1.beside hd2).alloc (o := .exc c (some y)) hb ⟨Ca, some dx, ⟨x, hx, gC⟩, rfl, ⟨dx, _, rfl, a'.mono (List.prefix_append _ _), by rw [upd_ne hbd.symm, upd_same]⟩⟩) (new_ref r1.len)
  · exact h1.elim
end
end Mi
namespace Vi
open PySem PySem.Spec L2
open PyProof.Rows hiding St
open Mi
def dExcR (c : Nat) : List D → Option D
  | [.str _, .int n] => some (.exc c (some (.int n)))
  | _ => none
theorem jo_excR {c : Nat} : JO (oExcR c) (dExcR c) := fun S vs ds G g r h => by
  unfold dExcR at h
  split at h
  · cases h
    obtain ⟨v, u, F, F', rfl, a, b⟩ := g.two
    rw [a.inv_str, b.inv_int]
    exact ⟨_, _, fun _ => 0, rfl, pre_add _ _, .exc (by rw [get_new0]; rfl) (fun _ => rfl), fun i k => absurd k (by simp), fun i => by simp⟩
  · cases h
theorem je_excR {c : Nat} {ms : MA} {pa : PA} (ha : JA ms pa) : JE (mCall (oExcR c) ms) (pCall (dExcR c) pa) := je_call jo_excR ha
end Vi
namespace Lw
open PySem PySem.Spec L2 Mi
open PyProof.Rows hiding St
abbrev prog : Program := PySem.Challenge.pw_stillheap_k01_refusals_stand_alone
def T : Tab := ⟨[], ["HeapError", "BadAddress", "BadCount", "BadField", "BadHand", "BadLog", "BadName", "BadPaper", "BadText", "BadView", "NoRoom", "NoRound", "RoundOn", "TooManyWords"]⟩
def it_int : List (Tag × Bool) := [(.non, false), (.bl, true), (.int, true), (.str, false), (.lst, false), (.tup, false), (.dct, false), (.exc 0, false), (.exc 1, false), (.exc 2, false), (.exc 3, false), (.exc 4, false), (.exc 5, false), (.exc 6, false), (.exc 7, false), (.exc 8, false), (.exc 9, false), (.exc 10, false), (.exc 11, false), (.exc 12, false), (.exc 13, false)]
def it_bool : List (Tag × Bool) := [(.non, false), (.bl, true), (.int, false), (.str, false), (.lst, false), (.tup, false), (.dct, false), (.exc 0, false), (.exc 1, false), (.exc 2, false), (.exc 3, false), (.exc 4, false), (.exc 5, false), (.exc 6, false), (.exc 7, false), (.exc 8, false), (.exc 9, false), (.exc 10, false), (.exc 11, false), (.exc 12, false), (.exc 13, false)]
def it_BadHand : List (Tag × Bool) := [(.non, false), (.bl, false), (.int, false), (.str, false), (.lst, false), (.tup, false), (.dct, false), (.exc 0, false), (.exc 1, false), (.exc 2, false), (.exc 3, false), (.exc 4, true), (.exc 5, false), (.exc 6, false), (.exc 7, false), (.exc 8, false), (.exc 9, false), (.exc 10, false), (.exc 11, false), (.exc 12, false), (.exc 13, false)]
def it_BadField : List (Tag × Bool) := [(.non, false), (.bl, false), (.int, false), (.str, false), (.lst, false), (.tup, false), (.dct, false), (.exc 0, false), (.exc 1, false), (.exc 2, false), (.exc 3, true), (.exc 4, false), (.exc 5, false), (.exc 6, false), (.exc 7, false), (.exc 8, false), (.exc 9, false), (.exc 10, false), (.exc 11, false), (.exc 12, false), (.exc 13, false)]
def it_BadCount : List (Tag × Bool) := [(.non, false), (.bl, false), (.int, false), (.str, false), (.lst, false), (.tup, false), (.dct, false), (.exc 0, false), (.exc 1, false), (.exc 2, true), (.exc 3, false), (.exc 4, false), (.exc 5, false), (.exc 6, false), (.exc 7, false), (.exc 8, false), (.exc 9, false), (.exc 10, false), (.exc 11, false), (.exc 12, false), (.exc 13, false)]
def it_BadAddress : List (Tag × Bool) := [(.non, false), (.bl, false), (.int, false), (.str, false), (.lst, false), (.tup, false), (.dct, false), (.exc 0, false), (.exc 1, true), (.exc 2, false), (.exc 3, false), (.exc 4, false), (.exc 5, false), (.exc 6, false), (.exc 7, false), (.exc 8, false), (.exc 9, false), (.exc 10, false), (.exc 11, false), (.exc 12, false), (.exc 13, false)]
def it_BadText : List (Tag × Bool) := [(.non, false), (.bl, false), (.int, false), (.str, false), (.lst, false), (.tup, false), (.dct, false), (.exc 0, false), (.exc 1, false), (.exc 2, false), (.exc 3, false), (.exc 4, false), (.exc 5, false), (.exc 6, false), (.exc 7, false), (.exc 8, true), (.exc 9, false), (.exc 10, false), (.exc 11, false), (.exc 12, false), (.exc 13, false)]
def it_BadPaper : List (Tag × Bool) := [(.non, false), (.bl, false), (.int, false), (.str, false), (.lst, false), (.tup, false), (.dct, false), (.exc 0, false), (.exc 1, false), (.exc 2, false), (.exc 3, false), (.exc 4, false), (.exc 5, false), (.exc 6, false), (.exc 7, true), (.exc 8, false), (.exc 9, false), (.exc 10, false), (.exc 11, false), (.exc 12, false), (.exc 13, false)]
def it_BadName : List (Tag × Bool) := [(.non, false), (.bl, false), (.int, false), (.str, false), (.lst, false), (.tup, false), (.dct, false), (.exc 0, false), (.exc 1, false), (.exc 2, false), (.exc 3, false), (.exc 4, false), (.exc 5, false), (.exc 6, true), (.exc 7, false), (.exc 8, false), (.exc 9, false), (.exc 10, false), (.exc 11, false), (.exc 12, false), (.exc 13, false)]
def it_BadLog : List (Tag × Bool) := [(.non, false), (.bl, false), (.int, false), (.str, false), (.lst, false), (.tup, false), (.dct, false), (.exc 0, false), (.exc 1, false), (.exc 2, false), (.exc 3, false), (.exc 4, false), (.exc 5, true), (.exc 6, false), (.exc 7, false), (.exc 8, false), (.exc 9, false), (.exc 10, false), (.exc 11, false), (.exc 12, false), (.exc 13, false)]
def it_RoundOn : List (Tag × Bool) := [(.non, false), (.bl, false), (.int, false), (.str, false), (.lst, false), (.tup, false), (.dct, false), (.exc 0, false), (.exc 1, false), (.exc 2, false), (.exc 3, false), (.exc 4, false), (.exc 5, false), (.exc 6, false), (.exc 7, false), (.exc 8, false), (.exc 9, false), (.exc 10, false), (.exc 11, false), (.exc 12, true), (.exc 13, false)]
def it_NoRound : List (Tag × Bool) := [(.non, false), (.bl, false), (.int, false), (.str, false), (.lst, false), (.tup, false), (.dct, false), (.exc 0, false), (.exc 1, false), (.exc 2, false), (.exc 3, false), (.exc 4, false), (.exc 5, false), (.exc 6, false), (.exc 7, false), (.exc 8, false), (.exc 9, false), (.exc 10, false), (.exc 11, true), (.exc 12, false), (.exc 13, false)]
def it_NoRoom : List (Tag × Bool) := [(.non, false), (.bl, false), (.int, false), (.str, false), (.lst, false), (.tup, false), (.dct, false), (.exc 0, false), (.exc 1, false), (.exc 2, false), (.exc 3, false), (.exc 4, false), (.exc 5, false), (.exc 6, false), (.exc 7, false), (.exc 8, false), (.exc 9, false), (.exc 10, true), (.exc 11, false), (.exc 12, false), (.exc 13, false)]
def it_BadView : List (Tag × Bool) := [(.non, false), (.bl, false), (.int, false), (.str, false), (.lst, false), (.tup, false), (.dct, false), (.exc 0, false), (.exc 1, false), (.exc 2, false), (.exc 3, false), (.exc 4, false), (.exc 5, false), (.exc 6, false), (.exc 7, false), (.exc 8, false), (.exc 9, true), (.exc 10, false), (.exc 11, false), (.exc 12, false), (.exc 13, false)]
def it_TooManyWords : List (Tag × Bool) := [(.non, false), (.bl, false), (.int, false), (.str, false), (.lst, false), (.tup, false), (.dct, false), (.exc 0, false), (.exc 1, false), (.exc 2, false), (.exc 3, false), (.exc 4, false), (.exc 5, false), (.exc 6, false), (.exc 7, false), (.exc 8, false), (.exc 9, false), (.exc 10, false), (.exc 11, false), (.exc 12, false), (.exc 13, true)]
def it_HeapError : List (Tag × Bool) := [(.non, false), (.bl, false), (.int, false), (.str, false), (.lst, false), (.tup, false), (.dct, false), (.exc 0, true), (.exc 1, true), (.exc 2, true), (.exc 3, true), (.exc 4, true), (.exc 5, true), (.exc 6, true), (.exc 7, true), (.exc 8, true), (.exc 9, true), (.exc 10, true), (.exc 11, true), (.exc 12, true), (.exc 13, true)]
def it_ValueError : List (Tag × Bool) := [(.non, false), (.bl, false), (.int, false), (.str, false), (.lst, false), (.tup, false), (.dct, false), (.exc 0, true), (.exc 1, true), (.exc 2, true), (.exc 3, true), (.exc 4, true), (.exc 5, true), (.exc 6, true), (.exc 7, true), (.exc 8, true), (.exc 9, true), (.exc 10, true), (.exc 11, true), (.exc 12, true), (.exc 13, true)]
def cal_tab : List (Nat × Str) := [(0, "HeapError"), (1, "BadAddress"), (2, "BadCount"), (3, "BadField"), (4, "BadHand"), (5, "BadLog"), (6, "BadName"), (7, "BadPaper"), (8, "BadText"), (9, "BadView"), (10, "NoRoom"), (11, "NoRound"), (12, "RoundOn"), (13, "TooManyWords")]
def f_law_made : Fn := fnOf 3 (mSeq (mSet 2 (mLst (mCons (mUn (oExc1 1) (mVar 0)) (mCons (mUn (oExc1 2) (mVar 0)) (mCons (mUn (oExc1 3) (mVar 0)) (mCons (mUn (oExc1 4) (mVar 0)) (mCons (mCall (oExcR 5) (mCons (mVar 0) (mCons (mVar 1) (mNil)))) (mCons (mUn (oExc1 6) (mVar 0)) (mNil))))))))) (mSeq (mSet 2 (mBin oAdd (mVar 2) (mLst (mCons (mUn (oExc1 7) (mVar 0)) (mCons (mCall (oExcR 8) (mCons (mVar 0) (mCons (mVar 1) (mNil)))) (mCons (mUn (oExc1 9) (mVar 0)) (mCons (mUn (oExc1 10) (mVar 0)) (mCons (mUn (oExc1 11) (mVar 0)) (mCons (mUn (oExc1 12) (mVar 0)) (mNil)))))))))) (mRet (mBin oAdd (mVar 2) (mLst (mCons (mUn (oExc1 13) (mVar 0)) (mNil)))))))
def f_law_flags : Fn := fnOf 2 (mSeq (mSet 1 (mLst (mCons (mIsiX it_BadAddress (mVar 0)) (mCons (mIsiX it_BadCount (mVar 0)) (mCons (mIsiX it_BadField (mVar 0)) (mCons (mIsiX it_BadHand (mVar 0)) (mNil))))))) (mSeq (mSet 1 (mBin oAdd (mVar 1) (mLst (mCons (mIsiX it_BadLog (mVar 0)) (mCons (mIsiX it_BadName (mVar 0)) (mCons (mIsiX it_BadPaper (mVar 0)) (mCons (mIsiX it_BadText (mVar 0)) (mNil)))))))) (mSeq (mSet 1 (mBin oAdd (mVar 1) (mLst (mCons (mIsiX it_BadView (mVar 0)) (mCons (mIsiX it_NoRoom (mVar 0)) (mCons (mIsiX it_NoRound (mVar 0)) (mCons (mIsiX it_RoundOn (mVar 0)) (mNil)))))))) (mRet (mBin oAdd (mVar 1) (mLst (mCons (mIsiX it_TooManyWords (mVar 0)) (mNil))))))))
def f_law_names_of_classes : Fn := fnOf 1 (mSeq (mSet 0 (mLst (mCons (mC (.str "BadAddress")) (mCons (mC (.str "BadCount")) (mCons (mC (.str "BadField")) (mCons (mC (.str "BadHand")) (mCons (mC (.str "BadLog")) (mCons (mC (.str "BadName")) (mCons (mC (.str "BadPaper")) (mCons (mC (.str "BadText")) (mCons (mC (.str "BadView")) (mNil)))))))))))) (mRet (mBin oAdd (mVar 0) (mLst (mCons (mC (.str "NoRoom")) (mCons (mC (.str "NoRound")) (mCons (mC (.str "RoundOn")) (mCons (mC (.str "TooManyWords")) (mNil)))))))))
def f_law_whole : Fn := fnOf 1 (mRet (mAndV (mIsiX it_int (mVar 0)) (mNotV (mIsiX it_bool (mVar 0)))))
def f_law : Fn := fnOf 7 (mSeq (mFor (mWalk (mBin oAdd (mLst (mCons (mC (.int 0)) (mNil))) (mVar 0))) (tgName 1) (mSeq (mSet 3 (mBin oMod (mVar 1) (mBin oPow (mC (.int 10)) (mC (.int 60))))) (mSeq (mSet 4 (mApp 2 f_law_made (mCons (mBin oMulS (mC (.str "words ")) (mBin oMod (mVar 1) (mC (.int 4)))) (mCons (mVar 3) (mNil))))) (mSeq (mFor (mRange1 (mCons (mCall oLen (mCons (mVar 4) (mNil))) mNil)) (tgName 5) (mSeq (mSet 6 (mApp 1 f_law_flags (mCons (mAlt (mBin oIx (mVar 4) (mVar 5)) (mBin oDGet (mVar 4) (mVar 5))) (mNil)))) (mSeq (mIfS (mOr (mB (mBin oNe (mBM "list" oCount (mVar 6) (mCons (mC (.bl true)) (mNil))) (mC (.int 1)))) (mOr (mNot (mB (mAlt (mBin oIx (mVar 6) (mVar 5)) (mBin oDGet (mVar 6) (mVar 5))))) (mNot (mB (mIsiX it_HeapError (mAlt (mBin oIx (mVar 4) (mVar 5)) (mBin oDGet (mVar 4) (mVar 5)))))))) (mRet (mC (.bl false))) (mSkip)) (mIfS (mOr (mNot (mB (mIsiX it_ValueError (mAlt (mBin oIx (mVar 4) (mVar 5)) (mBin oDGet (mVar 4) (mVar 5)))))) (mB (mBin oNe (mCalled cal_tab (mAlt (mBin oIx (mVar 4) (mVar 5)) (mBin oDGet (mVar 4) (mVar 5)))) (mAlt (mBin oIx (mApp 0 f_law_names_of_classes mNil) (mVar 5)) (mBin oDGet (mApp 0 f_law_names_of_classes mNil) (mVar 5)))))) (mRet (mC (.bl false))) (mSkip))))) (mIfS (mOr (mNot (mB (mApp 1 f_law_whole (mCons (mUn oRow (mBin oIx (mVar 4) (mC (.int 4)))) (mNil))))) (mOr (mB (mBin oNe (mUn oRow (mBin oIx (mVar 4) (mC (.int 4)))) (mVar 3))) (mOr (mNot (mB (mApp 1 f_law_whole (mCons (mUn oRow (mBin oIx (mVar 4) (mC (.int 7)))) (mNil))))) (mB (mBin oNe (mUn oRow (mBin oIx (mVar 4) (mC (.int 7)))) (mVar 3)))))) (mRet (mC (.bl false))) (mSkip)))))) (mSeq (mSet 2 (mUn (oExc1 0) (mC (.str "words")))) (mRet (mAndV (mBin oEq (mCalled cal_tab (mVar 2)) (mC (.str "HeapError"))) (mAndV (mBin oEq (mBM "list" oCount (mApp 1 f_law_flags (mCons (mVar 2) (mNil))) (mCons (mC (.bl true)) (mNil))) (mC (.int 0))) (mIsiX it_ValueError (mVar 2)))))))
section
open Vi
def p_law_made : PF := pFn 3 [false, false] (pSeq (pSet 2 (pLst (pCons (pUn (dExc1 1) (pVar 0)) (pCons (pUn (dExc1 2) (pVar 0)) (pCons (pUn (dExc1 3) (pVar 0)) (pCons (pUn (dExc1 4) (pVar 0)) (pCons (pCall (dExcR 5) (pCons (pVar 0) (pCons (pVar 1) (pNil)))) (pCons (pUn (dExc1 6) (pVar 0)) (pNil))))))))) (pSeq (pSet 2 (pAddM (pMv 2) (pLst (pCons (pUn (dExc1 7) (pVar 0)) (pCons (pCall (dExcR 8) (pCons (pVar 0) (pCons (pVar 1) (pNil)))) (pCons (pUn (dExc1 9) (pVar 0)) (pCons (pUn (dExc1 10) (pVar 0)) (pCons (pUn (dExc1 11) (pVar 0)) (pCons (pUn (dExc1 12) (pVar 0)) (pNil)))))))))) (pRet (pAddM (pMv 2) (pLst (pCons (pUn (dExc1 13) (pVar 0)) (pNil)))))))
theorem j_law_made : JF f_law_made [false, false] p_law_made := jf_of (js_seq (js_set 2 (je_lst (ja_cons (je_exc1 (je_var 0)) (ja_cons (je_exc1 (je_var 0)) (ja_cons (je_exc1 (je_var 0)) (ja_cons (je_exc1 (je_var 0)) (ja_cons (je_excR (ja_cons (je_var 0) (ja_cons (je_var 1) (ja_nil)))) (ja_cons (je_exc1 (je_var 0)) (ja_nil))))))))) (js_seq (js_set 2 (je_addM (je_mv 2) (je_lst (ja_cons (je_exc1 (je_var 0)) (ja_cons (je_excR (ja_cons (je_var 0) (ja_cons (je_var 1) (ja_nil)))) (ja_cons (je_exc1 (je_var 0)) (ja_cons (je_exc1 (je_var 0)) (ja_cons (je_exc1 (je_var 0)) (ja_cons (je_exc1 (je_var 0)) (ja_nil)))))))))) (js_ret (je_addM (je_mv 2) (je_lst (ja_cons (je_exc1 (je_var 0)) (ja_nil)))))))
def p_law_flags : PF := pFn 2 [false] (pSeq (pSet 1 (pLst (pCons (pUn (dIsiX it_BadAddress) (pVar 0)) (pCons (pUn (dIsiX it_BadCount) (pVar 0)) (pCons (pUn (dIsiX it_BadField) (pVar 0)) (pCons (pUn (dIsiX it_BadHand) (pVar 0)) (pNil))))))) (pSeq (pSet 1 (pBin dAdd (pVar 1) (pLst (pCons (pUn (dIsiX it_BadLog) (pVar 0)) (pCons (pUn (dIsiX it_BadName) (pVar 0)) (pCons (pUn (dIsiX it_BadPaper) (pVar 0)) (pCons (pUn (dIsiX it_BadText) (pVar 0)) (pNil)))))))) (pSeq (pSet 1 (pBin dAdd (pVar 1) (pLst (pCons (pUn (dIsiX it_BadView) (pVar 0)) (pCons (pUn (dIsiX it_NoRoom) (pVar 0)) (pCons (pUn (dIsiX it_NoRound) (pVar 0)) (pCons (pUn (dIsiX it_RoundOn) (pVar 0)) (pNil)))))))) (pRet (pBin dAdd (pVar 1) (pLst (pCons (pUn (dIsiX it_TooManyWords) (pVar 0)) (pNil))))))))
theorem j_law_flags : JF f_law_flags [false] p_law_flags := jf_of (js_seq (js_set 1 (je_lst (ja_cons (je_isiX (je_var 0)) (ja_cons (je_isiX (je_var 0)) (ja_cons (je_isiX (je_var 0)) (ja_cons (je_isiX (je_var 0)) (ja_nil))))))) (js_seq (js_set 1 (je_bin jo_add (je_var 1) (je_lst (ja_cons (je_isiX (je_var 0)) (ja_cons (je_isiX (je_var 0)) (ja_cons (je_isiX (je_var 0)) (ja_cons (je_isiX (je_var 0)) (ja_nil)))))))) (js_seq (js_set 1 (je_bin jo_add (je_var 1) (je_lst (ja_cons (je_isiX (je_var 0)) (ja_cons (je_isiX (je_var 0)) (ja_cons (je_isiX (je_var 0)) (ja_cons (je_isiX (je_var 0)) (ja_nil)))))))) (js_ret (je_bin jo_add (je_var 1) (je_lst (ja_cons (je_isiX (je_var 0)) (ja_nil))))))))
def p_law_names_of_classes : PF := pFn 1 [] (pSeq (pSet 0 (pLst (pCons (pC (.str "BadAddress")) (pCons (pC (.str "BadCount")) (pCons (pC (.str "BadField")) (pCons (pC (.str "BadHand")) (pCons (pC (.str "BadLog")) (pCons (pC (.str "BadName")) (pCons (pC (.str "BadPaper")) (pCons (pC (.str "BadText")) (pCons (pC (.str "BadView")) (pNil)))))))))))) (pRet (pBin dAdd (pVar 0) (pLst (pCons (pC (.str "NoRoom")) (pCons (pC (.str "NoRound")) (pCons (pC (.str "RoundOn")) (pCons (pC (.str "TooManyWords")) (pNil)))))))))
theorem j_law_names_of_classes : JF f_law_names_of_classes [] p_law_names_of_classes := jf_of (js_seq (js_set 0 (je_lst (ja_cons (je_str _) (ja_cons (je_str _) (ja_cons (je_str _) (ja_cons (je_str _) (ja_cons (je_str _) (ja_cons (je_str _) (ja_cons (je_str _) (ja_cons (je_str _) (ja_cons (je_str _) (ja_nil)))))))))))) (js_ret (je_bin jo_add (je_var 0) (je_lst (ja_cons (je_str _) (ja_cons (je_str _) (ja_cons (je_str _) (ja_cons (je_str _) (ja_nil)))))))))
def p_law_whole : PF := pFn 1 [false] (pRet (pAndV (pUn (dIsiX it_int) (pVar 0)) (pUn dNot (pUn (dIsiX it_bool) (pVar 0)))))
theorem j_law_whole : JF f_law_whole [false] p_law_whole := jf_of (js_ret (je_and (je_isiX (je_var 0)) (je_not (je_isiX (je_var 0)))))
def p_law : PF := pFn 7 [false] (pSeq (pFor (pWalk (pBin dAdd (pLst (pCons (pC (.int 0)) (pNil))) (pVar 0))) (tdName 1) (pSeq (pSet 3 (pBin dMod (pVar 1) (pBin dPow (pC (.int 10)) (pC (.int 60))))) (pSeq (pSet 4 (pApp [false, false] p_law_made [.v (pBin dMulS (pC (.str "words ")) (pBin dMod (pVar 1) (pC (.int 4)))), .v (pVar 3)])) (pSeq (pFor (pRange1 (pCons (pCall dLen (pCons (pVar 4) (pNil))) (pNil))) (tdName 5) (pSeq (pSet 6 (pApp [false] p_law_flags [.v (pSel2 dSub2 (pVar 4) (pVar 5))])) (pSeq (pIfS (pOr (pB (pBin dNe (pBq "list" qCount (pVar 6) (pCons (pC (.bl true)) (pNil))) (pC (.int 1)))) (pOr (pNot (pB (pSel2 dSub2 (pVar 6) (pVar 5)))) (pNot (pB (pUn (dIsiX it_HeapError) (pSel2 dSub2 (pVar 4) (pVar 5))))))) (pRet (pC (.bl false))) (pSkip)) (pIfS (pOr (pNot (pB (pUn (dIsiX it_ValueError) (pSel2 dSub2 (pVar 4) (pVar 5))))) (pB (pBin dNe (pUn (dCalled cal_tab) (pSel2 dSub2 (pVar 4) (pVar 5))) (pSel2 dSub2 (pApp [] p_law_names_of_classes []) (pVar 5))))) (pRet (pC (.bl false))) (pSkip))))) (pIfS (pOr (pNot (pB (pApp [false] p_law_whole [.v (pUn dRow (pSel2 dIx (pVar 4) (pC (.int 4))))]))) (pOr (pB (pBin dNe (pUn dRow (pSel2 dIx (pVar 4) (pC (.int 4)))) (pVar 3))) (pOr (pNot (pB (pApp [false] p_law_whole [.v (pUn dRow (pSel2 dIx (pVar 4) (pC (.int 7))))]))) (pB (pBin dNe (pUn dRow (pSel2 dIx (pVar 4) (pC (.int 7)))) (pVar 3)))))) (pRet (pC (.bl false))) (pSkip)))))) (pSeq (pSet 2 (pUn (dExc1 0) (pC (.str "words")))) (pRet (pAndV (pBin dEq (pUn (dCalled cal_tab) (pVar 2)) (pC (.str "HeapError"))) (pAndV (pBin dEq (pBq "list" qCount (pApp [false] p_law_flags [.v (pVar 2)]) (pCons (pC (.bl true)) (pNil))) (pC (.int 0))) (pUn (dIsiX it_ValueError) (pVar 2)))))))
theorem j_law : JF f_law [false] p_law := jf_of (js_seq (js_for (ji_walk (je_bin jo_add (je_lst (ja_cons (je_int _) (ja_nil))) (je_var 0))) (jg_name 1) (js_seq (js_set 3 (je_bin jo_mod (je_var 1) (je_bin jo_pow (je_int _) (je_int _)))) (js_seq (js_set 4 (je_app j_law_made (jar_v (je_bin jo_mulS (je_str _) (je_bin jo_mod (je_var 1) (je_int _))) (jar_v (je_var 3) (jar_nil))))) (js_seq (js_for (ji_range1 (ja_cons (je_call jo_len (ja_cons (je_var 4) (ja_nil))) (ja_nil))) (jg_name 5) (js_seq (js_set 6 (je_app j_law_flags (jar_v (je_sub (je_var 4) (je_var 5)) (jar_nil)))) (js_seq (js_if (jt_or (jt_b (je_bin (jo_eqD true) (je_bq jom_count (je_var 6) (ja_cons (je_bl _) (ja_nil))) (je_int _))) (jt_or (jt_not (jt_b (je_sub (je_var 6) (je_var 5)))) (jt_not (jt_b (je_isiX (je_sub (je_var 4) (je_var 5))))))) (js_ret (je_bl _)) (js_skip)) (js_if (jt_or (jt_not (jt_b (je_isiX (je_sub (je_var 4) (je_var 5))))) (jt_b (je_bin (jo_eqD true) (je_called (je_sub (je_var 4) (je_var 5))) (je_sub (je_app j_law_names_of_classes (jar_nil)) (je_var 5))))) (js_ret (je_bl _)) (js_skip))))) (js_if (jt_or (jt_not (jt_b (je_app j_law_whole (jar_v (je_un (o := oRow) jo_row (je_ix (je_var 4) (je_int _))) (jar_nil))))) (jt_or (jt_b (je_bin (jo_eqD true) (je_un (o := oRow) jo_row (je_ix (je_var 4) (je_int _))) (je_var 3))) (jt_or (jt_not (jt_b (je_app j_law_whole (jar_v (je_un (o := oRow) jo_row (je_ix (je_var 4) (je_int _))) (jar_nil))))) (jt_b (je_bin (jo_eqD true) (je_un (o := oRow) jo_row (je_ix (je_var 4) (je_int _))) (je_var 3)))))) (js_ret (je_bl _)) (js_skip)))))) (js_seq (js_set 2 (je_exc1 (je_str _))) (js_ret (je_and (je_bin (jo_eqD false) (je_called (je_var 2)) (je_str _)) (je_and (je_bin (jo_eqD false) (je_bq jom_count (je_app j_law_flags (jar_v (je_var 2) (jar_nil))) (ja_cons (je_bl _) (ja_nil))) (je_int _)) (je_isiX (je_var 2)))))))
end
structure Fx (K : PySem.W.Frag) (mg : Str → Option Value) : Prop where
  bi_len : mg "len" = none
  bi_isinstance : mg "isinstance" = none
  bi_range : mg "range" = none
  xc_BadName : XcF T K mg 6 "BadName"
  xc_BadHand : XcF T K mg 4 "BadHand"
  xc_BadField : XcF T K mg 3 "BadField"
  xc_BadCount : XcF T K mg 2 "BadCount"
  xc_BadAddress : XcF T K mg 1 "BadAddress"
  xc_RoundOn : XcF T K mg 12 "RoundOn"
  xc_NoRound : XcF T K mg 11 "NoRound"
  xc_NoRoom : XcF T K mg 10 "NoRoom"
  xc_BadView : XcF T K mg 9 "BadView"
  xc_BadPaper : XcF T K mg 7 "BadPaper"
  xc_TooManyWords : XcF T K mg 13 "TooManyWords"
  xc_HeapError : XcF T K mg 0 "HeapError"
  is_int : IsiF T K mg ["int"] it_int
  is_bool : IsiF T K mg ["bool"] it_bool
  is_BadHand : IsiF T K mg ["BadHand"] it_BadHand
  is_BadField : IsiF T K mg ["BadField"] it_BadField
  is_BadCount : IsiF T K mg ["BadCount"] it_BadCount
  is_BadAddress : IsiF T K mg ["BadAddress"] it_BadAddress
  is_BadText : IsiF T K mg ["BadText"] it_BadText
  is_BadPaper : IsiF T K mg ["BadPaper"] it_BadPaper
  is_BadName : IsiF T K mg ["BadName"] it_BadName
  is_BadLog : IsiF T K mg ["BadLog"] it_BadLog
  is_RoundOn : IsiF T K mg ["RoundOn"] it_RoundOn
  is_NoRound : IsiF T K mg ["NoRound"] it_NoRound
  is_NoRoom : IsiF T K mg ["NoRoom"] it_NoRoom
  is_BadView : IsiF T K mg ["BadView"] it_BadView
  is_TooManyWords : IsiF T K mg ["TooManyWords"] it_TooManyWords
  is_HeapError : IsiF T K mg ["HeapError"] it_HeapError
  is_ValueError : IsiF T K mg ["ValueError"] it_ValueError
  cals : CalsF T K mg cal_tab
  rowf : RowF T K mg
section
variable {w : World} {K : PySem.W.Frag} {mg : Str → Option Value} {base : Heap}
theorem ok_f_law_made (Q : Fx K mg) (xr_BadLog : XrF T prog w K mg base 5 "BadLog") (xr_BadText : XrF T prog w K mg base 8 "BadText") {f : Addr} {fd : FuncData} (F : Fun K "_law_made" "_law_made" (atTop prog 20) f fd) : FnOk prog w K mg base (L2.CX prog w) 3 f fd ["text", "row"] (spOf ⟨K, mg, T.cs, T.xs⟩ 2 f_law_made) := by
  refine fnOk_of (k := 2) (N := ["text", "row", "made"]) F ⟨rfl, rfl, rfl, by decide +kernel, rfl, by decide +kernel, by decide +kernel⟩ rfl rfl (fun X cdv A outer s H E hX C => ?_)
  subst hX
  exact ds_cons (ds_set C.nd (de_lst (da_cons (de_exc1 Q.xc_BadAddress (de_var 0)) (da_cons (de_exc1 Q.xc_BadCount (de_var 0)) (da_cons (de_exc1 Q.xc_BadField (de_var 0)) (da_cons (de_exc1 Q.xc_BadHand (de_var 0)) (da_cons (de_excR C.toCtx xr_BadLog (da_cons (de_var 0) (da_cons (de_var 1) (da_nil))) (by decide)) (da_cons (de_exc1 Q.xc_BadName (de_var 0)) (da_nil))))))))) (ds_cons (ds_set C.nd (de_bin op2_add (de_var 2) (de_lst (da_cons (de_exc1 Q.xc_BadPaper (de_var 0)) (da_cons (de_excR C.toCtx xr_BadText (da_cons (de_var 0) (da_cons (de_var 1) (da_nil))) (by decide)) (da_cons (de_exc1 Q.xc_BadView (de_var 0)) (da_cons (de_exc1 Q.xc_NoRoom (de_var 0)) (da_cons (de_exc1 Q.xc_NoRound (de_var 0)) (da_cons (de_exc1 Q.xc_RoundOn (de_var 0)) (da_nil)))))))))) (ds_one (ds_ret (de_bin op2_add (de_var 2) (de_lst (da_cons (de_exc1 Q.xc_TooManyWords (de_var 0)) (da_nil)))))))
theorem ok_f_law_flags (Q : Fx K mg)  {f : Addr} {fd : FuncData} (F : Fun K "_law_flags" "_law_flags" (atTop prog 18) f fd) : FnOk prog w K mg base (L2.CX prog w) 1 f fd ["e"] (spOf ⟨K, mg, T.cs, T.xs⟩ 1 f_law_flags) := by
  refine fnOk_of (k := 0) (N := ["e", "flags"]) F ⟨rfl, rfl, rfl, by decide +kernel, rfl, by decide +kernel, by decide +kernel⟩ rfl rfl (fun X cdv A outer s H E hX C => ?_)
  subst hX
  exact ds_cons (ds_set C.nd (de_lst (da_cons (de_is1X Q.bi_isinstance Q.is_BadAddress (de_var 0)) (da_cons (de_is1X Q.bi_isinstance Q.is_BadCount (de_var 0)) (da_cons (de_is1X Q.bi_isinstance Q.is_BadField (de_var 0)) (da_cons (de_is1X Q.bi_isinstance Q.is_BadHand (de_var 0)) (da_nil))))))) (ds_cons (ds_set C.nd (de_bin op2_add (de_var 1) (de_lst (da_cons (de_is1X Q.bi_isinstance Q.is_BadLog (de_var 0)) (da_cons (de_is1X Q.bi_isinstance Q.is_BadName (de_var 0)) (da_cons (de_is1X Q.bi_isinstance Q.is_BadPaper (de_var 0)) (da_cons (de_is1X Q.bi_isinstance Q.is_BadText (de_var 0)) (da_nil)))))))) (ds_cons (ds_set C.nd (de_bin op2_add (de_var 1) (de_lst (da_cons (de_is1X Q.bi_isinstance Q.is_BadView (de_var 0)) (da_cons (de_is1X Q.bi_isinstance Q.is_NoRoom (de_var 0)) (da_cons (de_is1X Q.bi_isinstance Q.is_NoRound (de_var 0)) (da_cons (de_is1X Q.bi_isinstance Q.is_RoundOn (de_var 0)) (da_nil)))))))) (ds_one (ds_ret (de_bin op2_add (de_var 1) (de_lst (da_cons (de_is1X Q.bi_isinstance Q.is_TooManyWords (de_var 0)) (da_nil))))))))
theorem ok_f_law_names_of_classes (Q : Fx K mg)  {f : Addr} {fd : FuncData} (F : Fun K "_law_names_of_classes" "_law_names_of_classes" (atTop prog 19) f fd) : FnOk prog w K mg base (L2.CX prog w) 1 f fd [] (spOf ⟨K, mg, T.cs, T.xs⟩ 0 f_law_names_of_classes) := by
  refine fnOk_of (k := 0) (N := ["told"]) F ⟨rfl, rfl, rfl, by decide +kernel, rfl, by decide +kernel, by decide +kernel⟩ rfl rfl (fun X cdv A outer s H E hX C => ?_)
  subst hX
  exact ds_cons (ds_set C.nd (de_lst (da_cons (de_str) (da_cons (de_str) (da_cons (de_str) (da_cons (de_str) (da_cons (de_str) (da_cons (de_str) (da_cons (de_str) (da_cons (de_str) (da_cons (de_str) (da_nil)))))))))))) (ds_one (ds_ret (de_bin op2_add (de_var 0) (de_lst (da_cons (de_str) (da_cons (de_str) (da_cons (de_str) (da_cons (de_str) (da_nil)))))))))
theorem ok_f_law_whole (Q : Fx K mg)  {f : Addr} {fd : FuncData} (F : Fun K "_law_whole" "_law_whole" (atTop prog 17) f fd) : FnOk prog w K mg base (L2.CX prog w) 1 f fd ["found"] (spOf ⟨K, mg, T.cs, T.xs⟩ 1 f_law_whole) := by
  refine fnOk_of (k := 0) (N := ["found"]) F ⟨rfl, rfl, rfl, by decide +kernel, rfl, by decide +kernel, by decide +kernel⟩ rfl rfl (fun X cdv A outer s H E hX C => ?_)
  subst hX
  exact ds_one (ds_ret (de_and (de_is1X Q.bi_isinstance Q.is_int (de_var 0)) (de_one (de_not (de_is1X Q.bi_isinstance Q.is_bool (de_var 0))))))
theorem ok_f_law (Q : Fx K mg) (h_law_made : FnF T prog w K mg base "_law_made" 2 3 f_law_made) (h_law_flags : FnF T prog w K mg base "_law_flags" 1 1 f_law_flags) (h_law_names_of_classes : FnF T prog w K mg base "_law_names_of_classes" 0 1 f_law_names_of_classes) (h_law_whole : FnF T prog w K mg base "_law_whole" 1 1 f_law_whole) {f : Addr} {fd : FuncData} (F : Fun K "law" "law" (atTop prog 21) f fd) : FnOk prog w K mg base (L2.CX prog w) 4 f fd ["script"] (spOf ⟨K, mg, T.cs, T.xs⟩ 1 f_law) := by
  refine fnOk_of (k := 3) (N := ["script", "cell", "plain", "row", "made", "k", "flags"]) F ⟨rfl, rfl, rfl, by decide +kernel, rfl, by decide +kernel, by decide +kernel⟩ rfl rfl (fun X cdv A outer s H E hX C => ?_)
  subst hX
  exact ds_cons (ds_for C.toCtx (di_walk (de_bin op2_add (de_lst (da_cons (de_int) (da_nil))) (de_var 0))) (dg_name C.nd) (ds_cons (ds_set C.nd (de_bin op2_mod (de_var 1) (de_bin op2_pow (de_int) (de_int)))) (ds_cons (ds_set C.nd (de_call C.toCtx h_law_made (by decide) (da_cons (de_bin op2_mulS (de_str) (de_bin op2_mod (de_var 1) (de_int))) (da_cons (de_var 3) (da_nil))))) (ds_cons (ds_for C.toCtx (di_range1 Q.bi_range (da_cons (de_callB cal_len Q.bi_len (by decide +kernel) (da_cons (de_var 4) (da_nil))) da_nil)) (dg_name C.nd) (ds_cons (ds_set C.nd (de_call C.toCtx h_law_flags (by decide) (da_cons (de_sub C.u1 (de_var 4) (de_var 5)) (da_nil)))) (ds_cons (ds_if (dt_w (dw_or (dt_cmp (op2_ne C.u64) (de_bm PySem.F.plainAttrs_list PySem.F.slot_list_count PySem.F.type_list_count mth_count (de_var 6) (da_cons (de_bl) (da_nil))) (de_int) rfl) (dw_or (dt_not (dt_val (de_sub C.u1 (de_var 6) (de_var 5)))) (dw_or1 (dt_not (dt_val (de_is1X Q.bi_isinstance Q.is_HeapError (de_sub C.u1 (de_var 4) (de_var 5))))))))) (ds_one (ds_ret (de_bl))) (ds_nil)) (ds_one (ds_if (dt_w (dw_or (dt_not (dt_val (de_is1X Q.bi_isinstance Q.is_ValueError (de_sub C.u1 (de_var 4) (de_var 5))))) (dw_or1 (dt_cmp (op2_ne C.u64) (de_called Q.cals C.dp5 (de_sub C.u1 (de_var 4) (de_var 5))) (de_sub C.u1 (de_call0 C.toCtx h_law_names_of_classes (by decide)) (de_var 5)) rfl)))) (ds_one (ds_ret (de_bl))) (ds_nil)))))) (ds_one (ds_if (dt_w (dw_or (dt_not (dt_val (de_call C.toCtx h_law_whole (by decide) (da_cons (de_row Q.rowf (de_ix (de_var 4) (de_int))) (da_nil))))) (dw_or (dt_cmp (op2_ne C.u64) (de_row Q.rowf (de_ix (de_var 4) (de_int))) (de_var 3) rfl) (dw_or (dt_not (dt_val (de_call C.toCtx h_law_whole (by decide) (da_cons (de_row Q.rowf (de_ix (de_var 4) (de_int))) (da_nil))))) (dw_or1 (dt_cmp (op2_ne C.u64) (de_row Q.rowf (de_ix (de_var 4) (de_int))) (de_var 3) rfl)))))) (ds_one (ds_ret (de_bl))) (ds_nil))))))) (ds_cons (ds_set C.nd (de_exc1 Q.xc_HeapError (de_str))) (ds_one (ds_ret (de_and (de_cmp (op2_eq C.u64) (de_called Q.cals C.dp5 (de_var 2)) (de_str) rfl) (de_and (de_cmp (op2_eq C.u64) (de_bm PySem.F.plainAttrs_list PySem.F.slot_list_count PySem.F.type_list_count mth_count (de_call C.toCtx h_law_flags (by decide) (da_cons (de_var 2) (da_nil))) (da_cons (de_bl) (da_nil))) (de_int) rfl) (de_one (de_is1X Q.bi_isinstance Q.is_ValueError (de_var 2))))))))
end
set_option linter.unusedVariables false in
theorem all_mk {w : World} {K : PySem.W.Frag} {h : Heap} {mg : Str → Option Value} (X : K.In h) (G : h.Ns mainGlobals mg) {fa X0 X1 X2 X3 X4 X5 X6 X7 X8 X9 X10 X11 X12 X13 fc0 fc1 fc2 fc3 fc4 fc5 fc6 fc7 fc8 fc9 fc10 fc11 fc12 fc13 gi5 gi8 f0 f1 f2 f3 f4 : Addr} (hfa : mg "law" = some (.ref fa))
    {od0 an0 od1 an1 od2 an2 od3 an3 od4 an4 cod0 can0 cod1 can1 cod2 can2 cod3 can3 cod4 can4 cod5 can5 cod6 can6 cod7 can7 cod8 can8 cod9 can9 cod10 can10 cod11 can11 cod12 can12 cod13 can13 god5 gan5 god8 gan8 : Option Addr} {sl0 sl1 sl2 sl3 sl4 csl0 csl1 csl2 csl3 csl4 csl5 csl6 csl7 csl8 csl9 csl10 csl11 csl12 csl13 gsl5 gsl8 : Array (Option Value)} {oc0 kV0 dc0 pm0 cd0 ct0 oc1 kV1 dc1 pm1 cd1 ct1 oc2 kV2 dc2 pm2 cd2 ct2 oc3 kV3 dc3 pm3 cd3 ct3 oc4 kV4 dc4 pm4 cd4 ct4 coc0 ckV0 cdc0 cpm0 ccd0 cct0 coc1 ckV1 cdc1 cpm1 ccd1 cct1 coc2 ckV2 cdc2 cpm2 ccd2 cct2 coc3 ckV3 cdc3 cpm3 ccd3 cct3 coc4 ckV4 cdc4 cpm4 ccd4 cct4 coc5 ckV5 cdc5 cpm5 ccd5 cct5 coc6 ckV6 cdc6 cpm6 ccd6 cct6 coc7 ckV7 cdc7 cpm7 ccd7 cct7 coc8 ckV8 cdc8 cpm8 ccd8 cct8 coc9 ckV9 cdc9 cpm9 ccd9 cct9 coc10 ckV10 cdc10 cpm10 ccd10 cct10 coc11 ckV11 cdc11 cpm11 ccd11 cct11 coc12 ckV12 cdc12 cpm12 ccd12 cct12 coc13 ckV13 cdc13 cpm13 ccd13 cct13 goc5 gkV5 gdc5 gpm5 gcd5 gct5 goc8 gkV8 gdc8 gpm8 gcd8 gct8 : Value}
    (ax0 : PySem.W.nsIn K mainGlobals "HeapError" = some (some (.ref X0)))
    (ax1 : PySem.W.nsIn K mainGlobals "BadAddress" = some (some (.ref X1)))
    (ax2 : PySem.W.nsIn K mainGlobals "BadCount" = some (some (.ref X2)))
    (ax3 : PySem.W.nsIn K mainGlobals "BadField" = some (some (.ref X3)))
    (ax4 : PySem.W.nsIn K mainGlobals "BadHand" = some (some (.ref X4)))
    (ax5 : PySem.W.nsIn K mainGlobals "BadLog" = some (some (.ref X5)))
    (ax6 : PySem.W.nsIn K mainGlobals "BadName" = some (some (.ref X6)))
    (ax7 : PySem.W.nsIn K mainGlobals "BadPaper" = some (some (.ref X7)))
    (ax8 : PySem.W.nsIn K mainGlobals "BadText" = some (some (.ref X8)))
    (ax9 : PySem.W.nsIn K mainGlobals "BadView" = some (some (.ref X9)))
    (ax10 : PySem.W.nsIn K mainGlobals "NoRoom" = some (some (.ref X10)))
    (ax11 : PySem.W.nsIn K mainGlobals "NoRound" = some (some (.ref X11)))
    (ax12 : PySem.W.nsIn K mainGlobals "RoundOn" = some (some (.ref X12)))
    (ax13 : PySem.W.nsIn K mainGlobals "TooManyWords" = some (some (.ref X13)))
    (zb_len : PySem.W.nsIn K mainGlobals "len" = some none)
    (zb_isinstance : PySem.W.nsIn K mainGlobals "isinstance" = some none)
    (zb_range : PySem.W.nsIn K mainGlobals "range" = some none)
    (zb_int : PySem.W.nsIn K mainGlobals "int" = some none)
    (zb_bool : PySem.W.nsIn K mainGlobals "bool" = some none)
    (zb_ValueError : PySem.W.nsIn K mainGlobals "ValueError" = some none)
    (jc1 : PySem.W.specialIn K (.builtin "object.__class__") "__get__" = some (some (.builtin "getset_descriptor.__get__")))
    (jc2 : PySem.W.takesIn K (.builtin "object.__class__") = some true)
    (ex0_1 : PySem.W.findIn K (.ref X0) "__getattribute__" = some (some (.builtin "BaseException.__getattribute__")))
    (ex0_2 : PySem.W.findIn K (.ref X0) "__getattr__" = some none)
    (ex0_3 : PySem.W.subIn K (.ref X0) (.type "BaseException") = some true)
    (ex0_4 : PySem.W.hasDictIn K X0 = true)
    (ex0_5 : PySem.W.findIn K (.ref X0) "__class__" = some (some (.builtin "object.__class__")))
    (ex0_6 : PySem.W.mroIn K X0 (.type "object") = some true)
    (ex1_1 : PySem.W.findIn K (.ref X1) "__getattribute__" = some (some (.builtin "BaseException.__getattribute__")))
    (ex1_2 : PySem.W.findIn K (.ref X1) "__getattr__" = some none)
    (ex1_3 : PySem.W.subIn K (.ref X1) (.type "BaseException") = some true)
    (ex1_4 : PySem.W.hasDictIn K X1 = true)
    (ex1_5 : PySem.W.findIn K (.ref X1) "__class__" = some (some (.builtin "object.__class__")))
    (ex1_6 : PySem.W.mroIn K X1 (.type "object") = some true)
    (ex2_1 : PySem.W.findIn K (.ref X2) "__getattribute__" = some (some (.builtin "BaseException.__getattribute__")))
    (ex2_2 : PySem.W.findIn K (.ref X2) "__getattr__" = some none)
    (ex2_3 : PySem.W.subIn K (.ref X2) (.type "BaseException") = some true)
    (ex2_4 : PySem.W.hasDictIn K X2 = true)
    (ex2_5 : PySem.W.findIn K (.ref X2) "__class__" = some (some (.builtin "object.__class__")))
    (ex2_6 : PySem.W.mroIn K X2 (.type "object") = some true)
    (ex3_1 : PySem.W.findIn K (.ref X3) "__getattribute__" = some (some (.builtin "BaseException.__getattribute__")))
    (ex3_2 : PySem.W.findIn K (.ref X3) "__getattr__" = some none)
    (ex3_3 : PySem.W.subIn K (.ref X3) (.type "BaseException") = some true)
    (ex3_4 : PySem.W.hasDictIn K X3 = true)
    (ex3_5 : PySem.W.findIn K (.ref X3) "__class__" = some (some (.builtin "object.__class__")))
    (ex3_6 : PySem.W.mroIn K X3 (.type "object") = some true)
    (ex4_1 : PySem.W.findIn K (.ref X4) "__getattribute__" = some (some (.builtin "BaseException.__getattribute__")))
    (ex4_2 : PySem.W.findIn K (.ref X4) "__getattr__" = some none)
    (ex4_3 : PySem.W.subIn K (.ref X4) (.type "BaseException") = some true)
    (ex4_4 : PySem.W.hasDictIn K X4 = true)
    (ex4_5 : PySem.W.findIn K (.ref X4) "__class__" = some (some (.builtin "object.__class__")))
    (ex4_6 : PySem.W.mroIn K X4 (.type "object") = some true)
    (ex5_1 : PySem.W.findIn K (.ref X5) "__getattribute__" = some (some (.builtin "BaseException.__getattribute__")))
    (ex5_2 : PySem.W.findIn K (.ref X5) "__getattr__" = some none)
    (ex5_3 : PySem.W.subIn K (.ref X5) (.type "BaseException") = some true)
    (ex5_4 : PySem.W.hasDictIn K X5 = true)
    (ex5_5 : PySem.W.findIn K (.ref X5) "__class__" = some (some (.builtin "object.__class__")))
    (ex5_6 : PySem.W.mroIn K X5 (.type "object") = some true)
    (ex6_1 : PySem.W.findIn K (.ref X6) "__getattribute__" = some (some (.builtin "BaseException.__getattribute__")))
    (ex6_2 : PySem.W.findIn K (.ref X6) "__getattr__" = some none)
    (ex6_3 : PySem.W.subIn K (.ref X6) (.type "BaseException") = some true)
    (ex6_4 : PySem.W.hasDictIn K X6 = true)
    (ex6_5 : PySem.W.findIn K (.ref X6) "__class__" = some (some (.builtin "object.__class__")))
    (ex6_6 : PySem.W.mroIn K X6 (.type "object") = some true)
    (ex7_1 : PySem.W.findIn K (.ref X7) "__getattribute__" = some (some (.builtin "BaseException.__getattribute__")))
    (ex7_2 : PySem.W.findIn K (.ref X7) "__getattr__" = some none)
    (ex7_3 : PySem.W.subIn K (.ref X7) (.type "BaseException") = some true)
    (ex7_4 : PySem.W.hasDictIn K X7 = true)
    (ex7_5 : PySem.W.findIn K (.ref X7) "__class__" = some (some (.builtin "object.__class__")))
    (ex7_6 : PySem.W.mroIn K X7 (.type "object") = some true)
    (ex8_1 : PySem.W.findIn K (.ref X8) "__getattribute__" = some (some (.builtin "BaseException.__getattribute__")))
    (ex8_2 : PySem.W.findIn K (.ref X8) "__getattr__" = some none)
    (ex8_3 : PySem.W.subIn K (.ref X8) (.type "BaseException") = some true)
    (ex8_4 : PySem.W.hasDictIn K X8 = true)
    (ex8_5 : PySem.W.findIn K (.ref X8) "__class__" = some (some (.builtin "object.__class__")))
    (ex8_6 : PySem.W.mroIn K X8 (.type "object") = some true)
    (ex9_1 : PySem.W.findIn K (.ref X9) "__getattribute__" = some (some (.builtin "BaseException.__getattribute__")))
    (ex9_2 : PySem.W.findIn K (.ref X9) "__getattr__" = some none)
    (ex9_3 : PySem.W.subIn K (.ref X9) (.type "BaseException") = some true)
    (ex9_4 : PySem.W.hasDictIn K X9 = true)
    (ex9_5 : PySem.W.findIn K (.ref X9) "__class__" = some (some (.builtin "object.__class__")))
    (ex9_6 : PySem.W.mroIn K X9 (.type "object") = some true)
    (ex10_1 : PySem.W.findIn K (.ref X10) "__getattribute__" = some (some (.builtin "BaseException.__getattribute__")))
    (ex10_2 : PySem.W.findIn K (.ref X10) "__getattr__" = some none)
    (ex10_3 : PySem.W.subIn K (.ref X10) (.type "BaseException") = some true)
    (ex10_4 : PySem.W.hasDictIn K X10 = true)
    (ex10_5 : PySem.W.findIn K (.ref X10) "__class__" = some (some (.builtin "object.__class__")))
    (ex10_6 : PySem.W.mroIn K X10 (.type "object") = some true)
    (ex11_1 : PySem.W.findIn K (.ref X11) "__getattribute__" = some (some (.builtin "BaseException.__getattribute__")))
    (ex11_2 : PySem.W.findIn K (.ref X11) "__getattr__" = some none)
    (ex11_3 : PySem.W.subIn K (.ref X11) (.type "BaseException") = some true)
    (ex11_4 : PySem.W.hasDictIn K X11 = true)
    (ex11_5 : PySem.W.findIn K (.ref X11) "__class__" = some (some (.builtin "object.__class__")))
    (ex11_6 : PySem.W.mroIn K X11 (.type "object") = some true)
    (ex12_1 : PySem.W.findIn K (.ref X12) "__getattribute__" = some (some (.builtin "BaseException.__getattribute__")))
    (ex12_2 : PySem.W.findIn K (.ref X12) "__getattr__" = some none)
    (ex12_3 : PySem.W.subIn K (.ref X12) (.type "BaseException") = some true)
    (ex12_4 : PySem.W.hasDictIn K X12 = true)
    (ex12_5 : PySem.W.findIn K (.ref X12) "__class__" = some (some (.builtin "object.__class__")))
    (ex12_6 : PySem.W.mroIn K X12 (.type "object") = some true)
    (ex13_1 : PySem.W.findIn K (.ref X13) "__getattribute__" = some (some (.builtin "BaseException.__getattribute__")))
    (ex13_2 : PySem.W.findIn K (.ref X13) "__getattr__" = some none)
    (ex13_3 : PySem.W.subIn K (.ref X13) (.type "BaseException") = some true)
    (ex13_4 : PySem.W.hasDictIn K X13 = true)
    (ex13_5 : PySem.W.findIn K (.ref X13) "__class__" = some (some (.builtin "object.__class__")))
    (ex13_6 : PySem.W.mroIn K X13 (.type "object") = some true)
    (ki_int_0 : PySem.W.kitAny K (.ref X0) [(.type "int")] = some false)
    (ki_int_1 : PySem.W.kitAny K (.ref X1) [(.type "int")] = some false)
    (ki_int_2 : PySem.W.kitAny K (.ref X2) [(.type "int")] = some false)
    (ki_int_3 : PySem.W.kitAny K (.ref X3) [(.type "int")] = some false)
    (ki_int_4 : PySem.W.kitAny K (.ref X4) [(.type "int")] = some false)
    (ki_int_5 : PySem.W.kitAny K (.ref X5) [(.type "int")] = some false)
    (ki_int_6 : PySem.W.kitAny K (.ref X6) [(.type "int")] = some false)
    (ki_int_7 : PySem.W.kitAny K (.ref X7) [(.type "int")] = some false)
    (ki_int_8 : PySem.W.kitAny K (.ref X8) [(.type "int")] = some false)
    (ki_int_9 : PySem.W.kitAny K (.ref X9) [(.type "int")] = some false)
    (ki_int_10 : PySem.W.kitAny K (.ref X10) [(.type "int")] = some false)
    (ki_int_11 : PySem.W.kitAny K (.ref X11) [(.type "int")] = some false)
    (ki_int_12 : PySem.W.kitAny K (.ref X12) [(.type "int")] = some false)
    (ki_int_13 : PySem.W.kitAny K (.ref X13) [(.type "int")] = some false)
    (kt_int_NoneType : PySem.W.kitAny K (.type "NoneType") [(.type "int")] = some false)
    (kt_int_bool : PySem.W.kitAny K (.type "bool") [(.type "int")] = some true)
    (kt_int_int : PySem.W.kitAny K (.type "int") [(.type "int")] = some true)
    (kt_int_str : PySem.W.kitAny K (.type "str") [(.type "int")] = some false)
    (kt_int_list : PySem.W.kitAny K (.type "list") [(.type "int")] = some false)
    (kt_int_tuple : PySem.W.kitAny K (.type "tuple") [(.type "int")] = some false)
    (kt_int_dict : PySem.W.kitAny K (.type "dict") [(.type "int")] = some false)
    (ki_bool_0 : PySem.W.kitAny K (.ref X0) [(.type "bool")] = some false)
    (ki_bool_1 : PySem.W.kitAny K (.ref X1) [(.type "bool")] = some false)
    (ki_bool_2 : PySem.W.kitAny K (.ref X2) [(.type "bool")] = some false)
    (ki_bool_3 : PySem.W.kitAny K (.ref X3) [(.type "bool")] = some false)
    (ki_bool_4 : PySem.W.kitAny K (.ref X4) [(.type "bool")] = some false)
    (ki_bool_5 : PySem.W.kitAny K (.ref X5) [(.type "bool")] = some false)
    (ki_bool_6 : PySem.W.kitAny K (.ref X6) [(.type "bool")] = some false)
    (ki_bool_7 : PySem.W.kitAny K (.ref X7) [(.type "bool")] = some false)
    (ki_bool_8 : PySem.W.kitAny K (.ref X8) [(.type "bool")] = some false)
    (ki_bool_9 : PySem.W.kitAny K (.ref X9) [(.type "bool")] = some false)
    (ki_bool_10 : PySem.W.kitAny K (.ref X10) [(.type "bool")] = some false)
    (ki_bool_11 : PySem.W.kitAny K (.ref X11) [(.type "bool")] = some false)
    (ki_bool_12 : PySem.W.kitAny K (.ref X12) [(.type "bool")] = some false)
    (ki_bool_13 : PySem.W.kitAny K (.ref X13) [(.type "bool")] = some false)
    (kt_bool_NoneType : PySem.W.kitAny K (.type "NoneType") [(.type "bool")] = some false)
    (kt_bool_bool : PySem.W.kitAny K (.type "bool") [(.type "bool")] = some true)
    (kt_bool_int : PySem.W.kitAny K (.type "int") [(.type "bool")] = some false)
    (kt_bool_str : PySem.W.kitAny K (.type "str") [(.type "bool")] = some false)
    (kt_bool_list : PySem.W.kitAny K (.type "list") [(.type "bool")] = some false)
    (kt_bool_tuple : PySem.W.kitAny K (.type "tuple") [(.type "bool")] = some false)
    (kt_bool_dict : PySem.W.kitAny K (.type "dict") [(.type "bool")] = some false)
    (ki_BadHand_0 : PySem.W.kitAny K (.ref X0) [(.ref X4)] = some false)
    (ki_BadHand_1 : PySem.W.kitAny K (.ref X1) [(.ref X4)] = some false)
    (ki_BadHand_2 : PySem.W.kitAny K (.ref X2) [(.ref X4)] = some false)
    (ki_BadHand_3 : PySem.W.kitAny K (.ref X3) [(.ref X4)] = some false)
    (ki_BadHand_4 : PySem.W.kitAny K (.ref X4) [(.ref X4)] = some true)
    (ki_BadHand_5 : PySem.W.kitAny K (.ref X5) [(.ref X4)] = some false)
    (ki_BadHand_6 : PySem.W.kitAny K (.ref X6) [(.ref X4)] = some false)
    (ki_BadHand_7 : PySem.W.kitAny K (.ref X7) [(.ref X4)] = some false)
    (ki_BadHand_8 : PySem.W.kitAny K (.ref X8) [(.ref X4)] = some false)
    (ki_BadHand_9 : PySem.W.kitAny K (.ref X9) [(.ref X4)] = some false)
    (ki_BadHand_10 : PySem.W.kitAny K (.ref X10) [(.ref X4)] = some false)
    (ki_BadHand_11 : PySem.W.kitAny K (.ref X11) [(.ref X4)] = some false)
    (ki_BadHand_12 : PySem.W.kitAny K (.ref X12) [(.ref X4)] = some false)
    (ki_BadHand_13 : PySem.W.kitAny K (.ref X13) [(.ref X4)] = some false)
    (kt_BadHand_NoneType : PySem.W.kitAny K (.type "NoneType") [(.ref X4)] = some false)
    (kt_BadHand_bool : PySem.W.kitAny K (.type "bool") [(.ref X4)] = some false)
    (kt_BadHand_int : PySem.W.kitAny K (.type "int") [(.ref X4)] = some false)
    (kt_BadHand_str : PySem.W.kitAny K (.type "str") [(.ref X4)] = some false)
    (kt_BadHand_list : PySem.W.kitAny K (.type "list") [(.ref X4)] = some false)
    (kt_BadHand_tuple : PySem.W.kitAny K (.type "tuple") [(.ref X4)] = some false)
    (kt_BadHand_dict : PySem.W.kitAny K (.type "dict") [(.ref X4)] = some false)
    (ki_BadField_0 : PySem.W.kitAny K (.ref X0) [(.ref X3)] = some false)
    (ki_BadField_1 : PySem.W.kitAny K (.ref X1) [(.ref X3)] = some false)
    (ki_BadField_2 : PySem.W.kitAny K (.ref X2) [(.ref X3)] = some false)
    (ki_BadField_3 : PySem.W.kitAny K (.ref X3) [(.ref X3)] = some true)
    (ki_BadField_4 : PySem.W.kitAny K (.ref X4) [(.ref X3)] = some false)
    (ki_BadField_5 : PySem.W.kitAny K (.ref X5) [(.ref X3)] = some false)
    (ki_BadField_6 : PySem.W.kitAny K (.ref X6) [(.ref X3)] = some false)
    (ki_BadField_7 : PySem.W.kitAny K (.ref X7) [(.ref X3)] = some false)
    (ki_BadField_8 : PySem.W.kitAny K (.ref X8) [(.ref X3)] = some false)
    (ki_BadField_9 : PySem.W.kitAny K (.ref X9) [(.ref X3)] = some false)
    (ki_BadField_10 : PySem.W.kitAny K (.ref X10) [(.ref X3)] = some false)
    (ki_BadField_11 : PySem.W.kitAny K (.ref X11) [(.ref X3)] = some false)
    (ki_BadField_12 : PySem.W.kitAny K (.ref X12) [(.ref X3)] = some false)
    (ki_BadField_13 : PySem.W.kitAny K (.ref X13) [(.ref X3)] = some false)
    (kt_BadField_NoneType : PySem.W.kitAny K (.type "NoneType") [(.ref X3)] = some false)
    (kt_BadField_bool : PySem.W.kitAny K (.type "bool") [(.ref X3)] = some false)
    (kt_BadField_int : PySem.W.kitAny K (.type "int") [(.ref X3)] = some false)
    (kt_BadField_str : PySem.W.kitAny K (.type "str") [(.ref X3)] = some false)
    (kt_BadField_list : PySem.W.kitAny K (.type "list") [(.ref X3)] = some false)
    (kt_BadField_tuple : PySem.W.kitAny K (.type "tuple") [(.ref X3)] = some false)
    (kt_BadField_dict : PySem.W.kitAny K (.type "dict") [(.ref X3)] = some false)
    (ki_BadCount_0 : PySem.W.kitAny K (.ref X0) [(.ref X2)] = some false)
    (ki_BadCount_1 : PySem.W.kitAny K (.ref X1) [(.ref X2)] = some false)
    (ki_BadCount_2 : PySem.W.kitAny K (.ref X2) [(.ref X2)] = some true)
    (ki_BadCount_3 : PySem.W.kitAny K (.ref X3) [(.ref X2)] = some false)
    (ki_BadCount_4 : PySem.W.kitAny K (.ref X4) [(.ref X2)] = some false)
    (ki_BadCount_5 : PySem.W.kitAny K (.ref X5) [(.ref X2)] = some false)
    (ki_BadCount_6 : PySem.W.kitAny K (.ref X6) [(.ref X2)] = some false)
    (ki_BadCount_7 : PySem.W.kitAny K (.ref X7) [(.ref X2)] = some false)
    (ki_BadCount_8 : PySem.W.kitAny K (.ref X8) [(.ref X2)] = some false)
    (ki_BadCount_9 : PySem.W.kitAny K (.ref X9) [(.ref X2)] = some false)
    (ki_BadCount_10 : PySem.W.kitAny K (.ref X10) [(.ref X2)] = some false)
    (ki_BadCount_11 : PySem.W.kitAny K (.ref X11) [(.ref X2)] = some false)
    (ki_BadCount_12 : PySem.W.kitAny K (.ref X12) [(.ref X2)] = some false)
    (ki_BadCount_13 : PySem.W.kitAny K (.ref X13) [(.ref X2)] = some false)
    (kt_BadCount_NoneType : PySem.W.kitAny K (.type "NoneType") [(.ref X2)] = some false)
    (kt_BadCount_bool : PySem.W.kitAny K (.type "bool") [(.ref X2)] = some false)
    (kt_BadCount_int : PySem.W.kitAny K (.type "int") [(.ref X2)] = some false)
    (kt_BadCount_str : PySem.W.kitAny K (.type "str") [(.ref X2)] = some false)
    (kt_BadCount_list : PySem.W.kitAny K (.type "list") [(.ref X2)] = some false)
    (kt_BadCount_tuple : PySem.W.kitAny K (.type "tuple") [(.ref X2)] = some false)
    (kt_BadCount_dict : PySem.W.kitAny K (.type "dict") [(.ref X2)] = some false)
    (ki_BadAddress_0 : PySem.W.kitAny K (.ref X0) [(.ref X1)] = some false)
    (ki_BadAddress_1 : PySem.W.kitAny K (.ref X1) [(.ref X1)] = some true)
    (ki_BadAddress_2 : PySem.W.kitAny K (.ref X2) [(.ref X1)] = some false)
    (ki_BadAddress_3 : PySem.W.kitAny K (.ref X3) [(.ref X1)] = some false)
    (ki_BadAddress_4 : PySem.W.kitAny K (.ref X4) [(.ref X1)] = some false)
    (ki_BadAddress_5 : PySem.W.kitAny K (.ref X5) [(.ref X1)] = some false)
    (ki_BadAddress_6 : PySem.W.kitAny K (.ref X6) [(.ref X1)] = some false)
    (ki_BadAddress_7 : PySem.W.kitAny K (.ref X7) [(.ref X1)] = some false)
    (ki_BadAddress_8 : PySem.W.kitAny K (.ref X8) [(.ref X1)] = some false)
    (ki_BadAddress_9 : PySem.W.kitAny K (.ref X9) [(.ref X1)] = some false)
    (ki_BadAddress_10 : PySem.W.kitAny K (.ref X10) [(.ref X1)] = some false)
    (ki_BadAddress_11 : PySem.W.kitAny K (.ref X11) [(.ref X1)] = some false)
    (ki_BadAddress_12 : PySem.W.kitAny K (.ref X12) [(.ref X1)] = some false)
    (ki_BadAddress_13 : PySem.W.kitAny K (.ref X13) [(.ref X1)] = some false)
    (kt_BadAddress_NoneType : PySem.W.kitAny K (.type "NoneType") [(.ref X1)] = some false)
    (kt_BadAddress_bool : PySem.W.kitAny K (.type "bool") [(.ref X1)] = some false)
    (kt_BadAddress_int : PySem.W.kitAny K (.type "int") [(.ref X1)] = some false)
    (kt_BadAddress_str : PySem.W.kitAny K (.type "str") [(.ref X1)] = some false)
    (kt_BadAddress_list : PySem.W.kitAny K (.type "list") [(.ref X1)] = some false)
    (kt_BadAddress_tuple : PySem.W.kitAny K (.type "tuple") [(.ref X1)] = some false)
    (kt_BadAddress_dict : PySem.W.kitAny K (.type "dict") [(.ref X1)] = some false)
    (ki_BadText_0 : PySem.W.kitAny K (.ref X0) [(.ref X8)] = some false)
    (ki_BadText_1 : PySem.W.kitAny K (.ref X1) [(.ref X8)] = some false)
    (ki_BadText_2 : PySem.W.kitAny K (.ref X2) [(.ref X8)] = some false)
    (ki_BadText_3 : PySem.W.kitAny K (.ref X3) [(.ref X8)] = some false)
    (ki_BadText_4 : PySem.W.kitAny K (.ref X4) [(.ref X8)] = some false)
    (ki_BadText_5 : PySem.W.kitAny K (.ref X5) [(.ref X8)] = some false)
    (ki_BadText_6 : PySem.W.kitAny K (.ref X6) [(.ref X8)] = some false)
    (ki_BadText_7 : PySem.W.kitAny K (.ref X7) [(.ref X8)] = some false)
    (ki_BadText_8 : PySem.W.kitAny K (.ref X8) [(.ref X8)] = some true)
    (ki_BadText_9 : PySem.W.kitAny K (.ref X9) [(.ref X8)] = some false)
    (ki_BadText_10 : PySem.W.kitAny K (.ref X10) [(.ref X8)] = some false)
    (ki_BadText_11 : PySem.W.kitAny K (.ref X11) [(.ref X8)] = some false)
    (ki_BadText_12 : PySem.W.kitAny K (.ref X12) [(.ref X8)] = some false)
    (ki_BadText_13 : PySem.W.kitAny K (.ref X13) [(.ref X8)] = some false)
    (kt_BadText_NoneType : PySem.W.kitAny K (.type "NoneType") [(.ref X8)] = some false)
    (kt_BadText_bool : PySem.W.kitAny K (.type "bool") [(.ref X8)] = some false)
    (kt_BadText_int : PySem.W.kitAny K (.type "int") [(.ref X8)] = some false)
    (kt_BadText_str : PySem.W.kitAny K (.type "str") [(.ref X8)] = some false)
    (kt_BadText_list : PySem.W.kitAny K (.type "list") [(.ref X8)] = some false)
    (kt_BadText_tuple : PySem.W.kitAny K (.type "tuple") [(.ref X8)] = some false)
    (kt_BadText_dict : PySem.W.kitAny K (.type "dict") [(.ref X8)] = some false)
    (ki_BadPaper_0 : PySem.W.kitAny K (.ref X0) [(.ref X7)] = some false)
    (ki_BadPaper_1 : PySem.W.kitAny K (.ref X1) [(.ref X7)] = some false)
    (ki_BadPaper_2 : PySem.W.kitAny K (.ref X2) [(.ref X7)] = some false)
    (ki_BadPaper_3 : PySem.W.kitAny K (.ref X3) [(.ref X7)] = some false)
    (ki_BadPaper_4 : PySem.W.kitAny K (.ref X4) [(.ref X7)] = some false)
    (ki_BadPaper_5 : PySem.W.kitAny K (.ref X5) [(.ref X7)] = some false)
    (ki_BadPaper_6 : PySem.W.kitAny K (.ref X6) [(.ref X7)] = some false)
    (ki_BadPaper_7 : PySem.W.kitAny K (.ref X7) [(.ref X7)] = some true)
    (ki_BadPaper_8 : PySem.W.kitAny K (.ref X8) [(.ref X7)] = some false)
    (ki_BadPaper_9 : PySem.W.kitAny K (.ref X9) [(.ref X7)] = some false)
    (ki_BadPaper_10 : PySem.W.kitAny K (.ref X10) [(.ref X7)] = some false)
    (ki_BadPaper_11 : PySem.W.kitAny K (.ref X11) [(.ref X7)] = some false)
    (ki_BadPaper_12 : PySem.W.kitAny K (.ref X12) [(.ref X7)] = some false)
    (ki_BadPaper_13 : PySem.W.kitAny K (.ref X13) [(.ref X7)] = some false)
    (kt_BadPaper_NoneType : PySem.W.kitAny K (.type "NoneType") [(.ref X7)] = some false)
    (kt_BadPaper_bool : PySem.W.kitAny K (.type "bool") [(.ref X7)] = some false)
    (kt_BadPaper_int : PySem.W.kitAny K (.type "int") [(.ref X7)] = some false)
    (kt_BadPaper_str : PySem.W.kitAny K (.type "str") [(.ref X7)] = some false)
    (kt_BadPaper_list : PySem.W.kitAny K (.type "list") [(.ref X7)] = some false)
    (kt_BadPaper_tuple : PySem.W.kitAny K (.type "tuple") [(.ref X7)] = some false)
    (kt_BadPaper_dict : PySem.W.kitAny K (.type "dict") [(.ref X7)] = some false)
    (ki_BadName_0 : PySem.W.kitAny K (.ref X0) [(.ref X6)] = some false)
    (ki_BadName_1 : PySem.W.kitAny K (.ref X1) [(.ref X6)] = some false)
    (ki_BadName_2 : PySem.W.kitAny K (.ref X2) [(.ref X6)] = some false)
    (ki_BadName_3 : PySem.W.kitAny K (.ref X3) [(.ref X6)] = some false)
    (ki_BadName_4 : PySem.W.kitAny K (.ref X4) [(.ref X6)] = some false)
    (ki_BadName_5 : PySem.W.kitAny K (.ref X5) [(.ref X6)] = some false)
    (ki_BadName_6 : PySem.W.kitAny K (.ref X6) [(.ref X6)] = some true)
    (ki_BadName_7 : PySem.W.kitAny K (.ref X7) [(.ref X6)] = some false)
    (ki_BadName_8 : PySem.W.kitAny K (.ref X8) [(.ref X6)] = some false)
    (ki_BadName_9 : PySem.W.kitAny K (.ref X9) [(.ref X6)] = some false)
    (ki_BadName_10 : PySem.W.kitAny K (.ref X10) [(.ref X6)] = some false)
    (ki_BadName_11 : PySem.W.kitAny K (.ref X11) [(.ref X6)] = some false)
    (ki_BadName_12 : PySem.W.kitAny K (.ref X12) [(.ref X6)] = some false)
    (ki_BadName_13 : PySem.W.kitAny K (.ref X13) [(.ref X6)] = some false)
    (kt_BadName_NoneType : PySem.W.kitAny K (.type "NoneType") [(.ref X6)] = some false)
    (kt_BadName_bool : PySem.W.kitAny K (.type "bool") [(.ref X6)] = some false)
    (kt_BadName_int : PySem.W.kitAny K (.type "int") [(.ref X6)] = some false)
    (kt_BadName_str : PySem.W.kitAny K (.type "str") [(.ref X6)] = some false)
    (kt_BadName_list : PySem.W.kitAny K (.type "list") [(.ref X6)] = some false)
    (kt_BadName_tuple : PySem.W.kitAny K (.type "tuple") [(.ref X6)] = some false)
    (kt_BadName_dict : PySem.W.kitAny K (.type "dict") [(.ref X6)] = some false)
    (ki_BadLog_0 : PySem.W.kitAny K (.ref X0) [(.ref X5)] = some false)
    (ki_BadLog_1 : PySem.W.kitAny K (.ref X1) [(.ref X5)] = some false)
    (ki_BadLog_2 : PySem.W.kitAny K (.ref X2) [(.ref X5)] = some false)
    (ki_BadLog_3 : PySem.W.kitAny K (.ref X3) [(.ref X5)] = some false)
    (ki_BadLog_4 : PySem.W.kitAny K (.ref X4) [(.ref X5)] = some false)
    (ki_BadLog_5 : PySem.W.kitAny K (.ref X5) [(.ref X5)] = some true)
    (ki_BadLog_6 : PySem.W.kitAny K (.ref X6) [(.ref X5)] = some false)
    (ki_BadLog_7 : PySem.W.kitAny K (.ref X7) [(.ref X5)] = some false)
    (ki_BadLog_8 : PySem.W.kitAny K (.ref X8) [(.ref X5)] = some false)
    (ki_BadLog_9 : PySem.W.kitAny K (.ref X9) [(.ref X5)] = some false)
    (ki_BadLog_10 : PySem.W.kitAny K (.ref X10) [(.ref X5)] = some false)
    (ki_BadLog_11 : PySem.W.kitAny K (.ref X11) [(.ref X5)] = some false)
    (ki_BadLog_12 : PySem.W.kitAny K (.ref X12) [(.ref X5)] = some false)
    (ki_BadLog_13 : PySem.W.kitAny K (.ref X13) [(.ref X5)] = some false)
    (kt_BadLog_NoneType : PySem.W.kitAny K (.type "NoneType") [(.ref X5)] = some false)
    (kt_BadLog_bool : PySem.W.kitAny K (.type "bool") [(.ref X5)] = some false)
    (kt_BadLog_int : PySem.W.kitAny K (.type "int") [(.ref X5)] = some false)
    (kt_BadLog_str : PySem.W.kitAny K (.type "str") [(.ref X5)] = some false)
    (kt_BadLog_list : PySem.W.kitAny K (.type "list") [(.ref X5)] = some false)
    (kt_BadLog_tuple : PySem.W.kitAny K (.type "tuple") [(.ref X5)] = some false)
    (kt_BadLog_dict : PySem.W.kitAny K (.type "dict") [(.ref X5)] = some false)
    (ki_RoundOn_0 : PySem.W.kitAny K (.ref X0) [(.ref X12)] = some false)
    (ki_RoundOn_1 : PySem.W.kitAny K (.ref X1) [(.ref X12)] = some false)
    (ki_RoundOn_2 : PySem.W.kitAny K (.ref X2) [(.ref X12)] = some false)
    (ki_RoundOn_3 : PySem.W.kitAny K (.ref X3) [(.ref X12)] = some false)
    (ki_RoundOn_4 : PySem.W.kitAny K (.ref X4) [(.ref X12)] = some false)
    (ki_RoundOn_5 : PySem.W.kitAny K (.ref X5) [(.ref X12)] = some false)
    (ki_RoundOn_6 : PySem.W.kitAny K (.ref X6) [(.ref X12)] = some false)
    (ki_RoundOn_7 : PySem.W.kitAny K (.ref X7) [(.ref X12)] = some false)
    (ki_RoundOn_8 : PySem.W.kitAny K (.ref X8) [(.ref X12)] = some false)
    (ki_RoundOn_9 : PySem.W.kitAny K (.ref X9) [(.ref X12)] = some false)
    (ki_RoundOn_10 : PySem.W.kitAny K (.ref X10) [(.ref X12)] = some false)
    (ki_RoundOn_11 : PySem.W.kitAny K (.ref X11) [(.ref X12)] = some false)
    (ki_RoundOn_12 : PySem.W.kitAny K (.ref X12) [(.ref X12)] = some true)
    (ki_RoundOn_13 : PySem.W.kitAny K (.ref X13) [(.ref X12)] = some false)
    (kt_RoundOn_NoneType : PySem.W.kitAny K (.type "NoneType") [(.ref X12)] = some false)
    (kt_RoundOn_bool : PySem.W.kitAny K (.type "bool") [(.ref X12)] = some false)
    (kt_RoundOn_int : PySem.W.kitAny K (.type "int") [(.ref X12)] = some false)
    (kt_RoundOn_str : PySem.W.kitAny K (.type "str") [(.ref X12)] = some false)
    (kt_RoundOn_list : PySem.W.kitAny K (.type "list") [(.ref X12)] = some false)
    (kt_RoundOn_tuple : PySem.W.kitAny K (.type "tuple") [(.ref X12)] = some false)
    (kt_RoundOn_dict : PySem.W.kitAny K (.type "dict") [(.ref X12)] = some false)
    (ki_NoRound_0 : PySem.W.kitAny K (.ref X0) [(.ref X11)] = some false)
    (ki_NoRound_1 : PySem.W.kitAny K (.ref X1) [(.ref X11)] = some false)
    (ki_NoRound_2 : PySem.W.kitAny K (.ref X2) [(.ref X11)] = some false)
    (ki_NoRound_3 : PySem.W.kitAny K (.ref X3) [(.ref X11)] = some false)
    (ki_NoRound_4 : PySem.W.kitAny K (.ref X4) [(.ref X11)] = some false)
    (ki_NoRound_5 : PySem.W.kitAny K (.ref X5) [(.ref X11)] = some false)
    (ki_NoRound_6 : PySem.W.kitAny K (.ref X6) [(.ref X11)] = some false)
    (ki_NoRound_7 : PySem.W.kitAny K (.ref X7) [(.ref X11)] = some false)
    (ki_NoRound_8 : PySem.W.kitAny K (.ref X8) [(.ref X11)] = some false)
    (ki_NoRound_9 : PySem.W.kitAny K (.ref X9) [(.ref X11)] = some false)
    (ki_NoRound_10 : PySem.W.kitAny K (.ref X10) [(.ref X11)] = some false)
    (ki_NoRound_11 : PySem.W.kitAny K (.ref X11) [(.ref X11)] = some true)
    (ki_NoRound_12 : PySem.W.kitAny K (.ref X12) [(.ref X11)] = some false)
    (ki_NoRound_13 : PySem.W.kitAny K (.ref X13) [(.ref X11)] = some false)
    (kt_NoRound_NoneType : PySem.W.kitAny K (.type "NoneType") [(.ref X11)] = some false)
    (kt_NoRound_bool : PySem.W.kitAny K (.type "bool") [(.ref X11)] = some false)
    (kt_NoRound_int : PySem.W.kitAny K (.type "int") [(.ref X11)] = some false)
    (kt_NoRound_str : PySem.W.kitAny K (.type "str") [(.ref X11)] = some false)
    (kt_NoRound_list : PySem.W.kitAny K (.type "list") [(.ref X11)] = some false)
    (kt_NoRound_tuple : PySem.W.kitAny K (.type "tuple") [(.ref X11)] = some false)
    (kt_NoRound_dict : PySem.W.kitAny K (.type "dict") [(.ref X11)] = some false)
    (ki_NoRoom_0 : PySem.W.kitAny K (.ref X0) [(.ref X10)] = some false)
    (ki_NoRoom_1 : PySem.W.kitAny K (.ref X1) [(.ref X10)] = some false)
    (ki_NoRoom_2 : PySem.W.kitAny K (.ref X2) [(.ref X10)] = some false)
    (ki_NoRoom_3 : PySem.W.kitAny K (.ref X3) [(.ref X10)] = some false)
    (ki_NoRoom_4 : PySem.W.kitAny K (.ref X4) [(.ref X10)] = some false)
    (ki_NoRoom_5 : PySem.W.kitAny K (.ref X5) [(.ref X10)] = some false)
    (ki_NoRoom_6 : PySem.W.kitAny K (.ref X6) [(.ref X10)] = some false)
    (ki_NoRoom_7 : PySem.W.kitAny K (.ref X7) [(.ref X10)] = some false)
    (ki_NoRoom_8 : PySem.W.kitAny K (.ref X8) [(.ref X10)] = some false)
    (ki_NoRoom_9 : PySem.W.kitAny K (.ref X9) [(.ref X10)] = some false)
    (ki_NoRoom_10 : PySem.W.kitAny K (.ref X10) [(.ref X10)] = some true)
    (ki_NoRoom_11 : PySem.W.kitAny K (.ref X11) [(.ref X10)] = some false)
    (ki_NoRoom_12 : PySem.W.kitAny K (.ref X12) [(.ref X10)] = some false)
    (ki_NoRoom_13 : PySem.W.kitAny K (.ref X13) [(.ref X10)] = some false)
    (kt_NoRoom_NoneType : PySem.W.kitAny K (.type "NoneType") [(.ref X10)] = some false)
    (kt_NoRoom_bool : PySem.W.kitAny K (.type "bool") [(.ref X10)] = some false)
    (kt_NoRoom_int : PySem.W.kitAny K (.type "int") [(.ref X10)] = some false)
    (kt_NoRoom_str : PySem.W.kitAny K (.type "str") [(.ref X10)] = some false)
    (kt_NoRoom_list : PySem.W.kitAny K (.type "list") [(.ref X10)] = some false)
    (kt_NoRoom_tuple : PySem.W.kitAny K (.type "tuple") [(.ref X10)] = some false)
    (kt_NoRoom_dict : PySem.W.kitAny K (.type "dict") [(.ref X10)] = some false)
    (ki_BadView_0 : PySem.W.kitAny K (.ref X0) [(.ref X9)] = some false)
    (ki_BadView_1 : PySem.W.kitAny K (.ref X1) [(.ref X9)] = some false)
    (ki_BadView_2 : PySem.W.kitAny K (.ref X2) [(.ref X9)] = some false)
    (ki_BadView_3 : PySem.W.kitAny K (.ref X3) [(.ref X9)] = some false)
    (ki_BadView_4 : PySem.W.kitAny K (.ref X4) [(.ref X9)] = some false)
    (ki_BadView_5 : PySem.W.kitAny K (.ref X5) [(.ref X9)] = some false)
    (ki_BadView_6 : PySem.W.kitAny K (.ref X6) [(.ref X9)] = some false)
    (ki_BadView_7 : PySem.W.kitAny K (.ref X7) [(.ref X9)] = some false)
    (ki_BadView_8 : PySem.W.kitAny K (.ref X8) [(.ref X9)] = some false)
    (ki_BadView_9 : PySem.W.kitAny K (.ref X9) [(.ref X9)] = some true)
    (ki_BadView_10 : PySem.W.kitAny K (.ref X10) [(.ref X9)] = some false)
    (ki_BadView_11 : PySem.W.kitAny K (.ref X11) [(.ref X9)] = some false)
    (ki_BadView_12 : PySem.W.kitAny K (.ref X12) [(.ref X9)] = some false)
    (ki_BadView_13 : PySem.W.kitAny K (.ref X13) [(.ref X9)] = some false)
    (kt_BadView_NoneType : PySem.W.kitAny K (.type "NoneType") [(.ref X9)] = some false)
    (kt_BadView_bool : PySem.W.kitAny K (.type "bool") [(.ref X9)] = some false)
    (kt_BadView_int : PySem.W.kitAny K (.type "int") [(.ref X9)] = some false)
    (kt_BadView_str : PySem.W.kitAny K (.type "str") [(.ref X9)] = some false)
    (kt_BadView_list : PySem.W.kitAny K (.type "list") [(.ref X9)] = some false)
    (kt_BadView_tuple : PySem.W.kitAny K (.type "tuple") [(.ref X9)] = some false)
    (kt_BadView_dict : PySem.W.kitAny K (.type "dict") [(.ref X9)] = some false)
    (ki_TooManyWords_0 : PySem.W.kitAny K (.ref X0) [(.ref X13)] = some false)
    (ki_TooManyWords_1 : PySem.W.kitAny K (.ref X1) [(.ref X13)] = some false)
    (ki_TooManyWords_2 : PySem.W.kitAny K (.ref X2) [(.ref X13)] = some false)
    (ki_TooManyWords_3 : PySem.W.kitAny K (.ref X3) [(.ref X13)] = some false)
    (ki_TooManyWords_4 : PySem.W.kitAny K (.ref X4) [(.ref X13)] = some false)
    (ki_TooManyWords_5 : PySem.W.kitAny K (.ref X5) [(.ref X13)] = some false)
    (ki_TooManyWords_6 : PySem.W.kitAny K (.ref X6) [(.ref X13)] = some false)
    (ki_TooManyWords_7 : PySem.W.kitAny K (.ref X7) [(.ref X13)] = some false)
    (ki_TooManyWords_8 : PySem.W.kitAny K (.ref X8) [(.ref X13)] = some false)
    (ki_TooManyWords_9 : PySem.W.kitAny K (.ref X9) [(.ref X13)] = some false)
    (ki_TooManyWords_10 : PySem.W.kitAny K (.ref X10) [(.ref X13)] = some false)
    (ki_TooManyWords_11 : PySem.W.kitAny K (.ref X11) [(.ref X13)] = some false)
    (ki_TooManyWords_12 : PySem.W.kitAny K (.ref X12) [(.ref X13)] = some false)
    (ki_TooManyWords_13 : PySem.W.kitAny K (.ref X13) [(.ref X13)] = some true)
    (kt_TooManyWords_NoneType : PySem.W.kitAny K (.type "NoneType") [(.ref X13)] = some false)
    (kt_TooManyWords_bool : PySem.W.kitAny K (.type "bool") [(.ref X13)] = some false)
    (kt_TooManyWords_int : PySem.W.kitAny K (.type "int") [(.ref X13)] = some false)
    (kt_TooManyWords_str : PySem.W.kitAny K (.type "str") [(.ref X13)] = some false)
    (kt_TooManyWords_list : PySem.W.kitAny K (.type "list") [(.ref X13)] = some false)
    (kt_TooManyWords_tuple : PySem.W.kitAny K (.type "tuple") [(.ref X13)] = some false)
    (kt_TooManyWords_dict : PySem.W.kitAny K (.type "dict") [(.ref X13)] = some false)
    (ki_HeapError_0 : PySem.W.kitAny K (.ref X0) [(.ref X0)] = some true)
    (ki_HeapError_1 : PySem.W.kitAny K (.ref X1) [(.ref X0)] = some true)
    (ki_HeapError_2 : PySem.W.kitAny K (.ref X2) [(.ref X0)] = some true)
    (ki_HeapError_3 : PySem.W.kitAny K (.ref X3) [(.ref X0)] = some true)
    (ki_HeapError_4 : PySem.W.kitAny K (.ref X4) [(.ref X0)] = some true)
    (ki_HeapError_5 : PySem.W.kitAny K (.ref X5) [(.ref X0)] = some true)
    (ki_HeapError_6 : PySem.W.kitAny K (.ref X6) [(.ref X0)] = some true)
    (ki_HeapError_7 : PySem.W.kitAny K (.ref X7) [(.ref X0)] = some true)
    (ki_HeapError_8 : PySem.W.kitAny K (.ref X8) [(.ref X0)] = some true)
    (ki_HeapError_9 : PySem.W.kitAny K (.ref X9) [(.ref X0)] = some true)
    (ki_HeapError_10 : PySem.W.kitAny K (.ref X10) [(.ref X0)] = some true)
    (ki_HeapError_11 : PySem.W.kitAny K (.ref X11) [(.ref X0)] = some true)
    (ki_HeapError_12 : PySem.W.kitAny K (.ref X12) [(.ref X0)] = some true)
    (ki_HeapError_13 : PySem.W.kitAny K (.ref X13) [(.ref X0)] = some true)
    (kt_HeapError_NoneType : PySem.W.kitAny K (.type "NoneType") [(.ref X0)] = some false)
    (kt_HeapError_bool : PySem.W.kitAny K (.type "bool") [(.ref X0)] = some false)
    (kt_HeapError_int : PySem.W.kitAny K (.type "int") [(.ref X0)] = some false)
    (kt_HeapError_str : PySem.W.kitAny K (.type "str") [(.ref X0)] = some false)
    (kt_HeapError_list : PySem.W.kitAny K (.type "list") [(.ref X0)] = some false)
    (kt_HeapError_tuple : PySem.W.kitAny K (.type "tuple") [(.ref X0)] = some false)
    (kt_HeapError_dict : PySem.W.kitAny K (.type "dict") [(.ref X0)] = some false)
    (ki_ValueError_0 : PySem.W.kitAny K (.ref X0) [(.type "ValueError")] = some true)
    (ki_ValueError_1 : PySem.W.kitAny K (.ref X1) [(.type "ValueError")] = some true)
    (ki_ValueError_2 : PySem.W.kitAny K (.ref X2) [(.type "ValueError")] = some true)
    (ki_ValueError_3 : PySem.W.kitAny K (.ref X3) [(.type "ValueError")] = some true)
    (ki_ValueError_4 : PySem.W.kitAny K (.ref X4) [(.type "ValueError")] = some true)
    (ki_ValueError_5 : PySem.W.kitAny K (.ref X5) [(.type "ValueError")] = some true)
    (ki_ValueError_6 : PySem.W.kitAny K (.ref X6) [(.type "ValueError")] = some true)
    (ki_ValueError_7 : PySem.W.kitAny K (.ref X7) [(.type "ValueError")] = some true)
    (ki_ValueError_8 : PySem.W.kitAny K (.ref X8) [(.type "ValueError")] = some true)
    (ki_ValueError_9 : PySem.W.kitAny K (.ref X9) [(.type "ValueError")] = some true)
    (ki_ValueError_10 : PySem.W.kitAny K (.ref X10) [(.type "ValueError")] = some true)
    (ki_ValueError_11 : PySem.W.kitAny K (.ref X11) [(.type "ValueError")] = some true)
    (ki_ValueError_12 : PySem.W.kitAny K (.ref X12) [(.type "ValueError")] = some true)
    (ki_ValueError_13 : PySem.W.kitAny K (.ref X13) [(.type "ValueError")] = some true)
    (kt_ValueError_NoneType : PySem.W.kitAny K (.type "NoneType") [(.type "ValueError")] = some false)
    (kt_ValueError_bool : PySem.W.kitAny K (.type "bool") [(.type "ValueError")] = some false)
    (kt_ValueError_int : PySem.W.kitAny K (.type "int") [(.type "ValueError")] = some false)
    (kt_ValueError_str : PySem.W.kitAny K (.type "str") [(.type "ValueError")] = some false)
    (kt_ValueError_list : PySem.W.kitAny K (.type "list") [(.type "ValueError")] = some false)
    (kt_ValueError_tuple : PySem.W.kitAny K (.type "tuple") [(.type "ValueError")] = some false)
    (kt_ValueError_dict : PySem.W.kitAny K (.type "dict") [(.type "ValueError")] = some false)
    (xi_BadName : PySem.W.excIn K X6 [.type "ValueError", .type "Exception", .type "BaseException", .type "object"] "ValueError.__new__" = true)
    (xk_BadName : PySem.W.keepIn K (.ref X6) = true)
    (xt_BadName : PySem.W.typeIn K (.ref X6) = some (.type "type"))
    (xi_BadHand : PySem.W.excIn K X4 [.type "ValueError", .type "Exception", .type "BaseException", .type "object"] "ValueError.__new__" = true)
    (xk_BadHand : PySem.W.keepIn K (.ref X4) = true)
    (xt_BadHand : PySem.W.typeIn K (.ref X4) = some (.type "type"))
    (xi_BadField : PySem.W.excIn K X3 [.type "ValueError", .type "Exception", .type "BaseException", .type "object"] "ValueError.__new__" = true)
    (xk_BadField : PySem.W.keepIn K (.ref X3) = true)
    (xt_BadField : PySem.W.typeIn K (.ref X3) = some (.type "type"))
    (xi_BadCount : PySem.W.excIn K X2 [.type "ValueError", .type "Exception", .type "BaseException", .type "object"] "ValueError.__new__" = true)
    (xk_BadCount : PySem.W.keepIn K (.ref X2) = true)
    (xt_BadCount : PySem.W.typeIn K (.ref X2) = some (.type "type"))
    (xi_BadAddress : PySem.W.excIn K X1 [.type "ValueError", .type "Exception", .type "BaseException", .type "object"] "ValueError.__new__" = true)
    (xk_BadAddress : PySem.W.keepIn K (.ref X1) = true)
    (xt_BadAddress : PySem.W.typeIn K (.ref X1) = some (.type "type"))
    (xi_RoundOn : PySem.W.excIn K X12 [.type "ValueError", .type "Exception", .type "BaseException", .type "object"] "ValueError.__new__" = true)
    (xk_RoundOn : PySem.W.keepIn K (.ref X12) = true)
    (xt_RoundOn : PySem.W.typeIn K (.ref X12) = some (.type "type"))
    (xi_NoRound : PySem.W.excIn K X11 [.type "ValueError", .type "Exception", .type "BaseException", .type "object"] "ValueError.__new__" = true)
    (xk_NoRound : PySem.W.keepIn K (.ref X11) = true)
    (xt_NoRound : PySem.W.typeIn K (.ref X11) = some (.type "type"))
    (xi_NoRoom : PySem.W.excIn K X10 [.type "ValueError", .type "Exception", .type "BaseException", .type "object"] "ValueError.__new__" = true)
    (xk_NoRoom : PySem.W.keepIn K (.ref X10) = true)
    (xt_NoRoom : PySem.W.typeIn K (.ref X10) = some (.type "type"))
    (xi_BadView : PySem.W.excIn K X9 [.type "ValueError", .type "Exception", .type "BaseException", .type "object"] "ValueError.__new__" = true)
    (xk_BadView : PySem.W.keepIn K (.ref X9) = true)
    (xt_BadView : PySem.W.typeIn K (.ref X9) = some (.type "type"))
    (xi_BadPaper : PySem.W.excIn K X7 [.type "ValueError", .type "Exception", .type "BaseException", .type "object"] "ValueError.__new__" = true)
    (xk_BadPaper : PySem.W.keepIn K (.ref X7) = true)
    (xt_BadPaper : PySem.W.typeIn K (.ref X7) = some (.type "type"))
    (xi_TooManyWords : PySem.W.excIn K X13 [.type "ValueError", .type "Exception", .type "BaseException", .type "object"] "ValueError.__new__" = true)
    (xk_TooManyWords : PySem.W.keepIn K (.ref X13) = true)
    (xt_TooManyWords : PySem.W.typeIn K (.ref X13) = some (.type "type"))
    (xi_HeapError : PySem.W.excIn K X0 [.type "ValueError", .type "Exception", .type "BaseException", .type "object"] "ValueError.__new__" = true)
    (xk_HeapError : PySem.W.keepIn K (.ref X0) = true)
    (xt_HeapError : PySem.W.typeIn K (.ref X0) = some (.type "type"))
    (xc0_a : PySem.W.findIn K (.ref X0) "called" = some (some (.ref fc0)))
    (xc0_i : PySem.W.isFn K (.ref fc0) = true)
    (xc0_l : K.lookup fc0 = some ⟨coc0, cod0, .func (PySem.W.fnOf "called" "HeapError.called" (defArgs (inClass (atTop prog 1) 0)) (defBody (inClass (atTop prog 1) 0)) (defScope (inClass (atTop prog 1) 0)) .none ckV0 cdc0 cpm0 can0 ccd0 cct0), csl0⟩)
    (xc0_c : PySem.W.codeIn K ccd0 "HeapError.called" = true)
    (xc0_k : PySem.W.keepIn K (.ref fc0) = true)
    (xc1_a : PySem.W.findIn K (.ref X1) "called" = some (some (.ref fc1)))
    (xc1_i : PySem.W.isFn K (.ref fc1) = true)
    (xc1_l : K.lookup fc1 = some ⟨coc1, cod1, .func (PySem.W.fnOf "called" "BadAddress.called" (defArgs (inClass (atTop prog 2) 0)) (defBody (inClass (atTop prog 2) 0)) (defScope (inClass (atTop prog 2) 0)) .none ckV1 cdc1 cpm1 can1 ccd1 cct1), csl1⟩)
    (xc1_c : PySem.W.codeIn K ccd1 "BadAddress.called" = true)
    (xc1_k : PySem.W.keepIn K (.ref fc1) = true)
    (xc2_a : PySem.W.findIn K (.ref X2) "called" = some (some (.ref fc2)))
    (xc2_i : PySem.W.isFn K (.ref fc2) = true)
    (xc2_l : K.lookup fc2 = some ⟨coc2, cod2, .func (PySem.W.fnOf "called" "BadCount.called" (defArgs (inClass (atTop prog 3) 0)) (defBody (inClass (atTop prog 3) 0)) (defScope (inClass (atTop prog 3) 0)) .none ckV2 cdc2 cpm2 can2 ccd2 cct2), csl2⟩)
    (xc2_c : PySem.W.codeIn K ccd2 "BadCount.called" = true)
    (xc2_k : PySem.W.keepIn K (.ref fc2) = true)
    (xc3_a : PySem.W.findIn K (.ref X3) "called" = some (some (.ref fc3)))
    (xc3_i : PySem.W.isFn K (.ref fc3) = true)
    (xc3_l : K.lookup fc3 = some ⟨coc3, cod3, .func (PySem.W.fnOf "called" "BadField.called" (defArgs (inClass (atTop prog 4) 0)) (defBody (inClass (atTop prog 4) 0)) (defScope (inClass (atTop prog 4) 0)) .none ckV3 cdc3 cpm3 can3 ccd3 cct3), csl3⟩)
    (xc3_c : PySem.W.codeIn K ccd3 "BadField.called" = true)
    (xc3_k : PySem.W.keepIn K (.ref fc3) = true)
    (xc4_a : PySem.W.findIn K (.ref X4) "called" = some (some (.ref fc4)))
    (xc4_i : PySem.W.isFn K (.ref fc4) = true)
    (xc4_l : K.lookup fc4 = some ⟨coc4, cod4, .func (PySem.W.fnOf "called" "BadHand.called" (defArgs (inClass (atTop prog 5) 0)) (defBody (inClass (atTop prog 5) 0)) (defScope (inClass (atTop prog 5) 0)) .none ckV4 cdc4 cpm4 can4 ccd4 cct4), csl4⟩)
    (xc4_c : PySem.W.codeIn K ccd4 "BadHand.called" = true)
    (xc4_k : PySem.W.keepIn K (.ref fc4) = true)
    (xc5_a : PySem.W.findIn K (.ref X5) "called" = some (some (.ref fc5)))
    (xc5_i : PySem.W.isFn K (.ref fc5) = true)
    (xc5_l : K.lookup fc5 = some ⟨coc5, cod5, .func (PySem.W.fnOf "called" "BadLog.called" (defArgs (inClass (atTop prog 6) 1)) (defBody (inClass (atTop prog 6) 1)) (defScope (inClass (atTop prog 6) 1)) .none ckV5 cdc5 cpm5 can5 ccd5 cct5), csl5⟩)
    (xc5_c : PySem.W.codeIn K ccd5 "BadLog.called" = true)
    (xc5_k : PySem.W.keepIn K (.ref fc5) = true)
    (xc6_a : PySem.W.findIn K (.ref X6) "called" = some (some (.ref fc6)))
    (xc6_i : PySem.W.isFn K (.ref fc6) = true)
    (xc6_l : K.lookup fc6 = some ⟨coc6, cod6, .func (PySem.W.fnOf "called" "BadName.called" (defArgs (inClass (atTop prog 7) 0)) (defBody (inClass (atTop prog 7) 0)) (defScope (inClass (atTop prog 7) 0)) .none ckV6 cdc6 cpm6 can6 ccd6 cct6), csl6⟩)
    (xc6_c : PySem.W.codeIn K ccd6 "BadName.called" = true)
    (xc6_k : PySem.W.keepIn K (.ref fc6) = true)
    (xc7_a : PySem.W.findIn K (.ref X7) "called" = some (some (.ref fc7)))
    (xc7_i : PySem.W.isFn K (.ref fc7) = true)
    (xc7_l : K.lookup fc7 = some ⟨coc7, cod7, .func (PySem.W.fnOf "called" "BadPaper.called" (defArgs (inClass (atTop prog 8) 0)) (defBody (inClass (atTop prog 8) 0)) (defScope (inClass (atTop prog 8) 0)) .none ckV7 cdc7 cpm7 can7 ccd7 cct7), csl7⟩)
    (xc7_c : PySem.W.codeIn K ccd7 "BadPaper.called" = true)
    (xc7_k : PySem.W.keepIn K (.ref fc7) = true)
    (xc8_a : PySem.W.findIn K (.ref X8) "called" = some (some (.ref fc8)))
    (xc8_i : PySem.W.isFn K (.ref fc8) = true)
    (xc8_l : K.lookup fc8 = some ⟨coc8, cod8, .func (PySem.W.fnOf "called" "BadText.called" (defArgs (inClass (atTop prog 9) 1)) (defBody (inClass (atTop prog 9) 1)) (defScope (inClass (atTop prog 9) 1)) .none ckV8 cdc8 cpm8 can8 ccd8 cct8), csl8⟩)
    (xc8_c : PySem.W.codeIn K ccd8 "BadText.called" = true)
    (xc8_k : PySem.W.keepIn K (.ref fc8) = true)
    (xc9_a : PySem.W.findIn K (.ref X9) "called" = some (some (.ref fc9)))
    (xc9_i : PySem.W.isFn K (.ref fc9) = true)
    (xc9_l : K.lookup fc9 = some ⟨coc9, cod9, .func (PySem.W.fnOf "called" "BadView.called" (defArgs (inClass (atTop prog 10) 0)) (defBody (inClass (atTop prog 10) 0)) (defScope (inClass (atTop prog 10) 0)) .none ckV9 cdc9 cpm9 can9 ccd9 cct9), csl9⟩)
    (xc9_c : PySem.W.codeIn K ccd9 "BadView.called" = true)
    (xc9_k : PySem.W.keepIn K (.ref fc9) = true)
    (xc10_a : PySem.W.findIn K (.ref X10) "called" = some (some (.ref fc10)))
    (xc10_i : PySem.W.isFn K (.ref fc10) = true)
    (xc10_l : K.lookup fc10 = some ⟨coc10, cod10, .func (PySem.W.fnOf "called" "NoRoom.called" (defArgs (inClass (atTop prog 11) 0)) (defBody (inClass (atTop prog 11) 0)) (defScope (inClass (atTop prog 11) 0)) .none ckV10 cdc10 cpm10 can10 ccd10 cct10), csl10⟩)
    (xc10_c : PySem.W.codeIn K ccd10 "NoRoom.called" = true)
    (xc10_k : PySem.W.keepIn K (.ref fc10) = true)
    (xc11_a : PySem.W.findIn K (.ref X11) "called" = some (some (.ref fc11)))
    (xc11_i : PySem.W.isFn K (.ref fc11) = true)
    (xc11_l : K.lookup fc11 = some ⟨coc11, cod11, .func (PySem.W.fnOf "called" "NoRound.called" (defArgs (inClass (atTop prog 12) 0)) (defBody (inClass (atTop prog 12) 0)) (defScope (inClass (atTop prog 12) 0)) .none ckV11 cdc11 cpm11 can11 ccd11 cct11), csl11⟩)
    (xc11_c : PySem.W.codeIn K ccd11 "NoRound.called" = true)
    (xc11_k : PySem.W.keepIn K (.ref fc11) = true)
    (xc12_a : PySem.W.findIn K (.ref X12) "called" = some (some (.ref fc12)))
    (xc12_i : PySem.W.isFn K (.ref fc12) = true)
    (xc12_l : K.lookup fc12 = some ⟨coc12, cod12, .func (PySem.W.fnOf "called" "RoundOn.called" (defArgs (inClass (atTop prog 13) 0)) (defBody (inClass (atTop prog 13) 0)) (defScope (inClass (atTop prog 13) 0)) .none ckV12 cdc12 cpm12 can12 ccd12 cct12), csl12⟩)
    (xc12_c : PySem.W.codeIn K ccd12 "RoundOn.called" = true)
    (xc12_k : PySem.W.keepIn K (.ref fc12) = true)
    (xc13_a : PySem.W.findIn K (.ref X13) "called" = some (some (.ref fc13)))
    (xc13_i : PySem.W.isFn K (.ref fc13) = true)
    (xc13_l : K.lookup fc13 = some ⟨coc13, cod13, .func (PySem.W.fnOf "called" "TooManyWords.called" (defArgs (inClass (atTop prog 14) 0)) (defBody (inClass (atTop prog 14) 0)) (defScope (inClass (atTop prog 14) 0)) .none ckV13 cdc13 cpm13 can13 ccd13 cct13), csl13⟩)
    (xc13_c : PySem.W.codeIn K ccd13 "TooManyWords.called" = true)
    (xc13_k : PySem.W.keepIn K (.ref fc13) = true)
    (xo5 : oexIn K X5 = true)
    (xs5 : PySem.W.findIn K (.ref X5) "__setattr__" = some (some (.builtin "object.__setattr__")))
    (xtt5 : PySem.W.typeIn K (.ref X5) = some (.type "type"))
    (xkk5 : PySem.W.keepIn K (.ref X5) = true)
    (xrw5 : PySem.W.findIn K (.ref X5) "row" = some none)
    (gi5_a : PySem.W.findIn K (.ref X5) "__init__" = some (some (.ref gi5)))
    (gi5_i : PySem.W.isFn K (.ref gi5) = true)
    (gi5_l : K.lookup gi5 = some ⟨goc5, god5, .func (PySem.W.fnOf "__init__" "BadLog.__init__" (defArgs (inClass (atTop prog 6) 0)) (defBody (inClass (atTop prog 6) 0)) (defScope (inClass (atTop prog 6) 0)) .none gkV5 gdc5 gpm5 gan5 gcd5 gct5), gsl5⟩)
    (gi5_c : PySem.W.codeIn K gcd5 "BadLog.__init__" = true)
    (gi5_k : PySem.W.keepIn K (.ref gi5) = true)
    (hi0_1 : PySem.W.specialIn K (.ref X0) "__getattribute__" = some (some (.builtin "type.__getattribute__")))
    (hi0_2 : PySem.W.readsIn K X0 (.type "type") = true)
    (hi0_3 : PySem.W.findCls K (.ref X0) (.type "type") "__init__" = some (.val (.builtin "ValueError.__init__")))
    (xo8 : oexIn K X8 = true)
    (xs8 : PySem.W.findIn K (.ref X8) "__setattr__" = some (some (.builtin "object.__setattr__")))
    (xtt8 : PySem.W.typeIn K (.ref X8) = some (.type "type"))
    (xkk8 : PySem.W.keepIn K (.ref X8) = true)
    (xrw8 : PySem.W.findIn K (.ref X8) "row" = some none)
    (gi8_a : PySem.W.findIn K (.ref X8) "__init__" = some (some (.ref gi8)))
    (gi8_i : PySem.W.isFn K (.ref gi8) = true)
    (gi8_l : K.lookup gi8 = some ⟨goc8, god8, .func (PySem.W.fnOf "__init__" "BadText.__init__" (defArgs (inClass (atTop prog 9) 0)) (defBody (inClass (atTop prog 9) 0)) (defScope (inClass (atTop prog 9) 0)) .none gkV8 gdc8 gpm8 gan8 gcd8 gct8), gsl8⟩)
    (gi8_c : PySem.W.codeIn K gcd8 "BadText.__init__" = true)
    (gi8_k : PySem.W.keepIn K (.ref gi8) = true)
    (xrw0 : PySem.W.findIn K (.ref X0) "row" = some none)
    (xrw1 : PySem.W.findIn K (.ref X1) "row" = some none)
    (xrw2 : PySem.W.findIn K (.ref X2) "row" = some none)
    (xrw3 : PySem.W.findIn K (.ref X3) "row" = some none)
    (xrw4 : PySem.W.findIn K (.ref X4) "row" = some none)
    (xrw6 : PySem.W.findIn K (.ref X6) "row" = some none)
    (xrw7 : PySem.W.findIn K (.ref X7) "row" = some none)
    (xrw9 : PySem.W.findIn K (.ref X9) "row" = some none)
    (xrw10 : PySem.W.findIn K (.ref X10) "row" = some none)
    (xrw11 : PySem.W.findIn K (.ref X11) "row" = some none)
    (xrw12 : PySem.W.findIn K (.ref X12) "row" = some none)
    (xrw13 : PySem.W.findIn K (.ref X13) "row" = some none)
    (a0 : PySem.W.nsIn K mainGlobals "_law_made" = some (some (.ref f0)))
    (l0 : K.lookup f0 = some ⟨oc0, od0, .func (PySem.W.fnOf "_law_made" "_law_made" (defArgs (atTop prog 20)) (defBody (atTop prog 20)) (defScope (atTop prog 20)) .none kV0 dc0 pm0 an0 cd0 ct0), sl0⟩)
    (c0 : PySem.W.codeIn K cd0 "_law_made" = true)
    (k0 : PySem.W.keepIn K (.ref f0) = true)
    (a1 : PySem.W.nsIn K mainGlobals "_law_flags" = some (some (.ref f1)))
    (l1 : K.lookup f1 = some ⟨oc1, od1, .func (PySem.W.fnOf "_law_flags" "_law_flags" (defArgs (atTop prog 18)) (defBody (atTop prog 18)) (defScope (atTop prog 18)) .none kV1 dc1 pm1 an1 cd1 ct1), sl1⟩)
    (c1 : PySem.W.codeIn K cd1 "_law_flags" = true)
    (k1 : PySem.W.keepIn K (.ref f1) = true)
    (a2 : PySem.W.nsIn K mainGlobals "_law_names_of_classes" = some (some (.ref f2)))
    (l2 : K.lookup f2 = some ⟨oc2, od2, .func (PySem.W.fnOf "_law_names_of_classes" "_law_names_of_classes" (defArgs (atTop prog 19)) (defBody (atTop prog 19)) (defScope (atTop prog 19)) .none kV2 dc2 pm2 an2 cd2 ct2), sl2⟩)
    (c2 : PySem.W.codeIn K cd2 "_law_names_of_classes" = true)
    (k2 : PySem.W.keepIn K (.ref f2) = true)
    (a3 : PySem.W.nsIn K mainGlobals "_law_whole" = some (some (.ref f3)))
    (l3 : K.lookup f3 = some ⟨oc3, od3, .func (PySem.W.fnOf "_law_whole" "_law_whole" (defArgs (atTop prog 17)) (defBody (atTop prog 17)) (defScope (atTop prog 17)) .none kV3 dc3 pm3 an3 cd3 ct3), sl3⟩)
    (c3 : PySem.W.codeIn K cd3 "_law_whole" = true)
    (k3 : PySem.W.keepIn K (.ref f3) = true)
    (a4 : PySem.W.nsIn K mainGlobals "law" = some (some (.ref f4)))
    (l4 : K.lookup f4 = some ⟨oc4, od4, .func (PySem.W.fnOf "law" "law" (defArgs (atTop prog 21)) (defBody (atTop prog 21)) (defScope (atTop prog 21)) .none kV4 dc4 pm4 an4 cd4 ct4), sl4⟩)
    (c4 : PySem.W.codeIn K cd4 "law" = true)
    (k4 : PySem.W.keepIn K (.ref f4) = true)
    : ∃ fd : FuncData, (∀ (s : Shared) (v : Value), BindsTo s fd ⟨[v], []⟩ [("script", v)]) ∧ ∀ base : Heap, K.In base → base.Ns mainGlobals mg → FnOk prog w K mg base (L2.CX prog w) 4 fa fd ["script"] (spOf ⟨K, mg, T.cs, T.xs⟩ 1 f_law) := by
  have e := hfa.symm.trans (PySem.W.mg_of X G a4)
  cases e
  have XC0 : ExcC K X0 := ⟨ex0_1, ex0_2, ex0_3, ex0_4, ex0_5, jc1, jc2, ex0_6⟩
  have XC1 : ExcC K X1 := ⟨ex1_1, ex1_2, ex1_3, ex1_4, ex1_5, jc1, jc2, ex1_6⟩
  have XC2 : ExcC K X2 := ⟨ex2_1, ex2_2, ex2_3, ex2_4, ex2_5, jc1, jc2, ex2_6⟩
  have XC3 : ExcC K X3 := ⟨ex3_1, ex3_2, ex3_3, ex3_4, ex3_5, jc1, jc2, ex3_6⟩
  have XC4 : ExcC K X4 := ⟨ex4_1, ex4_2, ex4_3, ex4_4, ex4_5, jc1, jc2, ex4_6⟩
  have XC5 : ExcC K X5 := ⟨ex5_1, ex5_2, ex5_3, ex5_4, ex5_5, jc1, jc2, ex5_6⟩
  have XC6 : ExcC K X6 := ⟨ex6_1, ex6_2, ex6_3, ex6_4, ex6_5, jc1, jc2, ex6_6⟩
  have XC7 : ExcC K X7 := ⟨ex7_1, ex7_2, ex7_3, ex7_4, ex7_5, jc1, jc2, ex7_6⟩
  have XC8 : ExcC K X8 := ⟨ex8_1, ex8_2, ex8_3, ex8_4, ex8_5, jc1, jc2, ex8_6⟩
  have XC9 : ExcC K X9 := ⟨ex9_1, ex9_2, ex9_3, ex9_4, ex9_5, jc1, jc2, ex9_6⟩
  have XC10 : ExcC K X10 := ⟨ex10_1, ex10_2, ex10_3, ex10_4, ex10_5, jc1, jc2, ex10_6⟩
  have XC11 : ExcC K X11 := ⟨ex11_1, ex11_2, ex11_3, ex11_4, ex11_5, jc1, jc2, ex11_6⟩
  have XC12 : ExcC K X12 := ⟨ex12_1, ex12_2, ex12_3, ex12_4, ex12_5, jc1, jc2, ex12_6⟩
  have XC13 : ExcC K X13 := ⟨ex13_1, ex13_2, ex13_3, ex13_4, ex13_5, jc1, jc2, ex13_6⟩
  have Q : Fx K mg := {
    bi_len := PySem.W.mg_none_of X G zb_len,
    bi_isinstance := PySem.W.mg_none_of X G zb_isinstance,
    bi_range := PySem.W.mg_none_of X G zb_range,
    xc_BadName := ⟨rfl, X6, PySem.W.mg_of X G ax6, xi_BadName, xk_BadName, ex6_3, xt_BadName⟩,
    xc_BadHand := ⟨rfl, X4, PySem.W.mg_of X G ax4, xi_BadHand, xk_BadHand, ex4_3, xt_BadHand⟩,
    xc_BadField := ⟨rfl, X3, PySem.W.mg_of X G ax3, xi_BadField, xk_BadField, ex3_3, xt_BadField⟩,
    xc_BadCount := ⟨rfl, X2, PySem.W.mg_of X G ax2, xi_BadCount, xk_BadCount, ex2_3, xt_BadCount⟩,
    xc_BadAddress := ⟨rfl, X1, PySem.W.mg_of X G ax1, xi_BadAddress, xk_BadAddress, ex1_3, xt_BadAddress⟩,
    xc_RoundOn := ⟨rfl, X12, PySem.W.mg_of X G ax12, xi_RoundOn, xk_RoundOn, ex12_3, xt_RoundOn⟩,
    xc_NoRound := ⟨rfl, X11, PySem.W.mg_of X G ax11, xi_NoRound, xk_NoRound, ex11_3, xt_NoRound⟩,
    xc_NoRoom := ⟨rfl, X10, PySem.W.mg_of X G ax10, xi_NoRoom, xk_NoRoom, ex10_3, xt_NoRoom⟩,
    xc_BadView := ⟨rfl, X9, PySem.W.mg_of X G ax9, xi_BadView, xk_BadView, ex9_3, xt_BadView⟩,
    xc_BadPaper := ⟨rfl, X7, PySem.W.mg_of X G ax7, xi_BadPaper, xk_BadPaper, ex7_3, xt_BadPaper⟩,
    xc_TooManyWords := ⟨rfl, X13, PySem.W.mg_of X G ax13, xi_TooManyWords, xk_TooManyWords, ex13_3, xt_TooManyWords⟩,
    xc_HeapError := ⟨rfl, X0, PySem.W.mg_of X G ax0, xi_HeapError, xk_HeapError, ex0_3, xt_HeapError⟩,
    is_int := ⟨_, .cons (.inr ⟨_, PySem.W.mg_none_of X G zb_int, by decide +kernel, rfl⟩) (.nil), itab_ty (rfl) kt_int_NoneType (itab_ty (rfl) kt_int_bool (itab_ty (rfl) kt_int_int (itab_ty (rfl) kt_int_str (itab_ty (rfl) kt_int_list (itab_ty (rfl) kt_int_tuple (itab_ty (rfl) kt_int_dict (itab_ty (⟨_, _, rfl, PySem.W.mg_of X G ax0, rfl, XC0⟩) ki_int_0 (itab_ty (⟨_, _, rfl, PySem.W.mg_of X G ax1, rfl, XC1⟩) ki_int_1 (itab_ty (⟨_, _, rfl, PySem.W.mg_of X G ax2, rfl, XC2⟩) ki_int_2 (itab_ty (⟨_, _, rfl, PySem.W.mg_of X G ax3, rfl, XC3⟩) ki_int_3 (itab_ty (⟨_, _, rfl, PySem.W.mg_of X G ax4, rfl, XC4⟩) ki_int_4 (itab_ty (⟨_, _, rfl, PySem.W.mg_of X G ax5, rfl, XC5⟩) ki_int_5 (itab_ty (⟨_, _, rfl, PySem.W.mg_of X G ax6, rfl, XC6⟩) ki_int_6 (itab_ty (⟨_, _, rfl, PySem.W.mg_of X G ax7, rfl, XC7⟩) ki_int_7 (itab_ty (⟨_, _, rfl, PySem.W.mg_of X G ax8, rfl, XC8⟩) ki_int_8 (itab_ty (⟨_, _, rfl, PySem.W.mg_of X G ax9, rfl, XC9⟩) ki_int_9 (itab_ty (⟨_, _, rfl, PySem.W.mg_of X G ax10, rfl, XC10⟩) ki_int_10 (itab_ty (⟨_, _, rfl, PySem.W.mg_of X G ax11, rfl, XC11⟩) ki_int_11 (itab_ty (⟨_, _, rfl, PySem.W.mg_of X G ax12, rfl, XC12⟩) ki_int_12 (itab_ty (⟨_, _, rfl, PySem.W.mg_of X G ax13, rfl, XC13⟩) ki_int_13 (itab_nil)))))))))))))))))))))⟩,
    is_bool := ⟨_, .cons (.inr ⟨_, PySem.W.mg_none_of X G zb_bool, by decide +kernel, rfl⟩) (.nil), itab_ty (rfl) kt_bool_NoneType (itab_ty (rfl) kt_bool_bool (itab_ty (rfl) kt_bool_int (itab_ty (rfl) kt_bool_str (itab_ty (rfl) kt_bool_list (itab_ty (rfl) kt_bool_tuple (itab_ty (rfl) kt_bool_dict (itab_ty (⟨_, _, rfl, PySem.W.mg_of X G ax0, rfl, XC0⟩) ki_bool_0 (itab_ty (⟨_, _, rfl, PySem.W.mg_of X G ax1, rfl, XC1⟩) ki_bool_1 (itab_ty (⟨_, _, rfl, PySem.W.mg_of X G ax2, rfl, XC2⟩) ki_bool_2 (itab_ty (⟨_, _, rfl, PySem.W.mg_of X G ax3, rfl, XC3⟩) ki_bool_3 (itab_ty (⟨_, _, rfl, PySem.W.mg_of X G ax4, rfl, XC4⟩) ki_bool_4 (itab_ty (⟨_, _, rfl, PySem.W.mg_of X G ax5, rfl, XC5⟩) ki_bool_5 (itab_ty (⟨_, _, rfl, PySem.W.mg_of X G ax6, rfl, XC6⟩) ki_bool_6 (itab_ty (⟨_, _, rfl, PySem.W.mg_of X G ax7, rfl, XC7⟩) ki_bool_7 (itab_ty (⟨_, _, rfl, PySem.W.mg_of X G ax8, rfl, XC8⟩) ki_bool_8 (itab_ty (⟨_, _, rfl, PySem.W.mg_of X G ax9, rfl, XC9⟩) ki_bool_9 (itab_ty (⟨_, _, rfl, PySem.W.mg_of X G ax10, rfl, XC10⟩) ki_bool_10 (itab_ty (⟨_, _, rfl, PySem.W.mg_of X G ax11, rfl, XC11⟩) ki_bool_11 (itab_ty (⟨_, _, rfl, PySem.W.mg_of X G ax12, rfl, XC12⟩) ki_bool_12 (itab_ty (⟨_, _, rfl, PySem.W.mg_of X G ax13, rfl, XC13⟩) ki_bool_13 (itab_nil)))))))))))))))))))))⟩,
    is_BadHand := ⟨_, .cons (.inl ⟨_, PySem.W.mg_of X G ax4, rfl⟩) (.nil), itab_ty (rfl) kt_BadHand_NoneType (itab_ty (rfl) kt_BadHand_bool (itab_ty (rfl) kt_BadHand_int (itab_ty (rfl) kt_BadHand_str (itab_ty (rfl) kt_BadHand_list (itab_ty (rfl) kt_BadHand_tuple (itab_ty (rfl) kt_BadHand_dict (itab_ty (⟨_, _, rfl, PySem.W.mg_of X G ax0, rfl, XC0⟩) ki_BadHand_0 (itab_ty (⟨_, _, rfl, PySem.W.mg_of X G ax1, rfl, XC1⟩) ki_BadHand_1 (itab_ty (⟨_, _, rfl, PySem.W.mg_of X G ax2, rfl, XC2⟩) ki_BadHand_2 (itab_ty (⟨_, _, rfl, PySem.W.mg_of X G ax3, rfl, XC3⟩) ki_BadHand_3 (itab_ty (⟨_, _, rfl, PySem.W.mg_of X G ax4, rfl, XC4⟩) ki_BadHand_4 (itab_ty (⟨_, _, rfl, PySem.W.mg_of X G ax5, rfl, XC5⟩) ki_BadHand_5 (itab_ty (⟨_, _, rfl, PySem.W.mg_of X G ax6, rfl, XC6⟩) ki_BadHand_6 (itab_ty (⟨_, _, rfl, PySem.W.mg_of X G ax7, rfl, XC7⟩) ki_BadHand_7 (itab_ty (⟨_, _, rfl, PySem.W.mg_of X G ax8, rfl, XC8⟩) ki_BadHand_8 (itab_ty (⟨_, _, rfl, PySem.W.mg_of X G ax9, rfl, XC9⟩) ki_BadHand_9 (itab_ty (⟨_, _, rfl, PySem.W.mg_of X G ax10, rfl, XC10⟩) ki_BadHand_10 (itab_ty (⟨_, _, rfl, PySem.W.mg_of X G ax11, rfl, XC11⟩) ki_BadHand_11 (itab_ty (⟨_, _, rfl, PySem.W.mg_of X G ax12, rfl, XC12⟩) ki_BadHand_12 (itab_ty (⟨_, _, rfl, PySem.W.mg_of X G ax13, rfl, XC13⟩) ki_BadHand_13 (itab_nil)))))))))))))))))))))⟩,
    is_BadField := ⟨_, .cons (.inl ⟨_, PySem.W.mg_of X G ax3, rfl⟩) (.nil), itab_ty (rfl) kt_BadField_NoneType (itab_ty (rfl) kt_BadField_bool (itab_ty (rfl) kt_BadField_int (itab_ty (rfl) kt_BadField_str (itab_ty (rfl) kt_BadField_list (itab_ty (rfl) kt_BadField_tuple (itab_ty (rfl) kt_BadField_dict (itab_ty (⟨_, _, rfl, PySem.W.mg_of X G ax0, rfl, XC0⟩) ki_BadField_0 (itab_ty (⟨_, _, rfl, PySem.W.mg_of X G ax1, rfl, XC1⟩) ki_BadField_1 (itab_ty (⟨_, _, rfl, PySem.W.mg_of X G ax2, rfl, XC2⟩) ki_BadField_2 (itab_ty (⟨_, _, rfl, PySem.W.mg_of X G ax3, rfl, XC3⟩) ki_BadField_3 (itab_ty (⟨_, _, rfl, PySem.W.mg_of X G ax4, rfl, XC4⟩) ki_BadField_4 (itab_ty (⟨_, _, rfl, PySem.W.mg_of X G ax5, rfl, XC5⟩) ki_BadField_5 (itab_ty (⟨_, _, rfl, PySem.W.mg_of X G ax6, rfl, XC6⟩) ki_BadField_6 (itab_ty (⟨_, _, rfl, PySem.W.mg_of X G ax7, rfl, XC7⟩) ki_BadField_7 (itab_ty (⟨_, _, rfl, PySem.W.mg_of X G ax8, rfl, XC8⟩) ki_BadField_8 (itab_ty (⟨_, _, rfl, PySem.W.mg_of X G ax9, rfl, XC9⟩) ki_BadField_9 (itab_ty (⟨_, _, rfl, PySem.W.mg_of X G ax10, rfl, XC10⟩) ki_BadField_10 (itab_ty (⟨_, _, rfl, PySem.W.mg_of X G ax11, rfl, XC11⟩) ki_BadField_11 (itab_ty (⟨_, _, rfl, PySem.W.mg_of X G ax12, rfl, XC12⟩) ki_BadField_12 (itab_ty (⟨_, _, rfl, PySem.W.mg_of X G ax13, rfl, XC13⟩) ki_BadField_13 (itab_nil)))))))))))))))))))))⟩,
    is_BadCount := ⟨_, .cons (.inl ⟨_, PySem.W.mg_of X G ax2, rfl⟩) (.nil), itab_ty (rfl) kt_BadCount_NoneType (itab_ty (rfl) kt_BadCount_bool (itab_ty (rfl) kt_BadCount_int (itab_ty (rfl) kt_BadCount_str (itab_ty (rfl) kt_BadCount_list (itab_ty (rfl) kt_BadCount_tuple (itab_ty (rfl) kt_BadCount_dict (itab_ty (⟨_, _, rfl, PySem.W.mg_of X G ax0, rfl, XC0⟩) ki_BadCount_0 (itab_ty (⟨_, _, rfl, PySem.W.mg_of X G ax1, rfl, XC1⟩) ki_BadCount_1 (itab_ty (⟨_, _, rfl, PySem.W.mg_of X G ax2, rfl, XC2⟩) ki_BadCount_2 (itab_ty (⟨_, _, rfl, PySem.W.mg_of X G ax3, rfl, XC3⟩) ki_BadCount_3 (itab_ty (⟨_, _, rfl, PySem.W.mg_of X G ax4, rfl, XC4⟩) ki_BadCount_4 (itab_ty (⟨_, _, rfl, PySem.W.mg_of X G ax5, rfl, XC5⟩) ki_BadCount_5 (itab_ty (⟨_, _, rfl, PySem.W.mg_of X G ax6, rfl, XC6⟩) ki_BadCount_6 (itab_ty (⟨_, _, rfl, PySem.W.mg_of X G ax7, rfl, XC7⟩) ki_BadCount_7 (itab_ty (⟨_, _, rfl, PySem.W.mg_of X G ax8, rfl, XC8⟩) ki_BadCount_8 (itab_ty (⟨_, _, rfl, PySem.W.mg_of X G ax9, rfl, XC9⟩) ki_BadCount_9 (itab_ty (⟨_, _, rfl, PySem.W.mg_of X G ax10, rfl, XC10⟩) ki_BadCount_10 (itab_ty (⟨_, _, rfl, PySem.W.mg_of X G ax11, rfl, XC11⟩) ki_BadCount_11 (itab_ty (⟨_, _, rfl, PySem.W.mg_of X G ax12, rfl, XC12⟩) ki_BadCount_12 (itab_ty (⟨_, _, rfl, PySem.W.mg_of X G ax13, rfl, XC13⟩) ki_BadCount_13 (itab_nil)))))))))))))))))))))⟩,
    is_BadAddress := ⟨_, .cons (.inl ⟨_, PySem.W.mg_of X G ax1, rfl⟩) (.nil), itab_ty (rfl) kt_BadAddress_NoneType (itab_ty (rfl) kt_BadAddress_bool (itab_ty (rfl) kt_BadAddress_int (itab_ty (rfl) kt_BadAddress_str (itab_ty (rfl) kt_BadAddress_list (itab_ty (rfl) kt_BadAddress_tuple (itab_ty (rfl) kt_BadAddress_dict (itab_ty (⟨_, _, rfl, PySem.W.mg_of X G ax0, rfl, XC0⟩) ki_BadAddress_0 (itab_ty (⟨_, _, rfl, PySem.W.mg_of X G ax1, rfl, XC1⟩) ki_BadAddress_1 (itab_ty (⟨_, _, rfl, PySem.W.mg_of X G ax2, rfl, XC2⟩) ki_BadAddress_2 (itab_ty (⟨_, _, rfl, PySem.W.mg_of X G ax3, rfl, XC3⟩) ki_BadAddress_3 (itab_ty (⟨_, _, rfl, PySem.W.mg_of X G ax4, rfl, XC4⟩) ki_BadAddress_4 (itab_ty (⟨_, _, rfl, PySem.W.mg_of X G ax5, rfl, XC5⟩) ki_BadAddress_5 (itab_ty (⟨_, _, rfl, PySem.W.mg_of X G ax6, rfl, XC6⟩) ki_BadAddress_6 (itab_ty (⟨_, _, rfl, PySem.W.mg_of X G ax7, rfl, XC7⟩) ki_BadAddress_7 (itab_ty (⟨_, _, rfl, PySem.W.mg_of X G ax8, rfl, XC8⟩) ki_BadAddress_8 (itab_ty (⟨_, _, rfl, PySem.W.mg_of X G ax9, rfl, XC9⟩) ki_BadAddress_9 (itab_ty (⟨_, _, rfl, PySem.W.mg_of X G ax10, rfl, XC10⟩) ki_BadAddress_10 (itab_ty (⟨_, _, rfl, PySem.W.mg_of X G ax11, rfl, XC11⟩) ki_BadAddress_11 (itab_ty (⟨_, _, rfl, PySem.W.mg_of X G ax12, rfl, XC12⟩) ki_BadAddress_12 (itab_ty (⟨_, _, rfl, PySem.W.mg_of X G ax13, rfl, XC13⟩) ki_BadAddress_13 (itab_nil)))))))))))))))))))))⟩,
    is_BadText := ⟨_, .cons (.inl ⟨_, PySem.W.mg_of X G ax8, rfl⟩) (.nil), itab_ty (rfl) kt_BadText_NoneType (itab_ty (rfl) kt_BadText_bool (itab_ty (rfl) kt_BadText_int (itab_ty (rfl) kt_BadText_str (itab_ty (rfl) kt_BadText_list (itab_ty (rfl) kt_BadText_tuple (itab_ty (rfl) kt_BadText_dict (itab_ty (⟨_, _, rfl, PySem.W.mg_of X G ax0, rfl, XC0⟩) ki_BadText_0 (itab_ty (⟨_, _, rfl, PySem.W.mg_of X G ax1, rfl, XC1⟩) ki_BadText_1 (itab_ty (⟨_, _, rfl, PySem.W.mg_of X G ax2, rfl, XC2⟩) ki_BadText_2 (itab_ty (⟨_, _, rfl, PySem.W.mg_of X G ax3, rfl, XC3⟩) ki_BadText_3 (itab_ty (⟨_, _, rfl, PySem.W.mg_of X G ax4, rfl, XC4⟩) ki_BadText_4 (itab_ty (⟨_, _, rfl, PySem.W.mg_of X G ax5, rfl, XC5⟩) ki_BadText_5 (itab_ty (⟨_, _, rfl, PySem.W.mg_of X G ax6, rfl, XC6⟩) ki_BadText_6 (itab_ty (⟨_, _, rfl, PySem.W.mg_of X G ax7, rfl, XC7⟩) ki_BadText_7 (itab_ty (⟨_, _, rfl, PySem.W.mg_of X G ax8, rfl, XC8⟩) ki_BadText_8 (itab_ty (⟨_, _, rfl, PySem.W.mg_of X G ax9, rfl, XC9⟩) ki_BadText_9 (itab_ty (⟨_, _, rfl, PySem.W.mg_of X G ax10, rfl, XC10⟩) ki_BadText_10 (itab_ty (⟨_, _, rfl, PySem.W.mg_of X G ax11, rfl, XC11⟩) ki_BadText_11 (itab_ty (⟨_, _, rfl, PySem.W.mg_of X G ax12, rfl, XC12⟩) ki_BadText_12 (itab_ty (⟨_, _, rfl, PySem.W.mg_of X G ax13, rfl, XC13⟩) ki_BadText_13 (itab_nil)))))))))))))))))))))⟩,
    is_BadPaper := ⟨_, .cons (.inl ⟨_, PySem.W.mg_of X G ax7, rfl⟩) (.nil), itab_ty (rfl) kt_BadPaper_NoneType (itab_ty (rfl) kt_BadPaper_bool (itab_ty (rfl) kt_BadPaper_int (itab_ty (rfl) kt_BadPaper_str (itab_ty (rfl) kt_BadPaper_list (itab_ty (rfl) kt_BadPaper_tuple (itab_ty (rfl) kt_BadPaper_dict (itab_ty (⟨_, _, rfl, PySem.W.mg_of X G ax0, rfl, XC0⟩) ki_BadPaper_0 (itab_ty (⟨_, _, rfl, PySem.W.mg_of X G ax1, rfl, XC1⟩) ki_BadPaper_1 (itab_ty (⟨_, _, rfl, PySem.W.mg_of X G ax2, rfl, XC2⟩) ki_BadPaper_2 (itab_ty (⟨_, _, rfl, PySem.W.mg_of X G ax3, rfl, XC3⟩) ki_BadPaper_3 (itab_ty (⟨_, _, rfl, PySem.W.mg_of X G ax4, rfl, XC4⟩) ki_BadPaper_4 (itab_ty (⟨_, _, rfl, PySem.W.mg_of X G ax5, rfl, XC5⟩) ki_BadPaper_5 (itab_ty (⟨_, _, rfl, PySem.W.mg_of X G ax6, rfl, XC6⟩) ki_BadPaper_6 (itab_ty (⟨_, _, rfl, PySem.W.mg_of X G ax7, rfl, XC7⟩) ki_BadPaper_7 (itab_ty (⟨_, _, rfl, PySem.W.mg_of X G ax8, rfl, XC8⟩) ki_BadPaper_8 (itab_ty (⟨_, _, rfl, PySem.W.mg_of X G ax9, rfl, XC9⟩) ki_BadPaper_9 (itab_ty (⟨_, _, rfl, PySem.W.mg_of X G ax10, rfl, XC10⟩) ki_BadPaper_10 (itab_ty (⟨_, _, rfl, PySem.W.mg_of X G ax11, rfl, XC11⟩) ki_BadPaper_11 (itab_ty (⟨_, _, rfl, PySem.W.mg_of X G ax12, rfl, XC12⟩) ki_BadPaper_12 (itab_ty (⟨_, _, rfl, PySem.W.mg_of X G ax13, rfl, XC13⟩) ki_BadPaper_13 (itab_nil)))))))))))))))))))))⟩,
    is_BadName := ⟨_, .cons (.inl ⟨_, PySem.W.mg_of X G ax6, rfl⟩) (.nil), itab_ty (rfl) kt_BadName_NoneType (itab_ty (rfl) kt_BadName_bool (itab_ty (rfl) kt_BadName_int (itab_ty (rfl) kt_BadName_str (itab_ty (rfl) kt_BadName_list (itab_ty (rfl) kt_BadName_tuple (itab_ty (rfl) kt_BadName_dict (itab_ty (⟨_, _, rfl, PySem.W.mg_of X G ax0, rfl, XC0⟩) ki_BadName_0 (itab_ty (⟨_, _, rfl, PySem.W.mg_of X G ax1, rfl, XC1⟩) ki_BadName_1 (itab_ty (⟨_, _, rfl, PySem.W.mg_of X G ax2, rfl, XC2⟩) ki_BadName_2 (itab_ty (⟨_, _, rfl, PySem.W.mg_of X G ax3, rfl, XC3⟩) ki_BadName_3 (itab_ty (⟨_, _, rfl, PySem.W.mg_of X G ax4, rfl, XC4⟩) ki_BadName_4 (itab_ty (⟨_, _, rfl, PySem.W.mg_of X G ax5, rfl, XC5⟩) ki_BadName_5 (itab_ty (⟨_, _, rfl, PySem.W.mg_of X G ax6, rfl, XC6⟩) ki_BadName_6 (itab_ty (⟨_, _, rfl, PySem.W.mg_of X G ax7, rfl, XC7⟩) ki_BadName_7 (itab_ty (⟨_, _, rfl, PySem.W.mg_of X G ax8, rfl, XC8⟩) ki_BadName_8 (itab_ty (⟨_, _, rfl, PySem.W.mg_of X G ax9, rfl, XC9⟩) ki_BadName_9 (itab_ty (⟨_, _, rfl, PySem.W.mg_of X G ax10, rfl, XC10⟩) ki_BadName_10 (itab_ty (⟨_, _, rfl, PySem.W.mg_of X G ax11, rfl, XC11⟩) ki_BadName_11 (itab_ty (⟨_, _, rfl, PySem.W.mg_of X G ax12, rfl, XC12⟩) ki_BadName_12 (itab_ty (⟨_, _, rfl, PySem.W.mg_of X G ax13, rfl, XC13⟩) ki_BadName_13 (itab_nil)))))))))))))))))))))⟩,
    is_BadLog := ⟨_, .cons (.inl ⟨_, PySem.W.mg_of X G ax5, rfl⟩) (.nil), itab_ty (rfl) kt_BadLog_NoneType (itab_ty (rfl) kt_BadLog_bool (itab_ty (rfl) kt_BadLog_int (itab_ty (rfl) kt_BadLog_str (itab_ty (rfl) kt_BadLog_list (itab_ty (rfl) kt_BadLog_tuple (itab_ty (rfl) kt_BadLog_dict (itab_ty (⟨_, _, rfl, PySem.W.mg_of X G ax0, rfl, XC0⟩) ki_BadLog_0 (itab_ty (⟨_, _, rfl, PySem.W.mg_of X G ax1, rfl, XC1⟩) ki_BadLog_1 (itab_ty (⟨_, _, rfl, PySem.W.mg_of X G ax2, rfl, XC2⟩) ki_BadLog_2 (itab_ty (⟨_, _, rfl, PySem.W.mg_of X G ax3, rfl, XC3⟩) ki_BadLog_3 (itab_ty (⟨_, _, rfl, PySem.W.mg_of X G ax4, rfl, XC4⟩) ki_BadLog_4 (itab_ty (⟨_, _, rfl, PySem.W.mg_of X G ax5, rfl, XC5⟩) ki_BadLog_5 (itab_ty (⟨_, _, rfl, PySem.W.mg_of X G ax6, rfl, XC6⟩) ki_BadLog_6 (itab_ty (⟨_, _, rfl, PySem.W.mg_of X G ax7, rfl, XC7⟩) ki_BadLog_7 (itab_ty (⟨_, _, rfl, PySem.W.mg_of X G ax8, rfl, XC8⟩) ki_BadLog_8 (itab_ty (⟨_, _, rfl, PySem.W.mg_of X G ax9, rfl, XC9⟩) ki_BadLog_9 (itab_ty (⟨_, _, rfl, PySem.W.mg_of X G ax10, rfl, XC10⟩) ki_BadLog_10 (itab_ty (⟨_, _, rfl, PySem.W.mg_of X G ax11, rfl, XC11⟩) ki_BadLog_11 (itab_ty (⟨_, _, rfl, PySem.W.mg_of X G ax12, rfl, XC12⟩) ki_BadLog_12 (itab_ty (⟨_, _, rfl, PySem.W.mg_of X G ax13, rfl, XC13⟩) ki_BadLog_13 (itab_nil)))))))))))))))))))))⟩,
    is_RoundOn := ⟨_, .cons (.inl ⟨_, PySem.W.mg_of X G ax12, rfl⟩) (.nil), itab_ty (rfl) kt_RoundOn_NoneType (itab_ty (rfl) kt_RoundOn_bool (itab_ty (rfl) kt_RoundOn_int (itab_ty (rfl) kt_RoundOn_str (itab_ty (rfl) kt_RoundOn_list (itab_ty (rfl) kt_RoundOn_tuple (itab_ty (rfl) kt_RoundOn_dict (itab_ty (⟨_, _, rfl, PySem.W.mg_of X G ax0, rfl, XC0⟩) ki_RoundOn_0 (itab_ty (⟨_, _, rfl, PySem.W.mg_of X G ax1, rfl, XC1⟩) ki_RoundOn_1 (itab_ty (⟨_, _, rfl, PySem.W.mg_of X G ax2, rfl, XC2⟩) ki_RoundOn_2 (itab_ty (⟨_, _, rfl, PySem.W.mg_of X G ax3, rfl, XC3⟩) ki_RoundOn_3 (itab_ty (⟨_, _, rfl, PySem.W.mg_of X G ax4, rfl, XC4⟩) ki_RoundOn_4 (itab_ty (⟨_, _, rfl, PySem.W.mg_of X G ax5, rfl, XC5⟩) ki_RoundOn_5 (itab_ty (⟨_, _, rfl, PySem.W.mg_of X G ax6, rfl, XC6⟩) ki_RoundOn_6 (itab_ty (⟨_, _, rfl, PySem.W.mg_of X G ax7, rfl, XC7⟩) ki_RoundOn_7 (itab_ty (⟨_, _, rfl, PySem.W.mg_of X G ax8, rfl, XC8⟩) ki_RoundOn_8 (itab_ty (⟨_, _, rfl, PySem.W.mg_of X G ax9, rfl, XC9⟩) ki_RoundOn_9 (itab_ty (⟨_, _, rfl, PySem.W.mg_of X G ax10, rfl, XC10⟩) ki_RoundOn_10 (itab_ty (⟨_, _, rfl, PySem.W.mg_of X G ax11, rfl, XC11⟩) ki_RoundOn_11 (itab_ty (⟨_, _, rfl, PySem.W.mg_of X G ax12, rfl, XC12⟩) ki_RoundOn_12 (itab_ty (⟨_, _, rfl, PySem.W.mg_of X G ax13, rfl, XC13⟩) ki_RoundOn_13 (itab_nil)))))))))))))))))))))⟩,
    is_NoRound := ⟨_, .cons (.inl ⟨_, PySem.W.mg_of X G ax11, rfl⟩) (.nil), itab_ty (rfl) kt_NoRound_NoneType (itab_ty (rfl) kt_NoRound_bool (itab_ty (rfl) kt_NoRound_int (itab_ty (rfl) kt_NoRound_str (itab_ty (rfl) kt_NoRound_list (itab_ty (rfl) kt_NoRound_tuple (itab_ty (rfl) kt_NoRound_dict (itab_ty (⟨_, _, rfl, PySem.W.mg_of X G ax0, rfl, XC0⟩) ki_NoRound_0 (itab_ty (⟨_, _, rfl, PySem.W.mg_of X G ax1, rfl, XC1⟩) ki_NoRound_1 (itab_ty (⟨_, _, rfl, PySem.W.mg_of X G ax2, rfl, XC2⟩) ki_NoRound_2 (itab_ty (⟨_, _, rfl, PySem.W.mg_of X G ax3, rfl, XC3⟩) ki_NoRound_3 (itab_ty (⟨_, _, rfl, PySem.W.mg_of X G ax4, rfl, XC4⟩) ki_NoRound_4 (itab_ty (⟨_, _, rfl, PySem.W.mg_of X G ax5, rfl, XC5⟩) ki_NoRound_5 (itab_ty (⟨_, _, rfl, PySem.W.mg_of X G ax6, rfl, XC6⟩) ki_NoRound_6 (itab_ty (⟨_, _, rfl, PySem.W.mg_of X G ax7, rfl, XC7⟩) ki_NoRound_7 (itab_ty (⟨_, _, rfl, PySem.W.mg_of X G ax8, rfl, XC8⟩) ki_NoRound_8 (itab_ty (⟨_, _, rfl, PySem.W.mg_of X G ax9, rfl, XC9⟩) ki_NoRound_9 (itab_ty (⟨_, _, rfl, PySem.W.mg_of X G ax10, rfl, XC10⟩) ki_NoRound_10 (itab_ty (⟨_, _, rfl, PySem.W.mg_of X G ax11, rfl, XC11⟩) ki_NoRound_11 (itab_ty (⟨_, _, rfl, PySem.W.mg_of X G ax12, rfl, XC12⟩) ki_NoRound_12 (itab_ty (⟨_, _, rfl, PySem.W.mg_of X G ax13, rfl, XC13⟩) ki_NoRound_13 (itab_nil)))))))))))))))))))))⟩,
    is_NoRoom := ⟨_, .cons (.inl ⟨_, PySem.W.mg_of X G ax10, rfl⟩) (.nil), itab_ty (rfl) kt_NoRoom_NoneType (itab_ty (rfl) kt_NoRoom_bool (itab_ty (rfl) kt_NoRoom_int (itab_ty (rfl) kt_NoRoom_str (itab_ty (rfl) kt_NoRoom_list (itab_ty (rfl) kt_NoRoom_tuple (itab_ty (rfl) kt_NoRoom_dict (itab_ty (⟨_, _, rfl, PySem.W.mg_of X G ax0, rfl, XC0⟩) ki_NoRoom_0 (itab_ty (⟨_, _, rfl, PySem.W.mg_of X G ax1, rfl, XC1⟩) ki_NoRoom_1 (itab_ty (⟨_, _, rfl, PySem.W.mg_of X G ax2, rfl, XC2⟩) ki_NoRoom_2 (itab_ty (⟨_, _, rfl, PySem.W.mg_of X G ax3, rfl, XC3⟩) ki_NoRoom_3 (itab_ty (⟨_, _, rfl, PySem.W.mg_of X G ax4, rfl, XC4⟩) ki_NoRoom_4 (itab_ty (⟨_, _, rfl, PySem.W.mg_of X G ax5, rfl, XC5⟩) ki_NoRoom_5 (itab_ty (⟨_, _, rfl, PySem.W.mg_of X G ax6, rfl, XC6⟩) ki_NoRoom_6 (itab_ty (⟨_, _, rfl, PySem.W.mg_of X G ax7, rfl, XC7⟩) ki_NoRoom_7 (itab_ty (⟨_, _, rfl, PySem.W.mg_of X G ax8, rfl, XC8⟩) ki_NoRoom_8 (itab_ty (⟨_, _, rfl, PySem.W.mg_of X G ax9, rfl, XC9⟩) ki_NoRoom_9 (itab_ty (⟨_, _, rfl, PySem.W.mg_of X G ax10, rfl, XC10⟩) ki_NoRoom_10 (itab_ty (⟨_, _, rfl, PySem.W.mg_of X G ax11, rfl, XC11⟩) ki_NoRoom_11 (itab_ty (⟨_, _, rfl, PySem.W.mg_of X G ax12, rfl, XC12⟩) ki_NoRoom_12 (itab_ty (⟨_, _, rfl, PySem.W.mg_of X G ax13, rfl, XC13⟩) ki_NoRoom_13 (itab_nil)))))))))))))))))))))⟩,
    is_BadView := ⟨_, .cons (.inl ⟨_, PySem.W.mg_of X G ax9, rfl⟩) (.nil), itab_ty (rfl) kt_BadView_NoneType (itab_ty (rfl) kt_BadView_bool (itab_ty (rfl) kt_BadView_int (itab_ty (rfl) kt_BadView_str (itab_ty (rfl) kt_BadView_list (itab_ty (rfl) kt_BadView_tuple (itab_ty (rfl) kt_BadView_dict (itab_ty (⟨_, _, rfl, PySem.W.mg_of X G ax0, rfl, XC0⟩) ki_BadView_0 (itab_ty (⟨_, _, rfl, PySem.W.mg_of X G ax1, rfl, XC1⟩) ki_BadView_1 (itab_ty (⟨_, _, rfl, PySem.W.mg_of X G ax2, rfl, XC2⟩) ki_BadView_2 (itab_ty (⟨_, _, rfl, PySem.W.mg_of X G ax3, rfl, XC3⟩) ki_BadView_3 (itab_ty (⟨_, _, rfl, PySem.W.mg_of X G ax4, rfl, XC4⟩) ki_BadView_4 (itab_ty (⟨_, _, rfl, PySem.W.mg_of X G ax5, rfl, XC5⟩) ki_BadView_5 (itab_ty (⟨_, _, rfl, PySem.W.mg_of X G ax6, rfl, XC6⟩) ki_BadView_6 (itab_ty (⟨_, _, rfl, PySem.W.mg_of X G ax7, rfl, XC7⟩) ki_BadView_7 (itab_ty (⟨_, _, rfl, PySem.W.mg_of X G ax8, rfl, XC8⟩) ki_BadView_8 (itab_ty (⟨_, _, rfl, PySem.W.mg_of X G ax9, rfl, XC9⟩) ki_BadView_9 (itab_ty (⟨_, _, rfl, PySem.W.mg_of X G ax10, rfl, XC10⟩) ki_BadView_10 (itab_ty (⟨_, _, rfl, PySem.W.mg_of X G ax11, rfl, XC11⟩) ki_BadView_11 (itab_ty (⟨_, _, rfl, PySem.W.mg_of X G ax12, rfl, XC12⟩) ki_BadView_12 (itab_ty (⟨_, _, rfl, PySem.W.mg_of X G ax13, rfl, XC13⟩) ki_BadView_13 (itab_nil)))))))))))))))))))))⟩,
    is_TooManyWords := ⟨_, .cons (.inl ⟨_, PySem.W.mg_of X G ax13, rfl⟩) (.nil), itab_ty (rfl) kt_TooManyWords_NoneType (itab_ty (rfl) kt_TooManyWords_bool (itab_ty (rfl) kt_TooManyWords_int (itab_ty (rfl) kt_TooManyWords_str (itab_ty (rfl) kt_TooManyWords_list (itab_ty (rfl) kt_TooManyWords_tuple (itab_ty (rfl) kt_TooManyWords_dict (itab_ty (⟨_, _, rfl, PySem.W.mg_of X G ax0, rfl, XC0⟩) ki_TooManyWords_0 (itab_ty (⟨_, _, rfl, PySem.W.mg_of X G ax1, rfl, XC1⟩) ki_TooManyWords_1 (itab_ty (⟨_, _, rfl, PySem.W.mg_of X G ax2, rfl, XC2⟩) ki_TooManyWords_2 (itab_ty (⟨_, _, rfl, PySem.W.mg_of X G ax3, rfl, XC3⟩) ki_TooManyWords_3 (itab_ty (⟨_, _, rfl, PySem.W.mg_of X G ax4, rfl, XC4⟩) ki_TooManyWords_4 (itab_ty (⟨_, _, rfl, PySem.W.mg_of X G ax5, rfl, XC5⟩) ki_TooManyWords_5 (itab_ty (⟨_, _, rfl, PySem.W.mg_of X G ax6, rfl, XC6⟩) ki_TooManyWords_6 (itab_ty (⟨_, _, rfl, PySem.W.mg_of X G ax7, rfl, XC7⟩) ki_TooManyWords_7 (itab_ty (⟨_, _, rfl, PySem.W.mg_of X G ax8, rfl, XC8⟩) ki_TooManyWords_8 (itab_ty (⟨_, _, rfl, PySem.W.mg_of X G ax9, rfl, XC9⟩) ki_TooManyWords_9 (itab_ty (⟨_, _, rfl, PySem.W.mg_of X G ax10, rfl, XC10⟩) ki_TooManyWords_10 (itab_ty (⟨_, _, rfl, PySem.W.mg_of X G ax11, rfl, XC11⟩) ki_TooManyWords_11 (itab_ty (⟨_, _, rfl, PySem.W.mg_of X G ax12, rfl, XC12⟩) ki_TooManyWords_12 (itab_ty (⟨_, _, rfl, PySem.W.mg_of X G ax13, rfl, XC13⟩) ki_TooManyWords_13 (itab_nil)))))))))))))))))))))⟩,
    is_HeapError := ⟨_, .cons (.inl ⟨_, PySem.W.mg_of X G ax0, rfl⟩) (.nil), itab_ty (rfl) kt_HeapError_NoneType (itab_ty (rfl) kt_HeapError_bool (itab_ty (rfl) kt_HeapError_int (itab_ty (rfl) kt_HeapError_str (itab_ty (rfl) kt_HeapError_list (itab_ty (rfl) kt_HeapError_tuple (itab_ty (rfl) kt_HeapError_dict (itab_ty (⟨_, _, rfl, PySem.W.mg_of X G ax0, rfl, XC0⟩) ki_HeapError_0 (itab_ty (⟨_, _, rfl, PySem.W.mg_of X G ax1, rfl, XC1⟩) ki_HeapError_1 (itab_ty (⟨_, _, rfl, PySem.W.mg_of X G ax2, rfl, XC2⟩) ki_HeapError_2 (itab_ty (⟨_, _, rfl, PySem.W.mg_of X G ax3, rfl, XC3⟩) ki_HeapError_3 (itab_ty (⟨_, _, rfl, PySem.W.mg_of X G ax4, rfl, XC4⟩) ki_HeapError_4 (itab_ty (⟨_, _, rfl, PySem.W.mg_of X G ax5, rfl, XC5⟩) ki_HeapError_5 (itab_ty (⟨_, _, rfl, PySem.W.mg_of X G ax6, rfl, XC6⟩) ki_HeapError_6 (itab_ty (⟨_, _, rfl, PySem.W.mg_of X G ax7, rfl, XC7⟩) ki_HeapError_7 (itab_ty (⟨_, _, rfl, PySem.W.mg_of X G ax8, rfl, XC8⟩) ki_HeapError_8 (itab_ty (⟨_, _, rfl, PySem.W.mg_of X G ax9, rfl, XC9⟩) ki_HeapError_9 (itab_ty (⟨_, _, rfl, PySem.W.mg_of X G ax10, rfl, XC10⟩) ki_HeapError_10 (itab_ty (⟨_, _, rfl, PySem.W.mg_of X G ax11, rfl, XC11⟩) ki_HeapError_11 (itab_ty (⟨_, _, rfl, PySem.W.mg_of X G ax12, rfl, XC12⟩) ki_HeapError_12 (itab_ty (⟨_, _, rfl, PySem.W.mg_of X G ax13, rfl, XC13⟩) ki_HeapError_13 (itab_nil)))))))))))))))))))))⟩,
    is_ValueError := ⟨_, .cons (.inr ⟨_, PySem.W.mg_none_of X G zb_ValueError, by decide +kernel, rfl⟩) (.nil), itab_ty (rfl) kt_ValueError_NoneType (itab_ty (rfl) kt_ValueError_bool (itab_ty (rfl) kt_ValueError_int (itab_ty (rfl) kt_ValueError_str (itab_ty (rfl) kt_ValueError_list (itab_ty (rfl) kt_ValueError_tuple (itab_ty (rfl) kt_ValueError_dict (itab_ty (⟨_, _, rfl, PySem.W.mg_of X G ax0, rfl, XC0⟩) ki_ValueError_0 (itab_ty (⟨_, _, rfl, PySem.W.mg_of X G ax1, rfl, XC1⟩) ki_ValueError_1 (itab_ty (⟨_, _, rfl, PySem.W.mg_of X G ax2, rfl, XC2⟩) ki_ValueError_2 (itab_ty (⟨_, _, rfl, PySem.W.mg_of X G ax3, rfl, XC3⟩) ki_ValueError_3 (itab_ty (⟨_, _, rfl, PySem.W.mg_of X G ax4, rfl, XC4⟩) ki_ValueError_4 (itab_ty (⟨_, _, rfl, PySem.W.mg_of X G ax5, rfl, XC5⟩) ki_ValueError_5 (itab_ty (⟨_, _, rfl, PySem.W.mg_of X G ax6, rfl, XC6⟩) ki_ValueError_6 (itab_ty (⟨_, _, rfl, PySem.W.mg_of X G ax7, rfl, XC7⟩) ki_ValueError_7 (itab_ty (⟨_, _, rfl, PySem.W.mg_of X G ax8, rfl, XC8⟩) ki_ValueError_8 (itab_ty (⟨_, _, rfl, PySem.W.mg_of X G ax9, rfl, XC9⟩) ki_ValueError_9 (itab_ty (⟨_, _, rfl, PySem.W.mg_of X G ax10, rfl, XC10⟩) ki_ValueError_10 (itab_ty (⟨_, _, rfl, PySem.W.mg_of X G ax11, rfl, XC11⟩) ki_ValueError_11 (itab_ty (⟨_, _, rfl, PySem.W.mg_of X G ax12, rfl, XC12⟩) ki_ValueError_12 (itab_ty (⟨_, _, rfl, PySem.W.mg_of X G ax13, rfl, XC13⟩) ki_ValueError_13 (itab_nil)))))))))))))))))))))⟩,
    cals := ⟨⟨_, X0, fc0, _, (inClass (atTop prog 1) 0), _, _, _, _, rfl, PySem.W.mg_of X G ax0, ex0_1, ex0_2, xc0_a, xc0_i, (fun_mk (st := (inClass (atTop prog 1) 0)) xc0_l xc0_c xc0_k), (fun_mk (st := (inClass (atTop prog 1) 0)) xc0_l xc0_c xc0_k).binds (ps := ["self"]) (fun _ _ _ _ _ _ us hl => match us, hl with | [_], _ => rfl), ⟨rfl, rfl, rfl, by decide +kernel, rfl, by decide +kernel, by decide +kernel⟩, rfl⟩, ⟨⟨_, X1, fc1, _, (inClass (atTop prog 2) 0), _, _, _, _, rfl, PySem.W.mg_of X G ax1, ex1_1, ex1_2, xc1_a, xc1_i, (fun_mk (st := (inClass (atTop prog 2) 0)) xc1_l xc1_c xc1_k), (fun_mk (st := (inClass (atTop prog 2) 0)) xc1_l xc1_c xc1_k).binds (ps := ["self"]) (fun _ _ _ _ _ _ us hl => match us, hl with | [_], _ => rfl), ⟨rfl, rfl, rfl, by decide +kernel, rfl, by decide +kernel, by decide +kernel⟩, rfl⟩, ⟨⟨_, X2, fc2, _, (inClass (atTop prog 3) 0), _, _, _, _, rfl, PySem.W.mg_of X G ax2, ex2_1, ex2_2, xc2_a, xc2_i, (fun_mk (st := (inClass (atTop prog 3) 0)) xc2_l xc2_c xc2_k), (fun_mk (st := (inClass (atTop prog 3) 0)) xc2_l xc2_c xc2_k).binds (ps := ["self"]) (fun _ _ _ _ _ _ us hl => match us, hl with | [_], _ => rfl), ⟨rfl, rfl, rfl, by decide +kernel, rfl, by decide +kernel, by decide +kernel⟩, rfl⟩, ⟨⟨_, X3, fc3, _, (inClass (atTop prog 4) 0), _, _, _, _, rfl, PySem.W.mg_of X G ax3, ex3_1, ex3_2, xc3_a, xc3_i, (fun_mk (st := (inClass (atTop prog 4) 0)) xc3_l xc3_c xc3_k), (fun_mk (st := (inClass (atTop prog 4) 0)) xc3_l xc3_c xc3_k).binds (ps := ["self"]) (fun _ _ _ _ _ _ us hl => match us, hl with | [_], _ => rfl), ⟨rfl, rfl, rfl, by decide +kernel, rfl, by decide +kernel, by decide +kernel⟩, rfl⟩, ⟨⟨_, X4, fc4, _, (inClass (atTop prog 5) 0), _, _, _, _, rfl, PySem.W.mg_of X G ax4, ex4_1, ex4_2, xc4_a, xc4_i, (fun_mk (st := (inClass (atTop prog 5) 0)) xc4_l xc4_c xc4_k), (fun_mk (st := (inClass (atTop prog 5) 0)) xc4_l xc4_c xc4_k).binds (ps := ["self"]) (fun _ _ _ _ _ _ us hl => match us, hl with | [_], _ => rfl), ⟨rfl, rfl, rfl, by decide +kernel, rfl, by decide +kernel, by decide +kernel⟩, rfl⟩, ⟨⟨_, X5, fc5, _, (inClass (atTop prog 6) 1), _, _, _, _, rfl, PySem.W.mg_of X G ax5, ex5_1, ex5_2, xc5_a, xc5_i, (fun_mk (st := (inClass (atTop prog 6) 1)) xc5_l xc5_c xc5_k), (fun_mk (st := (inClass (atTop prog 6) 1)) xc5_l xc5_c xc5_k).binds (ps := ["self"]) (fun _ _ _ _ _ _ us hl => match us, hl with | [_], _ => rfl), ⟨rfl, rfl, rfl, by decide +kernel, rfl, by decide +kernel, by decide +kernel⟩, rfl⟩, ⟨⟨_, X6, fc6, _, (inClass (atTop prog 7) 0), _, _, _, _, rfl, PySem.W.mg_of X G ax6, ex6_1, ex6_2, xc6_a, xc6_i, (fun_mk (st := (inClass (atTop prog 7) 0)) xc6_l xc6_c xc6_k), (fun_mk (st := (inClass (atTop prog 7) 0)) xc6_l xc6_c xc6_k).binds (ps := ["self"]) (fun _ _ _ _ _ _ us hl => match us, hl with | [_], _ => rfl), ⟨rfl, rfl, rfl, by decide +kernel, rfl, by decide +kernel, by decide +kernel⟩, rfl⟩, ⟨⟨_, X7, fc7, _, (inClass (atTop prog 8) 0), _, _, _, _, rfl, PySem.W.mg_of X G ax7, ex7_1, ex7_2, xc7_a, xc7_i, (fun_mk (st := (inClass (atTop prog 8) 0)) xc7_l xc7_c xc7_k), (fun_mk (st := (inClass (atTop prog 8) 0)) xc7_l xc7_c xc7_k).binds (ps := ["self"]) (fun _ _ _ _ _ _ us hl => match us, hl with | [_], _ => rfl), ⟨rfl, rfl, rfl, by decide +kernel, rfl, by decide +kernel, by decide +kernel⟩, rfl⟩, ⟨⟨_, X8, fc8, _, (inClass (atTop prog 9) 1), _, _, _, _, rfl, PySem.W.mg_of X G ax8, ex8_1, ex8_2, xc8_a, xc8_i, (fun_mk (st := (inClass (atTop prog 9) 1)) xc8_l xc8_c xc8_k), (fun_mk (st := (inClass (atTop prog 9) 1)) xc8_l xc8_c xc8_k).binds (ps := ["self"]) (fun _ _ _ _ _ _ us hl => match us, hl with | [_], _ => rfl), ⟨rfl, rfl, rfl, by decide +kernel, rfl, by decide +kernel, by decide +kernel⟩, rfl⟩, ⟨⟨_, X9, fc9, _, (inClass (atTop prog 10) 0), _, _, _, _, rfl, PySem.W.mg_of X G ax9, ex9_1, ex9_2, xc9_a, xc9_i, (fun_mk (st := (inClass (atTop prog 10) 0)) xc9_l xc9_c xc9_k), (fun_mk (st := (inClass (atTop prog 10) 0)) xc9_l xc9_c xc9_k).binds (ps := ["self"]) (fun _ _ _ _ _ _ us hl => match us, hl with | [_], _ => rfl), ⟨rfl, rfl, rfl, by decide +kernel, rfl, by decide +kernel, by decide +kernel⟩, rfl⟩, ⟨⟨_, X10, fc10, _, (inClass (atTop prog 11) 0), _, _, _, _, rfl, PySem.W.mg_of X G ax10, ex10_1, ex10_2, xc10_a, xc10_i, (fun_mk (st := (inClass (atTop prog 11) 0)) xc10_l xc10_c xc10_k), (fun_mk (st := (inClass (atTop prog 11) 0)) xc10_l xc10_c xc10_k).binds (ps := ["self"]) (fun _ _ _ _ _ _ us hl => match us, hl with | [_], _ => rfl), ⟨rfl, rfl, rfl, by decide +kernel, rfl, by decide +kernel, by decide +kernel⟩, rfl⟩, ⟨⟨_, X11, fc11, _, (inClass (atTop prog 12) 0), _, _, _, _, rfl, PySem.W.mg_of X G ax11, ex11_1, ex11_2, xc11_a, xc11_i, (fun_mk (st := (inClass (atTop prog 12) 0)) xc11_l xc11_c xc11_k), (fun_mk (st := (inClass (atTop prog 12) 0)) xc11_l xc11_c xc11_k).binds (ps := ["self"]) (fun _ _ _ _ _ _ us hl => match us, hl with | [_], _ => rfl), ⟨rfl, rfl, rfl, by decide +kernel, rfl, by decide +kernel, by decide +kernel⟩, rfl⟩, ⟨⟨_, X12, fc12, _, (inClass (atTop prog 13) 0), _, _, _, _, rfl, PySem.W.mg_of X G ax12, ex12_1, ex12_2, xc12_a, xc12_i, (fun_mk (st := (inClass (atTop prog 13) 0)) xc12_l xc12_c xc12_k), (fun_mk (st := (inClass (atTop prog 13) 0)) xc12_l xc12_c xc12_k).binds (ps := ["self"]) (fun _ _ _ _ _ _ us hl => match us, hl with | [_], _ => rfl), ⟨rfl, rfl, rfl, by decide +kernel, rfl, by decide +kernel, by decide +kernel⟩, rfl⟩, ⟨⟨_, X13, fc13, _, (inClass (atTop prog 14) 0), _, _, _, _, rfl, PySem.W.mg_of X G ax13, ex13_1, ex13_2, xc13_a, xc13_i, (fun_mk (st := (inClass (atTop prog 14) 0)) xc13_l xc13_c xc13_k), (fun_mk (st := (inClass (atTop prog 14) 0)) xc13_l xc13_c xc13_k).binds (ps := ["self"]) (fun _ _ _ _ _ _ us hl => match us, hl with | [_], _ => rfl), ⟨rfl, rfl, rfl, by decide +kernel, rfl, by decide +kernel, by decide +kernel⟩, rfl⟩, trivial⟩⟩⟩⟩⟩⟩⟩⟩⟩⟩⟩⟩⟩⟩,
    rowf := fun c y D e1 e2 => by
      match c, e1 with
      | 0, e1 => cases e1; cases (PySem.W.mg_of X G ax0).symm.trans e2; exact ⟨⟨ex0_1, ex0_2, ex0_3, ex0_4⟩, xrw0⟩
      | 1, e1 => cases e1; cases (PySem.W.mg_of X G ax1).symm.trans e2; exact ⟨⟨ex1_1, ex1_2, ex1_3, ex1_4⟩, xrw1⟩
      | 2, e1 => cases e1; cases (PySem.W.mg_of X G ax2).symm.trans e2; exact ⟨⟨ex2_1, ex2_2, ex2_3, ex2_4⟩, xrw2⟩
      | 3, e1 => cases e1; cases (PySem.W.mg_of X G ax3).symm.trans e2; exact ⟨⟨ex3_1, ex3_2, ex3_3, ex3_4⟩, xrw3⟩
      | 4, e1 => cases e1; cases (PySem.W.mg_of X G ax4).symm.trans e2; exact ⟨⟨ex4_1, ex4_2, ex4_3, ex4_4⟩, xrw4⟩
      | 5, e1 => cases e1; cases (PySem.W.mg_of X G ax5).symm.trans e2; exact ⟨⟨ex5_1, ex5_2, ex5_3, ex5_4⟩, xrw5⟩
      | 6, e1 => cases e1; cases (PySem.W.mg_of X G ax6).symm.trans e2; exact ⟨⟨ex6_1, ex6_2, ex6_3, ex6_4⟩, xrw6⟩
      | 7, e1 => cases e1; cases (PySem.W.mg_of X G ax7).symm.trans e2; exact ⟨⟨ex7_1, ex7_2, ex7_3, ex7_4⟩, xrw7⟩
      | 8, e1 => cases e1; cases (PySem.W.mg_of X G ax8).symm.trans e2; exact ⟨⟨ex8_1, ex8_2, ex8_3, ex8_4⟩, xrw8⟩
      | 9, e1 => cases e1; cases (PySem.W.mg_of X G ax9).symm.trans e2; exact ⟨⟨ex9_1, ex9_2, ex9_3, ex9_4⟩, xrw9⟩
      | 10, e1 => cases e1; cases (PySem.W.mg_of X G ax10).symm.trans e2; exact ⟨⟨ex10_1, ex10_2, ex10_3, ex10_4⟩, xrw10⟩
      | 11, e1 => cases e1; cases (PySem.W.mg_of X G ax11).symm.trans e2; exact ⟨⟨ex11_1, ex11_2, ex11_3, ex11_4⟩, xrw11⟩
      | 12, e1 => cases e1; cases (PySem.W.mg_of X G ax12).symm.trans e2; exact ⟨⟨ex12_1, ex12_2, ex12_3, ex12_4⟩, xrw12⟩
      | 13, e1 => cases e1; cases (PySem.W.mg_of X G ax13).symm.trans e2; exact ⟨⟨ex13_1, ex13_2, ex13_3, ex13_4⟩, xrw13⟩
      | n + 14, e1 => cases e1 }
  have F0 := fun_mk (st := (atTop prog 20)) l0 c0 k0
  have b0 := F0.binds (ps := ["text", "row"]) fun _ _ _ _ _ _ us hl => match us, hl with | [_, _], _ => rfl
  have F1 := fun_mk (st := (atTop prog 18)) l1 c1 k1
  have b1 := F1.binds (ps := ["e"]) fun _ _ _ _ _ _ us hl => match us, hl with | [_], _ => rfl
  have F2 := fun_mk (st := (atTop prog 19)) l2 c2 k2
  have b2 := F2.binds (ps := []) fun _ _ _ _ _ _ us hl => match us, hl with | [], _ => rfl
  have F3 := fun_mk (st := (atTop prog 17)) l3 c3 k3
  have b3 := F3.binds (ps := ["found"]) fun _ _ _ _ _ _ us hl => match us, hl with | [_], _ => rfl
  have F4 := fun_mk (st := (atTop prog 21)) l4 c4 k4
  have b4 := F4.binds (ps := ["script"]) fun _ _ _ _ _ _ us hl => match us, hl with | [_], _ => rfl
  refine ⟨PySem.W.fnOf "law" "law" (defArgs (atTop prog 21)) (defBody (atTop prog 21)) (defScope (atTop prog 21)) .none kV4 dc4 pm4 an4 cd4 ct4, fun s v => .of_eq rfl, fun base _ _ => ?_⟩
  have FG5 := fun_mk (st := (inClass (atTop prog 6) 0)) gi5_l gi5_c gi5_k
  have XR_BadLog : XrF T prog w K mg base 5 "BadLog" := ⟨rfl, X5, gi5, _, PySem.W.mg_of X G ax5, oex_of xo5 xs5 ex5_3 xtt5 xkk5, xrw5, gi5_a, beq_iff_eq.mp gi5_i, FG5.binds (ps := ["self", "words", "row"]) (fun _ _ _ _ _ _ us hl => match us, hl with | [_, _, _], _ => rfl), rowInit FG5 ⟨rfl, rfl, rfl, by decide +kernel, rfl, by decide +kernel, by decide +kernel⟩ (fun X1 cdv A outer s H E hX => by subst hX; exact pss_cons (ps_expr (pe_hinit (x := "HeapError") ⟨X0, PySem.W.mg_of X G ax0, hi0_1, hi0_2, hi0_3⟩ rfl (pa_cons (pe_var (i := 0) rfl (Or.inl rfl)) (pa_cons (pe_var (i := 1) rfl (Or.inl rfl)) pa_nil)))) (pss_one (ps_ost (pe_var (i := 0) rfl (Or.inl rfl)) (pe_var (i := 2) rfl (Or.inl rfl)))))⟩
  have FG8 := fun_mk (st := (inClass (atTop prog 9) 0)) gi8_l gi8_c gi8_k
  have XR_BadText : XrF T prog w K mg base 8 "BadText" := ⟨rfl, X8, gi8, _, PySem.W.mg_of X G ax8, oex_of xo8 xs8 ex8_3 xtt8 xkk8, xrw8, gi8_a, beq_iff_eq.mp gi8_i, FG8.binds (ps := ["self", "words", "row"]) (fun _ _ _ _ _ _ us hl => match us, hl with | [_, _, _], _ => rfl), rowInit FG8 ⟨rfl, rfl, rfl, by decide +kernel, rfl, by decide +kernel, by decide +kernel⟩ (fun X1 cdv A outer s H E hX => by subst hX; exact pss_cons (ps_expr (pe_hinit (x := "HeapError") ⟨X0, PySem.W.mg_of X G ax0, hi0_1, hi0_2, hi0_3⟩ rfl (pa_cons (pe_var (i := 0) rfl (Or.inl rfl)) (pa_cons (pe_var (i := 1) rfl (Or.inl rfl)) pa_nil)))) (pss_one (ps_ost (pe_var (i := 0) rfl (Or.inl rfl)) (pe_var (i := 2) rfl (Or.inl rfl)))))⟩
  have O0 := ok_f_law_made (w := w) (base := base) Q XR_BadLog XR_BadText F0
  have N0 := fnF_of (T := T) (PySem.W.mg_of X G a0) k0 b0 O0
  have O1 := ok_f_law_flags (w := w) (base := base) Q  F1
  have N1 := fnF_of (T := T) (PySem.W.mg_of X G a1) k1 b1 O1
  have O2 := ok_f_law_names_of_classes (w := w) (base := base) Q  F2
  have N2 := fnF_of (T := T) (PySem.W.mg_of X G a2) k2 b2 O2
  have O3 := ok_f_law_whole (w := w) (base := base) Q  F3
  have N3 := fnF_of (T := T) (PySem.W.mg_of X G a3) k3 b3 O3
  have O4 := ok_f_law (w := w) (base := base) Q N0 N1 N2 N3 F4
  have N4 := fnF_of (T := T) (PySem.W.mg_of X G a4) k4 b4 O4
  exact O4
end Lw
namespace Lw
open PySem PySem.Spec L2 Mi Vi
def mk (n : Int) : List D := [.exc 1 none, .exc 2 none, .exc 3 none, .exc 4 none, .exc 5 (some (.int n)), .exc 6 none, .exc 7 none, .exc 8 (some (.int n)), .exc 9 none, .exc 10 none, .exc 11 none, .exc 12 none, .exc 13 none]
theorem made_ok (s : Str) (n : Int) : p_law_made [.str s, .int n] = .ok (.lst (mk n)) .fr [.str s, .int n] := by kernel_rfl
def bK : Vi.PS := (pSeq (pSet 6 (pApp [false] p_law_flags [.v (pSel2 dSub2 (pVar 4) (pVar 5))])) (pSeq (pIfS (pOr (pB (pBin dNe (pBq "list" qCount (pVar 6) (pCons (pC (.bl true)) (pNil))) (pC (.int 1)))) (pOr (pNot (pB (pSel2 dSub2 (pVar 6) (pVar 5)))) (pNot (pB (pUn (dIsiX it_HeapError) (pSel2 dSub2 (pVar 4) (pVar 5))))))) (pRet (pC (.bl false))) (pSkip)) (pIfS (pOr (pNot (pB (pUn (dIsiX it_ValueError) (pSel2 dSub2 (pVar 4) (pVar 5))))) (pB (pBin dNe (pUn (dCalled cal_tab) (pSel2 dSub2 (pVar 4) (pVar 5))) (pSel2 dSub2 (pApp [] p_law_names_of_classes []) (pVar 5))))) (pRet (pC (.bl false))) (pSkip))))
def inK : Vi.PS := pFor (pRange1 (pCons (pCall dLen (pCons (pVar 4) (pNil))) (pNil))) (tdName 5) bK
def tlK : Vi.PS := (pSeq (pSet 2 (pUn (dExc1 0) (pC (.str "words")))) (pRet (pAndV (pBin dEq (pUn (dCalled cal_tab) (pVar 2)) (pC (.str "HeapError"))) (pAndV (pBin dEq (pBq "list" qCount (pApp [false] p_law_flags [.v (pVar 2)]) (pCons (pC (.bl true)) (pNil))) (pC (.int 0))) (pUn (dIsiX it_ValueError) (pVar 2))))))
def fl13 : List D := [.bl false, .bl false, .bl false, .bl false, .bl false, .bl false, .bl false, .bl false, .bl false, .bl false, .bl false, .bl false, .bl true]
theorem inner_ok (s0 s1 s2 s5 s6 : Sl) (n : Int) : inK [s0, s1, s2, .ow (.int n), .ow (.lst (mk n)), s5, s6] =
    .nx [s0, s1, s2, .ow (.int n), .ow (.lst (mk n)), .ow (.int 12),   .ow (.lst fl13)] := by kernel_rfl
def bE : Vi.PS := pIfS (pOr (pNot (pB (pApp [false] p_law_whole [.v (pUn dRow (pSel2 dIx (pVar 4) (pC (.int 4))))]))) (pOr (pB (pBin dNe (pUn dRow (pSel2 dIx (pVar 4) (pC (.int 4)))) (pVar 3))) (pOr (pNot (pB (pApp [false] p_law_whole [.v (pUn dRow (pSel2 dIx (pVar 4) (pC (.int 7))))]))) (pB (pBin dNe (pUn dRow (pSel2 dIx (pVar 4) (pC (.int 7)))) (pVar 3)))))) (pRet (pC (.bl false))) (pSkip)
theorem i4 : ixN 13 4 = some 4 := rfl
theorem i7 : ixN 13 7 = some 7 := rfl
theorem end_ok (s0 s1 s2 s5 s6 : Sl) (n : Int) : bE [s0, s1, s2, .ow (.int n), .ow (.lst (mk n)), s5, s6] = .nx [s0, s1, s2, .ow (.int n), .ow (.lst (mk n)), s5, s6] := by
  have hw : p_law_whole [.int n] = .ok (.bl true) .fr [.int n] := by kernel_rfl
  simp [bE, mk, i4, i7, hw, dRow]
theorem law_def : p_law = pFn 7 [false] (pSeq (pFor (pWalk (pBin dAdd (pLst (pCons (pC (.int 0)) (pNil))) (pVar 0))) (tdName 1) (pSeq (pSet 3 (pBin dMod (pVar 1) (pBin dPow (pC (.int 10)) (pC (.int 60))))) (pSeq (pSet 4 (pApp [false, false] p_law_made [.v (pBin dMulS (pC (.str "words ")) (pBin dMod (pVar 1) (pC (.int 4)))), .v (pVar 3)])) (pSeq inK bE)))) tlK) := rfl
theorem tail_ok (s0 s1 s3 s4 s5 s6 : Sl) : tlK [s0, s1, .no, s3, s4, s5, s6] = .rt (.bl true) .fr [s0, s1, .ow (.exc 0 none), s3, s4, s5, s6] := by kernel_rfl
theorem law_p (ns : List Int) (hl : ns.length ≤ 63) : ∃ o outs, p_law [.lst (ns.map .int)] = .ok (.bl true) o outs := by
  rw [law_def]
  have hz : (ns.length : Nat) + 1 ≤ sizeLine := by unfold sizeLine; omega
  have h1s : 1 ≤ sizeLine := by unfold sizeLine; omega
  have hz3 : 1 + ns.length ≤ sizeLine := by unfold sizeLine; omega
  have hz2 : ns.length + 1 < sizeLine := by unfold sizeLine; omega
  obtain ⟨e', h1, c, d, a, b, g, _, _, rfl⟩ := for_invD (tg := tdName 1) (b := (pSeq (pSet 3 (pBin dMod (pVar 1) (pBin dPow (pC (.int 10)) (pC (.int 60))))) (pSeq (pSet 4 (pApp [false, false] p_law_made [.v (pBin dMulS (pC (.str "words ")) (pBin dMod (pVar 1) (pC (.int 4)))), .v (pVar 3)])) (pSeq inK bE))))
    (fun its e => ∃ (c d a b g : Sl) (r : List Int), its = r.map (fun x => ItD.v (.int x)) ∧ e = [.fz (.lst (ns.map .int)), c, .no, d, a, b, g]) (by
      rintro it r e ⟨c, d, a, b, g, l, h, rfl⟩
      cases l with
      | nil => cases h
      | cons x l =>
        simp only [List.map_cons, List.cons.injEq] at h
        obtain ⟨rfl, rfl⟩ := h
        refine ⟨[.fz (.lst (ns.map .int)), .ow (.int x), .no, d, a, b, g], [.fz (.lst (ns.map .int)), .ow (.int x), .no, .ow (.int (x % 10 ^ 60)), .ow (.lst (mk (x % 10 ^ 60))), .ow (.int 12), .ow (.lst fl13)], rfl, .inl ?_, _, _, _, _, _, l, rfl, rfl⟩
        have hm : okMul "words " (x % 4) := ⟨by omega, by omega, by decide +kernel⟩
        simp [made_ok, inner_ok, end_ok, dMulS, hm]
        done) (its := (0 :: ns).map (fun x => ItD.v (.int x))) (e := [.fz (.lst (ns.map .int)), .no, .no, .no, .no, .no, .no]) ⟨_, _, _, _, _, _, rfl, rfl⟩
  have h1' := h1
  rw [List.map_cons] at h1'
  simp [hz2, hz, h1s, hz3, dAdd, Function.comp_def, h1', tail_ok]
  done
theorem law_true (ns : List Int) (hl : ns.length ≤ 63) (hb : ∀ z ∈ ns, Builtin.Int.intBits z ≤ 1048576) : ∃ S, f_law [.ref 0] [.lck (.lst (ns.map V.int))] = .ok (.bl true) S := Vi.run_law j_law (law_p ns hl)
end Lw
noncomputable section
namespace HeadIn
open PySem PySem.W PySem.Calls PyProof.Rows HeadRun
def nthS : List Stmt → Nat → Stmt
  | [], _ => .Pass ⟨0, 0, 0, 0⟩
  | a :: _, 0 => a
  | _ :: r, n + 1 => nthS r n
abbrev prg : Program := PySem.Challenge.pw_stillheap_k01_refusals_stand_alone
def view : Program := { PySem.Challenge.pw_stillheap_k01_refusals_stand_alone with main := { (PySem.Challenge.pw_stillheap_k01_refusals_stand_alone).main with body := ([1, 2, 3, 4, 5, 6, 7, 8, 9, 10, 11, 12, 13, 14, 16, 17, 18, 19, 20, 21] : List Nat).map (nthS (PySem.Challenge.pw_stillheap_k01_refusals_stand_alone).main.body) } }
def lse : List Str := []
def Xs : Shared → Bool := fun s => xlAt view [] s && recOk [] s
abbrev ends (w : World) (os : OsState) : Option SharedT := endF (stepQ (denQ tabQ) prg w) 7416 prg w os
abbrev sq (s : SharedT) := seenQ view lse (importedModules prg.main.body) Xs s.abs
theorem a0 (w : World) (os : OsState) : (ends w os).map (fun s => looksF prg (boot_heap w.params) s.abs) = some true := by kernel_rfl
theorem a1 (w : World) (os : OsState) : (ends w os).map (fun s => (sq s).1) = some (expectedOf view) := by kernel_rfl
theorem a2 (w : World) (os : OsState) : (ends w os).map (fun s => (sq s).2.1) = some (bltViewBooted) := by kernel_rfl
theorem a3 (w : World) (os : OsState) : (ends w os).map (fun s => (sq s).2.2.1) = some (true) := by kernel_rfl
theorem a4 (w : World) (os : OsState) : (ends w os).map (fun s => (sq s).2.2.2.1) = some (true) := by kernel_rfl
theorem a5 (w : World) (os : OsState) : (ends w os).map (fun s => (sq s).2.2.2.2.1) = some (pinGoodD (drecsOf view)) := by kernel_rfl
theorem a6 (w : World) (os : OsState) : (ends w os).map (fun s => (sq s).2.2.2.2.2.1) = some (plainGoodE view (looseW view lse)) := by kernel_rfl
theorem a7 (w : World) (os : OsState) : (ends w os).map (fun s => (sq s).2.2.2.2.2.2.1) = some (plainGoodD view lse) := by kernel_rfl
theorem a8 (w : World) (os : OsState) : (ends w os).map (fun s => (sq s).2.2.2.2.2.2.2.1) = some (wideGood view) := by kernel_rfl
theorem a9 (w : World) (os : OsState) : (ends w os).map (fun s => (sq s).2.2.2.2.2.2.2.2) = some (clsGoodW view lse) := by kernel_rfl
theorem pair_abs {S A B : Type} {R : Option S} {f : S → A × B} {b : A × B} (e1 : R.map (fun s => (f s).1) = some b.1) (e2 : R.map (fun s => (f s).2) = some b.2) : R.map f = some b := by
  cases R with
  | none => cases e1
  | some s => exact congrArg some (Prod.ext (Option.some.inj e1) (Option.some.inj e2))
theorem looks (w : World) (os : OsState) : (ends w os).map (fun s => sq s) = some (openGood view lse) := pair_abs (a1 w os) (pair_abs (a2 w os) (pair_abs (a3 w os) (pair_abs (a4 w os) (pair_abs (a5 w os) (pair_abs (a6 w os) (pair_abs (a7 w os) (pair_abs (a8 w os) (a9 w os))))))))
theorem split_abs {S A B C : Type} {R : Option S} {f : S → A} {g : S → B} {h : S → C} {a : A} {b : B} {c : C} (e1 : R.map f = some a) (e2 : R.map g = some b) (e3 : R.map h = some c) : R.map (fun s => (f s, g s, h s)) = some (a, b, c) := by
  cases R with
  | none => cases e1
  | some s =>
    have e1 := Option.some.inj e1
    have e2 := Option.some.inj e2
    have e3 := Option.some.inj e3
    show some (f s, g s, h s) = _
    rw [e1, e2, e3]
theorem run_split {p q : Program} {M : Nat} {loose mods : List PySem.Str} {Xt : Shared → Bool} {as : List Addr} {V : World → List (Option Obj)} (ep : p = prg) (eM : M = 7416) (em : mods = importedModules prg.main.body) (eq : q = view) (el : loose = lse) (eX : Xt = Xs)
    (h3 : ∀ (w : World) (os : OsState), (endF (stepQ (denQ tabQ) p w) M p w os).map (fun s => as.map (getT s)) = some (V w)) (h4 : True = True) :
    ∀ (w : World) (os : OsState), (endF (stepQ (denQ tabQ) p w) M p w os).map (fun s => (looksF p (boot_heap w.params) s.abs, seenQ q loose mods Xt s.abs, as.map (getT s))) = some (true, openGood q loose, V w) := fun w os => by
  subst ep eM em eq el eX
  exact split_abs (a0 w os) (looks w os) (h3 w os)
end HeadIn
end
open PySem PySem.W PyProof.Rows
section
local macro_rules
  | `(tactic| intro $a:ident $b:ident) => `(tactic| first
    | (with_reducible refine HeadIn.run_split ?e1 ?e2 ?e3 ?e4 ?e5 ?e6 ?h3 ?h4; (case e1 => kernel_rfl); (case e2 => kernel_rfl); (case e3 => kernel_rfl); (case e4 => kernel_rfl); (case e5 => kernel_rfl); (case e6 => kernel_rfl); (case h3 => intro w; intro os; kernel_rfl))
    | (intro $a:ident; intro $b:ident))
set_option maxRecDepth 100000 in
set_option maxHeartbeats 0 in
theorem law_holds_here : PySem.Challenge.rw_stillheap_k01_refusals_stand_alone.Holds := by
  w_on; o_law; k_headL; (case hw => w_witness2)
  k_fill
  refine Mi.walk_end (l := PySem.Challenge.rw_stillheap_k01_refusals_stand_alone) (k := 4) (x := "script") (T := Lw.T) (f := Lw.f_law) rfl rfl ⟨rfl, by decide, by decide⟩ (fun w h Y => PySem.W.kIn_of Y) ?L ?F Lw.law_true
  case L => intro p; kernel_rfl
  case F =>
    intro w mg fa h KX G hmg
    refine' Lw.all_mk KX G hmg ?ax0 ?ax1 ?ax2 ?ax3 ?ax4 ?ax5 ?ax6 ?ax7 ?ax8 ?ax9 ?ax10 ?ax11 ?ax12 ?ax13 ?zb_len ?zb_isinstance ?zb_range ?zb_int ?zb_bool ?zb_ValueError ?jc1 ?jc2 ?ex0_1 ?ex0_2 ?ex0_3 ?ex0_4 ?ex0_5 ?ex0_6 ?ex1_1 ?ex1_2 ?ex1_3 ?ex1_4 ?ex1_5 ?ex1_6 ?ex2_1 ?ex2_2 ?ex2_3 ?ex2_4 ?ex2_5 ?ex2_6 ?ex3_1 ?ex3_2 ?ex3_3 ?ex3_4 ?ex3_5 ?ex3_6 ?ex4_1 ?ex4_2 ?ex4_3 ?ex4_4 ?ex4_5 ?ex4_6 ?ex5_1 ?ex5_2 ?ex5_3 ?ex5_4 ?ex5_5 ?ex5_6 ?ex6_1 ?ex6_2 ?ex6_3 ?ex6_4 ?ex6_5 ?ex6_6 ?ex7_1 ?ex7_2 ?ex7_3 ?ex7_4 ?ex7_5 ?ex7_6 ?ex8_1 ?ex8_2 ?ex8_3 ?ex8_4 ?ex8_5 ?ex8_6 ?ex9_1 ?ex9_2 ?ex9_3 ?ex9_4 ?ex9_5 ?ex9_6 ?ex10_1 ?ex10_2 ?ex10_3 ?ex10_4 ?ex10_5 ?ex10_6 ?ex11_1 ?ex11_2 ?ex11_3 ?ex11_4 ?ex11_5 ?ex11_6 ?ex12_1 ?ex12_2 ?ex12_3 ?ex12_4 ?ex12_5 ?ex12_6 ?ex13_1 ?ex13_2 ?ex13_3 ?ex13_4 ?ex13_5 ?ex13_6 ?ki_int_0 ?ki_int_1 ?ki_int_2 ?ki_int_3 ?ki_int_4 ?ki_int_5 ?ki_int_6 ?ki_int_7 ?ki_int_8 ?ki_int_9 ?ki_int_10 ?ki_int_11 ?ki_int_12 ?ki_int_13 ?kt_int_NoneType ?kt_int_bool ?kt_int_int ?kt_int_str ?kt_int_list ?kt_int_tuple ?kt_int_dict ?ki_bool_0 ?ki_bool_1 ?ki_bool_2 ?ki_bool_3 ?ki_bool_4 ?ki_bool_5 ?ki_bool_6 ?ki_bool_7 ?ki_bool_8 ?ki_bool_9 ?ki_bool_10 ?ki_bool_11 ?ki_bool_12 ?ki_bool_13 ?kt_bool_NoneType ?kt_bool_bool ?kt_bool_int ?kt_bool_str ?kt_bool_list ?kt_bool_tuple ?kt_bool_dict ?ki_BadHand_0 ?ki_BadHand_1 ?ki_BadHand_2 ?ki_BadHand_3 ?ki_BadHand_4 ?ki_BadHand_5 ?ki_BadHand_6 ?ki_BadHand_7 ?ki_BadHand_8 ?ki_BadHand_9 ?ki_BadHand_10 ?ki_BadHand_11 ?ki_BadHand_12 ?ki_BadHand_13 ?kt_BadHand_NoneType ?kt_BadHand_bool ?kt_BadHand_int ?kt_BadHand_str ?kt_BadHand_list ?kt_BadHand_tuple ?kt_BadHand_dict ?ki_BadField_0 ?ki_BadField_1 ?ki_BadField_2 ?ki_BadField_3 ?ki_BadField_4 ?ki_BadField_5 ?ki_BadField_6 ?ki_BadField_7 ?ki_BadField_8 ?ki_BadField_9 ?ki_BadField_10 ?ki_BadField_11 ?ki_BadField_12 ?ki_BadField_13 ?kt_BadField_NoneType ?kt_BadField_bool ?kt_BadField_int ?kt_BadField_str ?kt_BadField_list ?kt_BadField_tuple ?kt_BadField_dict ?ki_BadCount_0 ?ki_BadCount_1 ?ki_BadCount_2 ?ki_BadCount_3 ?ki_BadCount_4 ?ki_BadCount_5 ?ki_BadCount_6 ?ki_BadCount_7 ?ki_BadCount_8 ?ki_BadCount_9 ?ki_BadCount_10 ?ki_BadCount_11 ?ki_BadCount_12 ?ki_BadCount_13 ?kt_BadCount_NoneType ?kt_BadCount_bool ?kt_BadCount_int ?kt_BadCount_str ?kt_BadCount_list ?kt_BadCount_tuple ?kt_BadCount_dict ?ki_BadAddress_0 ?ki_BadAddress_1 ?ki_BadAddress_2 ?ki_BadAddress_3 ?ki_BadAddress_4 ?ki_BadAddress_5 ?ki_BadAddress_6 ?ki_BadAddress_7 ?ki_BadAddress_8 ?ki_BadAddress_9 ?ki_BadAddress_10 ?ki_BadAddress_11 ?ki_BadAddress_12 ?ki_BadAddress_13 ?kt_BadAddress_NoneType ?kt_BadAddress_bool ?kt_BadAddress_int ?kt_BadAddress_str ?kt_BadAddress_list ?kt_BadAddress_tuple ?kt_BadAddress_dict ?ki_BadText_0 ?ki_BadText_1 ?ki_BadText_2 ?ki_BadText_3 ?ki_BadText_4 ?ki_BadText_5 ?ki_BadText_6 ?ki_BadText_7 ?ki_BadText_8 ?ki_BadText_9 ?ki_BadText_10 ?ki_BadText_11 ?ki_BadText_12 ?ki_BadText_13 ?kt_BadText_NoneType ?kt_BadText_bool ?kt_BadText_int ?kt_BadText_str ?kt_BadText_list ?kt_BadText_tuple ?kt_BadText_dict ?ki_BadPaper_0 ?ki_BadPaper_1 ?ki_BadPaper_2 ?ki_BadPaper_3 ?ki_BadPaper_4 ?ki_BadPaper_5 ?ki_BadPaper_6 ?ki_BadPaper_7 ?ki_BadPaper_8 ?ki_BadPaper_9 ?ki_BadPaper_10 ?ki_BadPaper_11 ?ki_BadPaper_12 ?ki_BadPaper_13 ?kt_BadPaper_NoneType ?kt_BadPaper_bool ?kt_BadPaper_int ?kt_BadPaper_str ?kt_BadPaper_list ?kt_BadPaper_tuple ?kt_BadPaper_dict ?ki_BadName_0 ?ki_BadName_1 ?ki_BadName_2 ?ki_BadName_3 ?ki_BadName_4 ?ki_BadName_5 ?ki_BadName_6 ?ki_BadName_7 ?ki_BadName_8 ?ki_BadName_9 ?ki_BadName_10 ?ki_BadName_11 ?ki_BadName_12 ?ki_BadName_13 ?kt_BadName_NoneType ?kt_BadName_bool ?kt_BadName_int ?kt_BadName_str ?kt_BadName_list ?kt_BadName_tuple ?kt_BadName_dict ?ki_BadLog_0 ?ki_BadLog_1 ?ki_BadLog_2 ?ki_BadLog_3 ?ki_BadLog_4 ?ki_BadLog_5 ?ki_BadLog_6 ?ki_BadLog_7 ?ki_BadLog_8 ?ki_BadLog_9 ?ki_BadLog_10 ?ki_BadLog_11 ?ki_BadLog_12 ?ki_BadLog_13 ?kt_BadLog_NoneType ?kt_BadLog_bool ?kt_BadLog_int ?kt_BadLog_str ?kt_BadLog_list ?kt_BadLog_tuple ?kt_BadLog_dict ?ki_RoundOn_0 ?ki_RoundOn_1 ?ki_RoundOn_2 ?ki_RoundOn_3 ?ki_RoundOn_4 ?ki_RoundOn_5 ?ki_RoundOn_6 ?ki_RoundOn_7 ?ki_RoundOn_8 ?ki_RoundOn_9 ?ki_RoundOn_10 ?ki_RoundOn_11 ?ki_RoundOn_12 ?ki_RoundOn_13 ?kt_RoundOn_NoneType ?kt_RoundOn_bool ?kt_RoundOn_int ?kt_RoundOn_str ?kt_RoundOn_list ?kt_RoundOn_tuple ?kt_RoundOn_dict ?ki_NoRound_0 ?ki_NoRound_1 ?ki_NoRound_2 ?ki_NoRound_3 ?ki_NoRound_4 ?ki_NoRound_5 ?ki_NoRound_6 ?ki_NoRound_7 ?ki_NoRound_8 ?ki_NoRound_9 ?ki_NoRound_10 ?ki_NoRound_11 ?ki_NoRound_12 ?ki_NoRound_13 ?kt_NoRound_NoneType ?kt_NoRound_bool ?kt_NoRound_int ?kt_NoRound_str ?kt_NoRound_list ?kt_NoRound_tuple ?kt_NoRound_dict ?ki_NoRoom_0 ?ki_NoRoom_1 ?ki_NoRoom_2 ?ki_NoRoom_3 ?ki_NoRoom_4 ?ki_NoRoom_5 ?ki_NoRoom_6 ?ki_NoRoom_7 ?ki_NoRoom_8 ?ki_NoRoom_9 ?ki_NoRoom_10 ?ki_NoRoom_11 ?ki_NoRoom_12 ?ki_NoRoom_13 ?kt_NoRoom_NoneType ?kt_NoRoom_bool ?kt_NoRoom_int ?kt_NoRoom_str ?kt_NoRoom_list ?kt_NoRoom_tuple ?kt_NoRoom_dict ?ki_BadView_0 ?ki_BadView_1 ?ki_BadView_2 ?ki_BadView_3 ?ki_BadView_4 ?ki_BadView_5 ?ki_BadView_6 ?ki_BadView_7 ?ki_BadView_8 ?ki_BadView_9 ?ki_BadView_10 ?ki_BadView_11 ?ki_BadView_12 ?ki_BadView_13 ?kt_BadView_NoneType ?kt_BadView_bool ?kt_BadView_int ?kt_BadView_str ?kt_BadView_list ?kt_BadView_tuple ?kt_BadView_dict ?ki_TooManyWords_0 ?ki_TooManyWords_1 ?ki_TooManyWords_2 ?ki_TooManyWords_3 ?ki_TooManyWords_4 ?ki_TooManyWords_5 ?ki_TooManyWords_6 ?ki_TooManyWords_7 ?ki_TooManyWords_8 ?ki_TooManyWords_9 ?ki_TooManyWords_10 ?ki_TooManyWords_11 ?ki_TooManyWords_12 ?ki_TooManyWords_13 ?kt_TooManyWords_NoneType ?kt_TooManyWords_bool ?kt_TooManyWords_int ?kt_TooManyWords_str ?kt_TooManyWords_list ?kt_TooManyWords_tuple ?kt_TooManyWords_dict ?ki_HeapError_0 ?ki_HeapError_1 ?ki_HeapError_2 ?ki_HeapError_3 ?ki_HeapError_4 ?ki_HeapError_5 ?ki_HeapError_6 ?ki_HeapError_7 ?ki_HeapError_8 ?ki_HeapError_9 ?ki_HeapError_10 ?ki_HeapError_11 ?ki_HeapError_12 ?ki_HeapError_13 ?kt_HeapError_NoneType ?kt_HeapError_bool ?kt_HeapError_int ?kt_HeapError_str ?kt_HeapError_list ?kt_HeapError_tuple ?kt_HeapError_dict ?ki_ValueError_0 ?ki_ValueError_1 ?ki_ValueError_2 ?ki_ValueError_3 ?ki_ValueError_4 ?ki_ValueError_5 ?ki_ValueError_6 ?ki_ValueError_7 ?ki_ValueError_8 ?ki_ValueError_9 ?ki_ValueError_10 ?ki_ValueError_11 ?ki_ValueError_12 ?ki_ValueError_13 ?kt_ValueError_NoneType ?kt_ValueError_bool ?kt_ValueError_int ?kt_ValueError_str ?kt_ValueError_list ?kt_ValueError_tuple ?kt_ValueError_dict ?xi_BadName ?xk_BadName ?xt_BadName ?xi_BadHand ?xk_BadHand ?xt_BadHand ?xi_BadField ?xk_BadField ?xt_BadField ?xi_BadCount ?xk_BadCount ?xt_BadCount ?xi_BadAddress ?xk_BadAddress ?xt_BadAddress ?xi_RoundOn ?xk_RoundOn ?xt_RoundOn ?xi_NoRound ?xk_NoRound ?xt_NoRound ?xi_NoRoom ?xk_NoRoom ?xt_NoRoom ?xi_BadView ?xk_BadView ?xt_BadView ?xi_BadPaper ?xk_BadPaper ?xt_BadPaper ?xi_TooManyWords ?xk_TooManyWords ?xt_TooManyWords ?xi_HeapError ?xk_HeapError ?xt_HeapError ?xc0_a ?xc0_i ?xc0_l ?xc0_c ?xc0_k ?xc1_a ?xc1_i ?xc1_l ?xc1_c ?xc1_k ?xc2_a ?xc2_i ?xc2_l ?xc2_c ?xc2_k ?xc3_a ?xc3_i ?xc3_l ?xc3_c ?xc3_k ?xc4_a ?xc4_i ?xc4_l ?xc4_c ?xc4_k ?xc5_a ?xc5_i ?xc5_l ?xc5_c ?xc5_k ?xc6_a ?xc6_i ?xc6_l ?xc6_c ?xc6_k ?xc7_a ?xc7_i ?xc7_l ?xc7_c ?xc7_k ?xc8_a ?xc8_i ?xc8_l ?xc8_c ?xc8_k ?xc9_a ?xc9_i ?xc9_l ?xc9_c ?xc9_k ?xc10_a ?xc10_i ?xc10_l ?xc10_c ?xc10_k ?xc11_a ?xc11_i ?xc11_l ?xc11_c ?xc11_k ?xc12_a ?xc12_i ?xc12_l ?xc12_c ?xc12_k ?xc13_a ?xc13_i ?xc13_l ?xc13_c ?xc13_k ?xo5 ?xs5 ?xtt5 ?xkk5 ?xrw5 ?gi5_a ?gi5_i ?gi5_l ?gi5_c ?gi5_k ?hi0_1 ?hi0_2 ?hi0_3 ?xo8 ?xs8 ?xtt8 ?xkk8 ?xrw8 ?gi8_a ?gi8_i ?gi8_l ?gi8_c ?gi8_k ?xrw0 ?xrw1 ?xrw2 ?xrw3 ?xrw4 ?xrw6 ?xrw7 ?xrw9 ?xrw10 ?xrw11 ?xrw12 ?xrw13 ?a0 ?l0 ?c0 ?k0 ?a1 ?l1 ?c1 ?k1 ?a2 ?l2 ?c2 ?k2 ?a3 ?l3 ?c3 ?k3 ?a4 ?l4 ?c4 ?k4
    (case ax0 => k_is)
    (case ax1 => k_is)
    (case ax2 => k_is)
    (case ax3 => k_is)
    (case ax4 => k_is)
    (case ax5 => k_is)
    (case ax6 => k_is)
    (case ax7 => k_is)
    (case ax8 => k_is)
    (case ax9 => k_is)
    (case ax10 => k_is)
    (case ax11 => k_is)
    (case ax12 => k_is)
    (case ax13 => k_is)
    (case zb_len => k_is)
    (case zb_isinstance => k_is)
    (case zb_range => k_is)
    (case zb_int => k_is)
    (case zb_bool => k_is)
    (case zb_ValueError => k_is)
    (case jc1 => k_is)
    (case jc2 => k_is)
    (case ex0_1 => k_is)
    (case ex0_2 => k_is)
    (case ex0_3 => k_is)
    (case ex0_4 => k_is)
    (case ex0_5 => k_is)
    (case ex0_6 => k_is)
    (case ex1_1 => k_is)
    (case ex1_2 => k_is)
    (case ex1_3 => k_is)
    (case ex1_4 => k_is)
    (case ex1_5 => k_is)
    (case ex1_6 => k_is)
    (case ex2_1 => k_is)
    (case ex2_2 => k_is)
    (case ex2_3 => k_is)
    (case ex2_4 => k_is)
    (case ex2_5 => k_is)
    (case ex2_6 => k_is)
    (case ex3_1 => k_is)
    (case ex3_2 => k_is)
    (case ex3_3 => k_is)
    (case ex3_4 => k_is)
    (case ex3_5 => k_is)
    (case ex3_6 => k_is)
    (case ex4_1 => k_is)
    (case ex4_2 => k_is)
    (case ex4_3 => k_is)
    (case ex4_4 => k_is)
    (case ex4_5 => k_is)
    (case ex4_6 => k_is)
    (case ex5_1 => k_is)
    (case ex5_2 => k_is)
    (case ex5_3 => k_is)
    (case ex5_4 => k_is)
    (case ex5_5 => k_is)
    (case ex5_6 => k_is)
    (case ex6_1 => k_is)
    (case ex6_2 => k_is)
    (case ex6_3 => k_is)
    (case ex6_4 => k_is)
    (case ex6_5 => k_is)
    (case ex6_6 => k_is)
    (case ex7_1 => k_is)
    (case ex7_2 => k_is)
    (case ex7_3 => k_is)
    (case ex7_4 => k_is)
    (case ex7_5 => k_is)
    (case ex7_6 => k_is)
    (case ex8_1 => k_is)
    (case ex8_2 => k_is)
    (case ex8_3 => k_is)
    (case ex8_4 => k_is)
    (case ex8_5 => k_is)
    (case ex8_6 => k_is)
    (case ex9_1 => k_is)
    (case ex9_2 => k_is)
    (case ex9_3 => k_is)
    (case ex9_4 => k_is)
    (case ex9_5 => k_is)
    (case ex9_6 => k_is)
    (case ex10_1 => k_is)
    (case ex10_2 => k_is)
    (case ex10_3 => k_is)
    (case ex10_4 => k_is)
    (case ex10_5 => k_is)
    (case ex10_6 => k_is)
    (case ex11_1 => k_is)
    (case ex11_2 => k_is)
    (case ex11_3 => k_is)
    (case ex11_4 => k_is)
    (case ex11_5 => k_is)
    (case ex11_6 => k_is)
    (case ex12_1 => k_is)
    (case ex12_2 => k_is)
    (case ex12_3 => k_is)
    (case ex12_4 => k_is)
    (case ex12_5 => k_is)
    (case ex12_6 => k_is)
    (case ex13_1 => k_is)
    (case ex13_2 => k_is)
    (case ex13_3 => k_is)
    (case ex13_4 => k_is)
    (case ex13_5 => k_is)
    (case ex13_6 => k_is)
    (case ki_int_0 => kernel_rfl)
    (case ki_int_1 => kernel_rfl)
    (case ki_int_2 => kernel_rfl)
    (case ki_int_3 => kernel_rfl)
    (case ki_int_4 => kernel_rfl)
    (case ki_int_5 => kernel_rfl)
    (case ki_int_6 => kernel_rfl)
    (case ki_int_7 => kernel_rfl)
    (case ki_int_8 => kernel_rfl)
    (case ki_int_9 => kernel_rfl)
    (case ki_int_10 => kernel_rfl)
    (case ki_int_11 => kernel_rfl)
    (case ki_int_12 => kernel_rfl)
    (case ki_int_13 => kernel_rfl)
    (case kt_int_NoneType => kernel_rfl)
    (case kt_int_bool => kernel_rfl)
    (case kt_int_int => kernel_rfl)
    (case kt_int_str => kernel_rfl)
    (case kt_int_list => kernel_rfl)
    (case kt_int_tuple => kernel_rfl)
    (case kt_int_dict => kernel_rfl)
    (case ki_bool_0 => kernel_rfl)
    (case ki_bool_1 => kernel_rfl)
    (case ki_bool_2 => kernel_rfl)
    (case ki_bool_3 => kernel_rfl)
    (case ki_bool_4 => kernel_rfl)
    (case ki_bool_5 => kernel_rfl)
    (case ki_bool_6 => kernel_rfl)
    (case ki_bool_7 => kernel_rfl)
    (case ki_bool_8 => kernel_rfl)
    (case ki_bool_9 => kernel_rfl)
    (case ki_bool_10 => kernel_rfl)
    (case ki_bool_11 => kernel_rfl)
    (case ki_bool_12 => kernel_rfl)
    (case ki_bool_13 => kernel_rfl)
    (case kt_bool_NoneType => kernel_rfl)
    (case kt_bool_bool => kernel_rfl)
    (case kt_bool_int => kernel_rfl)
    (case kt_bool_str => kernel_rfl)
    (case kt_bool_list => kernel_rfl)
    (case kt_bool_tuple => kernel_rfl)
    (case kt_bool_dict => kernel_rfl)
    (case ki_BadHand_0 => kernel_rfl)
    (case ki_BadHand_1 => kernel_rfl)
    (case ki_BadHand_2 => kernel_rfl)
    (case ki_BadHand_3 => kernel_rfl)
    (case ki_BadHand_4 => kernel_rfl)
    (case ki_BadHand_5 => kernel_rfl)
    (case ki_BadHand_6 => kernel_rfl)
    (case ki_BadHand_7 => kernel_rfl)
    (case ki_BadHand_8 => kernel_rfl)
    (case ki_BadHand_9 => kernel_rfl)
    (case ki_BadHand_10 => kernel_rfl)
    (case ki_BadHand_11 => kernel_rfl)
    (case ki_BadHand_12 => kernel_rfl)
    (case ki_BadHand_13 => kernel_rfl)
    (case kt_BadHand_NoneType => kernel_rfl)
    (case kt_BadHand_bool => kernel_rfl)
    (case kt_BadHand_int => kernel_rfl)
    (case kt_BadHand_str => kernel_rfl)
    (case kt_BadHand_list => kernel_rfl)
    (case kt_BadHand_tuple => kernel_rfl)
    (case kt_BadHand_dict => kernel_rfl)
    (case ki_BadField_0 => kernel_rfl)
    (case ki_BadField_1 => kernel_rfl)
    (case ki_BadField_2 => kernel_rfl)
    (case ki_BadField_3 => kernel_rfl)
    (case ki_BadField_4 => kernel_rfl)
    (case ki_BadField_5 => kernel_rfl)
    (case ki_BadField_6 => kernel_rfl)
    (case ki_BadField_7 => kernel_rfl)
    (case ki_BadField_8 => kernel_rfl)
    (case ki_BadField_9 => kernel_rfl)
    (case ki_BadField_10 => kernel_rfl)
    (case ki_BadField_11 => kernel_rfl)
    (case ki_BadField_12 => kernel_rfl)
    (case ki_BadField_13 => kernel_rfl)
    (case kt_BadField_NoneType => kernel_rfl)
    (case kt_BadField_bool => kernel_rfl)
    (case kt_BadField_int => kernel_rfl)
    (case kt_BadField_str => kernel_rfl)
    (case kt_BadField_list => kernel_rfl)
    (case kt_BadField_tuple => kernel_rfl)
    (case kt_BadField_dict => kernel_rfl)
    (case ki_BadCount_0 => kernel_rfl)
    (case ki_BadCount_1 => kernel_rfl)
    (case ki_BadCount_2 => kernel_rfl)
    (case ki_BadCount_3 => kernel_rfl)
    (case ki_BadCount_4 => kernel_rfl)
    (case ki_BadCount_5 => kernel_rfl)
    (case ki_BadCount_6 => kernel_rfl)
    (case ki_BadCount_7 => kernel_rfl)
    (case ki_BadCount_8 => kernel_rfl)
    (case ki_BadCount_9 => kernel_rfl)
    (case ki_BadCount_10 => kernel_rfl)
    (case ki_BadCount_11 => kernel_rfl)
    (case ki_BadCount_12 => kernel_rfl)
    (case ki_BadCount_13 => kernel_rfl)
    (case kt_BadCount_NoneType => kernel_rfl)
    (case kt_BadCount_bool => kernel_rfl)
    (case kt_BadCount_int => kernel_rfl)
    (case kt_BadCount_str => kernel_rfl)
    (case kt_BadCount_list => kernel_rfl)
    (case kt_BadCount_tuple => kernel_rfl)
    (case kt_BadCount_dict => kernel_rfl)
    (case ki_BadAddress_0 => kernel_rfl)
    (case ki_BadAddress_1 => kernel_rfl)
    (case ki_BadAddress_2 => kernel_rfl)
    (case ki_BadAddress_3 => kernel_rfl)
    (case ki_BadAddress_4 => kernel_rfl)
    (case ki_BadAddress_5 => kernel_rfl)
    (case ki_BadAddress_6 => kernel_rfl)
    (case ki_BadAddress_7 => kernel_rfl)
    (case ki_BadAddress_8 => kernel_rfl)
    (case ki_BadAddress_9 => kernel_rfl)
    (case ki_BadAddress_10 => kernel_rfl)
    (case ki_BadAddress_11 => kernel_rfl)
    (case ki_BadAddress_12 => kernel_rfl)
    (case ki_BadAddress_13 => kernel_rfl)
    (case kt_BadAddress_NoneType => kernel_rfl)
    (case kt_BadAddress_bool => kernel_rfl)
    (case kt_BadAddress_int => kernel_rfl)
    (case kt_BadAddress_str => kernel_rfl)
    (case kt_BadAddress_list => kernel_rfl)
    (case kt_BadAddress_tuple => kernel_rfl)
    (case kt_BadAddress_dict => kernel_rfl)
    (case ki_BadText_0 => kernel_rfl)
    (case ki_BadText_1 => kernel_rfl)
    (case ki_BadText_2 => kernel_rfl)
    (case ki_BadText_3 => kernel_rfl)
    (case ki_BadText_4 => kernel_rfl)
    (case ki_BadText_5 => kernel_rfl)
    (case ki_BadText_6 => kernel_rfl)
    (case ki_BadText_7 => kernel_rfl)
    (case ki_BadText_8 => kernel_rfl)
    (case ki_BadText_9 => kernel_rfl)
    (case ki_BadText_10 => kernel_rfl)
    (case ki_BadText_11 => kernel_rfl)
    (case ki_BadText_12 => kernel_rfl)
    (case ki_BadText_13 => kernel_rfl)
    (case kt_BadText_NoneType => kernel_rfl)
    (case kt_BadText_bool => kernel_rfl)
    (case kt_BadText_int => kernel_rfl)
    (case kt_BadText_str => kernel_rfl)
    (case kt_BadText_list => kernel_rfl)
    (case kt_BadText_tuple => kernel_rfl)
    (case kt_BadText_dict => kernel_rfl)
    (case ki_BadPaper_0 => kernel_rfl)
    (case ki_BadPaper_1 => kernel_rfl)
    (case ki_BadPaper_2 => kernel_rfl)
    (case ki_BadPaper_3 => kernel_rfl)
    (case ki_BadPaper_4 => kernel_rfl)
    (case ki_BadPaper_5 => kernel_rfl)
    (case ki_BadPaper_6 => kernel_rfl)
    (case ki_BadPaper_7 => kernel_rfl)
    (case ki_BadPaper_8 => kernel_rfl)
    (case ki_BadPaper_9 => kernel_rfl)
    (case ki_BadPaper_10 => kernel_rfl)
    (case ki_BadPaper_11 => kernel_rfl)
    (case ki_BadPaper_12 => kernel_rfl)
    (case ki_BadPaper_13 => kernel_rfl)
    (case kt_BadPaper_NoneType => kernel_rfl)
    (case kt_BadPaper_bool => kernel_rfl)
    (case kt_BadPaper_int => kernel_rfl)
    (case kt_BadPaper_str => kernel_rfl)
    (case kt_BadPaper_list => kernel_rfl)
    (case kt_BadPaper_tuple => kernel_rfl)
    (case kt_BadPaper_dict => kernel_rfl)
    (case ki_BadName_0 => kernel_rfl)
    (case ki_BadName_1 => kernel_rfl)
    (case ki_BadName_2 => kernel_rfl)
    (case ki_BadName_3 => kernel_rfl)
    (case ki_BadName_4 => kernel_rfl)
    (case ki_BadName_5 => kernel_rfl)
    (case ki_BadName_6 => kernel_rfl)
    (case ki_BadName_7 => kernel_rfl)
    (case ki_BadName_8 => kernel_rfl)
    (case ki_BadName_9 => kernel_rfl)
    (case ki_BadName_10 => kernel_rfl)
    (case ki_BadName_11 => kernel_rfl)
    (case ki_BadName_12 => kernel_rfl)
    (case ki_BadName_13 => kernel_rfl)
    (case kt_BadName_NoneType => kernel_rfl)
    (case kt_BadName_bool => kernel_rfl)
    (case kt_BadName_int => kernel_rfl)
    (case kt_BadName_str => kernel_rfl)
    (case kt_BadName_list => kernel_rfl)
    (case kt_BadName_tuple => kernel_rfl)
    (case kt_BadName_dict => kernel_rfl)
    (case ki_BadLog_0 => kernel_rfl)
    (case ki_BadLog_1 => kernel_rfl)
    (case ki_BadLog_2 => kernel_rfl)
    (case ki_BadLog_3 => kernel_rfl)
    (case ki_BadLog_4 => kernel_rfl)
    (case ki_BadLog_5 => kernel_rfl)
    (case ki_BadLog_6 => kernel_rfl)
    (case ki_BadLog_7 => kernel_rfl)
    (case ki_BadLog_8 => kernel_rfl)
    (case ki_BadLog_9 => kernel_rfl)
    (case ki_BadLog_10 => kernel_rfl)
    (case ki_BadLog_11 => kernel_rfl)
    (case ki_BadLog_12 => kernel_rfl)
    (case ki_BadLog_13 => kernel_rfl)
    (case kt_BadLog_NoneType => kernel_rfl)
    (case kt_BadLog_bool => kernel_rfl)
    (case kt_BadLog_int => kernel_rfl)
    (case kt_BadLog_str => kernel_rfl)
    (case kt_BadLog_list => kernel_rfl)
    (case kt_BadLog_tuple => kernel_rfl)
    (case kt_BadLog_dict => kernel_rfl)
    (case ki_RoundOn_0 => kernel_rfl)
    (case ki_RoundOn_1 => kernel_rfl)
    (case ki_RoundOn_2 => kernel_rfl)
    (case ki_RoundOn_3 => kernel_rfl)
    (case ki_RoundOn_4 => kernel_rfl)
    (case ki_RoundOn_5 => kernel_rfl)
    (case ki_RoundOn_6 => kernel_rfl)
    (case ki_RoundOn_7 => kernel_rfl)
    (case ki_RoundOn_8 => kernel_rfl)
    (case ki_RoundOn_9 => kernel_rfl)
    (case ki_RoundOn_10 => kernel_rfl)
    (case ki_RoundOn_11 => kernel_rfl)
    (case ki_RoundOn_12 => kernel_rfl)
    (case ki_RoundOn_13 => kernel_rfl)
    (case kt_RoundOn_NoneType => kernel_rfl)
    (case kt_RoundOn_bool => kernel_rfl)
    (case kt_RoundOn_int => kernel_rfl)
    (case kt_RoundOn_str => kernel_rfl)
    (case kt_RoundOn_list => kernel_rfl)
    (case kt_RoundOn_tuple => kernel_rfl)
    (case kt_RoundOn_dict => kernel_rfl)
    (case ki_NoRound_0 => kernel_rfl)
    (case ki_NoRound_1 => kernel_rfl)
    (case ki_NoRound_2 => kernel_rfl)
    (case ki_NoRound_3 => kernel_rfl)
    (case ki_NoRound_4 => kernel_rfl)
    (case ki_NoRound_5 => kernel_rfl)
    (case ki_NoRound_6 => kernel_rfl)
    (case ki_NoRound_7 => kernel_rfl)
    (case ki_NoRound_8 => kernel_rfl)
    (case ki_NoRound_9 => kernel_rfl)
    (case ki_NoRound_10 => kernel_rfl)
    (case ki_NoRound_11 => kernel_rfl)
    (case ki_NoRound_12 => kernel_rfl)
    (case ki_NoRound_13 => kernel_rfl)
    (case kt_NoRound_NoneType => kernel_rfl)
    (case kt_NoRound_bool => kernel_rfl)
    (case kt_NoRound_int => kernel_rfl)
    (case kt_NoRound_str => kernel_rfl)
    (case kt_NoRound_list => kernel_rfl)
    (case kt_NoRound_tuple => kernel_rfl)
    (case kt_NoRound_dict => kernel_rfl)
    (case ki_NoRoom_0 => kernel_rfl)
    (case ki_NoRoom_1 => kernel_rfl)
    (case ki_NoRoom_2 => kernel_rfl)
    (case ki_NoRoom_3 => kernel_rfl)
    (case ki_NoRoom_4 => kernel_rfl)
    (case ki_NoRoom_5 => kernel_rfl)
    (case ki_NoRoom_6 => kernel_rfl)
    (case ki_NoRoom_7 => kernel_rfl)
    (case ki_NoRoom_8 => kernel_rfl)
    (case ki_NoRoom_9 => kernel_rfl)
    (case ki_NoRoom_10 => kernel_rfl)
    (case ki_NoRoom_11 => kernel_rfl)
    (case ki_NoRoom_12 => kernel_rfl)
    (case ki_NoRoom_13 => kernel_rfl)
    (case kt_NoRoom_NoneType => kernel_rfl)
    (case kt_NoRoom_bool => kernel_rfl)
    (case kt_NoRoom_int => kernel_rfl)
    (case kt_NoRoom_str => kernel_rfl)
    (case kt_NoRoom_list => kernel_rfl)
    (case kt_NoRoom_tuple => kernel_rfl)
    (case kt_NoRoom_dict => kernel_rfl)
    (case ki_BadView_0 => kernel_rfl)
    (case ki_BadView_1 => kernel_rfl)
    (case ki_BadView_2 => kernel_rfl)
    (case ki_BadView_3 => kernel_rfl)
    (case ki_BadView_4 => kernel_rfl)
    (case ki_BadView_5 => kernel_rfl)
    (case ki_BadView_6 => kernel_rfl)
    (case ki_BadView_7 => kernel_rfl)
    (case ki_BadView_8 => kernel_rfl)
    (case ki_BadView_9 => kernel_rfl)
    (case ki_BadView_10 => kernel_rfl)
    (case ki_BadView_11 => kernel_rfl)
    (case ki_BadView_12 => kernel_rfl)
    (case ki_BadView_13 => kernel_rfl)
    (case kt_BadView_NoneType => kernel_rfl)
    (case kt_BadView_bool => kernel_rfl)
    (case kt_BadView_int => kernel_rfl)
    (case kt_BadView_str => kernel_rfl)
    (case kt_BadView_list => kernel_rfl)
    (case kt_BadView_tuple => kernel_rfl)
    (case kt_BadView_dict => kernel_rfl)
    (case ki_TooManyWords_0 => kernel_rfl)
    (case ki_TooManyWords_1 => kernel_rfl)
    (case ki_TooManyWords_2 => kernel_rfl)
    (case ki_TooManyWords_3 => kernel_rfl)
    (case ki_TooManyWords_4 => kernel_rfl)
    (case ki_TooManyWords_5 => kernel_rfl)
    (case ki_TooManyWords_6 => kernel_rfl)
    (case ki_TooManyWords_7 => kernel_rfl)
    (case ki_TooManyWords_8 => kernel_rfl)
    (case ki_TooManyWords_9 => kernel_rfl)
    (case ki_TooManyWords_10 => kernel_rfl)
    (case ki_TooManyWords_11 => kernel_rfl)
    (case ki_TooManyWords_12 => kernel_rfl)
    (case ki_TooManyWords_13 => kernel_rfl)
    (case kt_TooManyWords_NoneType => kernel_rfl)
    (case kt_TooManyWords_bool => kernel_rfl)
    (case kt_TooManyWords_int => kernel_rfl)
    (case kt_TooManyWords_str => kernel_rfl)
    (case kt_TooManyWords_list => kernel_rfl)
    (case kt_TooManyWords_tuple => kernel_rfl)
    (case kt_TooManyWords_dict => kernel_rfl)
    (case ki_HeapError_0 => kernel_rfl)
    (case ki_HeapError_1 => kernel_rfl)
    (case ki_HeapError_2 => kernel_rfl)
    (case ki_HeapError_3 => kernel_rfl)
    (case ki_HeapError_4 => kernel_rfl)
    (case ki_HeapError_5 => kernel_rfl)
    (case ki_HeapError_6 => kernel_rfl)
    (case ki_HeapError_7 => kernel_rfl)
    (case ki_HeapError_8 => kernel_rfl)
    (case ki_HeapError_9 => kernel_rfl)
    (case ki_HeapError_10 => kernel_rfl)
    (case ki_HeapError_11 => kernel_rfl)
    (case ki_HeapError_12 => kernel_rfl)
    (case ki_HeapError_13 => kernel_rfl)
    (case kt_HeapError_NoneType => kernel_rfl)
    (case kt_HeapError_bool => kernel_rfl)
    (case kt_HeapError_int => kernel_rfl)
    (case kt_HeapError_str => kernel_rfl)
    (case kt_HeapError_list => kernel_rfl)
    (case kt_HeapError_tuple => kernel_rfl)
    (case kt_HeapError_dict => kernel_rfl)
    (case ki_ValueError_0 => kernel_rfl)
    (case ki_ValueError_1 => kernel_rfl)
    (case ki_ValueError_2 => kernel_rfl)
    (case ki_ValueError_3 => kernel_rfl)
    (case ki_ValueError_4 => kernel_rfl)
    (case ki_ValueError_5 => kernel_rfl)
    (case ki_ValueError_6 => kernel_rfl)
    (case ki_ValueError_7 => kernel_rfl)
    (case ki_ValueError_8 => kernel_rfl)
    (case ki_ValueError_9 => kernel_rfl)
    (case ki_ValueError_10 => kernel_rfl)
    (case ki_ValueError_11 => kernel_rfl)
    (case ki_ValueError_12 => kernel_rfl)
    (case ki_ValueError_13 => kernel_rfl)
    (case kt_ValueError_NoneType => kernel_rfl)
    (case kt_ValueError_bool => kernel_rfl)
    (case kt_ValueError_int => kernel_rfl)
    (case kt_ValueError_str => kernel_rfl)
    (case kt_ValueError_list => kernel_rfl)
    (case kt_ValueError_tuple => kernel_rfl)
    (case kt_ValueError_dict => kernel_rfl)
    (case xi_BadName => kernel_rfl)
    (case xk_BadName => k_is)
    (case xt_BadName => k_is)
    (case xi_BadHand => kernel_rfl)
    (case xk_BadHand => k_is)
    (case xt_BadHand => k_is)
    (case xi_BadField => kernel_rfl)
    (case xk_BadField => k_is)
    (case xt_BadField => k_is)
    (case xi_BadCount => kernel_rfl)
    (case xk_BadCount => k_is)
    (case xt_BadCount => k_is)
    (case xi_BadAddress => kernel_rfl)
    (case xk_BadAddress => k_is)
    (case xt_BadAddress => k_is)
    (case xi_RoundOn => kernel_rfl)
    (case xk_RoundOn => k_is)
    (case xt_RoundOn => k_is)
    (case xi_NoRound => kernel_rfl)
    (case xk_NoRound => k_is)
    (case xt_NoRound => k_is)
    (case xi_NoRoom => kernel_rfl)
    (case xk_NoRoom => k_is)
    (case xt_NoRoom => k_is)
    (case xi_BadView => kernel_rfl)
    (case xk_BadView => k_is)
    (case xt_BadView => k_is)
    (case xi_BadPaper => kernel_rfl)
    (case xk_BadPaper => k_is)
    (case xt_BadPaper => k_is)
    (case xi_TooManyWords => kernel_rfl)
    (case xk_TooManyWords => k_is)
    (case xt_TooManyWords => k_is)
    (case xi_HeapError => kernel_rfl)
    (case xk_HeapError => k_is)
    (case xt_HeapError => k_is)
    (case xc0_a => k_is)
    (case xc0_i => k_is)
    (case xc0_l => k_is)
    (case xc0_c => k_is)
    (case xc0_k => k_is)
    (case xc1_a => k_is)
    (case xc1_i => k_is)
    (case xc1_l => k_is)
    (case xc1_c => k_is)
    (case xc1_k => k_is)
    (case xc2_a => k_is)
    (case xc2_i => k_is)
    (case xc2_l => k_is)
    (case xc2_c => k_is)
    (case xc2_k => k_is)
    (case xc3_a => k_is)
    (case xc3_i => k_is)
    (case xc3_l => k_is)
    (case xc3_c => k_is)
    (case xc3_k => k_is)
    (case xc4_a => k_is)
    (case xc4_i => k_is)
    (case xc4_l => k_is)
    (case xc4_c => k_is)
    (case xc4_k => k_is)
    (case xc5_a => k_is)
    (case xc5_i => k_is)
    (case xc5_l => k_is)
    (case xc5_c => k_is)
    (case xc5_k => k_is)
    (case xc6_a => k_is)
    (case xc6_i => k_is)
    (case xc6_l => k_is)
    (case xc6_c => k_is)
    (case xc6_k => k_is)
    (case xc7_a => k_is)
    (case xc7_i => k_is)
    (case xc7_l => k_is)
    (case xc7_c => k_is)
    (case xc7_k => k_is)
    (case xc8_a => k_is)
    (case xc8_i => k_is)
    (case xc8_l => k_is)
    (case xc8_c => k_is)
    (case xc8_k => k_is)
    (case xc9_a => k_is)
    (case xc9_i => k_is)
    (case xc9_l => k_is)
    (case xc9_c => k_is)
    (case xc9_k => k_is)
    (case xc10_a => k_is)
    (case xc10_i => k_is)
    (case xc10_l => k_is)
    (case xc10_c => k_is)
    (case xc10_k => k_is)
    (case xc11_a => k_is)
    (case xc11_i => k_is)
    (case xc11_l => k_is)
    (case xc11_c => k_is)
    (case xc11_k => k_is)
    (case xc12_a => k_is)
    (case xc12_i => k_is)
    (case xc12_l => k_is)
    (case xc12_c => k_is)
    (case xc12_k => k_is)
    (case xc13_a => k_is)
    (case xc13_i => k_is)
    (case xc13_l => k_is)
    (case xc13_c => k_is)
    (case xc13_k => k_is)
    (case xo5 => kernel_rfl)
    (case xs5 => k_is)
    (case xtt5 => k_is)
    (case xkk5 => k_is)
    (case xrw5 => k_is)
    (case gi5_a => k_is)
    (case gi5_i => k_is)
    (case gi5_l => k_is)
    (case gi5_c => k_is)
    (case gi5_k => k_is)
    (case hi0_1 => k_is)
    (case hi0_2 => k_is)
    (case hi0_3 => k_is)
    (case xo8 => kernel_rfl)
    (case xs8 => k_is)
    (case xtt8 => k_is)
    (case xkk8 => k_is)
    (case xrw8 => k_is)
    (case gi8_a => k_is)
    (case gi8_i => k_is)
    (case gi8_l => k_is)
    (case gi8_c => k_is)
    (case gi8_k => k_is)
    (case xrw0 => k_is)
    (case xrw1 => k_is)
    (case xrw2 => k_is)
    (case xrw3 => k_is)
    (case xrw4 => k_is)
    (case xrw6 => k_is)
    (case xrw7 => k_is)
    (case xrw9 => k_is)
    (case xrw10 => k_is)
    (case xrw11 => k_is)
    (case xrw12 => k_is)
    (case xrw13 => k_is)
    (case a0 => k_is)
    (case l0 => k_is)
    (case c0 => k_is)
    (case k0 => k_is)
    (case a1 => k_is)
    (case l1 => k_is)
    (case c1 => k_is)
    (case k1 => k_is)
    (case a2 => k_is)
    (case l2 => k_is)
    (case c2 => k_is)
    (case k2 => k_is)
    (case a3 => k_is)
    (case l3 => k_is)
    (case c3 => k_is)
    (case k3 => k_is)
    (case a4 => k_is)
    (case l4 => k_is)
    (case c4 => k_is)
    (case k4 => k_is)
end
theorem PySem.Challenge.cw_stillheap_k01_refusals_stand_alone_holds : PySem.Challenge.rw_stillheap_k01_refusals_stand_alone.Holds :=
  law_holds_here
