import PyProof.Rows.All
import Wide.All
import OpenK.AllK
import Wide.FinOn
import HandS.ForMost
import HandS.Walk
import HandS.Wide
import HandS.Zip
import HandS.TupAny
import HandS.TupLe
import HandS.Codes
import HandS.Defaults
import HandS.Style
import KE.GoesEnum
import HandS.IsInst
import HandS.Conv
import HandS.MakeKwOnly
import HandS.Deep
import HandS.SetFor
import HandS.Strs
import PySem.Challenge.RW_countwide_k59_whole_exact_and_least_cove
import KE.KStateDown
import Lean
import HandS.Base
import HandS.Call
import HandS.Ends
import HandS.More
import HandS.Words
import HandS.WordsExc
import HandS.Head0
import HandS.Head1
import HandS.Head2
import HandS.HeadEnd
import HandS.HeadHook1
import HandS.HeadHook2
set_option Elab.async false
set_option linter.all false
set_option maxRecDepth 100000
set_option maxHeartbeats 4000000
namespace Z
open PySem PySem.Spec PyProof.Rows L2

/-! ### values as trees; lists, dicts, instances by address -/
inductive Val where
  | non | bl (b : Bool) | int (i : Int) | str (x : Str) | tup (vs : List Val) | fl (vs : List Val) | ref (a : Addr) | raw (v : V)

/-- a list that nobody writes: locked, or of the written part -/
def FzL (K : PySem.W.Frag) (H : Hp) (a : Addr) (xs : List V) : Prop :=
  (∃ o, H a = some (.frz o (.lst xs))) ∨
    ∃ (o : Obj) (its : Array Value) (n : Nat), K.lookup a = some o ∧ o.cls = .type "list" ∧ o.dict = none ∧ o.data = .seq its n ∧ its.size ≤ sizeLine ∧ Vals xs its.toList
theorem FzL.sq {K : PySem.W.Frag} {H : Hp} {a : Addr} {xs : List V} (h : FzL K H a xs) : SqL K H a xs := h.elim (fun ⟨o, e⟩ => .inl (.inr ⟨o, e⟩)) .inr

inductive RV (K : PySem.W.Frag) (H : Hp) : Val → V → Prop
  | non : RV K H .non .non
  | bl (b : Bool) : RV K H (.bl b) (.bl b)
  | int (i : Int) : RV K H (.int i) (.int i)
  | str (x : Str) : RV K H (.str x) (.str x)
  | tup {vs : List Val} {xs : List V} {a : Addr} : SqT K H a xs → vs.length = xs.length → (∀ (i : Nat) v x, vs[i]? = some v → xs[i]? = some x → RV K H v x) → RV K H (.tup vs) (.ref a)
  | fl {vs : List Val} {xs : List V} {a : Addr} : FzL K H a xs → vs.length = xs.length → (∀ (i : Nat) v x, vs[i]? = some v → xs[i]? = some x → RV K H v x) → RV K H (.fl vs) (.ref a)
  | ref (a : Addr) : RV K H (.ref a) (.ref a)
  | raw (v : V) : RV K H (.raw v) v

abbrev RVs (K : PySem.W.Frag) (H : Hp) : List Val → List V → Prop := Paired (RV K H)

theorem Paired.ix {α β : Type} {F : α → β → Prop} : ∀ {l₁ : List α} {l₂ : List β}, Paired F l₁ l₂ → ∀ (i : Nat) a b, l₁[i]? = some a → l₂[i]? = some b → F a b
  | _, _, .nil, _, _, _, h, _ => by simp at h
  | _, _, .cons r t, 0, _, _, h1, h2 => by simp at h1 h2; subst h1 h2; exact r
  | _, _, .cons r t, i + 1, _, _, h1, h2 => Paired.ix t i _ _ (by simpa using h1) (by simpa using h2)
theorem Paired.of_ix {α β : Type} {F : α → β → Prop} : ∀ {l₁ : List α} {l₂ : List β}, l₁.length = l₂.length → (∀ (i : Nat) a b, l₁[i]? = some a → l₂[i]? = some b → F a b) → Paired F l₁ l₂
  | [], [], _, _ => .nil
  | [], _ :: _, h, _ => by simp at h
  | _ :: _, [], h, _ => by simp at h
  | a :: l, b :: r, h, f => .cons (f 0 a b rfl rfl) (Paired.of_ix (by simpa using h) fun i x y h1 h2 => f (i + 1) x y (by simpa using h1) (by simpa using h2))
theorem Paired.get1 {α β : Type} {F : α → β → Prop} : ∀ {l₁ : List α} {l₂ : List β}, Paired F l₁ l₂ → ∀ {i : Nat} {a}, l₁[i]? = some a → ∃ b, l₂[i]? = some b ∧ F a b
  | _, _, .nil, _, _, h => by simp at h
  | _, _, .cons r t, 0, _, h => by simp at h; subst h; exact ⟨_, rfl, r⟩
  | _, _, .cons r t, i + 1, _, h => by
    obtain ⟨b, h1, h2⟩ := Paired.get1 t (i := i) (by simpa using h)
    exact ⟨b, by simpa using h1, h2⟩
theorem Paired.app {α β : Type} {F : α → β → Prop} : ∀ {l₁ k₁ : List α} {l₂ k₂ : List β}, Paired F l₁ l₂ → Paired F k₁ k₂ → Paired F (l₁ ++ k₁) (l₂ ++ k₂)
  | _, _, _, _, .nil, s => s
  | _, _, _, _, .cons r t, s => .cons r (Paired.app t s)
theorem Paired.tk {α β : Type} {F : α → β → Prop} : ∀ {l₁ : List α} {l₂ : List β} (n : Nat), Paired F l₁ l₂ → Paired F (l₁.take n) (l₂.take n)
  | _, _, 0, _ => .nil
  | _, _, _ + 1, .nil => .nil
  | _, _, n + 1, .cons r t => .cons r (Paired.tk n t)
theorem Paired.dr {α β : Type} {F : α → β → Prop} : ∀ {l₁ : List α} {l₂ : List β} (n : Nat), Paired F l₁ l₂ → Paired F (l₁.drop n) (l₂.drop n)
  | _, _, 0, r => r
  | _, _, _ + 1, .nil => .nil
  | _, _, n + 1, .cons _ t => Paired.dr n t
theorem Paired.st {α β : Type} {F : α → β → Prop} {a : α} {b : β} (r : F a b) : ∀ {l₁ : List α} {l₂ : List β} (i : Nat), Paired F l₁ l₂ → Paired F (l₁.set i a) (l₂.set i b)
  | _, _, _, .nil => .nil
  | _, _, 0, .cons _ t => .cons r t
  | _, _, i + 1, .cons q t => .cons q (Paired.st r i t)
theorem Paired.rv {α β : Type} {F : α → β → Prop} : ∀ {l₁ : List α} {l₂ : List β}, Paired F l₁ l₂ → Paired F l₁.reverse l₂.reverse
  | _, _, .nil => .nil
  | _, _, .cons r t => by rw [List.reverse_cons, List.reverse_cons]; exact Paired.app (Paired.rv t) (.cons r .nil)
theorem Paired.er {α β : Type} {F : α → β → Prop} : ∀ {l₁ : List α} {l₂ : List β} (i : Nat), Paired F l₁ l₂ → Paired F (l₁.eraseIdx i) (l₂.eraseIdx i)
  | _, _, _, .nil => .nil
  | _, _, 0, .cons _ t => t
  | _, _, i + 1, .cons q t => .cons q (Paired.er i t)
theorem Paired.dl {α β : Type} {F : α → β → Prop} {l₁ : List α} {l₂ : List β} (h : Paired F l₁ l₂) : Paired F l₁.dropLast l₂.dropLast := by
  rw [List.dropLast_eq_take, List.dropLast_eq_take, h.length]
  exact Paired.tk _ h

/-! ### what stays -/
structure Pres (H H' : Hp) : Prop where
  tups : ∀ b xs, H b = some (.tup xs) → H' b = some (.tup xs)
  frzs : ∀ b o u, H b = some (.frz o u) → H' b = some (.frz o u)
theorem Pres.refl (H : Hp) : Pres H H := ⟨fun _ _ h => h, fun _ _ _ h => h⟩
theorem Pres.trans {H H1 H2 : Hp} (a : Pres H H1) (b : Pres H1 H2) : Pres H H2 := ⟨fun c xs h => b.tups c xs (a.tups c xs h), fun c o u h => b.frzs c o u (a.frzs c o u h)⟩
theorem Pres.new {H : Hp} {p : Addr} {o : HO} (h : H p = none) : Pres H (upd H p o) :=
  ⟨fun b xs e => by rw [upd_ne (ne_of_none e h)]; exact e, fun b o u e => by rw [upd_ne (ne_of_none e h)]; exact e⟩
theorem Pres.mut {H : Hp} {p : Addr} {o u : HO} (h : H p = some o) (n1 : ∀ xs, o ≠ .tup xs) (n2 : ∀ ob v, o ≠ .frz ob v) : Pres H (upd H p u) :=
  ⟨fun b xs e => by rw [upd_ne (ne_of e h (fun z => n1 xs z.symm))]; exact e, fun b ob v e => by rw [upd_ne (ne_of e h (fun z => n2 ob v z.symm))]; exact e⟩
theorem Pres.sqT {K : PySem.W.Frag} {H H' : Hp} {a : Addr} {xs : List V} (p : Pres H H') (h : SqT K H a xs) : SqT K H' a xs := by
  rcases h with (h | ⟨o, h⟩) | h
  · exact .inl (.inl (p.tups _ _ h))
  · exact .inl (.inr ⟨o, p.frzs _ _ _ h⟩)
  · exact .inr h
theorem Pres.fzL {K : PySem.W.Frag} {H H' : Hp} {a : Addr} {xs : List V} (p : Pres H H') (h : FzL K H a xs) : FzL K H' a xs := by
  rcases h with ⟨o, h⟩ | h
  · exact .inl ⟨o, p.frzs _ _ _ h⟩
  · exact .inr h
theorem RV.mono {K : PySem.W.Frag} {H H' : Hp} {v : Val} {x : V} (h : RV K H v x) (p : Pres H H') : RV K H' v x := by
  induction h with
  | non => exact .non
  | bl b => exact .bl b
  | int i => exact .int i
  | str s => exact .str s
  | tup hs hl _ ih => exact .tup (p.sqT hs) hl ih
  | fl hs hl _ ih => exact .fl (p.fzL hs) hl ih
  | ref a => exact .ref a
  | raw v => exact .raw v
theorem RVs.mono {K : PySem.W.Frag} {H H' : Hp} {vs : List Val} {xs : List V} (h : RVs K H vs xs) (p : Pres H H') : RVs K H' vs xs := L2.Paired.mapP h fun _ _ r => r.mono p
theorem RV.tupI {K : PySem.W.Frag} {H : Hp} {vs : List Val} {xs : List V} {a : Addr} (hs : SqT K H a xs) (h : RVs K H vs xs) : RV K H (.tup vs) (.ref a) := .tup hs h.length (Paired.ix h)
theorem RV.tupE {K : PySem.W.Frag} {H : Hp} {vs : List Val} {x : V} (h : RV K H (.tup vs) x) : ∃ a xs, x = .ref a ∧ SqT K H a xs ∧ RVs K H vs xs := by
  cases h with
  | tup hs hl hi => exact ⟨_, _, rfl, hs, Paired.of_ix hl hi⟩
theorem RV.flE {K : PySem.W.Frag} {H : Hp} {vs : List Val} {x : V} (h : RV K H (.fl vs) x) : ∃ a xs, x = .ref a ∧ FzL K H a xs ∧ RVs K H vs xs := by
  cases h with
  | fl hs hl hi => exact ⟨_, _, rfl, hs, Paired.of_ix hl hi⟩

/-! ### the store: what is known of lists, dicts, instances -/
inductive Mo where
  | lst (vs : List Val)
  | dK (kvs : List (Key × Val))
  | dT (kvs : List (List Key × Val))
  | ins (C : Addr) (fs : List (Str × Val))
abbrev Sto := Addr → Option Mo
def Sto.upd (S : Sto) (a : Addr) (o : Mo) : Sto := fun b => if b = a then some o else S b
theorem Sto.upd_same {S : Sto} {a : Addr} {o : Mo} : S.upd a o a = some o := by unfold Sto.upd; rw [if_pos rfl]
theorem Sto.upd_ne {S : Sto} {a b : Addr} {o : Mo} (h : b ≠ a) : S.upd a o b = S b := by unfold Sto.upd; rw [if_neg h]
theorem Sto.upd_upd {S : Sto} {a : Addr} {o u : Mo} : (S.upd a o).upd a u = S.upd a u := by
  funext b; unfold Sto.upd; split <;> rfl

def RO (K : PySem.W.Frag) (H : Hp) (a : Addr) : Mo → Prop
  | .lst vs => ∃ xs, H a = some (.lst xs) ∧ RVs K H vs xs
  | .dK kvs => ∃ ks, H a = some (.dK ks) ∧ Paired (fun (p : Key × Val) (q : Key × V) => p.1 = q.1 ∧ RV K H p.2 q.2) kvs ks
  | .dT kvs => ∃ ks, H a = some (.dT ks) ∧ Paired (fun (p : List Key × Val) (q : List Key × V) => p.1 = q.1 ∧ RV K H p.2 q.2) kvs ks
  | .ins C fs => ∃ dx gs, H a = some (.ins C dx gs) ∧ Paired (fun (p : Str × Val) (q : Str × V) => p.1 = q.1 ∧ RV K H p.2 q.2) fs gs
def Rep (K : PySem.W.Frag) (S : Sto) (H : Hp) : Prop := ∀ a o, S a = some o → RO K H a o
theorem RO.mono {K : PySem.W.Frag} {H H' : Hp} {a : Addr} {o : Mo} (h : RO K H a o) (p : Pres H H') (e : H' a = H a) : RO K H' a o := by
  cases o with
  | lst vs => obtain ⟨xs, h1, h2⟩ := h; exact ⟨xs, e.trans h1, RVs.mono h2 p⟩
  | dK kvs => obtain ⟨xs, h1, h2⟩ := h; exact ⟨xs, e.trans h1, L2.Paired.mapP h2 fun _ _ r => ⟨r.1, r.2.mono p⟩⟩
  | dT kvs => obtain ⟨xs, h1, h2⟩ := h; exact ⟨xs, e.trans h1, L2.Paired.mapP h2 fun _ _ r => ⟨r.1, r.2.mono p⟩⟩
  | ins C fs => obtain ⟨dx, xs, h1, h2⟩ := h; exact ⟨dx, xs, e.trans h1, L2.Paired.mapP h2 fun _ _ r => ⟨r.1, r.2.mono p⟩⟩
theorem RO.there {K : PySem.W.Frag} {H : Hp} {a : Addr} {o : Mo} (h : RO K H a o) : ∃ u, H a = some u ∧ (∀ xs, u ≠ .tup xs) ∧ ∀ ob v, u ≠ .frz ob v := by
  cases o with
  | lst vs => obtain ⟨xs, h1, h2⟩ := h; exact ⟨_, h1, (fun _ z => nomatch z), (fun _ _ z => nomatch z)⟩
  | dK kvs => obtain ⟨xs, h1, h2⟩ := h; exact ⟨_, h1, (fun _ z => nomatch z), (fun _ _ z => nomatch z)⟩
  | dT kvs => obtain ⟨xs, h1, h2⟩ := h; exact ⟨_, h1, (fun _ z => nomatch z), (fun _ _ z => nomatch z)⟩
  | ins C fs => obtain ⟨dx, xs, h1, h2⟩ := h; exact ⟨_, h1, (fun _ z => nomatch z), (fun _ _ z => nomatch z)⟩
theorem Rep.non {K : PySem.W.Frag} {S : Sto} {H : Hp} (r : Rep K S H) {p : Addr} (h : H p = none) : S p = none := by
  cases e : S p with
  | none => rfl
  | some o => obtain ⟨u, h1, _⟩ := (r p o e).there; rw [h] at h1; cases h1
/-- a new object that the store does not speak of -/
theorem Rep.newH {K : PySem.W.Frag} {S : Sto} {H : Hp} (r : Rep K S H) {p : Addr} {o : HO} (h : H p = none) : Rep K S (L2.upd H p o) := fun a m e =>
  (r a m e).mono (Pres.new h) (L2.upd_ne (fun z => by subst z; rw [r.non h] at e; cases e))
/-- a new object, spoken of -/
theorem Rep.new {K : PySem.W.Frag} {S : Sto} {H : Hp} (r : Rep K S H) {p : Addr} {o : HO} {m : Mo} (h : H p = none) (hm : RO K (L2.upd H p o) p m) : Rep K (S.upd p m) (L2.upd H p o) := fun a m' e => by
  by_cases hp : a = p
  · subst hp; rw [Sto.upd_same] at e; cases e; exact hm
  · rw [Sto.upd_ne hp] at e; exact r.newH h a m' e
/-- an object is changed -/
theorem Rep.mut {K : PySem.W.Frag} {S : Sto} {H : Hp} (r : Rep K S H) {p : Addr} {o : HO} {m m0 : Mo} (h : S p = some m0) (hm : Pres H (L2.upd H p o) → RO K (L2.upd H p o) p m) : Rep K (S.upd p m) (L2.upd H p o) := fun a m' e => by
  obtain ⟨u, h1, n1, n2⟩ := (r p m0 h).there
  have pr : Pres H (L2.upd H p o) := Pres.mut h1 n1 n2
  by_cases hp : a = p
  · subst hp; rw [Sto.upd_same] at e; cases e; exact hm pr
  · rw [Sto.upd_ne hp] at e; exact (r a m' e).mono pr (L2.upd_ne hp)
theorem Rep.pres {K : PySem.W.Frag} {S : Sto} {H : Hp} (r : Rep K S H) {p : Addr} {o : HO} {m0 : Mo} (h : S p = some m0) : Pres H (L2.upd H p o) := by
  obtain ⟨u, h1, n1, n2⟩ := (r p m0 h).there
  exact Pres.mut h1 n1 n2
/-- less is known -/
def Sub (S S' : Sto) : Prop := ∀ a o, S a = some o → S' a = some o
theorem Sub.refl (S : Sto) : Sub S S := fun _ _ h => h
theorem Sub.trans {S S1 S2 : Sto} (a : Sub S S1) (b : Sub S1 S2) : Sub S S2 := fun c o h => b c o (a c o h)
theorem Sub.new {S : Sto} {p : Addr} {o : Mo} (h : S p = none) : Sub S (S.upd p o) := fun a m e => by
  rw [Sto.upd_ne (fun z => by subst z; rw [h] at e; cases e)]; exact e
theorem Rep.sub {K : PySem.W.Frag} {S S' : Sto} {H : Hp} (r : Rep K S' H) (h : Sub S S') : Rep K S H := fun a o e => r a o (h a o e)

abbrev Env := List (Option Val)
structure REnv (K : PySem.W.Frag) (H : Hp) (ζ : Env) (σ : L2.St) : Prop where
  len : ζ.length = σ.length
  at_ : ∀ (i : Nat) v, ζ[i]? = some (some v) → ∃ x, σ[i]? = some (some x) ∧ RV K H v x
theorem REnv.mono {K : PySem.W.Frag} {H H' : Hp} {ζ : Env} {σ : L2.St} (h : REnv K H ζ σ) (p : Pres H H') : REnv K H' ζ σ :=
  ⟨h.len, fun i v e => let ⟨x, e1, r⟩ := h.at_ i v e; ⟨x, e1, r.mono p⟩⟩
theorem REnv.set {K : PySem.W.Frag} {H : Hp} {ζ : Env} {σ : L2.St} (h : REnv K H ζ σ) {i : Nat} {v : Val} {x : V} (r : RV K H v x) : REnv K H (ζ.set i (some v)) (σ.set i (some x)) := by
  refine ⟨by rw [List.length_set, List.length_set]; exact h.len, fun j u e => ?_⟩
  by_cases hj : i = j
  · subst hj
    by_cases hl : i < ζ.length
    · rw [List.getElem?_set_self hl] at e; cases e
      exact ⟨x, List.getElem?_set_self (by rw [← h.len]; exact hl), r⟩
    · rw [List.getElem?_eq_none (by simpa using hl)] at e; cases e
  · rw [List.getElem?_set_ne hj] at e ⊢
    exact h.at_ j u e

/-! ### readings over values and stores -/
abbrev ZQ := Val → Sto → Prop
abbrev ZE := Env → Sto → ZQ → Prop
abbrev ZT := Env → Sto → (Bool → Sto → Prop) → Prop
abbrev ZA := Env → Sto → (List Val → Sto → Prop) → Prop
def LE (K : PySem.W.Frag) (w : ZE) : TE := fun σ H Q => ∃ ζ S q, REnv K H ζ σ ∧ Rep K S H ∧ w ζ S q ∧ ∀ v S' x H', Pres H H' → RV K H' v x → Rep K S' H' → q v S' → Q x H'
def LT (K : PySem.W.Frag) (w : ZT) : TT := fun σ H Q => ∃ ζ S q, REnv K H ζ σ ∧ Rep K S H ∧ w ζ S q ∧ ∀ b S' H', Pres H H' → Rep K S' H' → q b S' → Q b H'
def LA (K : PySem.W.Frag) (w : ZA) : TA := fun σ H Q => ∃ ζ S q, REnv K H ζ σ ∧ Rep K S H ∧ w ζ S q ∧ ∀ vs S' xs H', Pres H H' → RVs K H' vs xs → Rep K S' H' → q vs S' → Q xs H'
abbrev PZ (X : Cx) (e : Expr) (w : ZE) : Prop := PE X e (LE X.K w)
abbrev PZT (X : Cx) (e : Expr) (w : ZT) : Prop := PT X e (LT X.K w)
abbrev PZA (X : Cx) (es : List Expr) (w : ZA) : Prop := PA X es (LA X.K w)
end Z
namespace L2
open PySem PySem.Spec PyProof.Rows
theorem PE.zimp {X : Cx} {e : Expr} {t t' : TE} (h : PE X e t) (i : ∀ σ H Q, t' σ H Q → t σ H Q) : PE X e t' := ⟨fun pins s σ H Q I q => h.run pins s σ H Q I (i _ _ _ q)⟩
theorem PT.zimp {X : Cx} {e : Expr} {t t' : TT} (h : PT X e t) (i : ∀ σ H Q, t' σ H Q → t σ H Q) : PT X e t' := ⟨fun pins s σ H Q I q => h.run pins s σ H Q I (i _ _ _ q)⟩
theorem PA.zimp {X : Cx} {e : List Expr} {t t' : TA} (h : PA X e t) (i : ∀ σ H Q, t' σ H Q → t σ H Q) : PA X e t' := ⟨fun pos pins s σ H Q I q => h.run pos pins s σ H Q I (i _ _ _ q)⟩
theorem PS.zimp {X : Cx} {e : Stmt} {t t' : TS} (h : PS X e t) (i : ∀ D σ H, t' D σ H → t D σ H) : PS X e t' := ⟨fun pins s σ H Q I q => h.run pins s σ H Q I (i _ _ _ q)⟩
theorem PSs.zimp {X : Cx} {e : List Stmt} {t t' : TS} (h : PSs X e t) (i : ∀ D σ H, t' D σ H → t D σ H) : PSs X e t' := ⟨fun pins s σ H Q I q => h.run pins s σ H Q I (i _ _ _ q)⟩

end L2
namespace Z
open PySem PySem.Spec PyProof.Rows L2
section
variable {X : Cx} {pos : Pos}
/-! names, constants -/
def zVar (i : Nat) : ZE := fun ζ S q => match ζ[i]? with | some (some v) => q v S | _ => False
theorem z_var (i : Nat) {x : Str} (h : PE X (.Name x pos) (tVar i)) : PZ X (.Name x pos) (zVar i) := h.zimp fun σ H Q ⟨ζ, S, q, hζ, hS, hw, hq⟩ => by
  unfold zVar at hw
  split at hw
  · rename_i v e
    obtain ⟨x, e1, r⟩ := hζ.at_ i v e
    exact ⟨x, e1, hq v S x H (.refl H) r hS hw⟩
  · exact hw.elim
def zC (v : Val) : ZE := fun _ S q => q v S
theorem z_int {i j} : PZ X (.Constant (.int i) j pos) (zC (.int i)) := pe_int.zimp fun σ H Q ⟨ζ, S, q, hζ, hS, hw, hq⟩ => hq _ S _ H (.refl H) (.int i) hS hw
theorem z_bl {i j} : PZ X (.Constant (.bool i) j pos) (zC (.bl i)) := pe_bl.zimp fun σ H Q ⟨ζ, S, q, hζ, hS, hw, hq⟩ => hq _ S _ H (.refl H) (.bl i) hS hw
theorem z_non {j} : PZ X (.Constant .none j pos) (zC .non) := pe_non.zimp fun σ H Q ⟨ζ, S, q, hζ, hS, hw, hq⟩ => hq _ S _ H (.refl H) .non hS hw
theorem z_str {i j} : PZ X (.Constant (.str i) j pos) (zC (.str i)) := pe_str.zimp fun σ H Q ⟨ζ, S, q, hζ, hS, hw, hq⟩ => hq _ S _ H (.refl H) (.str i) hS hw
/-- a global of the written part -/
theorem z_glob {x : Str} {v : Val} {y : V} (h : PE X (.Name x pos) (tC y)) (r : ∀ H, RV X.K H v y) : PZ X (.Name x pos) (zC v) := h.zimp fun σ H Q ⟨ζ, S, q, hζ, hS, hw, hq⟩ => hq _ S _ H (.refl H) (r H) hS hw

/-! two values -/
abbrev ZR2 := Val → Val → Sto → ZQ → Prop
def ZOK (K : PySem.W.Frag) (r : R2) (z : ZR2) : Prop := ∀ v u S q x y H Q, RV K H v x → RV K H u y → Rep K S H → z v u S q → (∀ v S' x H', Pres H H' → RV K H' v x → Rep K S' H' → q v S' → Q x H') → r x y H Q
def zOp (z : ZR2) (wa wb : ZE) : ZE := fun ζ S q => wa ζ S fun v S1 => wb ζ S1 fun u S2 => z v u S2 q
theorem zop_ok {r : R2} {z : ZR2} (hz : ZOK X.K r z) {wa wb : ZE} : ∀ σ H Q, LE X.K (zOp z wa wb) σ H Q → tOp r (LE X.K wa) (LE X.K wb) σ H Q := fun σ H Q ⟨ζ, S, q, hζ, hS, hw, hq⟩ =>
  ⟨ζ, S, _, hζ, hS, hw, fun v S1 x H1 p1 r1 hS1 h1 => ⟨ζ, S1, _, hζ.mono p1, hS1, h1, fun u S2 y H2 p2 r2 hS2 h2 =>
    hz v u S2 q x y H2 Q (r1.mono p2) r2 hS2 h2 fun v' S' x' H' p3 => hq v' S' x' H' ((p1.trans p2).trans p3)⟩⟩
variable {a b : Expr} {wa wb : ZE}
theorem z_op {op : Operator} {r : R2} {z : ZR2} (ho : OpR X (binaryOp op) r) (hz : ZOK X.K r z) (ha : PZ X a wa) (hb : PZ X b wb) : PZ X (.BinOp a op b pos) (zOp z wa wb) := (pe_op ho ha hb).zimp (zop_ok hz)
theorem z_cmp {op : CmpOp} {r : R2} {z : ZR2} (ho : OpR X (compareOp op) r) (hm : behindInMarks op b = false) (hz : ZOK X.K r z) (ha : PZ X a wa) (hb : PZ X b wb) : PZ X (.Compare a [op] [b] pos) (zOp z wa wb) := (pe_cmpR ho ha hb hm).zimp (zop_ok hz)
end
end Z

namespace Z
open PySem PySem.Spec PyProof.Rows L2

/-! ### python's == on values without addresses -/
mutual
def Val.toD : Val → PyData
  | .non => .none
  | .bl b => .bool b
  | .int i => .int i
  | .str x => .str x
  | .tup vs => .tuple (Val.toDs vs)
  | .fl vs => .list (Val.toDs vs)
  | .ref _ => .none
  | .raw _ => .none
def Val.toDs : List Val → List PyData
  | [] => []
  | v :: vs => v.toD :: Val.toDs vs
end
mutual
/-- no addresses, texts as they are laid -/
def Val.pure : Val → Bool
  | .non => true
  | .bl _ => true
  | .int _ => true
  | .str x => PyData.strOk x
  | .tup vs => Val.pures vs
  | .fl vs => Val.pures vs
  | .ref _ => false
  | .raw _ => false
def Val.pures : List Val → Bool
  | [] => true
  | v :: vs => v.pure && Val.pures vs
end
mutual
def Val.dep : Val → Nat
  | .tup vs => Val.deps vs + 1
  | .fl vs => Val.deps vs + 1
  | _ => 0
def Val.deps : List Val → Nat
  | [] => 0
  | v :: vs => max v.dep (Val.deps vs)
end
mutual
/-- == -/
def Val.eqb : Val → Val → Bool
  | .non, .non => true
  | .bl a, .bl b => a == b
  | .bl a, .int j => (if a then 1 else 0) == j
  | .int i, .bl b => i == (if b then 1 else 0)
  | .int i, .int j => i == j
  | .str x, .str y => x == y
  | .tup xs, .tup ys => Val.eqbs xs ys
  | .fl xs, .fl ys => Val.eqbs xs ys
  | _, _ => false
def Val.eqbs : List Val → List Val → Bool
  | [], [] => true
  | x :: xs, y :: ys => x.eqb y && Val.eqbs xs ys
  | _, _ => false
end
mutual
theorem Val.eqb_toD : ∀ v u : Val, v.pure = true → u.pure = true → PyData.eqv v.toD u.toD = v.eqb u
  | .non, u, _, hu => by cases u <;> simp_all [Val.toD, Val.pure, PyData.eqv, Val.eqb]
  | .bl b, u, _, hu => by cases u <;> simp_all [Val.toD, Val.pure, PyData.eqv, Val.eqb]
  | .int i, u, _, hu => by cases u <;> simp_all [Val.toD, Val.pure, PyData.eqv, Val.eqb]
  | .str x, u, _, hu => by cases u <;> simp_all [Val.toD, Val.pure, PyData.eqv, Val.eqb]
  | .tup xs, .tup ys, h, hu => by
    simp only [Val.pure] at h hu
    simp only [Val.toD, PyData.eqv, Val.eqb]
    exact Val.eqbs_toD xs ys h hu
  | .fl xs, .fl ys, h, hu => by
    simp only [Val.pure] at h hu
    simp only [Val.toD, PyData.eqv, Val.eqb]
    exact Val.eqbs_toD xs ys h hu
  | .tup xs, .non, _, _ => by simp [Val.toD, PyData.eqv, Val.eqb]
  | .tup xs, .bl _, _, _ => by simp [Val.toD, PyData.eqv, Val.eqb]
  | .tup xs, .int _, _, _ => by simp [Val.toD, PyData.eqv, Val.eqb]
  | .tup xs, .str _, _, _ => by simp [Val.toD, PyData.eqv, Val.eqb]
  | .tup xs, .fl _, _, _ => by simp [Val.toD, PyData.eqv, Val.eqb]
  | .tup xs, .ref _, _, h => by simp [Val.pure] at h
  | .tup xs, .raw _, _, h => by simp [Val.pure] at h
  | .fl xs, .non, _, _ => by simp [Val.toD, PyData.eqv, Val.eqb]
  | .fl xs, .bl _, _, _ => by simp [Val.toD, PyData.eqv, Val.eqb]
  | .fl xs, .int _, _, _ => by simp [Val.toD, PyData.eqv, Val.eqb]
  | .fl xs, .str _, _, _ => by simp [Val.toD, PyData.eqv, Val.eqb]
  | .fl xs, .tup _, _, _ => by simp [Val.toD, PyData.eqv, Val.eqb]
  | .fl xs, .ref _, _, h => by simp [Val.pure] at h
  | .fl xs, .raw _, _, h => by simp [Val.pure] at h
  | .ref _, _, h, _ => by simp [Val.pure] at h
  | .raw _, _, h, _ => by simp [Val.pure] at h
theorem Val.eqbs_toD : ∀ vs us : List Val, Val.pures vs = true → Val.pures us = true → PyData.eqvAll (Val.toDs vs) (Val.toDs us) = Val.eqbs vs us
  | [], [], _, _ => by simp [Val.toDs, PyData.eqvAll, Val.eqbs]
  | [], _ :: _, _, _ => by simp [Val.toDs, PyData.eqvAll, Val.eqbs]
  | _ :: _, [], _, _ => by simp [Val.toDs, PyData.eqvAll, Val.eqbs]
  | x :: xs, y :: ys, h1, h2 => by
    simp only [Val.pures, Bool.and_eq_true] at h1 h2
    simp only [Val.toDs, PyData.eqvAll, Val.eqbs, Val.eqb_toD x y h1.1 h2.1, Val.eqbs_toD xs ys h1.2 h2.2]
end
mutual
theorem Val.canLay : ∀ v : Val, v.pure = true → v.toD.canLay0 = true
  | .non, _ => by simp [Val.toD, PyData.canLay0]
  | .bl b, _ => by simp [Val.toD, PyData.canLay0]
  | .int i, _ => by simp [Val.toD, PyData.canLay0]
  | .str x, h => by simpa [Val.toD, PyData.canLay0, Val.pure] using h
  | .tup xs, h => by simp only [Val.pure] at h; simp only [Val.toD, PyData.canLay0]; exact Val.canLays xs h
  | .fl xs, h => by simp only [Val.pure] at h; simp only [Val.toD, PyData.canLay0]; exact Val.canLays xs h
  | .ref _, h => by simp [Val.pure] at h
  | .raw _, h => by simp [Val.pure] at h
theorem Val.canLays : ∀ vs : List Val, Val.pures vs = true → PyData.canLayAll0 (Val.toDs vs) = true
  | [], _ => by simp [Val.toDs, PyData.canLayAll0]
  | x :: xs, h => by
    simp only [Val.pures, Bool.and_eq_true] at h
    simp only [Val.toDs, PyData.canLayAll0, Val.canLay x h.1, Val.canLays xs h.2, Bool.and_self]
end
mutual
theorem Val.dep_toD : ∀ v : Val, v.toD.depth = v.dep
  | .non | .bl _ | .int _ | .str _ | .ref _ | .raw _ => by simp [Val.toD, PyData.depth, Val.dep]
  | .tup xs => by simp only [Val.toD, PyData.depth, Val.dep, Val.deps_toD xs]
  | .fl xs => by simp only [Val.toD, PyData.depth, Val.dep, Val.deps_toD xs]
theorem Val.deps_toD : ∀ vs : List Val, PyData.depthAll (Val.toDs vs) = Val.deps vs
  | [] => by simp [Val.toDs, PyData.depthAll, Val.deps]
  | x :: xs => by simp only [Val.toDs, PyData.depthAll, Val.deps, Val.dep_toD x, Val.deps_toD xs]
end

mutual
theorem RV.dp {K : PySem.W.Frag} {H : Hp} : ∀ (v : Val) (x : V), v.pure = true → RV K H v x → Dp K H x v.toD
  | .non, _, _, h => by cases h; simp only [Val.toD]; exact .non
  | .bl b, _, _, h => by cases h; simp only [Val.toD]; exact .bl b
  | .int i, _, _, h => by cases h; simp only [Val.toD]; exact .int i
  | .str s, _, _, h => by cases h; simp only [Val.toD]; exact .str s
  | .tup vs, _, hp, h => by
    obtain ⟨a, xs, rfl, hs, hv⟩ := h.tupE
    simp only [Val.pure] at hp
    simp only [Val.toD]
    exact .tup hs (RV.dps vs xs hp hv)
  | .fl vs, _, hp, h => by
    obtain ⟨a, xs, rfl, hs, hv⟩ := h.flE
    simp only [Val.pure] at hp
    simp only [Val.toD]
    exact .lst hs.sq (RV.dps vs xs hp hv)
  | .ref _, _, hp, _ => by simp [Val.pure] at hp
  | .raw _, _, hp, _ => by simp [Val.pure] at hp
theorem RV.dps {K : PySem.W.Frag} {H : Hp} : ∀ (vs : List Val) (xs : List V), Val.pures vs = true → RVs K H vs xs → DpAll K H xs (Val.toDs vs)
  | [], _, _, h => by cases h; simp only [Val.toDs]; exact .nil
  | v :: vs, _, hp, h => by
    cases h with
    | cons r t =>
      simp only [Val.pures, Bool.and_eq_true] at hp
      simp only [Val.toDs]
      exact .cons (RV.dp v _ hp.1 r) (RV.dps vs _ hp.2 t)
end

/-! ### operators -/
section
variable {X : Cx} {pos : Pos} {a b : Expr} {wa wb : ZE}

/-- ints in, under C -/
def zI (C : Int → Int → Prop) (g : Int → Int → Val) : ZR2 := fun v u S q => match v, u with
  | .int i, .int j => C i j ∧ q (g i j) S
  | _, _ => False
theorem zI_ok {K : PySem.W.Frag} {C : Int → Int → Prop} {g : Int → Int → Int} : ZOK K (rI C fun i j => .int (g i j)) (zI C fun i j => .int (g i j)) := by
  intro v u S q x y H Q rv ru hS hz k
  unfold zI at hz
  split at hz
  · cases rv; cases ru
    exact ⟨_, _, rfl, rfl, hz.1, k _ _ _ _ (.refl H) (.int _) hS hz.2⟩
  · exact hz.elim
def zI0 (g : Int → Int → Val) : ZR2 := fun v u S q => match v, u with
  | .int i, .int j => q (g i j) S
  | _, _ => False
theorem zI0_int {K : PySem.W.Frag} {g : Int → Int → Int} : ZOK K (rI0 fun i j => .int (g i j)) (zI0 fun i j => .int (g i j)) := by
  intro v u S q x y H Q rv ru hS hz k
  unfold zI0 at hz
  split at hz
  · cases rv; cases ru
    exact ⟨_, _, rfl, rfl, k _ _ _ _ (.refl H) (.int _) hS hz⟩
  · exact hz.elim

abbrev MulOk (i j : Int) : Prop := IntMulOk i j
theorem mulOk_l {i j : Int} (h1 : -(2 ^ 64) < i) (h2 : i < 2 ^ 64) : MulOk i j := .of_left (intBits_le_64 h1 h2)
theorem mulOk_r {i j : Int} (h1 : -(2 ^ 64) < j) (h2 : j < 2 ^ 64) : MulOk i j := .of_right (intBits_le_64 h1 h2)
theorem mulOk_w {i j : Int} {a b : Nat} (ha : i.natAbs < 2 ^ a) (hb : j.natAbs < 2 ^ b) (h0 : 0 < a) (h1 : 0 < b) (h : a + b ≤ 1000000) : MulOk i j := (wide_mul ha hb h0 h1 h).ok
def DivOk (j : Int) : Prop := j ≠ 0 ∧ j.natAbs.log2 < 9000
theorem log2_lt {n a : Nat} (h0 : 0 < a) (h : n < 2 ^ a) : n.log2 < a := PySem.Flt.log2_lt_of h0 h
theorem divOk_of {j : Int} (h : j ≠ 0) (h2 : j.natAbs < 2 ^ 9000) : DivOk j := ⟨h, log2_lt (by decide) h2⟩
theorem divOk_small {j : Int} (h : 0 < j) (h2 : j < 2 ^ 200) : DivOk j := ⟨by omega, Nat.lt_trans (log2_lt (a := 200) (by decide) (by omega)) (by decide)⟩
def PowOk (i n : Int) : Prop := 0 ≤ n ∧ (Builtin.Int.intBits i : Int) * n ≤ 2 ^ 27
theorem intBits_lt {i : Int} {a : Nat} (h0 : 0 < a) (h : i.natAbs < 2 ^ a) : Builtin.Int.intBits i ≤ a := by
  unfold Builtin.Int.intBits
  split
  · exact Nat.zero_le _
  · exact log2_lt h0 h
theorem powOk_of {i n : Int} {a : Nat} (h0 : 0 < a) (h : i.natAbs < 2 ^ a) (h1 : 0 ≤ n) (h2 : (a : Int) * n ≤ 2 ^ 27) : PowOk i n :=
  ⟨h1, Int.le_trans (Int.mul_le_mul_of_nonneg_right (by have := intBits_lt h0 h; omega) h1) h2⟩

theorem opz_mul : OpR X (binaryOp .Mult) (rI MulOk fun i j => .int (i * j)) := opI fun _ _ _ _ _ _ _ hc q => mul_int q hc
theorem opz_fdiv : OpR X (binaryOp .FloorDiv) (rI (fun _ j => DivOk j) fun i j => .int (i.fdiv j)) := opI fun _ _ _ _ _ _ _ hc q => floordiv_int hc.1 q (.inl (PyProof.noPylong_of_log2 hc.2))
theorem opz_pow : OpR X (binaryOp .Pow) (rI PowOk fun i j => .int (i ^ j.toNat)) := opI fun _ _ _ _ _ _ _ hc q => pow_int hc.1 hc.2 q

/-- + -/
def zAdd : ZR2 := fun v u S q => match v, u with
  | .int i, .int j => q (.int (i + j)) S
  | .str x, .str y => x.length + y.length ≤ sizeLine ∧ q (.str (x ++ y)) S
  | .tup xs, .tup ys => xs.length + ys.length ≤ sizeLine ∧ q (.tup (xs ++ ys)) S
  | .ref a, .ref b => (match S a, S b with
    | some (.lst xs), some (.lst ys) => xs.length + ys.length ≤ sizeLine ∧ ∀ p, S p = none → q (.ref p) (S.upd p (.lst (xs ++ ys)))
    | _, _ => False)
  | _, _ => False
def rAddAll (K : PySem.W.Frag) : R2 := fun x y H Q => rI0 (fun i j => .int (i + j)) x y H Q ∨ (fun x y H Q => ∃ i j, x = V.str i ∧ y = V.str j ∧ i.length + j.length ≤ sizeLine ∧ Q (.str (i ++ j)) H : R2) x y H Q ∨ rCatA K x y H Q ∨ rCat x y H Q
theorem opz_add : OpR X (binaryOp .Add) (rAddAll X.K) := op_add.or (op_add_str.or (op_catA.or op_cat))
theorem RVs.nil_iff {K : PySem.W.Frag} {H : Hp} {vs : List Val} {xs : List V} (h : RVs K H vs xs) : xs = [] ↔ vs = [] := by
  have := h.length
  cases vs <;> cases xs <;> simp_all
theorem zAdd_ok {K : PySem.W.Frag} : ZOK K (rAddAll K) zAdd := by
  intro v u S q x y H Q rv ru hS hz k
  unfold zAdd at hz
  split at hz
  · cases rv; cases ru
    exact .inl ⟨_, _, rfl, rfl, k _ _ _ _ (.refl H) (.int _) hS hz⟩
  · cases rv; cases ru
    exact .inr (.inl ⟨_, _, rfl, rfl, hz.1, k _ _ _ _ (.refl H) (.str _) hS hz.2⟩)
  · obtain ⟨a, xs, rfl, sa, ra⟩ := rv.tupE
    obtain ⟨b, ys, rfl, sb, rb⟩ := ru.tupE
    refine .inr (.inr (.inl ⟨a, b, xs, ys, rfl, rfl, sa, sb, by rw [← ra.length, ← rb.length]; exact hz.1, fun e => ?_, fun _ e => ?_, fun _ _ p hp => ?_⟩))
    · have e' := ra.nil_iff.mp e
      subst e'
      exact k _ _ _ _ (.refl H) ru hS (by simpa using hz.2)
    · have e' := rb.nil_iff.mp e
      subst e'
      exact k _ _ _ _ (.refl H) rv hS (by simpa using hz.2)
    · have pr : Pres H (L2.upd H p (.tup (xs ++ ys))) := Pres.new hp
      exact k _ _ _ _ pr (RV.tupI (SqT.of L2.upd_same) (RVs.mono (Z.Paired.app ra rb) pr)) (hS.newH hp) hz.2
  · rename_i a b
    split at hz
    · rename_i xs ys ea eb
      obtain ⟨xs', ha, ra⟩ := hS _ _ ea
      obtain ⟨ys', hb, rb⟩ := hS _ _ eb
      cases rv; cases ru
      refine .inr (.inr (.inr ⟨_, _, xs', ys', rfl, rfl, ha, hb, by rw [← ra.length, ← rb.length]; exact hz.1, fun p hp => ?_⟩))
      have pr : Pres H (L2.upd H p (.lst (xs' ++ ys'))) := Pres.new hp
      exact k _ _ _ _ pr (.ref p) (hS.new (m := .lst (xs ++ ys)) hp ⟨_, L2.upd_same, RVs.mono (Z.Paired.app ra rb) pr⟩) (hz.2 p (hS.non hp))
    · exact hz.elim
  · exact hz.elim
theorem z_add (ha : PZ X a wa) (hb : PZ X b wb) : PZ X (.BinOp a .Add b pos) (zOp zAdd wa wb) := z_op opz_add zAdd_ok ha hb
def zSub : ZR2 := zI0 fun i j => .int (i - j)
theorem z_sub (ha : PZ X a wa) (hb : PZ X b wb) : PZ X (.BinOp a .Sub b pos) (zOp zSub wa wb) := z_op op_sub zI0_int ha hb
/-- * -/
def zMul : ZR2 := fun v u S q => match v, u with
  | .int i, .int j => MulOk i j ∧ q (.int (i * j)) S
  | .ref a, .int k => (match S a with
    | some (.lst xs) => -(2 ^ 63) ≤ k ∧ k < 2 ^ 63 ∧ xs.length * k.toNat ≤ sizeLine ∧ ∀ p, S p = none → q (.ref p) (S.upd p (.lst (List.replicate k.toNat xs).flatten))
    | _ => False)
  | _, _ => False
def rMulAll : R2 := fun x y H Q => rI MulOk (fun i j => .int (i * j)) x y H Q ∨ rRep x y H Q
theorem opz_mulA : OpR X (binaryOp .Mult) rMulAll := opz_mul.or op_rep
theorem Paired.rep {α β : Type} {F : α → β → Prop} {l₁ : List α} {l₂ : List β} (h : Paired F l₁ l₂) : ∀ k : Nat, Paired F (List.replicate k l₁).flatten (List.replicate k l₂).flatten
  | 0 => .nil
  | k + 1 => by rw [List.replicate_succ, List.replicate_succ, List.flatten_cons, List.flatten_cons]; exact Paired.app h (Paired.rep h k)
theorem zMul_ok {K : PySem.W.Frag} : ZOK K rMulAll zMul := by
  intro v u S q x y H Q rv ru hS hz k
  unfold zMul at hz
  split at hz
  · cases rv; cases ru
    exact .inl ⟨_, _, rfl, rfl, hz.1, k _ _ _ _ (.refl H) (.int _) hS hz.2⟩
  · split at hz
    · rename_i xs ea
      obtain ⟨xs', ha, ra⟩ := hS _ _ ea
      cases rv; cases ru
      refine .inr ⟨_, _, xs', rfl, rfl, ha, hz.1, hz.2.1, by rw [← ra.length]; exact hz.2.2.1, fun p hp => ?_⟩
      exact k _ _ _ _ (Pres.new hp) (.ref p) (hS.new (m := .lst (List.replicate _ xs).flatten) hp ⟨_, L2.upd_same, RVs.mono (Z.Paired.rep ra _) (Pres.new hp)⟩) (hz.2.2.2 p (hS.non hp))
    · exact hz.elim
  · exact hz.elim
theorem z_mul (ha : PZ X a wa) (hb : PZ X b wb) : PZ X (.BinOp a .Mult b pos) (zOp zMul wa wb) := z_op opz_mulA zMul_ok ha hb
def zFdiv : ZR2 := zI (fun _ j => DivOk j) fun i j => .int (i.fdiv j)
theorem z_fdiv (ha : PZ X a wa) (hb : PZ X b wb) : PZ X (.BinOp a .FloorDiv b pos) (zOp zFdiv wa wb) := z_op opz_fdiv zI_ok ha hb
def zMod : ZR2 := zI (fun _ j => j ≠ 0) fun i j => .int (i.fmod j)
theorem z_mod (ha : PZ X a wa) (hb : PZ X b wb) : PZ X (.BinOp a .Mod b pos) (zOp zMod wa wb) := z_op op_modN zI_ok ha hb
def zPow : ZR2 := zI PowOk fun i j => .int (i ^ j.toNat)
theorem z_pow (ha : PZ X a wa) (hb : PZ X b wb) : PZ X (.BinOp a .Pow b pos) (zOp zPow wa wb) := z_op opz_pow zI_ok ha hb
def zShl : ZR2 := zI CPow fun i j => .int (i * 2 ^ j.toNat)
theorem z_shl (ha : PZ X a wa) (hb : PZ X b wb) : PZ X (.BinOp a .LShift b pos) (zOp zShl wa wb) := z_op op_shl zI_ok ha hb
def zShr : ZR2 := zI (fun _ j => 0 ≤ j) fun i j => .int (i / 2 ^ j.toNat)
theorem z_shr (ha : PZ X a wa) (hb : PZ X b wb) : PZ X (.BinOp a .RShift b pos) (zOp zShr wa wb) := z_op op_shr zI_ok ha hb
/-- one value -/
def zUn (z : Val → Sto → ZQ → Prop) (wa : ZE) : ZE := fun ζ S q => wa ζ S fun v S1 => z v S1 q
def zNeg : Val → Sto → ZQ → Prop := fun v S q => match v with | .int i => q (.int (-i)) S | _ => False
theorem z_neg (ha : PZ X a wa) : PZ X (.UnaryOp .USub a pos) (zUn zNeg wa) := (pe_un un_neg ha).zimp fun σ H Q ⟨ζ, S, q, hζ, hS, hw, hq⟩ =>
  ⟨ζ, S, _, hζ, hS, hw, fun v S1 x H1 p1 r1 hS1 h1 => by
    unfold zNeg at h1
    split at h1
    · cases r1
      exact ⟨_, rfl, hq _ _ _ _ p1 (.int _) hS1 h1⟩
    · exact h1.elim⟩

/-! ### comparisons -/
def zCmp (g : Int → Int → Bool) : ZR2 := zI0 fun i j => .bl (g i j)
theorem zCmp_ok {K : PySem.W.Frag} {g : Int → Int → Bool} : ZOK K (rI0 fun i j => .bl (g i j)) (zCmp g) := by
  intro v u S q x y H Q rv ru hS hz k
  unfold zCmp zI0 at hz
  split at hz
  · cases rv; cases ru
    exact ⟨_, _, rfl, rfl, k _ _ _ _ (.refl H) (.bl _) hS hz⟩
  · exact hz.elim
/-- what a value is, read one list deep -/
def rdS (S : Sto) : Val → Option Val
  | .ref a => (match S a with | some (.lst vs) => some (.fl vs) | _ => none)
  | v => some v
def Val.okd (v : Val) : Bool := v.pure && decide (v.dep ≤ 64)
def zEqG (neg : Bool) : ZR2 := fun v u S q => match rdS S v, rdS S u with
  | some v', some u' => v'.okd = true ∧ u'.okd = true ∧ q (.bl (if neg then !v'.eqb u' else v'.eqb u')) S
  | _, _ => False
theorem rdS_dp {K : PySem.W.Frag} {S : Sto} {H : Hp} {v v' : Val} {x : V} (hS : Rep K S H) (r : RV K H v x) (e : rdS S v = some v') (hp : v'.okd = true) : Dp K H x v'.toD ∧ SeqAt.shaped v'.toD = true := by
  unfold Val.okd at hp
  simp only [Bool.and_eq_true, decide_eq_true_eq] at hp
  refine ⟨?_, ?_⟩
  · cases v with
    | ref a =>
      simp only [rdS] at e
      split at e
      · rename_i vs ea
        cases e
        obtain ⟨xs, ha, ra⟩ := hS _ _ ea
        cases r
        have hp1 := hp.1
        simp only [Val.pure] at hp1
        simp only [Val.toD]
        exact .lst (SqL.of ha) (RV.dps vs xs hp1 ra)
      · cases e
    | _ => simp only [rdS, Option.some.injEq] at e; subst e; exact RV.dp _ _ hp.1 r
  · unfold SeqAt.shaped
    rw [Val.canLay v' hp.1, Val.dep_toD]
    simpa using hp.2
theorem zEq_ok {K : PySem.W.Frag} : ZOK K (rEqD K) (zEqG false) := by
  intro v u S q x y H Q rv ru hS hz k
  unfold zEqG at hz
  split at hz
  · rename_i v' u' ev eu
    obtain ⟨d1, s1⟩ := rdS_dp hS rv ev hz.1
    obtain ⟨d2, s2⟩ := rdS_dp hS ru eu hz.2.1
    have p1 : v'.pure = true := by have := hz.1; unfold Val.okd at this; simp only [Bool.and_eq_true] at this; exact this.1
    have p2 : u'.pure = true := by have := hz.2.1; unfold Val.okd at this; simp only [Bool.and_eq_true] at this; exact this.1
    refine ⟨_, _, d1, d2, s1, s2, k _ _ _ _ (.refl H) (.bl _) hS ?_⟩
    rw [Val.eqb_toD _ _ p1 p2]
    exact hz.2.2
  · exact hz.elim
theorem zNe_ok {K : PySem.W.Frag} : ZOK K (rNeD K) (zEqG true) := by
  intro v u S q x y H Q rv ru hS hz k
  unfold zEqG at hz
  split at hz
  · rename_i v' u' ev eu
    obtain ⟨d1, s1⟩ := rdS_dp hS rv ev hz.1
    obtain ⟨d2, s2⟩ := rdS_dp hS ru eu hz.2.1
    have p1 : v'.pure = true := by have := hz.1; unfold Val.okd at this; simp only [Bool.and_eq_true] at this; exact this.1
    have p2 : u'.pure = true := by have := hz.2.1; unfold Val.okd at this; simp only [Bool.and_eq_true] at this; exact this.1
    refine ⟨_, _, d1, d2, s1, s2, k _ _ _ _ (.refl H) (.bl _) hS ?_⟩
    rw [Val.eqb_toD _ _ p1 p2]
    exact hz.2.2
  · exact hz.elim
theorem z_eq {k : Nat} (hr : Room k X.A) (ha : PZ X a wa) (hb : PZ X b wb) : PZ X (.Compare a [.Eq] [b] pos) (zOp (zEqG false) wa wb) := z_cmp (op_eqD hr.units) (nobehind _ (by decide) (by decide)) zEq_ok ha hb
theorem z_ne {k : Nat} (hr : Room k X.A) (ha : PZ X a wa) (hb : PZ X b wb) : PZ X (.Compare a [.NotEq] [b] pos) (zOp (zEqG true) wa wb) := z_cmp (op_neD hr.units) (nobehind _ (by decide) (by decide)) zNe_ok ha hb
theorem z_lt (ha : PZ X a wa) (hb : PZ X b wb) : PZ X (.Compare a [.Lt] [b] pos) (zOp (zCmp fun i j => decide (i < j)) wa wb) := z_cmp op_lt (nobehind _ (by decide) (by decide)) zCmp_ok ha hb
theorem z_le (ha : PZ X a wa) (hb : PZ X b wb) : PZ X (.Compare a [.LtE] [b] pos) (zOp (zCmp fun i j => decide (i ≤ j)) wa wb) := z_cmp op_le (nobehind _ (by decide) (by decide)) zCmp_ok ha hb
theorem z_gt (ha : PZ X a wa) (hb : PZ X b wb) : PZ X (.Compare a [.Gt] [b] pos) (zOp (zCmp fun i j => decide (j < i)) wa wb) := z_cmp op_gt (nobehind _ (by decide) (by decide)) zCmp_ok ha hb
theorem z_ge (ha : PZ X a wa) (hb : PZ X b wb) : PZ X (.Compare a [.GtE] [b] pos) (zOp (zCmp fun i j => decide (j ≤ i)) wa wb) := z_cmp op_ge (nobehind _ (by decide) (by decide)) zCmp_ok ha hb
/-- is None, is not None -/
def Val.isNon : Val → Bool
  | .non => true
  | _ => false
def Val.isRaw : Val → Bool
  | .raw _ => true
  | _ => false
def zIsN (neg : Bool) (wa : ZE) : ZE := fun ζ S q => wa ζ S fun v S1 => v.isRaw = false ∧ q (.bl (if neg then !v.isNon else v.isNon)) S1
theorem isNon_of {K : PySem.W.Frag} {H : Hp} {v : Val} {x : V} (r : RV K H v x) (h : v.isRaw = false) : decide (x = .non) = v.isNon := by
  cases r <;> simp_all [Val.isNon, Val.isRaw]
theorem z_isN {j pos'} (ha : PZ X a wa) : PZ X (.Compare a [.Is] [.Constant .none j pos'] pos) (zIsN false wa) := (pe_cmp (pc_isN ha)).zimp fun σ H Q ⟨ζ, S, q, hζ, hS, hw, hq⟩ =>
  ⟨ζ, S, _, hζ, hS, hw, fun v S1 x H1 p1 r1 hS1 h1 => by show Q (.bl _) H1; rw [isNon_of r1 h1.1]; exact hq _ _ _ _ p1 (.bl _) hS1 h1.2⟩
theorem z_notN {j pos'} (ha : PZ X a wa) : PZ X (.Compare a [.IsNot] [.Constant .none j pos'] pos) (zIsN true wa) := (pe_cmp (pc_notN ha)).zimp fun σ H Q ⟨ζ, S, q, hζ, hS, hw, hq⟩ =>
  ⟨ζ, S, _, hζ, hS, hw, fun v S1 x H1 p1 r1 hS1 h1 => by show Q (.bl _) H1; rw [isNon_of r1 h1.1]; exact hq _ _ _ _ p1 (.bl _) hS1 h1.2⟩
/-- is True .. of truths -/
def zIsB (neg : Bool) : ZR2 := fun v u S q => match v, u with
  | .bl i, .bl j => q (.bl (if neg then !decide (i = j) else decide (i = j))) S
  | _, _ => False
theorem z_isB (ha : PZ X a wa) (hb : PZ X b wb) : PZ X (.Compare a [.Is] [b] pos) (zOp (zIsB false) wa wb) := z_cmp op_is_bl (nobehind _ (by decide) (by decide)) (fun v u S q x y H Q rv ru hS hz k => by
  unfold zIsB at hz
  split at hz
  · cases rv; cases ru; exact ⟨_, _, rfl, rfl, k _ _ _ _ (.refl H) (.bl _) hS hz⟩
  · exact hz.elim) ha hb
theorem z_isnotB (ha : PZ X a wa) (hb : PZ X b wb) : PZ X (.Compare a [.IsNot] [b] pos) (zOp (zIsB true) wa wb) := z_cmp op_isnot_bl (nobehind _ (by decide) (by decide)) (fun v u S q x y H Q rv ru hS hz k => by
  unfold zIsB at hz
  split at hz
  · cases rv; cases ru; exact ⟨_, _, rfl, rfl, k _ _ _ _ (.refl H) (.bl _) hS hz⟩
  · exact hz.elim) ha hb
/-- a < b < c over ints -/
def zChain (g g' : Int → Int → Bool) (wa wb wc : ZE) : ZE := fun ζ S q => wa ζ S fun v S1 => wb ζ S1 fun u S2 => match v, u with
  | .int i, .int j => if g i j = true then wc ζ S2 fun t S3 => (match t with | .int k => q (.bl (g' j k)) S3 | _ => False) else q (.bl false) S2
  | _, _ => False
theorem z_chain {c : Expr} {wc : ZE} {op op' : CmpOp} {g g' : Int → Int → Bool} (ho : OpR X (compareOp op) (rI0 fun i j => .bl (g i j))) (ho' : OpR X (compareOp op') (rI0 fun i j => .bl (g' i j))) (ha : PZ X a wa) (hb : PZ X b wb) (hc : PZ X c wc)
    (h : ∀ {ta tb tc : TE}, PE X a ta → PE X b tb → PE X c tc → PE X (.Compare a [op, op'] [b, c] pos) (tChain (rI0 fun i j => .bl (g i j)) (rI0 fun i j => .bl (g' i j)) ta tb tc)) :
    PZ X (.Compare a [op, op'] [b, c] pos) (zChain g g' wa wb wc) := (h ha hb hc).zimp fun σ H Q ⟨ζ, S, q, hζ, hS, hw, hq⟩ =>
  ⟨ζ, S, _, hζ, hS, hw, fun v S1 x H1 p1 r1 hS1 h1 => ⟨ζ, S1, _, hζ.mono p1, hS1, h1, fun u S2 y H2 p2 r2 hS2 h2 => by
    have r1' := r1.mono p2
    split at h2
    · cases r1'; cases r2
      refine ⟨_, _, rfl, rfl, _, rfl, ?_⟩
      split
      · rename_i hg
        rw [if_pos hg] at h2
        refine ⟨ζ, S2, _, hζ.mono (p1.trans p2), hS2, h2, fun t S3 z H3 p3 r3 hS3 h3 => ?_⟩
        split at h3
        · cases r3
          exact ⟨_, _, rfl, rfl, hq _ _ _ _ ((p1.trans p2).trans p3) (.bl _) hS3 h3⟩
        · exact h3.elim
      · rename_i hg
        rw [if_neg hg] at h2
        exact hq _ _ _ _ (p1.trans p2) (.bl _) hS2 h2
    · exact h2.elim⟩⟩
end
end Z

namespace Z
open PySem PySem.Spec PyProof.Rows L2

/-! ### tests -/
section
variable {X : Cx} {pos : Pos} {a b : Expr} {wa wb : ZE} {c : Expr} {tc tb' : ZT} {rest : List Expr}
/-- a truth's value as a test -/
def zB (wa : ZE) : ZT := fun ζ S q => wa ζ S fun v S1 => match v with | .bl c => q c S1 | _ => False
theorem zB_ok {K : PySem.W.Frag} {wa : ZE} : ∀ σ H Q, LT K (zB wa) σ H Q → tB (LE K wa) σ H Q := fun σ H Q ⟨ζ, S, q, hζ, hS, hw, hq⟩ =>
  ⟨ζ, S, _, hζ, hS, hw, fun v S1 x H1 p1 r1 hS1 h1 => by
    split at h1
    · cases r1; exact ⟨_, rfl, hq _ _ _ p1 hS1 h1⟩
    · exact h1.elim⟩
theorem zt_val {e : Expr} (h : PZ X e wa) (he : ∀ whole, isTrue e X.env whole = (do let v ← whole; standAt e.pos; holding [v] (truthy v)) := by intro _; rfl) : PZT X e (zB wa) := (pt_val h he).zimp zB_ok
/-- a comparison as a test, from its rule -/
theorem zt_cmp {op : CmpOp} {r : R2} {z : ZR2} (ho : OpR X (compareOp op) r) (hm : behindInMarks op b = false) (hz : ZOK X.K r z) (ha : PZ X a wa) (hb : PZ X b wb) : PZT X (.Compare a [op] [b] pos) (zB (zOp z wa wb)) :=
  (pt_cmpR ho ha hb hm).zimp fun σ H Q ⟨ζ, S, q, hζ, hS, hw, hq⟩ => by
    refine zop_ok hz σ H _ ⟨ζ, S, _, hζ, hS, hw, fun v S1 x H1 p1 r1 hS1 h1 => ?_⟩
    split at h1
    · cases r1; exact ⟨_, rfl, hq _ _ _ p1 hS1 h1⟩
    · exact h1.elim
theorem zt_eq {k : Nat} (hr : Room k X.A) (ha : PZ X a wa) (hb : PZ X b wb) : PZT X (.Compare a [.Eq] [b] pos) (zB (zOp (zEqG false) wa wb)) := zt_cmp (op_eqD hr.units) (nobehind _ (by decide) (by decide)) zEq_ok ha hb
theorem zt_ne {k : Nat} (hr : Room k X.A) (ha : PZ X a wa) (hb : PZ X b wb) : PZT X (.Compare a [.NotEq] [b] pos) (zB (zOp (zEqG true) wa wb)) := zt_cmp (op_neD hr.units) (nobehind _ (by decide) (by decide)) zNe_ok ha hb
theorem zt_lt (ha : PZ X a wa) (hb : PZ X b wb) : PZT X (.Compare a [.Lt] [b] pos) (zB (zOp (zCmp fun i j => decide (i < j)) wa wb)) := zt_cmp op_lt (nobehind _ (by decide) (by decide)) zCmp_ok ha hb
theorem zt_le (ha : PZ X a wa) (hb : PZ X b wb) : PZT X (.Compare a [.LtE] [b] pos) (zB (zOp (zCmp fun i j => decide (i ≤ j)) wa wb)) := zt_cmp op_le (nobehind _ (by decide) (by decide)) zCmp_ok ha hb
theorem zt_gt (ha : PZ X a wa) (hb : PZ X b wb) : PZT X (.Compare a [.Gt] [b] pos) (zB (zOp (zCmp fun i j => decide (j < i)) wa wb)) := zt_cmp op_gt (nobehind _ (by decide) (by decide)) zCmp_ok ha hb
theorem zt_ge (ha : PZ X a wa) (hb : PZ X b wb) : PZT X (.Compare a [.GtE] [b] pos) (zB (zOp (zCmp fun i j => decide (j ≤ i)) wa wb)) := zt_cmp op_ge (nobehind _ (by decide) (by decide)) zCmp_ok ha hb
/-- a comparison whose value rule is at hand, as a test (is None ..) -/
theorem zt_pc {op : CmpOp} {t : TE} (h : PC X op a b t) (hm : behindInMarks op b = false) (i : ∀ σ H Q, LE X.K wa σ H Q → t σ H Q) : PZT X (.Compare a [op] [b] pos) (zB wa) :=
  (pt_cmp h hm).zimp fun σ H Q ⟨ζ, S, q, hζ, hS, hw, hq⟩ => by
    refine i σ H _ ⟨ζ, S, _, hζ, hS, hw, fun v S1 x H1 p1 r1 hS1 h1 => ?_⟩
    split at h1
    · cases r1; exact ⟨_, rfl, hq _ _ _ p1 hS1 h1⟩
    · exact h1.elim
theorem zt_isN {j pos'} (ha : PZ X a wa) : PZT X (.Compare a [.Is] [.Constant .none j pos'] pos) (zB (zIsN false wa)) := zt_pc (pc_isN ha) (nobehind _ (by decide) (by decide)) fun σ H Q ⟨ζ, S, q, hζ, hS, hw, hq⟩ =>
  ⟨ζ, S, _, hζ, hS, hw, fun v S1 x H1 p1 r1 hS1 h1 => by show Q (.bl _) H1; rw [isNon_of r1 h1.1]; exact hq _ _ _ _ p1 (.bl _) hS1 h1.2⟩
theorem zt_notN {j pos'} (ha : PZ X a wa) : PZT X (.Compare a [.IsNot] [.Constant .none j pos'] pos) (zB (zIsN true wa)) := zt_pc (pc_notN ha) (nobehind _ (by decide) (by decide)) fun σ H Q ⟨ζ, S, q, hζ, hS, hw, hq⟩ =>
  ⟨ζ, S, _, hζ, hS, hw, fun v S1 x H1 p1 r1 hS1 h1 => by show Q (.bl _) H1; rw [isNon_of r1 h1.1]; exact hq _ _ _ _ p1 (.bl _) hS1 h1.2⟩
theorem zt_isB (ha : PZ X a wa) (hb : PZ X b wb) : PZT X (.Compare a [.Is] [b] pos) (zB (zOp (zIsB false) wa wb)) := zt_cmp op_is_bl (nobehind _ (by decide) (by decide)) (fun v u S q x y H Q rv ru hS hz k => by
  unfold zIsB at hz
  split at hz
  · cases rv; cases ru; exact ⟨_, _, rfl, rfl, k _ _ _ _ (.refl H) (.bl _) hS hz⟩
  · exact hz.elim) ha hb
theorem zt_isnotB (ha : PZ X a wa) (hb : PZ X b wb) : PZT X (.Compare a [.IsNot] [b] pos) (zB (zOp (zIsB true) wa wb)) := zt_cmp op_isnot_bl (nobehind _ (by decide) (by decide)) (fun v u S q x y H Q rv ru hS hz k => by
  unfold zIsB at hz
  split at hz
  · cases rv; cases ru; exact ⟨_, _, rfl, rfl, k _ _ _ _ (.refl H) (.bl _) hS hz⟩
  · exact hz.elim) ha hb
theorem z_chain2 {c : Expr} {wa wb wc : ZE} {op op' : CmpOp} {g g' : Int → Int → Bool} (ho : OpR X (compareOp op) (rI0 fun i j => .bl (g i j))) (ho' : OpR X (compareOp op') (rI0 fun i j => .bl (g' i j))) (ha : PZ X a wa) (hb : PZ X b wb) (hc : PZ X c wc)
    (h : ∀ {ta tb tc : TE}, PE X a ta → PE X b tb → PE X c tc → PE X (.Compare a [op, op'] [b, c] pos) (tChain (rI0 fun i j => .bl (g i j)) (rI0 fun i j => .bl (g' i j)) ta tb tc)) :
    PZ X (.Compare a [op, op'] [b, c] pos) (zChain g g' wa wb wc) := z_chain ho ho' ha hb hc h
/-! and, or, not -/
def ztAnd (t u : ZT) : ZT := fun ζ S q => t ζ S fun c S1 => if c = true then u ζ S1 q else q false S1
def ztOr (t u : ZT) : ZT := fun ζ S q => t ζ S fun c S1 => if c = true then q true S1 else u ζ S1 q
def ztNot (t : ZT) : ZT := fun ζ S q => t ζ S fun c S1 => q (!c) S1
abbrev PZW (X : Cx) (e : Expr) (w : ZT) : Prop := PW X e (LT X.K w)
theorem PWzimp {X : Cx} {e : Expr} {t t' : TT} (h : PW X e t) (i : ∀ σ H Q, t' σ H Q → t σ H Q) : PW X e t' := ⟨fun wh pins s σ H Q I q => h.run wh pins s σ H Q I (i _ _ _ q)⟩
theorem zw_and1 (ha : PZT X a tc) : PZW X (.BoolOp .And [a] pos) tc := pw_and1 ha
theorem zw_or1 (ha : PZT X a tc) : PZW X (.BoolOp .Or [a] pos) tc := pw_or1 ha
theorem zw_and (ha : PZT X a tc) (hb : PZW X (.BoolOp .And (b :: rest) pos) tb') : PZW X (.BoolOp .And (a :: b :: rest) pos) (ztAnd tc tb') := PWzimp (pw_and ha hb) fun σ H Q ⟨ζ, S, q, hζ, hS, hw, hq⟩ =>
  ⟨ζ, S, _, hζ, hS, hw, fun c S1 H1 p1 hS1 h1 => by
    cases c with
    | true => exact ⟨ζ, S1, q, hζ.mono p1, hS1, h1, fun b S2 H2 p2 hS2 h2 => hq _ _ _ (p1.trans p2) hS2 h2⟩
    | false => exact hq _ _ _ p1 hS1 h1⟩
theorem zw_or (ha : PZT X a tc) (hb : PZW X (.BoolOp .Or (b :: rest) pos) tb') : PZW X (.BoolOp .Or (a :: b :: rest) pos) (ztOr tc tb') := PWzimp (pw_or ha hb) fun σ H Q ⟨ζ, S, q, hζ, hS, hw, hq⟩ =>
  ⟨ζ, S, _, hζ, hS, hw, fun c S1 H1 p1 hS1 h1 => by
    cases c with
    | false => exact ⟨ζ, S1, q, hζ.mono p1, hS1, h1, fun b S2 H2 p2 hS2 h2 => hq _ _ _ (p1.trans p2) hS2 h2⟩
    | true => exact hq _ _ _ p1 hS1 h1⟩
theorem zt_not (ha : PZT X a tc) : PZT X (.UnaryOp .Not a pos) (ztNot tc) := (pt_not ha).zimp fun σ H Q ⟨ζ, S, q, hζ, hS, hw, hq⟩ =>
  ⟨ζ, S, _, hζ, hS, hw, fun c S1 H1 p1 hS1 h1 => hq _ _ _ p1 hS1 h1⟩
theorem PZW.pt {e : Expr} (h : PZW X e tc) : PZT X e tc := PW.pt h
/-- as values, all truths -/
def zAndV (wa wb : ZE) : ZE := fun ζ S q => wa ζ S fun v S1 => match v with | .bl c => if c = true then wb ζ S1 q else q (.bl false) S1 | _ => False
def zOrV (wa wb : ZE) : ZE := fun ζ S q => wa ζ S fun v S1 => match v with | .bl c => if c = true then q (.bl true) S1 else wb ζ S1 q | _ => False
def zNotV (wa : ZE) : ZE := fun ζ S q => wa ζ S fun v S1 => match v with | .bl c => q (.bl (!c)) S1 | _ => False
theorem z_one {op} (h : PZ X a wa) : PZ X (.BoolOp op [a] pos) wa := pe_one h
theorem z_and (ha : PZ X a wa) (hb : PZ X (.BoolOp .And (b :: rest) pos) wb) : PZ X (.BoolOp .And (a :: b :: rest) pos) (zAndV wa wb) := (pe_and ha hb).zimp fun σ H Q ⟨ζ, S, q, hζ, hS, hw, hq⟩ =>
  ⟨ζ, S, _, hζ, hS, hw, fun v S1 x H1 p1 r1 hS1 h1 => by
    split at h1
    · rename_i c
      cases r1
      refine ⟨c, rfl, ?_⟩
      cases c with
      | true => exact ⟨ζ, S1, q, hζ.mono p1, hS1, h1, fun b S2 x2 H2 p2 r2 hS2 h2 => hq _ _ _ _ (p1.trans p2) r2 hS2 h2⟩
      | false => exact hq _ _ _ _ p1 (.bl _) hS1 h1
    · exact h1.elim⟩
theorem z_or (ha : PZ X a wa) (hb : PZ X (.BoolOp .Or (b :: rest) pos) wb) : PZ X (.BoolOp .Or (a :: b :: rest) pos) (zOrV wa wb) := (pe_or ha hb).zimp fun σ H Q ⟨ζ, S, q, hζ, hS, hw, hq⟩ =>
  ⟨ζ, S, _, hζ, hS, hw, fun v S1 x H1 p1 r1 hS1 h1 => by
    split at h1
    · rename_i c
      cases r1
      refine ⟨c, rfl, ?_⟩
      cases c with
      | false => exact ⟨ζ, S1, q, hζ.mono p1, hS1, h1, fun b S2 x2 H2 p2 r2 hS2 h2 => hq _ _ _ _ (p1.trans p2) r2 hS2 h2⟩
      | true => exact hq _ _ _ _ p1 (.bl _) hS1 h1
    · exact h1.elim⟩
theorem z_not (ha : PZ X a wa) : PZ X (.UnaryOp .Not a pos) (zNotV wa) := (pe_not ha).zimp fun σ H Q ⟨ζ, S, q, hζ, hS, hw, hq⟩ =>
  ⟨ζ, S, _, hζ, hS, hw, fun v S1 x H1 p1 r1 hS1 h1 => by
    split at h1
    · cases r1
      exact ⟨_, rfl, hq _ _ _ _ p1 (.bl _) hS1 h1⟩
    · exact h1.elim⟩
/-- a if t else b -/
def zIf (t : ZT) (wa wb : ZE) : ZE := fun ζ S q => t ζ S fun c S1 => if c = true then wa ζ S1 q else wb ζ S1 q
theorem z_ifExp (hc : PZT X c tc) (ha : PZ X a wa) (hb : PZ X b wb) : PZ X (.IfExp c a b pos) (zIf tc wa wb) := (pe_ifExp hc ha hb).zimp fun σ H Q ⟨ζ, S, q, hζ, hS, hw, hq⟩ =>
  ⟨ζ, S, _, hζ, hS, hw, fun c S1 H1 p1 hS1 h1 => by
    cases c with
    | true => exact ⟨ζ, S1, q, hζ.mono p1, hS1, h1, fun b S2 x2 H2 p2 r2 hS2 h2 => hq _ _ _ _ (p1.trans p2) r2 hS2 h2⟩
    | false => exact ⟨ζ, S1, q, hζ.mono p1, hS1, h1, fun b S2 x2 H2 p2 r2 hS2 h2 => hq _ _ _ _ (p1.trans p2) r2 hS2 h2⟩⟩
end

/-! ### statements -/
structure ZEnds where
  nx : Env → Sto → Prop
  rt : ZQ
  bk : Env → Sto → Prop := fun _ _ => False
  ct : Env → Sto → Prop := fun _ _ => False
abbrev ZS := ZEnds → Env → Sto → Prop
structure EndsOk (K : PySem.W.Frag) (H : Hp) (d : ZEnds) (D : Ends) : Prop where
  nx : ∀ ζ S σ' H', Pres H H' → REnv K H' ζ σ' → Rep K S H' → d.nx ζ S → D.nx σ' H'
  rt : ∀ v S x H', Pres H H' → RV K H' v x → Rep K S H' → d.rt v S → D.rt x H'
  bk : ∀ ζ S σ' H', Pres H H' → REnv K H' ζ σ' → Rep K S H' → d.bk ζ S → D.bk σ' H'
  ct : ∀ ζ S σ' H', Pres H H' → REnv K H' ζ σ' → Rep K S H' → d.ct ζ S → D.ct σ' H'
theorem EndsOk.mono {K : PySem.W.Frag} {H H1 : Hp} {d : ZEnds} {D : Ends} (e : EndsOk K H d D) (p : Pres H H1) : EndsOk K H1 d D :=
  ⟨fun ζ S σ' H' q => e.nx ζ S σ' H' (p.trans q), fun v S x H' q => e.rt v S x H' (p.trans q), fun ζ S σ' H' q => e.bk ζ S σ' H' (p.trans q), fun ζ S σ' H' q => e.ct ζ S σ' H' (p.trans q)⟩
theorem EndsOk.nxt {K : PySem.W.Frag} {H : Hp} {d : ZEnds} {D : Ends} (e : EndsOk K H d D) {n : Env → Sto → Prop} {N : L2.St → Hp → Prop} (h : ∀ ζ S σ' H', Pres H H' → REnv K H' ζ σ' → Rep K S H' → n ζ S → N σ' H') : EndsOk K H { d with nx := n } { D with nx := N } :=
  ⟨h, e.rt, e.bk, e.ct⟩
def LS (K : PySem.W.Frag) (w : ZS) : TS := fun D σ H => ∃ ζ S d, REnv K H ζ σ ∧ Rep K S H ∧ w d ζ S ∧ EndsOk K H d D
abbrev PZS (X : Cx) (s : Stmt) (w : ZS) : Prop := PS X s (LS X.K w)
abbrev PZSs (X : Cx) (s : List Stmt) (w : ZS) : Prop := PSs X s (LS X.K w)
section
variable {X : Cx} {pos : Pos} {st : Stmt} {rest : List Stmt} {u w : ZS}
def zNext : ZS := fun d ζ S => d.nx ζ S
def zSeq (t u : ZS) : ZS := fun d ζ S => t { d with nx := u d } ζ S
theorem zss_nil : PZSs X [] zNext := pss_nil.zimp fun D σ H ⟨ζ, S, d, hζ, hS, hw, hd⟩ => hd.nx ζ S σ H (.refl H) hζ hS hw
theorem zss_cons (h1 : PZS X st w) (h2 : PZSs X rest u) : PZSs X (st :: rest) (zSeq w u) := (pss_cons h1 h2).zimp fun D σ H ⟨ζ, S, d, hζ, hS, hw, hd⟩ =>
  ⟨ζ, S, _, hζ, hS, hw, hd.nxt fun ζ' S' σ' H' p r s q => ⟨ζ', S', d, r, s, q, hd.mono p⟩⟩
theorem zss_one (h1 : PZS X st w) : PZSs X [st] w := pss_one h1
theorem zs_pass : PZS X (.Pass pos) zNext := ps_pass.zimp fun D σ H ⟨ζ, S, d, hζ, hS, hw, hd⟩ => hd.nx ζ S σ H (.refl H) hζ hS hw
def zBreak : ZS := fun d ζ S => d.bk ζ S
def zCont : ZS := fun d ζ S => d.ct ζ S
theorem zs_break : PZS X (.Break pos) zBreak := ps_break.zimp fun D σ H ⟨ζ, S, d, hζ, hS, hw, hd⟩ => hd.bk ζ S σ H (.refl H) hζ hS hw
theorem zs_continue : PZS X (.Continue pos) zCont := ps_continue.zimp fun D σ H ⟨ζ, S, d, hζ, hS, hw, hd⟩ => hd.ct ζ S σ H (.refl H) hζ hS hw
variable {e : Expr} {we : ZE}
def zDrop (we : ZE) : ZS := fun d ζ S => we ζ S fun _ S1 => d.nx ζ S1
theorem zs_expr (he : PZ X e we) (hs : swapsWith e none pos.line X.env = pure false := by rfl) : PZS X (.Expr e pos) (zDrop we) := (ps_expr he hs).zimp fun D σ H ⟨ζ, S, d, hζ, hS, hw, hd⟩ =>
  ⟨ζ, S, _, hζ, hS, hw, fun v S1 x H1 p1 r1 hS1 h1 => hd.nx _ _ _ _ p1 (hζ.mono p1) hS1 h1⟩
def zRet (we : ZE) : ZS := fun d ζ S => we ζ S d.rt
theorem zs_ret (he : PZ X e we) : PZS X (.Return (some e) pos) (zRet we) := (ps_ret he).zimp fun D σ H ⟨ζ, S, d, hζ, hS, hw, hd⟩ =>
  ⟨ζ, S, _, hζ, hS, hw, fun v S1 x H1 p1 r1 hS1 h1 => hd.rt _ _ _ _ p1 r1 hS1 h1⟩
def zRetN : ZS := fun d _ S => d.rt .non S
theorem zs_retN : PZS X (.Return none pos) zRetN := ps_retN.zimp fun D σ H ⟨ζ, S, d, hζ, hS, hw, hd⟩ => hd.rt _ _ _ _ (.refl H) .non hS hw
def zIfS (c : ZT) (t u : ZS) : ZS := fun d ζ S => c ζ S fun b S1 => if b = true then t d ζ S1 else u d ζ S1
theorem zs_if {c : Expr} {a b : List Stmt} {tc : ZT} (hc : PZT X c tc) (ha : PZSs X a w) (hb : PZSs X b u) : PZS X (.If c a b pos) (zIfS tc w u) := (ps_if hc ha hb).zimp fun D σ H ⟨ζ, S, d, hζ, hS, hw, hd⟩ =>
  ⟨ζ, S, _, hζ, hS, hw, fun c S1 H1 p1 hS1 h1 => by
    cases c with
    | true => exact ⟨ζ, S1, d, hζ.mono p1, hS1, h1, hd.mono p1⟩
    | false => exact ⟨ζ, S1, d, hζ.mono p1, hS1, h1, hd.mono p1⟩⟩
def zNever : ZS := fun _ _ _ => False
theorem zs_never : PZS X st zNever := ps_never.zimp fun D σ H ⟨ζ, S, d, hζ, hS, hw, hd⟩ => hw.elim

/-! targets -/
abbrev ZG := Val → Env → Sto → (Env → Sto → Prop) → Prop
abbrev ZGs := List Val → Env → Sto → (Env → Sto → Prop) → Prop
def LG (K : PySem.W.Frag) (g : ZG) : TG := fun x σ H Q => ∃ v ζ S q, RV K H v x ∧ REnv K H ζ σ ∧ Rep K S H ∧ g v ζ S q ∧ ∀ ζ' S' σ' H', Pres H H' → REnv K H' ζ' σ' → Rep K S' H' → q ζ' S' → Q σ' H'
def LGs (K : PySem.W.Frag) (g : ZGs) : TGs := fun xs σ H Q => ∃ vs ζ S q, RVs K H vs xs ∧ REnv K H ζ σ ∧ Rep K S H ∧ g vs ζ S q ∧ ∀ ζ' S' σ' H', Pres H H' → REnv K H' ζ' σ' → Rep K S' H' → q ζ' S' → Q σ' H'
abbrev PZG (X : Cx) (t : Expr) (g : ZG) : Prop := PG X t (LG X.K g)
abbrev PZGs (X : Cx) (t : List Expr) (g : ZGs) : Prop := PGs X t (LGs X.K g)
theorem _root_.L2.PG.zimp {X : Cx} {e : Expr} {t t' : TG} (h : PG X e t) (i : ∀ x σ H Q, t' x σ H Q → t x σ H Q) : PG X e t' := ⟨fun pins s σ H x u Q I r q => h.run pins s σ H x u Q I r (i _ _ _ _ q)⟩
end
end Z

namespace Z
open PySem PySem.Spec PyProof.Rows L2
section
variable {X : Cx} {pos : Pos} {e : Expr} {we : ZE}
theorem _root_.L2.PGs.zimp {X : Cx} {e : List Expr} {t t' : TGs} (h : PGs X e t) (i : ∀ x σ H Q, t' x σ H Q → t x σ H Q) : PGs X e t' := ⟨fun pins s σ H x u Q I r q => h.run pins s σ H x u Q I r (i _ _ _ _ q)⟩
/-! ### targets -/
/-- only the slots own are written -/
structure Kept (own : List Nat) (σ σ' : L2.St) : Prop where
  len : σ'.length = σ.length
  at_ : ∀ i : Nat, i ∉ own → σ'[i]? = σ[i]?
theorem Kept.refl (own : List Nat) (σ : L2.St) : Kept own σ σ := ⟨rfl, fun _ _ => rfl⟩
theorem Kept.trans {own : List Nat} {σ σ1 σ2 : L2.St} (a : Kept own σ σ1) (b : Kept own σ1 σ2) : Kept own σ σ2 := ⟨b.len.trans a.len, fun i h => (b.at_ i h).trans (a.at_ i h)⟩
def LGo (K : PySem.W.Frag) (own : List Nat) (g : ZG) : TG := fun x σ H Q => ∃ v ζ S q, RV K H v x ∧ REnv K H ζ σ ∧ Rep K S H ∧ g v ζ S q ∧ ∀ ζ' S' σ' H', Pres H H' → REnv K H' ζ' σ' → Rep K S' H' → Kept own σ σ' → q ζ' S' → Q σ' H'
def LGos (K : PySem.W.Frag) (own : List Nat) (g : ZGs) : TGs := fun xs σ H Q => ∃ vs ζ S q, RVs K H vs xs ∧ REnv K H ζ σ ∧ Rep K S H ∧ g vs ζ S q ∧ ∀ ζ' S' σ' H', Pres H H' → REnv K H' ζ' σ' → Rep K S' H' → Kept own σ σ' → q ζ' S' → Q σ' H'
abbrev PZGo (X : Cx) (t : Expr) (own : List Nat) (g : ZG) : Prop := PG X t (LGo X.K own g)
abbrev PZGos (X : Cx) (t : List Expr) (own : List Nat) (g : ZGs) : Prop := PGs X t (LGos X.K own g)
theorem PZGo.g {t : Expr} {own : List Nat} {g : ZG} (h : PZGo X t own g) : PZG X t g := h.zimp fun x σ H Q ⟨v, ζ, S, q, r, hζ, hS, hw, hq⟩ => ⟨v, ζ, S, q, r, hζ, hS, hw, fun ζ' S' σ' H' p z s _ => hq ζ' S' σ' H' p z s⟩
def zgName (i : Nat) : ZG := fun v ζ S q => q (ζ.set i (some v)) S
theorem zg_name {i : Nat} {x : Str} {own : List Nat} (h : PG X (.Name x pos) (gName i)) (ho : own.contains i = true := by decide) : PZGo X (.Name x pos) own (zgName i) := h.zimp fun x σ H Q ⟨v, ζ, S, q, r, hζ, hS, hw, hq⟩ => hq _ _ _ _ (.refl H) (hζ.set r) hS
  ⟨List.length_set, fun j hj => List.getElem?_set_ne (fun e => hj (by subst e; simpa using ho))⟩ hw
def zgNil : ZGs := fun vs ζ S q => vs = [] ∧ q ζ S
def zgCons (t : ZG) (u : ZGs) : ZGs := fun vs ζ S q => match vs with | v :: r => t v ζ S fun ζ' S' => u r ζ' S' q | [] => False
theorem zgs_nil {own : List Nat} : PZGos X [] own zgNil := pgs_nil.zimp fun xs σ H Q ⟨vs, ζ, S, q, r, hζ, hS, hw, hq⟩ => by
  obtain ⟨e, hw⟩ := hw
  subst e
  exact ⟨r.nil_iff.mpr rfl, hq _ _ _ _ (.refl H) hζ hS (.refl _ _) hw⟩
theorem zgs_cons {es : List Expr} {own : List Nat} {t : ZG} {u : ZGs} (h1 : PZGo X e own t) (h2 : PZGos X es own u) (hs : (assignEach (e :: es) X.env).map (·.2) = assign e X.env :: (assignEach es X.env).map (·.2) := by rfl) : PZGos X (e :: es) own (zgCons t u) :=
  (pgs_cons h1 h2 hs).zimp fun xs σ H Q ⟨vs, ζ, S, q, r, hζ, hS, hw, hq⟩ => by
    unfold zgCons at hw
    cases r with
    | nil => exact hw.elim
    | cons r rr =>
      exact ⟨_, _, rfl, _, ζ, S, _, r, hζ, hS, hw, fun ζ' S' σ' H' p hz hs k1 hu => ⟨_, ζ', S', q, RVs.mono rr p, hz, hs, hu, fun ζ2 S2 σ2 H2 p2 z2 s2 k2 => hq ζ2 S2 σ2 H2 (p.trans p2) z2 s2 (k1.trans k2)⟩⟩
def zgTup (n : Nat) (t : ZGs) : ZG := fun v ζ S q => match v with | .tup vs => vs.length = n ∧ t vs ζ S q | _ => False
theorem zg_tup {es : List Expr} {k : Nat} {own : List Nat} {t : ZGs} {n : Nat} (hc : X.calm = true) (h : PZGos X es own t)
    (hn : (assignEach es X.env).length = n := by rfl) (hst : (assignEach es X.env).findIdx? (·.1) = none := by rfl) : PZGo X (.Tuple es k pos) own (zgTup n t) := (pg_tup hc h hn hst).zimp fun x σ H Q ⟨v, ζ, S, q, r, hζ, hS, hw, hq⟩ => by
  unfold zgTup at hw
  split at hw
  · obtain ⟨a, xs, rfl, sa, ra⟩ := r.tupE
    exact ⟨a, xs, rfl, sa, by rw [← ra.length]; exact hw.1, _, ζ, S, q, ra, hζ, hS, hw.2, hq⟩
  · exact hw.elim
/-- o[i] = v of a list -/
def gsubM (v : Val) (ζ : Env) (q : Env → Sto → Prop) (o i : Val) (S2 : Sto) : Prop := match o, i with
  | .ref a, .int k => (match S2 a with
    | some (.lst vs) => (match ixN vs.length k with | some j => q ζ (S2.upd a (.lst (vs.set j v))) | none => False)
    | _ => False)
  | _, _ => False
def zgSub (wo wi : ZE) : ZG := fun v ζ S q => wo ζ S fun o S1 => wi ζ S1 fun i S2 => gsubM v ζ q o i S2
theorem zg_sub {o i : Expr} {wo wi : ZE} (ho : PZ X o wo) (hi : PZ X i wi)
    (ha : ∀ v, assign (.Subscript o i pos) X.env v = (do
      let ov ← holding [v] (eval o X.env)
      let iv ← holding [v, ov] (eval i X.env)
      standAt pos
      holding [v, ov, iv] (setItem ov iv v)
      release [v, ov, iv] []) := by intro _; rfl) : PZG X (.Subscript o i pos) (zgSub wo wi) := (pg_sub ho hi set_list ha).zimp fun x σ H Q ⟨v, ζ, S, q, r, hζ, hS, hw, hq⟩ =>
  ⟨ζ, S, _, hζ, hS, hw, fun ov S1 ox H1 p1 r1 hS1 h1 => ⟨ζ, S1, _, hζ.mono p1, hS1, h1, fun iv S2 ix H2 p2 r2 hS2 h2 => by
    have r1' := r1.mono p2
    unfold gsubM at h2
    split at h2
    · rename_i a k
      split at h2
      · rename_i vs ea
        split at h2
        · rename_i j ej
          obtain ⟨xs, ha', ra⟩ := hS2 _ _ ea
          cases r1'; cases r2
          have pr := (p1.trans p2).trans (hS2.pres (o := .lst (xs.set j x)) ea)
          exact ⟨_, xs, _, j, rfl, rfl, ha', by rw [← ra.length]; exact ej, hq _ _ _ _ pr (hζ.mono pr)
            (hS2.mut (m := .lst (vs.set j v)) ea fun pp => ⟨_, L2.upd_same, RVs.mono (Z.Paired.st (r.mono (p1.trans p2)) j ra) pp⟩) h2⟩
        · exact h2.elim
      · exact h2.elim
    · exact h2.elim⟩⟩
/-! ### assignments -/
def zAsg (we : ZE) (g : ZG) : ZS := fun d ζ S => we ζ S fun v S1 => g v ζ S1 d.nx
theorem zasg_ok {K : PySem.W.Frag} {we : ZE} {g : ZG} : ∀ D σ H, LS K (zAsg we g) D σ H → tAsg (LE K we) (LG K g) D σ H := fun D σ H ⟨ζ, S, d, hζ, hS, hw, hd⟩ =>
  ⟨ζ, S, _, hζ, hS, hw, fun v S1 x H1 p1 r1 hS1 h1 => ⟨v, ζ, S1, d.nx, r1, hζ.mono p1, hS1, h1, fun ζ' S' σ' H' p => hd.nx ζ' S' σ' H' (p1.trans p)⟩⟩
theorem zs_asg {tg : Expr} {g : ZG} (he : PZ X e we) (hg : PZG X tg g) (hs : swapsWithSole [tg] e pos.line X.env = pure false := by rfl) (hw : swappedStores [tg] e X.env = pure none := by rfl)
    (h1 : (assignEach [tg] X.env).map (·.2) = [assign tg X.env] := by rfl) : PZS X (.Assign [tg] e pos) (zAsg we g) := (ps_asg he hg hs hw h1).zimp zasg_ok
theorem zs_set {i : Nat} {x : Str} {pos' : Pos} (hN : X.N.Nodup) (hi : X.N[i]? = some x) (hx : Loc X.env.scope x) (he : PZ X e we) (hs : swapsWith e (some (.Name x pos')) pos.line X.env = pure false := by rfl) (hf : X.fn x = true ∨ X.env.scope.names.lookup x = some .local := by first | exact .inl rfl | exact .inr rfl | assumption) :
    PZS X (.Assign [.Name x pos'] e pos) (zAsg we (zgName i)) := (ps_set hN hi hx he hs hf).zimp fun D σ H ⟨ζ, S, d, hζ, hS, hw, hd⟩ =>
  ⟨ζ, S, _, hζ, hS, hw, fun v S1 x H1 p1 r1 hS1 h1 => hd.nx _ _ _ _ p1 ((hζ.mono p1).set r1) hS1 h1⟩
/-- a, b = x, y; a, b, c = x, y, z of local names -/
def zPar (i j : Nat) (wa : ZA) : ZS := fun d ζ S => wa ζ S fun vs S1 => match vs with | [v, w] => d.nx ((ζ.set i (some v)).set j (some w)) S1 | _ => False
theorem zs_par {i j : Nat} {x y : Str} {a b : Expr} {wa : ZA} {px py pt : Pos} {kt k2 pt2} (hc : X.calm = true) (hN : X.N.Nodup) (hi : X.N[i]? = some x) (hj : X.N[j]? = some y) (hij : i ≠ j)
    (hx : X.env.scope.names.lookup x = some .local) (hy : X.env.scope.names.lookup y = some .local) (ha : PZA X [a, b] wa)
    (hw : swappedStores [.Tuple [.Name x px, .Name y py] kt pt] (.Tuple [a, b] k2 pt2) X.env = pure (some [x, y]))
    (hs : swapsWithSole [.Tuple [.Name x px, .Name y py] kt pt] (.Tuple [a, b] k2 pt2) pos.line X.env = pure false := by rfl) :
    PZS X (.Assign [.Tuple [.Name x px, .Name y py] kt pt] (.Tuple [a, b] k2 pt2) pos) (zPar i j wa) := (ps_par hc hN hi hj hij hx hy ha hw hs).zimp fun D σ H ⟨ζ, S, d, hζ, hS, hw, hd⟩ =>
  ⟨ζ, S, _, hζ, hS, hw, fun vs S1 xs H1 p1 r1 hS1 h1 => by
    split at h1
    · cases r1 with
      | cons r r' =>
        cases r' with
        | cons r2 r3 =>
          cases r3
          exact ⟨_, _, rfl, hd.nx _ _ _ _ p1 (((hζ.mono p1).set r).set r2) hS1 h1⟩
    · exact h1.elim⟩
def zPar3 (i j l : Nat) (wa : ZA) : ZS := fun d ζ S => wa ζ S fun vs S1 => match vs with | [v, w, u] => d.nx (((ζ.set i (some v)).set j (some w)).set l (some u)) S1 | _ => False
/-- x op= e -/
def ZIpOK (K : PySem.W.Frag) (t : TIp) (z : ZR2) : Prop := ∀ v u S q x y H Q, RV K H v x → RV K H u y → Rep K S H → z v u S q → (∀ v S' x H', Pres H H' → RV K H' v x → Rep K S' H' → q v S' → Q x H') → t x y H Q
def zAug (i : Nat) (we : ZE) (z : ZR2) : ZS := fun d ζ S => match ζ[i]? with
  | some (some v) => we ζ S fun u S1 => z v u S1 fun r S2 => d.nx (ζ.set i (some r)) S2
  | _ => False
theorem zs_aug {i : Nat} {x : Str} {op : Operator} {t : TIp} {z : ZR2} {pos' : Pos} (hN : X.N.Nodup) (hi : X.N[i]? = some x) (hx : Loc X.env.scope x) (he : PZ X e we) (ho : PIp X op t) (hz : ZIpOK X.K t z) (hf : X.fn x = true ∨ X.env.scope.names.lookup x = some .local := by first | exact .inl rfl | exact .inr rfl | assumption) :
    PZS X (.AugAssign (.Name x pos') op e pos) (zAug i we z) := (ps_aug hN hi hx he ho hf).zimp fun D σ H ⟨ζ, S, d, hζ, hS, hw, hd⟩ => by
  unfold zAug at hw
  split at hw
  · rename_i v ev
    obtain ⟨x, ex, rx⟩ := hζ.at_ i v ev
    exact ⟨x, ex, ζ, S, _, hζ, hS, hw, fun u S1 y H1 p1 r1 hS1 h1 => hz v u S1 _ x y H1 _ (rx.mono p1) r1 hS1 h1 fun r S2 z H2 p2 r2 hS2 h2 => hd.nx _ _ _ _ (p1.trans p2) ((hζ.mono (p1.trans p2)).set r2) hS2 h2⟩
  · exact hw.elim
theorem zip_add : ZIpOK X.K (ipI fun i j => i + j) (zI0 fun i j => .int (i + j)) := by
  intro v u S q x y H Q rv ru hS hz k
  unfold zI0 at hz
  split at hz
  · cases rv; cases ru
    exact ⟨_, _, rfl, rfl, k _ _ _ _ (.refl H) (.int _) hS hz⟩
  · exact hz.elim
theorem zip_sub : ZIpOK X.K (ipI fun i j => i - j) (zI0 fun i j => .int (i - j)) := by
  intro v u S q x y H Q rv ru hS hz k
  unfold zI0 at hz
  split at hz
  · cases rv; cases ru
    exact ⟨_, _, rfl, rfl, k _ _ _ _ (.refl H) (.int _) hS hz⟩
  · exact hz.elim
/-! ### while -/
def zWhile (c : ZT) (tb : ZS) : ZS := fun d ζ S => ∃ I : Nat → Env → Sto → Prop, (∃ m, I m ζ S) ∧ ∀ m ζ S, I m ζ S →
  c ζ S fun b S1 => if b = true then tb { d with nx := fun ζ' S' => ∃ m', m' < m ∧ I m' ζ' S', ct := fun ζ' S' => ∃ m', m' < m ∧ I m' ζ' S', bk := d.nx } ζ S1 else d.nx ζ S1
theorem zs_while {c : Expr} {body : List Stmt} {tc : ZT} {tb : ZS} (hp : PassesOwn (model X.prog X.w) X.A X.env X.xe) (hc : PZT X c tc) (hb : PZSs X body tb) : PZS X (.While c body [] pos) (zWhile tc tb) := (ps_while hp hc hb).zimp fun D σ H ⟨ζ, S, d, hζ, hS, hw, hd⟩ => by
  obtain ⟨I, ⟨m, hm⟩, step⟩ := hw
  refine ⟨fun m σ1 H1 => ∃ ζ1 S1, Pres H H1 ∧ REnv X.K H1 ζ1 σ1 ∧ Rep X.K S1 H1 ∧ I m ζ1 S1, ⟨m, ζ, S, .refl H, hζ, hS, hm⟩, fun m σ1 H1 ⟨ζ1, S1, p1, z1, s1, i1⟩ => ?_⟩
  refine ⟨ζ1, S1, _, z1, s1, step m ζ1 S1 i1, fun b S2 H2 p2 hS2 h2 => ?_⟩
  cases b with
  | true =>
    rw [if_pos rfl] at h2 ⊢
    refine ⟨fun σ' H' => ∃ m', m' < m ∧ ∃ ζ' S', Pres H H' ∧ REnv X.K H' ζ' σ' ∧ Rep X.K S' H' ∧ I m' ζ' S', fun σ' H' h => h, ?_⟩
    have pp := p1.trans p2
    exact ⟨ζ1, S2, _, z1.mono p2, hS2, h2, ⟨fun ζ' S' σ' H' p hz hs ⟨m', lt, hi⟩ => ⟨m', lt, ζ', S', pp.trans p, hz, hs, hi⟩, fun v S x H' p => (hd.mono pp).rt v S x H' p, fun ζ' S' σ' H' p => (hd.mono pp).nx ζ' S' σ' H' p, fun ζ' S' σ' H' p hz hs ⟨m', lt, hi⟩ => ⟨m', lt, ζ', S', pp.trans p, hz, hs, hi⟩⟩⟩
  | false =>
    rw [if_neg Bool.false_ne_true] at h2 ⊢
    exact hd.nx _ _ _ _ (p1.trans p2) (z1.mono p2) hS2 h2

/-! ### what is walked -/
/-- J gives the values vs, one a turn, while G holds of the store; H0: the heap at its begin -/
structure ZWalk (K : PySem.W.Frag) (J : It) (H0 : Hp) (vs : List Val) (G : Sto → Prop) : Prop where
  goes : ∀ (i : Nat) H S, i < vs.length → Pres H0 H → Rep K S H → G S → J.go i H
  stops : ∀ H S, Pres H0 H → Rep K S H → G S → J.stop vs.length H
  yields : ∀ (i : Nat) H S x H', i < vs.length → Pres H0 H → Rep K S H → G S → J.yld i H x H' → ∃ v, vs[i]? = some v ∧ RV K H' v x ∧ Pres H H' ∧ Rep K S H'
abbrev ZI := Env → Sto → (List Val → (Sto → Prop) → Sto → Prop) → Prop
def LI (K : PySem.W.Frag) (wi : ZI) : TI := fun σ H R => ∃ ζ S r, REnv K H ζ σ ∧ Rep K S H ∧ wi ζ S r ∧ ∀ J H1 vs G S1, Pres H H1 → Rep K S1 H1 → r vs G S1 → ZWalk K J H1 vs G → R J H1
abbrev PZI (X : Cx) (tg it : Expr) (wi : ZI) : Prop := PI X tg it (LI X.K wi)
theorem _root_.L2.PI.zimp {X : Cx} {tg e : Expr} {t t' : TI} (h : PI X tg e t) (i : ∀ σ H R, t' σ H R → t σ H R) : PI X tg e t' := ⟨fun pins s σ H R I q => h.run pins s σ H R I (i _ _ _ q)⟩
/-- from a walk of the layer whose items stand still -/
theorem ZWalk.of {K : PySem.W.Frag} {J : It} {H0 : Hp} {vs : List Val} {G : Sto → Prop} (go : ∀ (i : Nat) H S, i < vs.length → Pres H0 H → Rep K S H → G S → J.go i H ∧ ∀ x H', J.yld i H x H' → ∃ v, vs[i]? = some v ∧ RV K H' v x ∧ Pres H H' ∧ Rep K S H')
    (st : ∀ H S, Pres H0 H → Rep K S H → G S → J.stop vs.length H) : ZWalk K J H0 vs G := ⟨fun i H S h p r g => (go i H S h p r g).1, st, fun i H S x H' h p r g y => (go i H S h p r g).2 x H' y⟩
theorem zwalk_list {K : PySem.W.Frag} {a : Addr} {vs : List Val} {H0 : Hp} : ZWalk K (Itl K a) H0 vs (fun S => S a = some (.lst vs)) :=
  .of (fun i H S hi p hS hg => by
    obtain ⟨xs, ha, ra⟩ := hS _ _ hg
    have hx : i < xs.length := by rw [← ra.length]; exact hi
    refine ⟨⟨xs, xs[i], SqL.of ha, by simp [hx]⟩, fun x H' ⟨e, y⟩ => ?_⟩
    subst e
    refine ⟨vs[i], by simp [hi], ?_, .refl _, hS⟩
    exact Paired.ix ra i _ _ (by simp [hi]) (y xs (SqL.of ha)))
  fun H S p hS hg => by
    obtain ⟨xs, ha, ra⟩ := hS _ _ hg
    exact ⟨xs, SqL.of ha, by rw [ra.length]; exact Nat.le_refl _⟩
theorem zwalk_fl {K : PySem.W.Frag} {a : Addr} {xs : List V} {vs : List Val} {H0 : Hp} (hs : FzL K H0 a xs) (ra : RVs K H0 vs xs) : ZWalk K (Itl K a) H0 vs (fun _ => True) :=
  .of (fun i H S hi p hS hg => by
    have hx : i < xs.length := by rw [← ra.length]; exact hi
    have sq := (p.fzL hs).sq
    refine ⟨⟨xs, xs[i], sq, by simp [hx]⟩, fun x H' ⟨e, y⟩ => ?_⟩
    subst e
    exact ⟨vs[i], by simp [hi], (Paired.ix ra i _ _ (by simp [hi]) (y xs sq)).mono p, .refl _, hS⟩)
  fun H S p hS hg => ⟨xs, (p.fzL hs).sq, by rw [ra.length]; exact Nat.le_refl _⟩
theorem zwalk_tup {K : PySem.W.Frag} {a : Addr} {xs : List V} {vs : List Val} {H0 : Hp} (hs : SqT K H0 a xs) (ra : RVs K H0 vs xs) : ZWalk K (Itt K a) H0 vs (fun _ => True) :=
  .of (fun i H S hi p hS hg => by
    have hx : i < xs.length := by rw [← ra.length]; exact hi
    have sq := p.sqT hs
    refine ⟨⟨xs, xs[i], sq, by simp [hx]⟩, fun x H' ⟨e, y⟩ => ?_⟩
    subst e
    exact ⟨vs[i], by simp [hi], (Paired.ix ra i _ _ (by simp [hi]) (y xs sq)).mono p, .refl _, hS⟩)
  fun H S p hS hg => ⟨xs, p.sqT hs, by rw [ra.length]; exact Nat.le_refl _⟩
def rgv (lo : Int) (n : Nat) : List Val := (List.range n).map fun (i : Nat) => Val.int (lo + (i : Int))
theorem ints_length {lo : Int} {n : Nat} : (rgv lo n).length = n := by simp [rgv]
theorem ints_get {lo : Int} {n i : Nat} (h : i < n) : (rgv lo n)[i]? = some (.int (lo + (i : Int))) := by simp [rgv, h]
theorem zwalk_range {K : PySem.W.Frag} {lo : Int} {n : Nat} {H0 : Hp} : ZWalk K (Itr lo n) H0 (rgv lo n) (fun _ => True) :=
  .of (fun i H S hi p hS hg => by
    rw [ints_length] at hi
    refine ⟨hi, fun x H' ⟨e, y⟩ => ?_⟩
    subst e y
    exact ⟨_, ints_get hi, .int _, .refl _, hS⟩)
  fun H S p hS hg => by rw [ints_length]; exact Nat.le_refl _
def RgOk2 (i : Int) : Prop := -(2 ^ 62) ≤ i ∧ i < 2 ^ 62
def ziRng1 (we : ZE) : ZI := fun ζ S r => we ζ S fun v S1 => match v with | .int j => RgOk2 j ∧ r (rgv 0 j.toNat) (fun _ => True) S1 | _ => False
def ziRng2 (wa wb : ZE) : ZI := fun ζ S r => wa ζ S fun v S1 => wb ζ S1 fun u S2 => match v, u with | .int i, .int j => (RgOk2 i ∧ RgOk2 j) ∧ r (rgv i (j - i).toNat) (fun _ => True) S2 | _, _ => False
/-- a list or a tuple that is walked itself -/
def iseqM (v : Val) (S1 : Sto) (r : List Val → (Sto → Prop) → Sto → Prop) : Prop := match v with
  | .tup vs => r vs (fun _ => True) S1
  | .fl vs => r vs (fun _ => True) S1
  | .ref a => (match S1 a with | some (.lst vs) => r vs (fun S => S a = some (.lst vs)) S1 | _ => False)
  | _ => False
def ziSeq (we : ZE) : ZI := fun ζ S r => we ζ S fun v S1 => iseqM v S1 r

/-- a list or a tuple -/
theorem pi_seq {tg l : Expr} {tl : TE} (hl : PE X l tl) : PI X tg l (fun σ H R => tl σ H fun x H1 => ∃ a, x = .ref a ∧ (((∃ xs, SqL X.K H1 a xs) ∧ R (Itl X.K a) H1) ∨ ((∃ xs, SqT X.K H1 a xs) ∧ R (Itt X.K a) H1))) := by
  refine ⟨fun pins s σ H R I h => ?_⟩
  refine thn (hl.run pins s σ H _ I h) fun v s1 ⟨x, H1, I1, r1, q1⟩ => ?_
  obtain ⟨a, e, q1⟩ := q1
  subst e
  cases r1
  have fr : ∀ b ∈ [s1.heap.objs.size], FpOk X pins H1 b := fun b hb => by
    have e : b = s1.heap.objs.size := by simpa using hb
    subst e
    exact I1.fpOk (Nat.le_refl _) (I1.hok.fresh (Nat.le_refl _))
  rcases q1 with ⟨⟨xs, hq⟩, q⟩ | ⟨⟨xs, hq⟩, q⟩
  · obtain ⟨its, rv, p, hz⟩ := I1.list hq
    refine wpAny_pyIter_list p.isList ?_
    exact ⟨s1.heap.objs.size, [s1.heap.objs.size], _, _, H1, rfl, I1.kept (t' := s1.toks) fun b o e => Heap.get?_push_of_some _ e, turn_list a _, ⟨_, Heap.get?_push_size _ rfl, rfl, rfl⟩, fr, q⟩
  · obtain ⟨its, rv, p, hz⟩ := I1.tuple hq
    refine wpAny_pyIter_tuple (show s1.heap.IsTuple a its.toArray from p) ?_
    exact ⟨s1.heap.objs.size, [s1.heap.objs.size], _, _, H1, rfl, I1.kept (t' := s1.toks) fun b o e => Heap.get?_push_of_some _ e, turn_tuple a _, ⟨_, Heap.get?_push_size _ rfl, rfl, rfl⟩, fr, q⟩
theorem zi_seq {tg : Expr} (he : PZ X e we) : PZI X tg e (ziSeq we) := (pi_seq he).zimp fun σ H R ⟨ζ, S, r, hζ, hS, hw, hr⟩ =>
  ⟨ζ, S, _, hζ, hS, hw, fun v S1 x H1 p1 r1 hS1 h1 => by
    unfold iseqM at h1
    split at h1
    · obtain ⟨a, xs, rfl, sa, ra⟩ := r1.tupE
      exact ⟨a, rfl, .inr ⟨⟨xs, sa⟩, hr _ _ _ _ _ p1 hS1 h1 (zwalk_tup sa ra)⟩⟩
    · obtain ⟨a, xs, rfl, sa, ra⟩ := r1.flE
      exact ⟨a, rfl, .inl ⟨⟨xs, sa.sq⟩, hr _ _ _ _ _ p1 hS1 h1 (zwalk_fl sa ra)⟩⟩
    · split at h1
      · rename_i a _ vs ea
        obtain ⟨xs, ha, ra⟩ := hS1 _ _ ea
        cases r1
        exact ⟨_, rfl, .inl ⟨⟨xs, SqL.of ha⟩, hr _ _ _ _ _ p1 hS1 h1 zwalk_list⟩⟩
      · exact h1.elim
    · exact h1.elim⟩
theorem one_arg {K : PySem.W.Frag} {we : ZE} {σ : L2.St} {H : Hp} {Q : List V → Hp → Prop} (h : LE K we σ H fun x H1 => Q [x] H1) : tCons (LE K we) tNil σ H Q := h
theorem zi_range1 {tg a : Expr} {p : Pos} (hg : Gl X "range") (hm : X.mg "range" = none) (ha : PZ X a we) (hs : starEach [a] X.env = [(false, eval a X.env)] := by rfl) (hs0 : starEach [a] X.env = (false, eval a X.env) :: starEach [] X.env := by rfl) :
    PZI X tg (.Call (.Name "range" p) [a] [] pos) (ziRng1 we) := (pi_range1 hg hm (pa_cons ha pa_nil hs0) hs).zimp fun σ H R ⟨ζ, S, r, hζ, hS, hw, hr⟩ =>
  one_arg ⟨ζ, S, _, hζ, hS, hw, fun v S1 x H1 p1 r1 hS1 h1 => by
    split at h1
    · rename_i j
      cases r1
      exact ⟨j, rfl, h1.1.1, h1.1.2, hr _ _ _ _ _ p1 hS1 h1.2 zwalk_range⟩
    · exact h1.elim⟩
theorem zi_range2 {tg a b : Expr} {p : Pos} {wb : ZE} (hg : Gl X "range") (hm : X.mg "range" = none) (ha : PZ X a we) (hb : PZ X b wb) (hs : starEach [a, b] X.env = [(false, eval a X.env), (false, eval b X.env)] := by rfl) (hs2 : starEach [b] X.env = [(false, eval b X.env)] := by rfl)
    (hs3 : starEach [a, b] X.env = (false, eval a X.env) :: starEach [b] X.env := by rfl) (hs4 : starEach [b] X.env = (false, eval b X.env) :: starEach [] X.env := by rfl) :
    PZI X tg (.Call (.Name "range" p) [a, b] [] pos) (ziRng2 we wb) := (pi_range2 hg hm (pa_cons ha (pa_cons hb pa_nil hs4) hs3) hs hs2).zimp fun σ H R ⟨ζ, S, r, hζ, hS, hw, hr⟩ =>
  show LE X.K we σ H _ from ⟨ζ, S, _, hζ, hS, hw, fun v S1 x H1 p1 r1 hS1 h1 => show LE X.K wb σ H1 _ from ⟨ζ, S1, _, hζ.mono p1, hS1, h1, fun u S2 y H2 p2 r2 hS2 h2 => by
    have r1' := r1.mono p2
    split at h2
    · rename_i i j
      cases r1'; cases r2
      exact ⟨i, j, rfl, ⟨h2.1.1.1, h2.1.1.2, h2.1.2.1, h2.1.2.2⟩, hr _ _ _ _ _ (p1.trans p2) hS2 h2.2 zwalk_range⟩
    · exact h2.elim⟩⟩
/-! ### for -/
def forGo (g : ZG) (tb : ZS) (d : ZEnds) (ζ : Env) : List Val → (Sto → Prop) → Sto → Prop := fun vs G S1 => ∃ I : Nat → Env → Sto → Prop, I 0 ζ S1 ∧ (∀ i ζ S, i ≤ vs.length → I i ζ S → G S) ∧
  (∀ (i : Nat) v ζ S, vs[i]? = some v → I i ζ S → g v ζ S fun ζ' S' => tb { d with nx := I (i + 1), ct := I (i + 1), bk := d.nx } ζ' S') ∧ ∀ ζ S, I vs.length ζ S → d.nx ζ S
def zFor (wi : ZI) (g : ZG) (tb : ZS) : ZS := fun d ζ S => wi ζ S (forGo g tb d ζ)
theorem zs_for {tg iter : Expr} {body : List Stmt} {wi : ZI} {g : ZG} {tb : ZS} (hp : PassesOwn (model X.prog X.w) X.A X.env X.xe) (hc : X.calm = true) (hi : PZI X tg iter wi) (hg : PZG X tg g) (hb : PZSs X body tb)
    (hs : ∀ x, foldedSetIterable iter X.env x = pure x := by intro _; rfl) : PZS X (.For tg iter body [] pos) (zFor wi g tb) := (ps_for hp hc hi hg hb hs).zimp fun D σ H ⟨ζ, S, d, hζ, hS, hw, hd⟩ =>
  ⟨ζ, S, _, hζ, hS, hw, fun J H1 vs G S1 p1 hS1 ⟨I, h0, hG, step, fin⟩ wk => by
    refine ⟨fun i m σ' H' => m = vs.length - i ∧ i ≤ vs.length ∧ ∃ ζ' S', Pres H1 H' ∧ REnv X.K H' ζ' σ' ∧ Rep X.K S' H' ∧ I i ζ' S', ⟨vs.length, by simp, Nat.zero_le _, ζ, S1, .refl H1, hζ.mono p1, hS1, h0⟩, ?_⟩
    rintro i m σ' H' ⟨rfl, hi', ζ', S', p', z', s', i'⟩
    have gs := hG i ζ' S' hi' i'
    by_cases hlt : i < vs.length
    · refine .inr ⟨wk.goes i H' S' hlt p' s' gs, fun σ2 H2 => ∃ ζ2 S2, Pres H1 H2 ∧ REnv X.K H2 ζ2 σ2 ∧ Rep X.K S2 H2 ∧ I (i + 1) ζ2 S2, fun σ2 H2 h => ⟨vs.length - (i + 1), by omega, rfl, hlt, h⟩, fun x H2 y => ?_⟩
      obtain ⟨v, ev, rv, p2, s2⟩ := wk.yields i H' S' x H2 hlt p' s' gs y
      refine ⟨v, ζ', S', _, rv, z'.mono p2, s2, step i v ζ' S' ev i', fun ζ3 S3 σ3 H3 p3 z3 s3 h3 => ?_⟩
      have pp : Pres H1 H3 := (p'.trans p2).trans p3
      have hd' := hd.mono (p1.trans pp)
      exact ⟨ζ3, S3, _, z3, s3, h3, ⟨fun ζ4 S4 σ4 H4 p4 z4 s4 h4 => ⟨ζ4, S4, pp.trans p4, z4, s4, h4⟩, fun v S x H p => hd'.rt v S x H p, fun ζ S σ H p => hd'.nx ζ S σ H p, fun ζ4 S4 σ4 H4 p4 z4 s4 h4 => ⟨ζ4, S4, pp.trans p4, z4, s4, h4⟩⟩⟩
    · have e : i = vs.length := by omega
      subst e
      exact .inl ⟨wk.stops H' S' p' s' gs, hd.nx _ _ _ _ (p1.trans p') z' s' (fin _ _ i')⟩⟩
end
end Z

namespace Z
open PySem PySem.Spec PyProof.Rows L2
section
variable {X : Cx} {pos : Pos} {e : Expr} {es : List Expr} {we : ZE} {ws : ZA}
/-! ### arguments, tuples, lists -/
def zaNil : ZA := fun _ S q => q [] S
def zaCons (we : ZE) (ws : ZA) : ZA := fun ζ S q => we ζ S fun v S1 => ws ζ S1 fun vs S2 => q (v :: vs) S2
theorem za_nil : PZA X [] zaNil := pa_nil.zimp fun σ H Q ⟨ζ, S, q, hζ, hS, hw, hq⟩ => hq _ _ _ _ (.refl H) .nil hS hw
theorem za_cons (ha : PZ X e we) (hr : PZA X es ws) (hs : starEach (e :: es) X.env = (false, eval e X.env) :: starEach es X.env := by rfl) : PZA X (e :: es) (zaCons we ws) := (pa_cons ha hr hs).zimp fun σ H Q ⟨ζ, S, q, hζ, hS, hw, hq⟩ =>
  ⟨ζ, S, _, hζ, hS, hw, fun v S1 x H1 p1 r1 hS1 h1 => ⟨ζ, S1, _, hζ.mono p1, hS1, h1, fun vs S2 xs H2 p2 r2 hS2 h2 => hq _ _ _ _ (p1.trans p2) (.cons (r1.mono p2) r2) hS2 h2⟩⟩
def zTup (ws : ZA) : ZE := fun ζ S q => ws ζ S fun vs S1 => vs.length ≤ sizeLine ∧ q (.tup vs) S1
theorem z_tup {x1} (h : PZA X es ws) : PZ X (.Tuple es x1 pos) (zTup ws) := (pe_tup h).zimp fun σ H Q ⟨ζ, S, q, hζ, hS, hw, hq⟩ =>
  ⟨ζ, S, _, hζ, hS, hw, fun vs S1 xs H1 p1 r1 hS1 h1 => ⟨by rw [← r1.length]; exact h1.1, fun p hp => by
    have pr : Pres H1 (L2.upd H1 p (.tup xs)) := Pres.new hp
    exact hq _ _ _ _ (p1.trans pr) (RV.tupI (SqT.of L2.upd_same) (RVs.mono r1 pr)) (hS1.newH hp) h1.2⟩⟩
/-- less is known behind it -/
def zDr (we : ZE) : ZE := fun ζ S q => we ζ S fun v S1 => ∃ S0, Sub S0 S1 ∧ q v S0
theorem z_dr (h : PZ X e we) : PZ X e (zDr we) := h.zimp fun σ H Q ⟨ζ, S, q, hζ, hS, hw, hq⟩ => ⟨ζ, S, _, hζ, hS, hw, fun v S1 x H1 p1 r1 hS1 ⟨S0, hs, h0⟩ => hq v S0 x H1 p1 r1 (hS1.sub hs) h0⟩
def zLst (ws : ZA) : ZE := fun ζ S q => ws ζ S fun vs S1 => vs.length ≤ sizeLine ∧ ∀ p, S1 p = none → q (.ref p) (S1.upd p (.lst vs))
theorem z_lst (h : PZA X es ws) : PZ X (.List es pos) (zLst ws) := (pe_lst h).zimp fun σ H Q ⟨ζ, S, q, hζ, hS, hw, hq⟩ =>
  ⟨ζ, S, _, hζ, hS, hw, fun vs S1 xs H1 p1 r1 hS1 h1 => ⟨by rw [← r1.length]; exact h1.1, fun p hp => by
    have pr : Pres H1 (L2.upd H1 p (.lst xs)) := Pres.new hp
    exact hq _ _ _ _ (p1.trans pr) (.ref p) (hS1.new (m := .lst vs) hp ⟨xs, L2.upd_same, RVs.mono r1 pr⟩) (h1.2 p (hS1.non hp))⟩⟩
/-! ### list comprehensions -/
def zwipe (ζ : Env) : List Nat → Env
  | [] => ζ
  | v :: vs => (zwipe ζ vs).set v none
theorem zwipe_len (ζ : Env) : ∀ vs : List Nat, (zwipe ζ vs).length = ζ.length
  | [] => rfl
  | v :: vs => by unfold zwipe; rw [List.length_set, zwipe_len ζ vs]
theorem REnv.wipe {K : PySem.W.Frag} {H : Hp} {ζ : Env} {σ : L2.St} (h : REnv K H ζ σ) : ∀ vs : List Nat, REnv K H (zwipe ζ vs) (L2.wipe σ vs)
  | [] => h
  | v :: vs => by
    have ih := REnv.wipe h vs
    unfold zwipe L2.wipe
    refine ⟨by rw [List.length_set, List.length_set]; exact ih.len, fun j u e => ?_⟩
    by_cases hj : v = j
    · subst hj
      by_cases hl : v < (zwipe ζ vs).length
      · rw [List.getElem?_set_self hl] at e; cases e
      · rw [List.getElem?_eq_none (by simpa using hl)] at e; cases e
    · rw [List.getElem?_set_ne hj] at e ⊢
      exact ih.at_ j u e
def zYes : ZT := fun _ S q => q true S
abbrev PZTs (X : Cx) (ifs : List Expr) (w : ZT) : Prop := PTs X ifs (LT X.K w)
theorem zts_nil : PZTs X [] zYes := ⟨fun pins s σ H Q I ⟨ζ, S, q, hζ, hS, hw, hq⟩ => pts_nil.run pins s σ H Q I (hq _ _ _ (.refl H) hS hw)⟩
theorem zts_one {c : Expr} {w : ZT} (h : PZT X c w) : PZTs X [c] w := pts_one h

theorem wipe_get {σ : L2.St} {i : Nat} : ∀ vs : List Nat, (L2.wipe σ vs)[i]? = if i ∈ vs then (if i < σ.length then some none else none) else σ[i]?
  | [] => by simp [L2.wipe]
  | v :: vs => by
    unfold L2.wipe
    rw [List.getElem?_set, wipe_get vs, L2.wipe_length]
    by_cases h : v = i
    · subst h; simp
    · have h' : ¬ i = v := fun z => h z.symm
      simp [h, h']
theorem Kept.wipe {own : List Nat} {σ σ' : L2.St} (k : Kept own σ σ') : L2.wipe σ' own = L2.wipe σ own := by
  refine List.ext_getElem? fun i => ?_
  rw [wipe_get, wipe_get, k.len]
  by_cases h : i ∈ own
  · simp [h]
  · simp [h, k.at_ i h]
/-- one turn: the item's value, or none where a test fails -/
def zTurn (g : ZG) (tt : ZT) (te : ZE) (own : List Nat) (ζ : Env) (v : Val) (S : Sto) (k : Option Val → Sto → Prop) : Prop :=
  g v (zwipe ζ own) S fun ζ' S' => tt ζ' S' fun b S2 => if b = true then te ζ' S2 fun y S3 => k (some y) S3 else k none S2
def lcGo (g : ZG) (tt : ZT) (te : ZE) (own : List Nat) (ζ : Env) (q : ZQ) : List Val → (Sto → Prop) → Sto → Prop := fun vs G S1 => ∀ D, S1 D = none → ∃ I : Nat → Sto → Prop, I 0 (S1.upd D (.lst [])) ∧ (∀ i S, i ≤ vs.length → I i S → G S) ∧
  (∀ (i : Nat) v S, vs[i]? = some v → I i S → zTurn g tt te own ζ v S fun o S' => match o with
    | some y => ∃ acc, S' D = some (.lst acc) ∧ acc.length < sizeLine ∧ I (i + 1) (S'.upd D (.lst (acc ++ [y])))
    | none => I (i + 1) S') ∧ ∀ S, I vs.length S → q (.ref D) S
def zLc (wi : ZI) (g : ZG) (tt : ZT) (te : ZE) (own : List Nat) : ZE := fun ζ S q => wi ζ S (lcGo g tt te own ζ q)
theorem zlc_ok {K : PySem.W.Frag} {own : List (Str × Nat)} {wi : ZI} {g : ZG} {tt : ZT} {te : ZE} : ∀ σ H Q, LE K (zLc wi g tt te (own.map (·.2))) σ H Q → tLc (LI K wi) (LGo K (own.map (·.2)) g) (LT K tt) (LE K te) (own.map (·.2)) σ H Q := fun σ H Q ⟨ζ, S, q, hζ, hS, hw, hq⟩ =>
  ⟨ζ, S, _, hζ, hS, hw, fun J H1 vs G S1 p1 hS1 h1 wk D hD => by
    obtain ⟨I, h0, hG, step, fin⟩ := h1 D (hS1.non hD)
    have prD : Pres H1 (L2.upd H1 D (.lst [])) := Pres.new hD
    refine ⟨fun i m H' => m = vs.length - i ∧ i ≤ vs.length ∧ ∃ S', Pres H1 H' ∧ Rep K S' H' ∧ I i S', ⟨vs.length, by simp, Nat.zero_le _, _, prD, hS1.new (m := .lst []) hD ⟨[], L2.upd_same, .nil⟩, h0⟩, ?_⟩
    rintro i m H' ⟨rfl, hi', S', p', s', i'⟩
    have gs := hG i S' hi' i'
    by_cases hlt : i < vs.length
    · refine .inr ⟨wk.goes i H' S' hlt p' s' gs, fun H2 => ∃ S2, Pres H1 H2 ∧ Rep K S2 H2 ∧ I (i + 1) S2, fun H2 h => ⟨vs.length - (i + 1), by omega, rfl, hlt, h⟩, fun x H2 y => ?_⟩
      obtain ⟨v, ev, rv, p2, s2⟩ := wk.yields i H' S' x H2 hlt p' s' gs y
      have zz : REnv K H2 (zwipe ζ (own.map (·.2))) (L2.wipe σ (own.map (·.2))) := (hζ.mono ((p1.trans p').trans p2)).wipe _
      refine ⟨v, _, S', _, rv, zz, s2, step i v S' ev i', fun ζ3 S3 σ3 H3 p3 z3 s3 k3 h3 => ?_⟩
      refine ⟨?_, ζ3, S3, _, z3, s3, h3, fun b S4 H4 p4 s4 h4 => ?_⟩
      · rw [k3.wipe]
        refine List.ext_getElem? fun j => ?_
        rw [wipe_get, wipe_get, L2.wipe_length]
        by_cases h : j ∈ own.map (·.2) <;> simp [h]
      · cases b with
        | true =>
          rw [if_pos rfl] at h4 ⊢
          refine ⟨ζ3, S4, _, z3.mono p4, s4, h4, fun y S5 z H5 p5 r5 s5 h5 => ?_⟩
          obtain ⟨acc, ea, la, ia⟩ := h5
          obtain ⟨xs, hD5, ra⟩ := s5 _ _ ea
          refine ⟨xs, hD5, by rw [← ra.length]; exact la, _, (((p'.trans p2).trans p3).trans p4).trans (p5.trans (s5.pres (o := .lst (xs ++ [z])) ea)), s5.mut (m := .lst (acc ++ [y])) ea fun pp => ⟨_, L2.upd_same, RVs.mono (Z.Paired.app ra (.cons r5 .nil)) pp⟩, ia⟩
        | false =>
          rw [if_neg Bool.false_ne_true] at h4 ⊢
          exact ⟨S4, ((p'.trans p2).trans p3).trans p4, s4, h4⟩
    · have e : i = vs.length := by omega
      subst e
      exact .inl ⟨wk.stops H' S' p' s' gs, hq _ _ _ _ (p1.trans p') (.ref D) s' (fin _ i')⟩⟩
theorem z_lc {elt tg iter : Expr} {ifs : List Expr} {scope : Scope} {own : List (Str × Nat)} {wi : ZI} {g : ZG} {tt : ZT} {te : ZE} (hc : X.calm = true) (hN : X.N.Nodup) (hi : PZI X tg iter wi) (ok : BlkOk X.N X.env.scope scope own)
    (hg : ∀ (s : Shared) (H : Hp) (C : Addr) (cl : List (Str × Addr)) (fp : List Addr), PZGo (X.blk s H scope (compEnvC scope cl C X.env) fp) tg (own.map (·.2)) g) (ht : ∀ (s : Shared) (H : Hp) (C : Addr) (cl : List (Str × Addr)) (fp : List Addr), PZTs (X.blk s H scope (compEnvC scope cl C X.env) fp) ifs tt)
    (he : ∀ (s : Shared) (H : Hp) (C : Addr) (cl : List (Str × Addr)) (fp : List Addr), PZ (X.blk s H scope (compEnvC scope cl C X.env) fp) elt te) (hs : ∀ x, foldedSetIterable iter X.env x = pure x := by intro _; rfl) :
    PZ X (.ListComp elt [⟨tg, iter, ifs, 0⟩] scope pos) (zLc wi g tt te (own.map (·.2))) := (pe_lc (g := LGo X.K (own.map (·.2)) g) (tt := LT X.K tt) (te := LE X.K te) hc hN hi ok hg ht he hs).zimp zlc_ok
/-- a turn that leaves the store as it is, by what it makes of the item -/
theorem lcGo_pure {g : ZG} {tt : ZT} {te : ZE} {own : List Nat} {vs : List Val} {S1 : Sto} {ζ : Env} {q : ZQ} {G : Sto → Prop} (F : Val → Option Val) (hl : vs.length ≤ sizeLine)
    (hG : ∀ S, Sub S1 S → G S) (turn : ∀ v, v ∈ vs → ∀ S k, Sub S1 S → k (F v) S → zTurn g tt te own ζ v S k) (fin : ∀ D, S1 D = none → q (.ref D) (S1.upd D (.lst (vs.filterMap F)))) :
    lcGo g tt te own ζ q vs G S1 := by
  intro D hD
  have fin := fin D hD
  refine ⟨fun i S => S = S1.upd D (.lst ((vs.take i).filterMap F)), rfl, fun i S _ e => hG S (by subst e; exact Sub.new hD), fun i v S ev e => ?_, fun S e => ?_⟩
  · subst e
    have hi : i < vs.length := (List.getElem?_eq_some_iff.mp ev).1
    have et : vs.take (i + 1) = vs.take i ++ [v] := by rw [List.take_add_one, ev]; rfl
    refine turn v (List.mem_of_getElem? ev) _ _ (Sub.new hD) ?_
    have hlen : ((vs.take i).filterMap F).length ≤ i := Nat.le_trans (List.length_filterMap_le ..) (by rw [List.length_take]; exact Nat.min_le_left ..)
    cases hF : F v with
    | none => show _ = _; rw [et, List.filterMap_append]; simp [hF]
    | some y =>
      refine ⟨(vs.take i).filterMap F, Sto.upd_same, Nat.lt_of_le_of_lt hlen (Nat.lt_of_lt_of_le hi hl), ?_⟩
      show _ = _
      rw [Sto.upd_upd, et, List.filterMap_append]; simp [hF]
  · subst e
    rw [List.take_length]; exact fin
end
end Z

namespace Z
open PySem PySem.Spec PyProof.Rows L2
section
variable {X : Cx} {pos : Pos} {e : Expr} {es : List Expr} {we : ZE} {ws : ZA} {a b : Expr} {wa wb : ZE}
theorem Paired.atI {α β : Type} {F : α → β → Prop} {l₁ : List α} {l₂ : List β} (h : Paired F l₁ l₂) {i : Int} {v : α} (e : L2.atI l₁ i = some v) : ∃ x, L2.atI l₂ i = some x ∧ F v x := by
  unfold L2.atI at e ⊢
  rw [← h.length]
  cases hj : ixN l₁.length i with
  | none => rw [hj] at e; cases e
  | some j =>
    rw [hj] at e
    obtain ⟨x, ex, r⟩ := Paired.get1 h (i := j) (by simpa using e)
    exact ⟨x, by simpa using ex, r⟩
/-! ### items, slices -/
def zIx : ZR2 := fun v u S q => match v, u with
  | .tup vs, .int i => (match L2.atI vs i with | some w => q w S | none => False)
  | .fl vs, .int i => (match L2.atI vs i with | some w => q w S | none => False)
  | .ref a, .int i => (match S a with | some (.lst vs) => (match L2.atI vs i with | some w => q w S | none => False) | _ => False)
  | .str z, .int i => z.length ≤ sizeLine ∧ (match L2.atI z.cps.toList i with | some c => q (.str ⟨#[c]⟩) S | none => False)
  | _, _ => False
theorem zIx_ok {K : PySem.W.Frag} : ZOK K (rIx K) zIx := by
  intro v u S q x y H Q rv ru hS hz k
  unfold zIx at hz
  split at hz
  · split at hz
    · rename_i w ew
      obtain ⟨a, xs, rfl, sa, ra⟩ := rv.tupE
      obtain ⟨x, ex, rx⟩ := Z.Paired.atI ra ew
      cases ru
      exact .inr (.inl ⟨a, xs, _, x, rfl, rfl, sa, ex, k _ _ _ _ (.refl H) rx hS hz⟩)
    · exact hz.elim
  · split at hz
    · rename_i w ew
      obtain ⟨a, xs, rfl, sa, ra⟩ := rv.flE
      obtain ⟨x, ex, rx⟩ := Z.Paired.atI ra ew
      cases ru
      exact .inl ⟨a, xs, _, x, rfl, rfl, sa.sq, ex, k _ _ _ _ (.refl H) rx hS hz⟩
    · exact hz.elim
  · split at hz
    · rename_i vs ea
      split at hz
      · rename_i w ew
        obtain ⟨xs, ha, ra⟩ := hS _ _ ea
        obtain ⟨x, ex, rx⟩ := Z.Paired.atI ra ew
        cases ru
        cases rv
        exact .inl ⟨_, xs, _, x, rfl, rfl, SqL.of ha, ex, k _ _ _ _ (.refl H) rx hS hz⟩
      · exact hz.elim
    · exact hz.elim
  · obtain ⟨hl, hz⟩ := hz
    split at hz
    · rename_i c ec
      cases ru; cases rv
      exact .inr (.inr ⟨_, _, c, rfl, rfl, hl, ec, k _ _ _ _ (.refl H) (.str _) hS hz⟩)
    · exact hz.elim
  · exact hz.elim
theorem z_ix (ha : PZ X a wa) (hb : PZ X b wb) (hs : PlainIx b := by exact fun _ _ => rfl) : PZ X (.Subscript a b pos) (zOp zIx wa wb) := (pe_ix ix_seq ha hb hs).zimp (zop_ok zIx_ok)
/-- a part of a slice -/
abbrev ZO := Env → Sto → (Option Int → Sto → Prop) → Prop
def LO (K : PySem.W.Frag) (w : ZO) : TO := fun σ H Q => ∃ ζ S q, REnv K H ζ σ ∧ Rep K S H ∧ w ζ S q ∧ ∀ o S' H', Pres H H' → Rep K S' H' → q o S' → Q o H'
abbrev PZO (X : Cx) (e : Option Expr) (w : ZO) : Prop := PO X e (LO X.K w)
def zoNone : ZO := fun _ S q => q none S
def zoSome (we : ZE) : ZO := fun ζ S q => we ζ S fun v S1 => match v with | .int i => q (some i) S1 | _ => False
theorem POzimp {e : Option Expr} {t t' : TO} (h : PO X e t) (i : ∀ σ H Q, t' σ H Q → t σ H Q) : PO X e t' := ⟨fun pins s σ H Q I q => h.run pins s σ H Q I (i _ _ _ q)⟩
theorem zo_none : PZO X none zoNone := POzimp po_none fun σ H Q ⟨ζ, S, q, hζ, hS, hw, hq⟩ => hq _ _ _ (.refl H) hS hw
theorem zo_some (h : PZ X e we) : PZO X (some e) (zoSome we) := POzimp (po_some h) fun σ H Q ⟨ζ, S, q, hζ, hS, hw, hq⟩ => ⟨ζ, S, _, hζ, hS, hw, fun v S1 x H1 p1 r1 hS1 h1 => by
  split at h1
  · cases r1; exact ⟨_, rfl, hq _ _ _ p1 hS1 h1⟩
  · exact h1.elim⟩
/-- the items lo:hi -/
def cutZ {α : Type} (xs : List α) (lo hi : Option Int) : List α := (xs.drop (HT.sIx xs.length 0 lo)).take (HT.sIx xs.length xs.length hi - HT.sIx xs.length 0 lo)
theorem RVs.cut {K : PySem.W.Frag} {H : Hp} {vs : List Val} {xs : List V} (h : RVs K H vs xs) (lo hi : Option Int) : RVs K H (cutZ vs lo hi) (cutV xs lo hi) := by
  unfold cutZ cutV
  rw [h.length]
  exact Z.Paired.tk _ (Z.Paired.dr _ h)
theorem cutZ_whole {α : Type} {xs : List α} {lo hi : Option Int} (h : HT.sIx xs.length 0 lo = 0 ∧ HT.sIx xs.length xs.length hi = xs.length) : cutZ xs lo hi = xs := by
  unfold cutZ
  rw [h.1, h.2]
  simp
def rSlAll (K : PySem.W.Frag) : V → Option Int → Option Int → Hp → VK → Prop := fun x lo hi H Q => rSlL K x lo hi H Q ∨ rSlA K x lo hi H Q ∨ rSlS x lo hi H Q
theorem sl_all : SlR X (rSlAll X.K) := sl_list.or (sl_tupA.or sl_str)
def zSlV : Val → Option Int → Option Int → Sto → ZQ → Prop := fun v lo hi S q => match v with
  | .tup vs => q (.tup (cutZ vs lo hi)) S
  | .fl vs => ∀ p, S p = none → q (.ref p) (S.upd p (.lst (cutZ vs lo hi)))
  | .ref a => (match S a with | some (.lst vs) => ∀ p, S p = none → q (.ref p) (S.upd p (.lst (cutZ vs lo hi))) | _ => False)
  | .str z => z.length ≤ sizeLine ∧ q (.str (cutS z lo hi)) S
  | _ => False
def zSl (we : ZE) (wl wh : ZO) : ZE := fun ζ S q => we ζ S fun v S1 => wl ζ S1 fun l S2 => wh ζ S2 fun h S3 => zSlV v l h S3 q
theorem z_sl {lo hi : Option Expr} {wl wh : ZO} {p2 : Pos} (he : PZ X e we) (hl : PZO X lo wl) (hh : PZO X hi wh) : PZ X (.Subscript e (.Slice lo hi none p2) pos) (zSl we wl wh) := (pe_slice sl_all he hl hh).zimp fun σ H Q ⟨ζ, S, q, hζ, hS, hw, hq⟩ =>
  ⟨ζ, S, _, hζ, hS, hw, fun v S1 x H1 p1 r1 hS1 h1 => ⟨ζ, S1, _, hζ.mono p1, hS1, h1, fun l S2 H2 p2 hS2 h2 => ⟨ζ, S2, _, hζ.mono (p1.trans p2), hS2, h2, fun h S3 H3 p3 hS3 h3 => by
    have r3 := r1.mono (p2.trans p3)
    have pp := (p1.trans p2).trans p3
    unfold zSlV at h3
    split at h3
    · obtain ⟨a, xs, rfl, sa, ra⟩ := r3.tupE
      refine .inr (.inl ⟨a, xs, rfl, sa, fun hw => ?_, fun _ p hp => ?_⟩)
      · rw [← ra.length] at hw
        rw [cutZ_whole hw] at h3
        exact hq _ _ _ _ pp r3 hS3 h3
      · have pr : Pres H3 (L2.upd H3 p (.tup (cutV xs l h))) := Pres.new hp
        exact hq _ _ _ _ (pp.trans pr) (RV.tupI (SqT.of L2.upd_same) (RVs.mono (ra.cut l h) pr)) (hS3.newH hp) h3
    · obtain ⟨a, xs, rfl, sa, ra⟩ := r3.flE
      refine .inl ⟨a, xs, rfl, sa.sq, fun p hp => ?_⟩
      have pr : Pres H3 (L2.upd H3 p (.lst (cutV xs l h))) := Pres.new hp
      exact hq _ _ _ _ (pp.trans pr) (.ref p) (hS3.new (m := .lst (cutZ _ l h)) hp ⟨_, L2.upd_same, RVs.mono (ra.cut l h) pr⟩) (h3 p (hS3.non hp))
    · split at h3
      · rename_i vs ea
        obtain ⟨xs, ha, ra⟩ := hS3 _ _ ea
        cases r3
        refine .inl ⟨_, xs, rfl, SqL.of ha, fun p hp => ?_⟩
        have pr : Pres H3 (L2.upd H3 p (.lst (cutV xs l h))) := Pres.new hp
        exact hq _ _ _ _ (pp.trans pr) (.ref p) (hS3.new (m := .lst (cutZ vs l h)) hp ⟨_, L2.upd_same, RVs.mono (ra.cut l h) pr⟩) (h3 p (hS3.non hp))
      · exact h3.elim
    · cases r3
      exact .inr (.inr ⟨_, rfl, h3.1, hq _ _ _ _ pp (.str _) hS3 h3.2⟩)
    · exact h3.elim⟩⟩⟩

/-! ### built-ins by name -/
/-- a rule of the layer over arguments, at values -/
def ZCOK (K : PySem.W.Frag) (r : List V → Hp → VK → Prop) (z : List Val → Sto → ZQ → Prop) : Prop := ∀ vs S q xs H Q, RVs K H vs xs → Rep K S H → z vs S q → (∀ v S' x H', Pres H H' → RV K H' v x → Rep K S' H' → q v S' → Q x H') → r xs H Q
def zCall (z : List Val → Sto → ZQ → Prop) (ws : ZA) : ZE := fun ζ S q => ws ζ S fun vs S1 => z vs S1 q
theorem zcall_ok {K : PySem.W.Frag} {r : List V → Hp → VK → Prop} {z : List Val → Sto → ZQ → Prop} (hz : ZCOK K r z) : ∀ σ H Q, LE K (zCall z ws) σ H Q → tCB r (LA K ws) σ H Q := fun σ H Q ⟨ζ, S, q, hζ, hS, hw, hq⟩ =>
  ⟨ζ, S, _, hζ, hS, hw, fun vs S1 xs H1 p1 r1 hS1 h1 => hz vs S1 q xs H1 Q r1 hS1 h1 fun v S' x H' p => hq v S' x H' (p1.trans p)⟩
theorem z_callB {x : Str} {p : Pos} {id : String} {r : List V → Hp → VK → Prop} {z : List Val → Sto → ZQ → Prop} (hc : CallR X (.builtin id) r) (hz : ZCOK X.K r z) (hg : Gl X x) (hm : X.mg x = none) (hv : bootBuiltins x = some (.builtin id)) (ha : PZA X (e :: es) ws)
    (hn : x ≠ "__name__" := by decide) (hdb : (x == ("__debug__" : Str)) = false := by decide)
    (he : starEach (e :: es) X.env = (false, eval e X.env) :: starEach es X.env := by rfl) (hpl : (backTo pos (starEach es X.env)).any (·.1) = false := by rfl) : PZ X (.Call (.Name x p) (e :: es) [] pos) (zCall z ws) :=
  (pe_callB hc hg hm hv ha hn hdb he hpl).zimp (zcall_ok hz)
theorem z_callTy {x : Str} {p : Pos} {T : String} {r : List V → Hp → VK → Prop} {z : List Val → Sto → ZQ → Prop} (hc : CallR X (.type T) r) (hz : ZCOK X.K r z) (hg : Gl X x) (hm : X.mg x = none) (hv : bootBuiltins x = some (.type T)) (ha : PZA X (e :: es) ws)
    (hn : x ≠ "__name__" := by decide) (hdb : (x == ("__debug__" : Str)) = false := by decide)
    (he : starEach (e :: es) X.env = (false, eval e X.env) :: starEach es X.env := by rfl) (hpl : (backTo pos (starEach es X.env)).any (·.1) = false := by rfl) : PZ X (.Call (.Name x p) (e :: es) [] pos) (zCall z ws) :=
  (pe_callTy hc hg hm hv ha hn hdb he hpl).zimp (zcall_ok hz)
/-- one argument -/
def z1 (k : Val → Sto → ZQ → Prop) : List Val → Sto → ZQ → Prop := fun vs S q => match vs with | [v] => k v S q | _ => False
def z2 (k : ZR2) : List Val → Sto → ZQ → Prop := fun vs S q => match vs with | [v, u] => k v u S q | _ => False
/-- a sequence's items -/
def seqS (S : Sto) : Val → Option (List Val)
  | .tup vs => some vs
  | .fl vs => some vs
  | .ref a => (match S a with | some (.lst vs) => some vs | _ => none)
  | _ => none
theorem seqS_ok {K : PySem.W.Frag} {S : Sto} {H : Hp} {v : Val} {x : V} {vs : List Val} (hS : Rep K S H) (r : RV K H v x) (e : seqS S v = some vs) : ∃ a xs, x = .ref a ∧ (SqL K H a xs ∨ SqT K H a xs) ∧ RVs K H vs xs := by
  cases v with
  | tup us => simp only [seqS, Option.some.injEq] at e; subst e; obtain ⟨a, xs, rfl, sa, ra⟩ := r.tupE; exact ⟨a, xs, rfl, .inr sa, ra⟩
  | fl us => simp only [seqS, Option.some.injEq] at e; subst e; obtain ⟨a, xs, rfl, sa, ra⟩ := r.flE; exact ⟨a, xs, rfl, .inl sa.sq, ra⟩
  | ref a =>
    simp only [seqS] at e
    split at e
    · rename_i us ea
      cases e
      obtain ⟨xs, ha, ra⟩ := hS _ _ ea
      cases r
      exact ⟨a, xs, rfl, .inl (SqL.of ha), ra⟩
    · cases e
  | _ => simp [seqS] at e
theorem one_of {K : PySem.W.Frag} {H : Hp} {v : Val} {xs : List V} (h : RVs K H [v] xs) : ∃ x, xs = [x] ∧ RV K H v x := by
  cases h with
  | cons r t => cases t; exact ⟨_, rfl, r⟩
theorem two_of {K : PySem.W.Frag} {H : Hp} {v u : Val} {xs : List V} (h : RVs K H [v, u] xs) : ∃ x y, xs = [x, y] ∧ RV K H v x ∧ RV K H u y := by
  cases h with
  | cons r t =>
    obtain ⟨y, rfl, ry⟩ := one_of t
    exact ⟨_, y, rfl, r, ry⟩
theorem zc1 {K : PySem.W.Frag} {r : List V → Hp → VK → Prop} {k : Val → Sto → ZQ → Prop} (h : ∀ v S q x H Q, RV K H v x → Rep K S H → k v S q → (∀ v S' x H', Pres H H' → RV K H' v x → Rep K S' H' → q v S' → Q x H') → r [x] H Q) : ZCOK K r (z1 k) := by
  intro vs S q xs H Q rv hS hz kk
  unfold z1 at hz
  split at hz
  · obtain ⟨x, rfl, rx⟩ := one_of rv
    exact h _ S q x H Q rx hS hz kk
  · exact hz.elim
theorem zc2 {K : PySem.W.Frag} {r : List V → Hp → VK → Prop} {k : ZR2} (h : ∀ v u S q x y H Q, RV K H v x → RV K H u y → Rep K S H → k v u S q → (∀ v S' x H', Pres H H' → RV K H' v x → Rep K S' H' → q v S' → Q x H') → r [x, y] H Q) : ZCOK K r (z2 k) := by
  intro vs S q xs H Q rv hS hz kk
  unfold z2 at hz
  split at hz
  · obtain ⟨x, y, rfl, rx, ry⟩ := two_of rv
    exact h _ _ S q x y H Q rx ry hS hz kk
  · exact hz.elim
/-- len -/
def zLen : Val → Sto → ZQ → Prop := fun v S q => match v with
  | .str z => z.length ≤ sizeLine ∧ q (.int z.length) S
  | v => (match seqS S v with | some vs => q (.int vs.length) S | none => False)
theorem zLen_ok {K : PySem.W.Frag} : ZCOK K (fun xs H Q => ∃ x n, xs = [x] ∧ LenV K x H n ∧ Q (.int n) H) (z1 zLen) := zc1 fun v S q x H Q rv hS hz k => by
  unfold zLen at hz
  split at hz
  · cases rv
    exact ⟨_, _, rfl, ⟨hz.1, rfl⟩, k _ _ _ _ (.refl H) (.int _) hS hz.2⟩
  · split at hz
    · rename_i vs ev
      obtain ⟨a, xs, rfl, sa, ra⟩ := seqS_ok hS rv ev
      refine ⟨_, xs.length, rfl, ?_, ?_⟩
      · rcases sa with sa | sa
        · exact .inl ⟨xs, sa, rfl⟩
        · exact .inr ⟨xs, sa, rfl⟩
      · rw [← ra.length]
        exact k _ _ _ _ (.refl H) (.int _) hS hz
    · exact hz.elim
theorem z_len {x : Str} {p : Pos} (hg : Gl X "len") (hm : X.mg "len" = none) (ha : PZA X [e] ws) (he : starEach [e] X.env = (false, eval e X.env) :: starEach [] X.env := by rfl) : PZ X (.Call (.Name "len" p) [e] [] pos) (zCall (z1 zLen) ws) := z_callB call_len zLen_ok hg hm PySem.boot_len ha (he := he)
def zIntU (g : Int → Int) : Val → Sto → ZQ → Prop := fun v S q => match v with | .int i => q (.int (g i)) S | _ => False
def zAbs : Val → Sto → ZQ → Prop := zIntU fun i => if i < 0 then -i else i
theorem zAbs_ok {K : PySem.W.Frag} : ZCOK K (fun xs H Q => ∃ i, xs = [.int i] ∧ Q (.int (if i < 0 then -i else i)) H) (z1 zAbs) := zc1 fun v S q x H Q rv hS hz k => by
  unfold zAbs zIntU at hz
  split at hz
  · cases rv
    exact ⟨_, rfl, k _ _ _ _ (.refl H) (.int _) hS hz⟩
  · exact hz.elim
/-- int(n), int(truth) -/
def zInt : Val → Sto → ZQ → Prop := fun v S q => match v with | .int i => q (.int i) S | .bl k => q (.int (if k then 1 else 0)) S | _ => False
theorem zInt_ok {K : PySem.W.Frag} : ZCOK K (fun xs H Q => (∃ i, xs = [.int i] ∧ Q (.int i) H) ∨ ∃ k, xs = [.bl k] ∧ Q (.int (if k then 1 else 0)) H) (z1 zInt) := zc1 fun v S q x H Q rv hS hz k => by
  unfold zInt at hz
  split at hz
  · cases rv
    exact .inl ⟨_, rfl, k _ _ _ _ (.refl H) (.int _) hS hz⟩
  · cases rv
    exact .inr ⟨_, rfl, k _ _ _ _ (.refl H) (.int _) hS hz⟩
  · exact hz.elim
/-- the items as ints, as truths -/
def intsOf : List Val → Option (List Int)
  | [] => some []
  | .int i :: r => (intsOf r).map (i :: ·)
  | _ => none
theorem intsOf_map (l : List Int) : intsOf (l.map Val.int) = some l := by
  induction l with
  | nil => rfl
  | cons a l ih => simp [intsOf, ih]
theorem intsOf_rv {K : PySem.W.Frag} {H : Hp} : ∀ {vs : List Val} {xs : List V} {ns : List Int}, RVs K H vs xs → intsOf vs = some ns → xs = ns.map V.int
  | [], _, _, h, e => by cases h; simp [intsOf] at e; subst e; rfl
  | .int i :: r, _, ns, h, e => by
    cases h with
    | cons r1 t =>
      cases r1
      simp only [intsOf, Option.map_eq_some_iff] at e
      obtain ⟨l, e1, e2⟩ := e
      subst e2
      rw [intsOf_rv t e1]; rfl
  | .non :: _, _, _, _, e => by simp [intsOf] at e
  | .bl _ :: _, _, _, _, e => by simp [intsOf] at e
  | .str _ :: _, _, _, _, e => by simp [intsOf] at e
  | .tup _ :: _, _, _, _, e => by simp [intsOf] at e
  | .fl _ :: _, _, _, _, e => by simp [intsOf] at e
  | .ref _ :: _, _, _, _, e => by simp [intsOf] at e
  | .raw _ :: _, _, _, _, e => by simp [intsOf] at e
def blsOf : List Val → Option (List Bool)
  | [] => some []
  | .bl i :: r => (blsOf r).map (i :: ·)
  | _ => none
theorem blsOf_map (l : List Bool) : blsOf (l.map Val.bl) = some l := by
  induction l with
  | nil => rfl
  | cons a l ih => simp [blsOf, ih]
theorem blsOf_rv {K : PySem.W.Frag} {H : Hp} : ∀ {vs : List Val} {xs : List V} {ns : List Bool}, RVs K H vs xs → blsOf vs = some ns → xs = ns.map V.bl
  | [], _, _, h, e => by cases h; simp [blsOf] at e; subst e; rfl
  | .bl i :: r, _, ns, h, e => by
    cases h with
    | cons r1 t =>
      cases r1
      simp only [blsOf, Option.map_eq_some_iff] at e
      obtain ⟨l, e1, e2⟩ := e
      subst e2
      rw [blsOf_rv t e1]; rfl
  | .non :: _, _, _, _, e => by simp [blsOf] at e
  | .int _ :: _, _, _, _, e => by simp [blsOf] at e
  | .str _ :: _, _, _, _, e => by simp [blsOf] at e
  | .tup _ :: _, _, _, _, e => by simp [blsOf] at e
  | .fl _ :: _, _, _, _, e => by simp [blsOf] at e
  | .ref _ :: _, _, _, _, e => by simp [blsOf] at e
  | .raw _ :: _, _, _, _, e => by simp [blsOf] at e
/-- lists only -/
def lstS (S : Sto) : Val → Option (List Val)
  | .fl vs => some vs
  | .ref a => (match S a with | some (.lst vs) => some vs | _ => none)
  | _ => none
theorem lstS_ok {K : PySem.W.Frag} {S : Sto} {H : Hp} {v : Val} {x : V} {vs : List Val} (hS : Rep K S H) (r : RV K H v x) (e : lstS S v = some vs) : ∃ a xs, x = .ref a ∧ SqL K H a xs ∧ RVs K H vs xs := by
  cases v with
  | fl us => simp only [lstS, Option.some.injEq] at e; subst e; obtain ⟨a, xs, rfl, sa, ra⟩ := r.flE; exact ⟨a, xs, rfl, sa.sq, ra⟩
  | ref a =>
    simp only [lstS] at e
    split at e
    · rename_i us ea
      cases e
      obtain ⟨xs, ha, ra⟩ := hS _ _ ea
      cases r
      exact ⟨a, xs, rfl, SqL.of ha, ra⟩
    · cases e
  | _ => simp [lstS] at e
def zBls (g : List Bool → Bool) : Val → Sto → ZQ → Prop := fun v S q => match lstS S v with
  | some vs => (match blsOf vs with | some bs => q (.bl (g bs)) S | none => False)
  | none => False
theorem zBls_ok {K : PySem.W.Frag} {g : List Bool → Bool} : ZCOK K (fun vs H Q => ∃ (a : Addr) (bs : List Bool), vs = [V.ref a] ∧ SqL K H a (bs.map V.bl) ∧ Q (.bl (g bs)) H) (z1 (zBls g)) := zc1 fun v S q x H Q rv hS hz k => by
  unfold zBls at hz
  split at hz
  · rename_i vs ev
    split at hz
    · rename_i bs eb
      obtain ⟨a, xs, rfl, sa, ra⟩ := lstS_ok hS rv ev
      rw [blsOf_rv ra eb] at sa
      exact ⟨a, bs, rfl, sa, k _ _ _ _ (.refl H) (.bl _) hS hz⟩
    · exact hz.elim
  · exact hz.elim
def zInts (C : List Int → Prop) (g : List Int → Int) : Val → Sto → ZQ → Prop := fun v S q => match lstS S v with
  | some vs => (match intsOf vs with | some bs => C bs ∧ q (.int (g bs)) S | none => False)
  | none => False
def zSum : Val → Sto → ZQ → Prop := zInts (fun _ => True) List.sum
theorem zSum_ok {K : PySem.W.Frag} : ZCOK K (rSum K) (z1 zSum) := zc1 fun v S q x H Q rv hS hz k => by
  unfold zSum zInts at hz
  split at hz
  · rename_i vs ev
    split at hz
    · rename_i bs eb
      obtain ⟨a, xs, rfl, sa, ra⟩ := lstS_ok hS rv ev
      rw [intsOf_rv ra eb] at sa
      exact ⟨a, bs, rfl, sa, k _ _ _ _ (.refl H) (.int _) hS hz.2⟩
    · exact hz.elim
  · exact hz.elim
/-- the least, the greatest of a list of ints -/
def zMinL (ge : Int → Int → Prop) : Val → Sto → ZQ → Prop := fun v S q => match lstS S v with
  | some vs => (match intsOf vs with | some ns => 0 < ns.length ∧ ∀ m, m ∈ ns → (∀ y, y ∈ ns → ge m y) → q (.int m) S | none => False)
  | none => False
theorem zMinL_ok {K : PySem.W.Frag} : ZCOK K (rMin K) (z1 (zMinL fun m y => m ≤ y)) := zc1 fun v S q x H Q rv hS hz k => by
  unfold zMinL at hz
  split at hz
  · rename_i vs ev
    split at hz
    · rename_i bs eb
      obtain ⟨a, xs, rfl, sa, ra⟩ := lstS_ok hS rv ev
      rw [intsOf_rv ra eb] at sa
      exact ⟨a, bs, rfl, sa, hz.1, fun m h1 h2 => k _ _ _ _ (.refl H) (.int _) hS (hz.2 m h1 h2)⟩
    · exact hz.elim
  · exact hz.elim
theorem zMaxL_ok {K : PySem.W.Frag} : ZCOK K (rMax K) (z1 (zMinL fun m y => y ≤ m)) := zc1 fun v S q x H Q rv hS hz k => by
  unfold zMinL at hz
  split at hz
  · rename_i vs ev
    split at hz
    · rename_i bs eb
      obtain ⟨a, xs, rfl, sa, ra⟩ := lstS_ok hS rv ev
      rw [intsOf_rv ra eb] at sa
      exact ⟨a, bs, rfl, sa, hz.1, fun m h1 h2 => k _ _ _ _ (.refl H) (.int _) hS (hz.2 m h1 h2)⟩
    · exact hz.elim
  · exact hz.elim
/-- max(a, b), min(a, b) -/
def zMax2 : ZR2 := zI0 fun i j => .int (if j > i then j else i)
def zMin2 : ZR2 := zI0 fun i j => .int (if j < i then j else i)
theorem zMax2_ok {K : PySem.W.Frag} : ZCOK K (fun xs H Q => ∃ i j, xs = [.int i, .int j] ∧ Q (.int (if j > i then j else i)) H) (z2 zMax2) := zc2 fun v u S q x y H Q rv ru hS hz k => by
  unfold zMax2 zI0 at hz
  split at hz
  · cases rv; cases ru
    exact ⟨_, _, rfl, k _ _ _ _ (.refl H) (.int _) hS hz⟩
  · exact hz.elim
theorem zMin2_ok {K : PySem.W.Frag} : ZCOK K (fun xs H Q => ∃ i j, xs = [.int i, .int j] ∧ Q (.int (if j < i then j else i)) H) (z2 zMin2) := zc2 fun v u S q x y H Q rv ru hS hz k => by
  unfold zMin2 zI0 at hz
  split at hz
  · cases rv; cases ru
    exact ⟨_, _, rfl, k _ _ _ _ (.refl H) (.int _) hS hz⟩
  · exact hz.elim
/-- tuple(s), list(s) -/
def zTuple : Val → Sto → ZQ → Prop := fun v S q => match seqS S v with | some vs => q (.tup vs) S | none => False
theorem zTuple_ok {K : PySem.W.Frag} : ZCOK K (fun xs H Q => ∃ p ys, xs = [.ref p] ∧ ((SqL K H p ys ∧ ∀ l, H l = none → Q (.ref l) (L2.upd H l (.tup ys))) ∨ (SqT K H p ys ∧ Q (.ref p) H))) (z1 zTuple) := zc1 fun v S q x H Q rv hS hz k => by
  unfold zTuple at hz
  split at hz
  · rename_i vs ev
    obtain ⟨a, xs, rfl, sa, ra⟩ := seqS_ok hS rv ev
    rcases sa with sa | sa
    · refine ⟨a, xs, rfl, .inl ⟨sa, fun l hl => ?_⟩⟩
      have pr : Pres H (L2.upd H l (.tup xs)) := Pres.new hl
      exact k _ _ _ _ pr (RV.tupI (SqT.of L2.upd_same) (RVs.mono ra pr)) (hS.newH hl) hz
    · exact ⟨a, xs, rfl, .inr ⟨sa, k _ _ _ _ (.refl H) (RV.tupI sa ra) hS hz⟩⟩
  · exact hz.elim
def zList : Val → Sto → ZQ → Prop := fun v S q => match seqS S v with | some vs => ∀ p, S p = none → q (.ref p) (S.upd p (.lst vs)) | none => False
theorem zList_ok {K : PySem.W.Frag} : ZCOK K (fun xs H Q => ∃ p ys, xs = [.ref p] ∧ (SqL K H p ys ∨ SqT K H p ys) ∧ ∀ l, H l = none → Q (.ref l) (L2.upd H l (.lst ys))) (z1 zList) := zc1 fun v S q x H Q rv hS hz k => by
  unfold zList at hz
  split at hz
  · rename_i vs ev
    obtain ⟨a, xs, rfl, sa, ra⟩ := seqS_ok hS rv ev
    refine ⟨a, xs, rfl, sa, fun l hl => ?_⟩
    have pr : Pres H (L2.upd H l (.lst xs)) := Pres.new hl
    exact k _ _ _ _ pr (.ref l) (hS.new (m := .lst vs) hl ⟨xs, L2.upd_same, RVs.mono ra pr⟩) (hz l (hS.non hl))
  · exact hz.elim
/-- list(range(n)) -/
def zListRg (we : ZE) : ZE := fun ζ S q => we ζ S fun v S1 => match v with | .int j => (0 ≤ j ∧ j ≤ 1000000) ∧ ∀ p, S1 p = none → q (.ref p) (S1.upd p (.lst (rgv 0 j.toNat))) | _ => False

/-! ### methods of lists -/
theorem tyV_lst {K : PySem.W.Frag} {H : Hp} {p : Addr} {xs : List V} (h : H p = some (.lst xs)) : tyV K "list" (.ref p) H := Or.inl ⟨rfl, _, Or.inl (Or.inl h)⟩
def zMt (z : Val → List Val → Sto → ZQ → Prop) (wo : ZE) (ws : ZA) : ZE := fun ζ S q => wo ζ S fun v S1 => (∃ a vs, v = .ref a ∧ S1 a = some (.lst vs)) ∧ ws ζ S1 fun us S2 => z v us S2 q
def ZMOK (K : PySem.W.Frag) (r : V → List V → Hp → VK → Prop) (z : Val → List Val → Sto → ZQ → Prop) : Prop := ∀ v us S q x xs H Q, RV K H v x → RVs K H us xs → Rep K S H → z v us S q → (∀ v S' x H', Pres H H' → RV K H' v x → Rep K S' H' → q v S' → Q x H') → r x xs H Q
theorem zmt_ok {K : PySem.W.Frag} {r : V → List V → Hp → VK → Prop} {z : Val → List Val → Sto → ZQ → Prop} {wo : ZE} (hz : ZMOK K r z) : ∀ σ H Q, LE K (zMt z wo ws) σ H Q → tBM K "list" r (LE K wo) (LA K ws) σ H Q := fun σ H Q ⟨ζ, S, q, hζ, hS, hw, hq⟩ =>
  ⟨ζ, S, _, hζ, hS, hw, fun v S1 x H1 p1 r1 hS1 ⟨⟨a, vs, ev, ea⟩, h1⟩ => by
    subst ev
    obtain ⟨xs, ha, ra⟩ := hS1 _ _ ea
    cases r1
    exact ⟨tyV_lst ha, ζ, S1, _, hζ.mono p1, hS1, h1, fun us S2 ys H2 p2 r2 hS2 h2 => hz _ us S2 q _ ys H2 Q (.ref a) r2 hS2 h2 fun v' S' x' H' p => hq v' S' x' H' ((p1.trans p2).trans p)⟩⟩
def zMt0 (z : Val → List Val → Sto → ZQ → Prop) (wo : ZE) : ZE := fun ζ S q => wo ζ S fun v S1 => (∃ a vs, v = .ref a ∧ S1 a = some (.lst vs)) ∧ z v [] S1 q
theorem zmt0_ok {K : PySem.W.Frag} {r : V → List V → Hp → VK → Prop} {z : Val → List Val → Sto → ZQ → Prop} {wo : ZE} (hz : ZMOK K r z) : ∀ σ H Q, LE K (zMt0 z wo) σ H Q → tBM0 K "list" r (LE K wo) σ H Q := fun σ H Q ⟨ζ, S, q, hζ, hS, hw, hq⟩ =>
  ⟨ζ, S, _, hζ, hS, hw, fun v S1 x H1 p1 r1 hS1 ⟨⟨a, vs, ev, ea⟩, h1⟩ => by
    subst ev
    obtain ⟨xs, ha, ra⟩ := hS1 _ _ ea
    cases r1
    exact ⟨tyV_lst ha, hz _ [] S1 q _ [] H1 Q (.ref a) .nil hS1 h1 fun v' S' x' H' p => hq v' S' x' H' (p1.trans p)⟩⟩
def zAppend : Val → List Val → Sto → ZQ → Prop := fun v us S q => match v, us with
  | .ref a, [u] => (match S a with | some (.lst vs) => vs.length < sizeLine ∧ q .non (S.upd a (.lst (vs ++ [u]))) | _ => False)
  | _, _ => False
theorem zAppend_ok {K : PySem.W.Frag} : ZMOK K rAppend zAppend := by
  intro v us S q x xs H Q rv ru hS hz k
  unfold zAppend at hz
  split at hz
  · split at hz
    · rename_i vs ea
      obtain ⟨xs', ha, ra⟩ := hS _ _ ea
      cases rv
      obtain ⟨y, rfl, ry⟩ := one_of ru
      exact ⟨_, xs', y, rfl, rfl, ha, by rw [← ra.length]; exact hz.1, k _ _ _ _ (hS.pres ea) .non (hS.mut (m := .lst (vs ++ [_])) ea fun pp => ⟨_, L2.upd_same, RVs.mono (Z.Paired.app ra (.cons ry .nil)) pp⟩) hz.2⟩
    · exact hz.elim
  · exact hz.elim
def zExtend : Val → List Val → Sto → ZQ → Prop := fun v us S q => match v, us with
  | .ref a, [.ref b] => (match S a, S b with | some (.lst vs), some (.lst ws) => vs.length + ws.length ≤ sizeLine ∧ q .non (S.upd a (.lst (vs ++ ws))) | _, _ => False)
  | _, _ => False
theorem zExtend_ok {K : PySem.W.Frag} : ZMOK K rExtend zExtend := by
  intro v us S q x xs H Q rv ru hS hz k
  unfold zExtend at hz
  split at hz
  · split at hz
    · rename_i vs ws ea eb
      obtain ⟨xs', ha, ra⟩ := hS _ _ ea
      obtain ⟨ys', hb, rb⟩ := hS _ _ eb
      cases rv
      obtain ⟨y, rfl, ry⟩ := one_of ru
      cases ry
      exact ⟨_, _, xs', ys', rfl, rfl, ha, hb, by rw [← ra.length, ← rb.length]; exact hz.1, k _ _ _ _ (hS.pres ea) .non (hS.mut (m := .lst (vs ++ ws)) ea fun pp => ⟨_, L2.upd_same, RVs.mono (Z.Paired.app ra rb) pp⟩) hz.2⟩
    · exact hz.elim
  · exact hz.elim
def zPop : Val → List Val → Sto → ZQ → Prop := fun v us S q => match v, us with
  | .ref a, [] => (match S a with | some (.lst vs) => (match vs[vs.length - 1]? with | some y => q y (S.upd a (.lst vs.dropLast)) | none => False) | _ => False)
  | _, _ => False
theorem zPop_ok {K : PySem.W.Frag} : ZMOK K rPop zPop := by
  intro v us S q x xs H Q rv ru hS hz k
  unfold zPop at hz
  split at hz
  · split at hz
    · rename_i vs ea
      split at hz
      · rename_i y ey
        obtain ⟨xs', ha, ra⟩ := hS _ _ ea
        cases rv
        cases ru
        obtain ⟨y', ey', ry⟩ := Z.Paired.get1 ra ey
        rw [ra.length] at ey'
        exact ⟨_, xs', y', rfl, rfl, ha, ey', k _ _ _ _ (hS.pres ea) (ry.mono (hS.pres ea)) (hS.mut (m := .lst vs.dropLast) ea fun pp => ⟨_, L2.upd_same, RVs.mono (Z.Paired.dl ra) pp⟩) hz⟩
      · exact hz.elim
    · exact hz.elim
  · exact hz.elim
theorem z_append {o : Expr} {wo : ZE} {apos : Pos} (ho : PZ X o wo) (ha : PZA X [e] ws) (h : ∀ {to : TE} {t : TA}, PE X o to → PA X [e] t → PE X (.Call (.Attribute o "append" apos) [e] [] pos) (tBM X.K "list" rAppend to t)) : PZ X (.Call (.Attribute o "append" apos) [e] [] pos) (zMt zAppend wo ws) := (h ho ha).zimp (zmt_ok zAppend_ok)
theorem z_extend {o : Expr} {wo : ZE} {apos : Pos} (ho : PZ X o wo) (ha : PZA X [e] ws) (h : ∀ {to : TE} {t : TA}, PE X o to → PA X [e] t → PE X (.Call (.Attribute o "extend" apos) [e] [] pos) (tBM X.K "list" rExtend to t)) : PZ X (.Call (.Attribute o "extend" apos) [e] [] pos) (zMt zExtend wo ws) := (h ho ha).zimp (zmt_ok zExtend_ok)
theorem z_pop {o : Expr} {wo : ZE} {apos : Pos} (ho : PZ X o wo) (h : ∀ {to : TE}, PE X o to → PE X (.Call (.Attribute o "pop" apos) [] [] pos) (tBM0 X.K "list" rPop to)) : PZ X (.Call (.Attribute o "pop" apos) [] [] pos) (zMt0 zPop wo) := (h ho).zimp (zmt0_ok zPop_ok)

/-! ### defs and their calls -/
abbrev ZSp := List Val → Sto → ZQ → Prop
def LF (K : PySem.W.Frag) (z : ZSp) : Sp := fun xs H Q _ => ∃ vs S q, RVs K H vs xs ∧ Rep K S H ∧ z vs S q ∧ ∀ v S' x H', Pres H H' → RV K H' v x → Rep K S' H' → q v S' → Q x H'
/-- a def of the module that keeps z, at level k -/
structure ZCal (P : Program) (w : World) (K : PySem.W.Frag) (mg : Str → Option Value) (base : Heap) (k : Nat) (x : Str) (z : ZSp) : Prop where
  ex : ∃ (f : Addr) (fd : FuncData) (ps : List Str), FnOk P w K mg base CX0 k f fd ps (LF K z) ∧ mg x = some (.ref f) ∧ PySem.W.keepIn K (.ref f) = true ∧ Binds K fd ps []
theorem z_call {k j : Nat} {x : Str} {z : ZSp} {p : Pos} (c : ZCal X.prog X.w X.K X.mg X.base k x z) (hr : Room j X.A) (hk : k ≤ j) (hg : Gl X x) (ha : PZA X (e :: es) ws)
    (hdb : (x == ("__debug__" : Str)) = false := by decide) (he : starEach (e :: es) X.env = (false, eval e X.env) :: starEach es X.env := by rfl) (hpl : (backTo pos (starEach es X.env)).any (·.1) = false := by rfl) :
    PZ X (.Call (.Name x p) (e :: es) [] pos) (zCall z ws) := by
  obtain ⟨f, fd, ps, F, hm, kp, b⟩ := c.ex
  exact (pe_call F (hr.mono hk) hg hm kp b .nil pass0 ha hdb he hpl).zimp fun σ H Q ⟨ζ, S, q, hζ, hS, hw, hq⟩ =>
    ⟨ζ, S, _, hζ, hS, hw, fun vs S1 xs H1 p1 r1 hS1 h1 => by
      show LF X.K z (xs ++ []) H1 Q E0
      rw [List.append_nil]
      exact ⟨vs, S1, q, r1, hS1, h1, fun v S' x H' p => hq v S' x H' (p1.trans p)⟩⟩
theorem ZCal.imp {P : Program} {w : World} {K : PySem.W.Frag} {mg : Str → Option Value} {base : Heap} {k : Nat} {x : Str} {z z' : ZSp} (c : ZCal P w K mg base k x z) (h : ∀ vs S q, z' vs S q → z vs S q) : ZCal P w K mg base k x z' := by
  obtain ⟨f, fd, ps, F, r⟩ := c.ex
  exact ⟨f, fd, ps, F.imp fun vs H Q E ⟨us, S, q, h1, h2, h3, h4⟩ => ⟨us, S, q, h1, h2, h _ _ _ h3, h4⟩, r⟩
theorem ZCal.mono {P : Program} {w : World} {K : PySem.W.Frag} {mg : Str → Option Value} {base : Heap} {k j : Nat} {x : Str} {z : ZSp} (c : ZCal P w K mg base k x z) (h : k ≤ j) : ZCal P w K mg base j x z := by
  obtain ⟨f, fd, ps, F, r⟩ := c.ex
  exact ⟨f, fd, ps, F.mono h, r⟩
/-- the slots at the entry -/
def zstart (N : List Str) (vs : List Val) : Env := vs.map some ++ List.replicate (N.length - vs.length) none
theorem zstart_ok {K : PySem.W.Frag} {H : Hp} {N : List Str} {vs : List Val} {xs : List V} (h : RVs K H vs xs) : REnv K H (zstart N vs) (L2.start N xs) := by
  refine ⟨by unfold zstart L2.start; simp [h.length], fun i v e => ?_⟩
  unfold zstart at e
  have hi : i < vs.length := by
    by_cases hi : i < vs.length
    · exact hi
    · rw [List.getElem?_append_right (by simpa using hi), List.getElem?_replicate] at e
      split at e <;> cases e
  rw [List.getElem?_append_left (by simpa using hi), List.getElem?_map] at e
  have ev : vs[i]? = some v := by
    cases q : vs[i]? with
    | none => rw [q] at e; cases e
    | some u => rw [q] at e; cases e; rfl
  obtain ⟨x, ex, r⟩ := Paired.get1 h ev
  refine ⟨x, ?_, r⟩
  unfold L2.start
  have hi2 : i < xs.length := by rw [← h.length]; exact hi
  rw [List.getElem?_append_left (by simpa using hi2), List.getElem?_map, ex]
  rfl
/-- what is asked of a body: less may be known at its end -/
def zBody (body : ZS) (N : List Str) (vs : List Val) (S : Sto) (q : ZQ) : Prop :=
  body { nx := fun _ S' => ∃ S0, Sub S0 S' ∧ q .non S0, rt := fun v S' => ∃ S0, Sub S0 S' ∧ q v S0 } (zstart N vs) S
/-- THE RULE for a def -/
theorem zfn {P : Program} {w : World} {K : PySem.W.Frag} {mg : Str → Option Value} {base : Heap} {x qual : Str} {params : Arguments} {body : List Stmt} {scope : Scope} {dvs : List V} {kws : List (Str × V)} {f : Addr} {fd : FuncData} {N ps : List Str} {k : Nat} {z : ZSp} (F : FunD K x qual params body scope dvs kws f fd) (Sc : FnScope N ps scope) (len : ∀ vs S q, z vs S q → vs.length = ps.length)
    (hbody : ∀ (cdv : Value) (A : Around) (outer : List PySem.Env) (s : Shared) (H : Hp) (E : XK), Room k (A.deeper (envOfC qual scope s.heap.objs.size f cdv)) →
      ∃ b, PZSs (cxOf CX0 P w K mg base N qual scope f cdv A outer s H E).nox body b ∧ ∀ vs S q, z vs S q → zBody b N vs S q) : FnOk P w K mg base CX0 (k + 1) f fd ps (LF K z) := by
  refine F.ok Sc (fun xs H Q E ⟨vs, S, q, h1, _, h3, _⟩ => by rw [← h1.length]; exact len _ _ _ h3) (fun cdv A outer s H xs Q E hr ⟨vs, S, q, h1, h2, h3, h4⟩ => ?_)
  obtain ⟨b, hp, hb⟩ := hbody cdv A outer s H E hr
  refine ⟨_, hp.nox, zstart N vs, S, _, zstart_ok h1, h2, hb vs S q h3, ⟨fun ζ S' σ' H' p _ hS' ⟨S0, hs, h0⟩ => h4 _ S0 _ H' p .non (hS'.sub hs) h0, fun v S' x H' p r hS' ⟨S0, hs, h0⟩ => h4 v S0 x H' p r (hS'.sub hs) h0, fun _ _ _ _ _ _ _ h => h.elim, fun _ _ _ _ _ _ _ h => h.elim⟩⟩
theorem zcal {P : Program} {w : World} {K : PySem.W.Frag} {mg : Str → Option Value} {base : Heap} {x qual : Str} {params : Arguments} {body : List Stmt} {scope : Scope} {dvs : List V} {kws : List (Str × V)} {f : Addr} {fd : FuncData} {N ps : List Str} {k : Nat} {z : ZSp} (F : FunD K x qual params body scope dvs kws f fd) (hm : mg x = some (.ref f)) (b : Binds K fd ps []) (Sc : FnScope N ps scope) (len : ∀ vs S q, z vs S q → vs.length = ps.length)
    (hbody : ∀ (cdv : Value) (A : Around) (outer : List PySem.Env) (s : Shared) (H : Hp) (E : XK), Room k (A.deeper (envOfC qual scope s.heap.objs.size f cdv)) →
      ∃ b, PZSs (cxOf CX0 P w K mg base N qual scope f cdv A outer s H E).nox body b ∧ ∀ vs S q, z vs S q → zBody b N vs S q) : ZCal P w K mg base (k + 1) x z :=
  ⟨f, fd, ps, zfn F Sc len hbody, hm, F.kp, b⟩
end
end Z

namespace Z
open PySem PySem.Spec PyProof.Rows L2
set_option maxHeartbeats 4000000 in
theorem meets_enumerate_new1 {v : Value} {o : Obj} {H : Heap → Prop} (B : Begins v o H) :
    Meets (Builtin.«enumerate.__new__» ⟨[.type "enumerate", v], []⟩) (fun _ R s => H s.heap ∧
      R (.ok (.ret (.ref (s.heap.push o).objs.size))) { s with heap := (s.heap.push o).push { cls := .type "enumerate", data := .fields #[.none, .bool false, .ref s.heap.objs.size, rawInt 0, .none, .none] } }) :=
  .of_wp fun prog w A R s h => by
    obtain ⟨hp, g, d, tk, os⟩ := s; obtain ⟨h1, h⟩ := h
    have hsub := sub_enumerate
    have q1 : ∀ {A' : Around} {E : Value → Shared → Prop} {Q : Value → Shared → Prop}, Q (.ref hp.objs.size) ⟨hp.push o, g, d, tk, os⟩ → wpAny (model prog w) A' (pyIter v) Q E ⟨hp, g, d, tk, os⟩ :=
      fun q => B.iter prog w _ _ ⟨hp, g, d, tk, os⟩ _ h1 q
    wp_walk using q1
    refine wpAny_stack_any fun st => wpAny_pure ?_
    split
    · rename_i c _ _ _ _ _
      cases (c == Value.type "enumerate")
      · wp_walk using q1
        exact ⟨_, rfl, h⟩
      · wp_walk using q1
        exact ⟨_, rfl, h⟩
    · wp_walk using q1
      exact ⟨_, rfl, h⟩

theorem enum_end_tuple {prog : Program} {w : World} {A : Around} {E : Value → Shared → Prop} {s : Shared} {e it l : Addr} {i : Nat} {items : Array Value} {old : Value} {Q : Option Value → Shared → Prop} (hh : A.handled = none)
    (he : IsEnum s.heap e it i old) (hit : s.heap.IsTupleIter it l i) (hl : s.heap.IsTuple l items) (hx : items[i]? = none)
    (hQ : ∀ h', Heap.ExtBut it s.heap h' → Q none { s with heap := h' }) : wpAny (model prog w) A (pyNext (.ref e)) Q E s := by
  have hT : s.TypeIs (.ref e) "enumerate" := ⟨_, he, rfl⟩
  unfold pyNext
  refine wpAny_bind (wpAny_attempt (wpAny_callSpecial?_slot (name := Str.ofString "__next__") hT F.slot_enumerate_next
    (wpAny_call_entry F.slot_enumerate_next hT F.entry_enumerate_next ?_ (F.args_enumerate_next_1 _))))
  show wpAny _ _ (field (.ref e) 2 >>= _) _ _ _
  refine wpAny_bind (wpAny_field he rfl (x := .ref it) rfl ?_)
  refine wpAny_bind (wpAny_nextOf_tuple_end hh hit hl hx fun h' x he' hx' => ?_)
  obtain ⟨o, ho, hc⟩ := hx'
  refine wpAny_bind (wpAny_isInstance (T := "StopIteration") (b := true) ⟨o, ho, hc⟩ isSubtype_stop ?_)
  exact wpAny_pure (hQ _ he')
theorem call_enumerate_tuple {prog : Program} {w : World} {A : Around} {E : Value → Shared → Prop} {s : Shared} {l : Addr} {items : Array Value} {Q : Value → Shared → Prop} (hL : s.heap.IsTuple l items)
    (h : ∀ h', IsEnum h' (s.heap.objs.size + 1) s.heap.objs.size 0 .none → h'.IsTupleIter s.heap.objs.size l 0 → h'.objs.size = s.heap.objs.size + 2 →
      (∀ b o, s.heap.get? b = some o → h'.get? b = some o) → Q (.ref (s.heap.objs.size + 1)) { s with heap := h' }) :
    wpAny (model prog w) A (call (.type "enumerate") [.ref l]) Q E s := by
  refine callType_new F.called_enumerate (by decide) (F.typeCall_enumerate_1 _) (F.newCall_enumerate_1 _) (fun obj => F.args_object_init_2 obj _) F.entry_enumerate_new
    (meets_enumerate_new1 (begins_tuple l items)) ⟨hL, ?_⟩
  have hz : (s.heap.push { cls := .type "tuple_iterator", data := .fields #[.ref l, .int 0 0] }).objs.size = s.heap.objs.size + 1 := Heap.size_push ..
  show _ ∧ _
  rw [hz]
  have he : IsEnum ((s.heap.push { cls := .type "tuple_iterator", data := .fields #[.ref l, .int 0 0] }).push
      { cls := .type "enumerate", data := .fields #[.none, .bool false, .ref s.heap.objs.size, rawInt 0, .none, .none] }) (s.heap.objs.size + 1) s.heap.objs.size 0 .none := by
    have := Heap.get?_push_size (s.heap.push { cls := .type "tuple_iterator", data := .fields #[.ref l, .int 0 0] })
      (o := { cls := .type "enumerate", data := .fields #[.none, .bool false, .ref s.heap.objs.size, rawInt 0, .none, .none] }) rfl
    rw [hz] at this; exact this
  refine ⟨⟨_, he, rfl⟩, h _ he ⟨_, Heap.get?_push_of_some _ (Heap.get?_push_size _ rfl), rfl, rfl⟩ (by rw [Heap.size_push, hz]) fun b o x => Heap.get?_push_of_some _ (Heap.get?_push_of_some _ x)⟩
/-- the tuple at a, each item in a new pair -/
def IteT (K : PySem.W.Frag) (a : Addr) : It :=
  ⟨fun i H => ∃ (xs : List V) (x : V), SqT K H a xs ∧ xs[i]? = some x, fun i H v H' => ∃ T x, v = .ref T ∧ H T = none ∧ H' = L2.upd H T (.tup [.int (i : Nat), x]) ∧ ∀ xs, SqT K H a xs → xs[i]? = some x, fun i H => ∃ xs : List V, SqT K H a xs ∧ xs.length ≤ i⟩
theorem turn_enumT {P : Program} {w : World} {K : PySem.W.Frag} {elts : List Expr} {kk : Nat} {tpos : Pos} (a e it : Addr) :
    Turn P w K (.Tuple elts kk tpos) (IteT K a) [e, it] e (fun i h => (∃ old, IsEnum h e it ((i : Nat) : Int) old) ∧ h.IsTupleIter it a i ∧ e ≠ it ∧ a ≠ it ∧ a ≠ e) where
  mem := by simp
  obj := fun i h st b hb => by
    obtain ⟨⟨old, he⟩, ⟨o, ho, hc, hd⟩, _⟩ := st
    have e' : b = e ∨ b = it := by simpa using hb
    rcases e' with z | z
    · rw [z]; exact ⟨_, he, fun v q => nomatch q⟩
    · rw [z]; exact ⟨o, ho, fun v q => by rw [hd] at q; cases q⟩
  keep := fun i h h' st k => let ⟨⟨old, he⟩, hi, hne⟩ := st; ⟨⟨old, k e (by simp) _ he⟩, hi.at fun o q => k it (by simp) o q, hne⟩
  item := by
    intro X hP hw hK hc i pins s σ H E I hf st hg
    subst hP hw hK
    obtain ⟨⟨old, he⟩, hit, hne, hai, hae⟩ := st
    obtain ⟨xs, x, hq, hx⟩ := hg
    obtain ⟨its, rv, p, hz⟩ := I.tuple hq
    obtain ⟨u, hu, ru⟩ := rv.get hx
    have hel : e < s.heap.objs.size := Heap.lt_size he
    have hil : it < s.heap.objs.size := by obtain ⟨_, q, _⟩ := hit; exact Heap.lt_size q
    have hlt : i < its.toArray.size := by
      have := (List.getElem?_eq_some_iff.mp hu).1
      simpa using this
    refine wpAny_pyNext_enum_itemD (Draws.tuple (A := X.A.in1) (I.ok.hd hc) it a hai its.toArray) he ⟨hit, (show s.heap.IsTuple a its.toArray from p)⟩ hlt hne (by simp [hne]; exact fun z => hae z.symm) fun x' h' tk hP ho hst' hT hsz hk => ?_
    have ex : x' = u := by
      have q := hP
      simp at q
      rw [hu] at q
      exact (Option.some.inj q).symm
    subst ex
    refine ⟨_, rfl, wpAny_letOwnedTupleGo_enum (s := { s with heap := h', toks := tk + 1 }) ho fun h'' he' sb => ?_⟩
    have hT2 : h''.get? s.heap.objs.size = some { cls := .type "tuple", data := .seq #[.int i tk, x'] } := (sb.2 _ (Nat.ne_of_gt hel)).trans hT
    have new : ObjOk X.prog X.w (L2.upd H s.heap.objs.size (.tup [.int (i : Nat), x])) h'' s.heap.objs.size (.tup [.int (i : Nat), x]) :=
      ⟨by show 2 ≤ sizeLine; decide, [.int i tk, x'], .cons ⟨_, rfl⟩ (.cons ru .nil), ⟨_, hT2, rfl, _, rfl⟩⟩
    have I1 : Inv X pins σ (L2.upd H s.heap.objs.size (.tup [.int (i : Nat), x])) { s with heap := h'', toks := tk + 1 } :=
      I.turnedNew (ch := [e, it]) (fun b ob hb q => (sb.2 b (fun z => hb (by simp [z]))).trans (hk b ob (fun z => hb (by simp [z])) (fun z => hb (by simp [z])) q)) hf (Nat.le_refl _) new
    refine ⟨.ref s.heap.objs.size, _, I1, rfl, ⟨_, x, rfl, I.hok.fresh (Nat.le_refl _), rfl, fun ys hy => by rw [I.tuple_inj hy hq]; exact hx⟩, ⟨⟨x', ?_⟩, hst'.1.at fun o q => (sb.2 it (Ne.symm hne)).trans q, hne, hai, hae⟩, fun b hb => ?_⟩
    · have e1 : ((i + 1 : Nat) : Int) = (i : Int) + 1 := by omega
      rw [e1]; exact he'
    · have hb' : b < s.heap.objs.size := by
        have e' : b = e ∨ b = it := by simpa using hb
        rcases e' with z | z
        · rw [z]; exact hel
        · rw [z]; exact hil
      rw [L2.upd_ne (Nat.ne_of_lt hb')]
      exact (hf b hb).1
  done := by
    intro X hP hw hK hc i pins s σ H E I hf st hg
    subst hP hw hK
    obtain ⟨⟨old, he⟩, hit, hne, hai, hae⟩ := st
    obtain ⟨xs, hq, hx⟩ := hg
    obtain ⟨its, rv, p, hz⟩ := I.tuple hq
    obtain ⟨f0, f1, f2, f3, f4, f5⟩ := hf it (by simp)
    have hl := rv.length
    -- the end: the iterator may have gone further than the tuple is long
    refine enum_end_tuple (I.ok.hd hc) he hit (show s.heap.IsTuple a its.toArray from p) (by simp; omega) fun h' eb => ⟨rfl, I.turned (t' := s.toks) (fun b o hb q => eb b o hb q) f0 f1 f3 f4 f5⟩
  self := fun A i s Q E st h => let ⟨⟨_, he⟩, _⟩ := st; wpAny_pyIter_enum he h

section
variable {X : Cx} {pos : Pos} {e : Expr} {we : ZE}
/-- enumerate of a list or a tuple -/
theorem pi_enumS {ta : TA} {p tpos : Pos} {elts : List Expr} {kk : Nat} (hg : Gl X "enumerate") (hm : X.mg "enumerate" = none) (ha : PA X [e] ta) (hs : starEach [e] X.env = [(false, eval e X.env)] := by rfl) :
    PI X (.Tuple elts kk tpos) (.Call (.Name "enumerate" p) [e] [] pos) (fun σ H R => ta σ H fun vs H1 => ∃ a, vs = [.ref a] ∧ (((∃ xs, SqL X.K H1 a xs) ∧ R (Ite X.K a) H1) ∨ ((∃ xs, SqT X.K H1 a xs) ∧ R (IteT X.K a) H1))) := by
  refine ⟨fun pins s σ H R I h => ?_⟩
  refine Call_ (ld_blt I hg hm boot_enumerate (PyProof.Rows.callWith_type1 (thn (ha.run pos pins s σ H _ I h) fun us s1 ⟨vs, H1, I1, r1, q1⟩ => ?_) hs rfl))
  obtain ⟨a, ex, q1⟩ := q1
  subst ex
  cases r1 with
  | cons r rr =>
    cases rr
    cases r
    have fr : ∀ b ∈ [s1.heap.objs.size + 1, s1.heap.objs.size], FpOk X pins H1 b := fun b hb => by
      have e' : b = s1.heap.objs.size + 1 ∨ b = s1.heap.objs.size := by simpa using hb
      have hle : s1.heap.objs.size ≤ b := by
        rcases e' with z | z
        · rw [z]; exact Nat.le_add_right _ _
        · rw [z]; exact Nat.le_refl _
      exact I1.fpOk hle (I1.hok.fresh hle)
    rcases q1 with ⟨⟨xs, hq⟩, q⟩ | ⟨⟨xs, hq⟩, q⟩
    · obtain ⟨its, rv, p', hz⟩ := I1.list hq
      refine call_enumerate_list p'.isList fun h' he hit hsz hk => wpAny_pyIter_enum he ?_
      have I2 : Inv X pins σ H1 { s1 with heap := h' } := I1.kept (t' := s1.toks) hk
      exact ⟨s1.heap.objs.size + 1, [s1.heap.objs.size + 1, s1.heap.objs.size], _, _, H1, rfl, I2, turn_enum a (s1.heap.objs.size + 1) s1.heap.objs.size, ⟨⟨.none, he⟩, hit, Nat.succ_ne_self _⟩, fr, q⟩
    · obtain ⟨its, rv, p', hz⟩ := I1.tuple hq
      have hl : a < s1.heap.objs.size := by obtain ⟨o, ho, _⟩ := id p'; exact Heap.lt_size ho
      refine call_enumerate_tuple (show s1.heap.IsTuple a its.toArray from p') fun h' he hit hsz hk => wpAny_pyIter_enum he ?_
      have I2 : Inv X pins σ H1 { s1 with heap := h' } := I1.kept (t' := s1.toks) hk
      exact ⟨s1.heap.objs.size + 1, [s1.heap.objs.size + 1, s1.heap.objs.size], _, _, H1, rfl, I2, turn_enumT a (s1.heap.objs.size + 1) s1.heap.objs.size, ⟨⟨.none, he⟩, hit, Nat.succ_ne_self _, Nat.ne_of_lt hl, Nat.ne_of_lt (Nat.lt_succ_of_lt hl)⟩, fr, q⟩
/-- the pairs (place, item) -/
def enumV (vs : List Val) : List Val := vs.zipIdx.map fun p => .tup [.int (p.2 : Nat), p.1]
theorem enumV_length {vs : List Val} : (enumV vs).length = vs.length := by simp [enumV]
theorem enumV_get {vs : List Val} {i : Nat} {v : Val} (h : vs[i]? = some v) : (enumV vs)[i]? = some (.tup [.int (i : Nat), v]) := by
  simp [enumV, List.getElem?_zipIdx, h]
def ienumM (v : Val) (S1 : Sto) (r : List Val → (Sto → Prop) → Sto → Prop) : Prop := match v with
  | .tup vs => r (enumV vs) (fun _ => True) S1
  | .fl vs => r (enumV vs) (fun _ => True) S1
  | .ref a => (match S1 a with | some (.lst vs) => r (enumV vs) (fun S => S a = some (.lst vs)) S1 | _ => False)
  | _ => False
def ziEnum (we : ZE) : ZI := fun ζ S r => we ζ S fun v S1 => ienumM v S1 r
theorem pair_new {K : PySem.W.Frag} {S : Sto} {H : Hp} {T : Addr} {i : Nat} {v : Val} {x : V} (hS : Rep K S H) (hT : H T = none) (r : RV K H v x) :
    RV K (L2.upd H T (.tup [.int (i : Nat), x])) (.tup [.int (i : Nat), v]) (.ref T) ∧ Pres H (L2.upd H T (.tup [.int (i : Nat), x])) ∧ Rep K S (L2.upd H T (.tup [.int (i : Nat), x])) :=
  have pr : Pres H (L2.upd H T (.tup [.int (i : Nat), x])) := Pres.new hT
  ⟨RV.tupI (SqT.of L2.upd_same) (.cons (.int _) (.cons (r.mono pr) .nil)), pr, hS.newH hT⟩
theorem zwalk_enumL {K : PySem.W.Frag} {a : Addr} {vs : List Val} {H0 : Hp} : ZWalk K (Ite K a) H0 (enumV vs) (fun S => S a = some (.lst vs)) :=
  .of (fun i H S hi p hS hg => by
    rw [enumV_length] at hi
    obtain ⟨xs, ha, ra⟩ := hS _ _ hg
    have hx : i < xs.length := by rw [← ra.length]; exact hi
    refine ⟨⟨xs, xs[i], SqL.of ha, by simp [hx]⟩, fun x H' ⟨T, y, e1, e2, e3, e4⟩ => ?_⟩
    subst e1 e3
    have ev : vs[i]? = some vs[i] := by simp [hi]
    exact ⟨_, enumV_get ev, pair_new hS e2 (Paired.ix ra i _ _ ev (e4 xs (SqL.of ha)))⟩)
  fun H S p hS hg => by
    obtain ⟨xs, ha, ra⟩ := hS _ _ hg
    exact ⟨xs, SqL.of ha, by rw [enumV_length, ra.length]; exact Nat.le_refl _⟩
theorem zwalk_enumF {K : PySem.W.Frag} {a : Addr} {xs : List V} {vs : List Val} {H0 : Hp} (hs : FzL K H0 a xs) (ra : RVs K H0 vs xs) : ZWalk K (Ite K a) H0 (enumV vs) (fun _ => True) :=
  .of (fun i H S hi p hS hg => by
    rw [enumV_length] at hi
    have hx : i < xs.length := by rw [← ra.length]; exact hi
    have sq := (p.fzL hs).sq
    refine ⟨⟨xs, xs[i], sq, by simp [hx]⟩, fun x H' ⟨T, y, e1, e2, e3, e4⟩ => ?_⟩
    subst e1 e3
    have ev : vs[i]? = some vs[i] := by simp [hi]
    exact ⟨_, enumV_get ev, pair_new hS e2 ((Paired.ix ra i _ _ ev (e4 xs sq)).mono p)⟩)
  fun H S p hS hg => ⟨xs, (p.fzL hs).sq, by rw [enumV_length, ra.length]; exact Nat.le_refl _⟩
theorem zwalk_enumT {K : PySem.W.Frag} {a : Addr} {xs : List V} {vs : List Val} {H0 : Hp} (hs : SqT K H0 a xs) (ra : RVs K H0 vs xs) : ZWalk K (IteT K a) H0 (enumV vs) (fun _ => True) :=
  .of (fun i H S hi p hS hg => by
    rw [enumV_length] at hi
    have hx : i < xs.length := by rw [← ra.length]; exact hi
    have sq := p.sqT hs
    refine ⟨⟨xs, xs[i], sq, by simp [hx]⟩, fun x H' ⟨T, y, e1, e2, e3, e4⟩ => ?_⟩
    subst e1 e3
    have ev : vs[i]? = some vs[i] := by simp [hi]
    exact ⟨_, enumV_get ev, pair_new hS e2 ((Paired.ix ra i _ _ ev (e4 xs sq)).mono p)⟩)
  fun H S p hS hg => ⟨xs, p.sqT hs, by rw [enumV_length, ra.length]; exact Nat.le_refl _⟩
theorem zi_enum {p tpos : Pos} {elts : List Expr} {kk : Nat} (hg : Gl X "enumerate") (hm : X.mg "enumerate" = none) (ha : PZ X e we) (hs : starEach [e] X.env = [(false, eval e X.env)] := by rfl) (hs0 : starEach [e] X.env = (false, eval e X.env) :: starEach [] X.env := by rfl) :
    PZI X (.Tuple elts kk tpos) (.Call (.Name "enumerate" p) [e] [] pos) (ziEnum we) := (pi_enumS hg hm (pa_cons ha pa_nil hs0) hs).zimp fun σ H R ⟨ζ, S, r, hζ, hS, hw, hr⟩ =>
  one_arg ⟨ζ, S, _, hζ, hS, hw, fun v S1 x H1 p1 r1 hS1 h1 => by
    unfold ienumM at h1
    split at h1
    · obtain ⟨a, xs, rfl, sa, ra⟩ := r1.tupE
      exact ⟨a, rfl, .inr ⟨⟨xs, sa⟩, hr _ _ _ _ _ p1 hS1 h1 (zwalk_enumT sa ra)⟩⟩
    · obtain ⟨a, xs, rfl, sa, ra⟩ := r1.flE
      exact ⟨a, rfl, .inl ⟨⟨xs, sa.sq⟩, hr _ _ _ _ _ p1 hS1 h1 (zwalk_enumF sa ra)⟩⟩
    · split at h1
      · rename_i a _ vs ea
        obtain ⟨xs, ha, ra⟩ := hS1 _ _ ea
        cases r1
        exact ⟨_, rfl, .inl ⟨⟨xs, SqL.of ha⟩, hr _ _ _ _ _ p1 hS1 h1 zwalk_enumL⟩⟩
      · exact h1.elim
    · exact h1.elim⟩
end
end Z

namespace Z
open PySem PySem.Spec PyProof.Rows L2
/-- a value's type -/
def tyN (S : Sto) : Val → Option String
  | .non => some "NoneType"
  | .bl _ => some "bool"
  | .int _ => some "int"
  | .str _ => some "str"
  | .tup _ => some "tuple"
  | .fl _ => some "list"
  | .ref a => (match S a with | some (.lst _) => some "list" | some (.dK _) => some "dict" | some (.dT _) => some "dict" | _ => none)
  | .raw _ => none
def tyNames : List String := ["NoneType", "bool", "int", "str", "tuple", "list", "dict"]
def isT (n T : String) : Bool := n == T || (n == "bool" && T == "int")
theorem kt_all (K : PySem.W.Frag) : ∀ T ∈ ["bool", "int", "str", "tuple", "list", "dict"], ∀ n ∈ tyNames, PySem.W.kitOne K (.type n) (.type T) = some (isT n T) := by
  intro T hT n hn
  simp only [tyNames, List.mem_cons, List.not_mem_nil, or_false] at hT hn
  rcases hT with rfl | rfl | rfl | rfl | rfl | rfl <;> rcases hn with rfl | rfl | rfl | rfl | rfl | rfl | rfl <;> exact kit_ty (by decide +kernel)

section
variable {X : Cx} {pos : Pos} {e : Expr} {we : ZE} {a b : Expr} {wa wb : ZE}
theorem tyX_of {K : PySem.W.Frag} {S : Sto} {H : Hp} {v : Val} {x : V} {n : String} (hS : Rep K S H) (r : RV K H v x) (e : tyN S v = some n) : TyX K H x (.type n) ∧ n ∈ tyNames := by
  cases r with
  | non => cases e; exact ⟨.base .non, by decide⟩
  | bl b => cases e; exact ⟨.base (.bl b), by decide⟩
  | int i => cases e; exact ⟨.base (.int i), by decide⟩
  | str y => cases e; exact ⟨.base (.str y), by decide⟩
  | tup hs _ _ =>
    cases e
    rcases hs with (h | ⟨o, h⟩) | ⟨o, its, k, h, hc, _⟩
    · exact ⟨.base (.tup h), by decide⟩
    · exact ⟨.fTuple h, by decide⟩
    · exact ⟨.kTuple h hc, by decide⟩
  | fl hs _ _ =>
    cases e
    rcases hs with ⟨o, h⟩ | ⟨o, its, k, h, hc, _⟩
    · exact ⟨.base (.frz h), by decide⟩
    · exact ⟨.kList h hc, by decide⟩
  | ref a =>
    simp only [tyN] at e
    split at e
    · rename_i ea
      cases e
      obtain ⟨xs, ha, _⟩ := hS _ _ ea
      exact ⟨.base (.lst ha), by decide⟩
    · rename_i ea
      cases e
      obtain ⟨xs, ha, _⟩ := hS _ _ ea
      exact ⟨.base (.dK ha), by decide⟩
    · rename_i ea
      cases e
      obtain ⟨xs, ha, _⟩ := hS _ _ ea
      exact ⟨.base (.dT ha), by decide⟩
    · cases e
  | raw v => cases e
def zIsI (T : String) : Val → Sto → ZQ → Prop := fun v S q => match tyN S v with | some n => q (.bl (isT n T)) S | none => False
theorem z_isi {T : Str} {Tn : String} {p p2 : Pos} (hT : Tn ∈ ["bool", "int", "str", "tuple", "list", "dict"]) (hg : Gl X "isinstance") (hm : X.mg "isinstance" = none) (ha : PZ X e we) (gT : Gl X T) (mT : X.mg T = none) (bT : bootBuiltins T = some (.type Tn))
    (hn : T ≠ "__name__" := by decide) (hd : (T == ("__debug__" : Str)) = false := by decide)
    (h1 : starEach [e, .Name T p2] X.env = (false, eval e X.env) :: starEach [.Name T p2] X.env := by rfl) (h2 : starEach [.Name T p2] X.env = (false, eval (.Name T p2) X.env) :: starEach [] X.env := by rfl)
    (hpl : (backTo pos (starEach [.Name T p2] X.env)).any (·.1) = false := by rfl) :
    PZ X (.Call (.Name "isinstance" p) [e, .Name T p2] [] pos) (zUn (zIsI Tn) we) :=
  (pe_callB call_isi hg hm (by decide +kernel) (pa_cons ha (pa_cons (pe_bltn gT mT bT (v := .ty Tn) rfl hn hd) pa_nil h2) h1) (he := h1) (hpl := hpl)).zimp fun σ H Q ⟨ζ, S, q, hζ, hS, hw, hq⟩ =>
    show LE X.K we σ H _ from ⟨ζ, S, _, hζ, hS, hw, fun v S1 x H1 p1 r1 hS1 h1 => by
      unfold zIsI at h1
      split at h1
      · rename_i n en
        obtain ⟨ty, hmem⟩ := tyX_of hS1 r1 en
        exact ⟨x, .ty Tn, _, _, _, rfl, .ty Tn, ty, kt_all X.K Tn hT n hmem, hq _ _ _ _ p1 (.bl _) hS1 h1⟩
      · exact h1.elim⟩
/-! ### short forms -/
theorem zv (i : Nat) {x : Str} {pos : Pos} (hN : X.N[i]? = some x := by rfl) (hv : Vis X.env.scope x := by first | exact Or.inl rfl | exact Or.inr (Or.inl rfl) | exact Or.inr (Or.inr rfl)) (hd : (x == ("__debug__" : Str)) = false := by decide)
    (hcd : (x == ("__classdict__" : Str)) = false := by decide) : PZ X (.Name x pos) (zVar i) := z_var i (pe_var hN hv hd hcd)
theorem zn (i : Nat) {x : Str} {pos : Pos} {own : List Nat} (hN : X.N.Nodup) (hi : X.N[i]? = some x := by rfl) (hx : Loc X.env.scope x := by first | exact Or.inl rfl | exact Or.inr rfl) (hf : X.fn x = true ∨ X.env.scope.names.lookup x = some .local := by first | exact .inl rfl | exact .inr rfl) (ho : own.contains i = true := by decide) :
    PZGo X (.Name x pos) own (zgName i) := zg_name (pg_name hN hi hx hf) ho
theorem z_gc {x : Str} {v : Val} {y : V} {pos : Pos} (hg : Gl X x) (h : ∃ u, X.mg x = some u ∧ RelV y u) (r : ∀ H, RV X.K H v y) (hd : (x == ("__debug__" : Str)) = false := by decide) : PZ X (.Name x pos) (zC v) := by
  obtain ⟨u, hm, hr⟩ := h
  exact z_glob (pe_glob hg hm hr hd) r
theorem z_ch {c : Expr} {wc : ZE} {op op' : CmpOp} {g g' : Int → Int → Bool} (ho : OpR X (compareOp op) (rI0 fun i j => .bl (g i j))) (ho' : OpR X (compareOp op') (rI0 fun i j => .bl (g' i j))) (ha : PZ X a wa) (hb : PZ X b wb) (hc : PZ X c wc) (hm : lastMarks [op, op'] [b, c] = false := by rfl) :
    PZ X (.Compare a [op, op'] [b, c] pos) (zChain g g' wa wb wc) := z_chain ho ho' ha hb hc fun ha hb hc => pe_chain ho ho' ha hb hc hm
theorem zt_ch {c : Expr} {wc : ZE} {op op' : CmpOp} {g g' : Int → Int → Bool} (ho : OpR X (compareOp op) (rI0 fun i j => .bl (g i j))) (ho' : OpR X (compareOp op') (rI0 fun i j => .bl (g' i j))) (ha : PZ X a wa) (hb : PZ X b wb) (hc : PZ X c wc) (hm : lastMarks [op, op'] [b, c] = false := by rfl) :
    PZT X (.Compare a [op, op'] [b, c] pos) (zB (zChain g g' wa wb wc)) := (pt_chain ho ho' ha hb hc hm).zimp fun σ H Q ⟨ζ, S, q, hζ, hS, hw, hq⟩ =>
  ⟨ζ, S, _, hζ, hS, hw, fun v S1 x H1 p1 r1 hS1 h1 => ⟨ζ, S1, _, hζ.mono p1, hS1, h1, fun u S2 y H2 p2 r2 hS2 h2 => by
    have r1' := r1.mono p2
    split at h2
    · cases r1'; cases r2
      refine ⟨_, _, rfl, rfl, _, rfl, ?_⟩
      split
      · rename_i hg
        rw [if_pos hg] at h2
        refine ⟨ζ, S2, _, hζ.mono (p1.trans p2), hS2, h2, fun t S3 z H3 p3 r3 hS3 h3 => ?_⟩
        split at h3
        · cases r3
          exact ⟨_, _, rfl, rfl, _, rfl, hq _ _ _ ((p1.trans p2).trans p3) hS3 h3⟩
        · exact h3.elim
      · rename_i hg
        rw [if_neg hg] at h2
        exact ⟨_, rfl, hq _ _ _ (p1.trans p2) hS2 h2⟩
    · exact h2.elim⟩⟩
/-! the built-ins' names -/
theorem zb_len : bootBuiltins "len" = some (.builtin "len") := by decide +kernel
theorem zb_int : bootBuiltins "int" = some (.type "int") := by decide +kernel
theorem zb_tuple : bootBuiltins "tuple" = some (.type "tuple") := by decide +kernel
theorem zb_list : bootBuiltins "list" = some (.type "list") := by decide +kernel
theorem zb_bool : bootBuiltins "bool" = some (.type "bool") := by decide +kernel
theorem zb_str : bootBuiltins "str" = some (.type "str") := by decide +kernel
theorem zb_dict : bootBuiltins "dict" = some (.type "dict") := by decide +kernel
theorem zb_abs : bootBuiltins "abs" = some (.builtin "abs") := by decide +kernel
theorem zb_any : bootBuiltins "any" = some (.builtin "any") := by decide +kernel
theorem zb_all : bootBuiltins "all" = some (.builtin "all") := by decide +kernel
theorem zb_sum : bootBuiltins "sum" = some (.builtin "sum") := by decide +kernel
theorem zb_min : bootBuiltins "min" = some (.builtin "min") := by decide +kernel
theorem zb_max : bootBuiltins "max" = some (.builtin "max") := by decide +kernel
end
end Z

namespace Z
open PySem PySem.Spec PyProof.Rows L2
section
variable {X : Cx} {pos : Pos} {e : Expr} {es : List Expr} {we : ZE} {ws wk : ZA} {a b : Expr} {wa wb : ZE}
theorem zs_par3 {i j l : Nat} {x y z : Str} {a b c : Expr} {wa : ZA} {px py pz pt : Pos} {kt k2 pt2} (hc : X.calm = true) (hN : X.N.Nodup) (hi : X.N[i]? = some x) (hj : X.N[j]? = some y) (hl : X.N[l]? = some z) (hij : i ≠ j) (hil : i ≠ l) (hjl : j ≠ l)
    (hx : X.env.scope.names.lookup x = some .local) (hy : X.env.scope.names.lookup y = some .local) (hz : X.env.scope.names.lookup z = some .local) (ha : PZA X [a, b, c] wa)
    (hw : swappedStores [.Tuple [.Name x px, .Name y py, .Name z pz] kt pt] (.Tuple [a, b, c] k2 pt2) X.env = pure (some [x, y, z]))
    (hs : swapsWithSole [.Tuple [.Name x px, .Name y py, .Name z pz] kt pt] (.Tuple [a, b, c] k2 pt2) pos.line X.env = pure false := by rfl) :
    PZS X (.Assign [.Tuple [.Name x px, .Name y py, .Name z pz] kt pt] (.Tuple [a, b, c] k2 pt2) pos) (zPar3 i j l wa) := (ps_par3 hc hN hi hj hl hij hil hjl hx hy hz ha hw hs).zimp fun D σ H ⟨ζ, S, d, hζ, hS, hw, hd⟩ =>
  ⟨ζ, S, _, hζ, hS, hw, fun vs S1 xs H1 p1 r1 hS1 h1 => by
    split at h1
    · cases r1 with
      | cons r r' =>
        cases r' with
        | cons r2 r3 =>
          cases r3 with
          | cons r4 r5 =>
            cases r5
            exact ⟨_, _, _, rfl, hd.nx _ _ _ _ p1 ((((hζ.mono p1).set r).set r2).set r4) hS1 h1⟩
    · exact h1.elim⟩
theorem zs_setLc {i : Nat} {y : Str} {py : Pos} {elt tg iter : Expr} {ifs : List Expr} {scope : Scope} {own : List (Str × Nat)} {pos spos : Pos} {wi : ZI} {g : ZG} {tt : ZT} {te : ZE} (hc : X.calm = true) (hN : X.N.Nodup) (hy : X.N[i]? = some y) (hyl : X.env.scope.names.lookup y = some .local)
    (hsw : swapsWith (.ListComp elt [⟨tg, iter, ifs, 0⟩] scope pos) (some (.Name y py)) spos.line X.env = pure true) (hi : PZI X tg iter wi) (ok : BlkOk X.N X.env.scope scope own)
    (hg : ∀ (s : Shared) (H : Hp) (C : Addr) (cl : List (Str × Addr)) (fp : List Addr), PZGo (X.blk s H scope (compEnvC scope cl C X.env) fp) tg (own.map (·.2)) g) (ht : ∀ (s : Shared) (H : Hp) (C : Addr) (cl : List (Str × Addr)) (fp : List Addr), PZTs (X.blk s H scope (compEnvC scope cl C X.env) fp) ifs tt)
    (he : ∀ (s : Shared) (H : Hp) (C : Addr) (cl : List (Str × Addr)) (fp : List Addr), PZ (X.blk s H scope (compEnvC scope cl C X.env) fp) elt te) (hs : ∀ x, foldedSetIterable iter X.env x = pure x := by intro _; rfl) :
    PZS X (.Assign [.Name y py] (.ListComp elt [⟨tg, iter, ifs, 0⟩] scope pos) spos) (zAsg (zLc wi g tt te (own.map (·.2))) (zgName i)) :=
  (ps_setLc (own := own) (g := LGo X.K (own.map fun p : Str × Nat => p.2) g) (tt := LT X.K tt) (te := LE X.K te) hc hN hy hyl hsw hi ok hg ht he hs).zimp fun D σ H ⟨ζ, S, d, hζ, hS, hw, hd⟩ =>
    zlc_ok σ H _ ⟨ζ, S, _, hζ, hS, hw, fun v S1 x H1 p1 r1 hS1 h1 => hd.nx _ _ _ _ p1 ((hζ.mono p1).set r1) hS1 h1⟩
/-! ### list(range(n)) -/
theorem z_listRg {p p2 pos2 : Pos} (hl : X.mg "list" = none) (hr : X.mg "range" = none) (he : PZ X e we) (hgl : Gl X "list" := by rfl) (hgr : Gl X "range" := by rfl) (hc : X.calm = true := by rfl) (n1 : starEach [e] X.env = (false, eval e X.env) :: starEach [] X.env := by rfl)
    (n2 : starEach [.Call (.Name "range" p2) [e] [] pos2] X.env = (false, eval (.Call (.Name "range" p2) [e] [] pos2) X.env) :: starEach [] X.env := by rfl) :
    PZ X (.Call (.Name "list" p) [.Call (.Name "range" p2) [e] [] pos2] [] pos) (zListRg we) := (pe_listRg hc hgl hl (prg_1 hgr hr he n1) n2).zimp fun σ H Q ⟨ζ, S, q, hζ, hS, hw, hq⟩ =>
  ⟨ζ, S, _, hζ, hS, hw, fun v S1 x H1 p1 r1 hS1 h1 => by
    split at h1
    · rename_i j
      cases r1
      refine ⟨j, rfl, ⟨by omega, by omega, by omega, by omega, by omega⟩, fun l hl => ?_⟩
      have pr : Pres H1 (L2.upd H1 l (.lst (rgV 0 j))) := Pres.new hl
      refine hq _ _ _ _ (p1.trans pr) (.ref l) (hS1.new (m := .lst (rgv 0 j.toNat)) hl ⟨_, L2.upd_same, ?_⟩) (h1.2 l (hS1.non hl))
      refine Paired.of_ix (by simp [rgv, rgV]) fun i v x ev ex => ?_
      have hi : i < j.toNat := by
        have := (List.getElem?_eq_some_iff.mp ev).1
        simpa [rgv] using this
      rw [ints_get hi] at ev
      cases ev
      simp [rgV, hi] at ex
      subst ex
      rw [Int.zero_add]
      exact .int _
    · exact h1.elim⟩
/-! ### calls with keywords, defaults -/
structure ZCalD (P : Program) (w : World) (K : PySem.W.Frag) (mg : Str → Option Value) (base : Heap) (k : Nat) (x : Str) (ds : List Val) (z : ZSp) : Prop where
  ex : ∃ (f : Addr) (fd : FuncData) (ps : List Str) (dxs : List V) (dus : List Value), FnOk P w K mg base CX0 k f fd ps (LF K z) ∧ mg x = some (.ref f) ∧ PySem.W.keepIn K (.ref f) = true ∧ Binds K fd ps dus ∧ Vals dxs dus ∧ ∀ H, RVs K H ds dxs
theorem z_callD {k j : Nat} {x : Str} {ds : List Val} {z : ZSp} {p : Pos} (c : ZCalD X.prog X.w X.K X.mg X.base k x ds z) (hr : Room j X.A) (hk : k ≤ j) (hg : Gl X x) (ha : PZA X (e :: es) ws)
    (hdb : (x == ("__debug__" : Str)) = false := by decide) (he : starEach (e :: es) X.env = (false, eval e X.env) :: starEach es X.env := by rfl) (hpl : (backTo pos (starEach es X.env)).any (·.1) = false := by rfl) :
    PZ X (.Call (.Name x p) (e :: es) [] pos) (zCall (fun vs S q => z (vs ++ ds) S q) ws) := by
  obtain ⟨f, fd, ps, dxs, dus, F, hm, kp, b, rd, rds⟩ := c.ex
  exact (pe_call F (hr.mono hk) hg hm kp b rd pass0 ha hdb he hpl).zimp fun σ H Q ⟨ζ, S, q, hζ, hS, hw, hq⟩ =>
    ⟨ζ, S, _, hζ, hS, hw, fun vs S1 xs H1 p1 r1 hS1 h1 => ⟨vs ++ ds, S1, q, Paired.app r1 (rds H1), hS1, h1, fun v S' x H' p => hq v S' x H' (p1.trans p)⟩⟩
structure ZCalK (P : Program) (w : World) (K : PySem.W.Frag) (mg : Str → Option Value) (base : Heap) (k : Nat) (x : Str) (n : Nat) (ks : List Str) (gZ : List Val → List Val → List Val) (z : ZSp) : Prop where
  ex : ∃ (f : Addr) (fd : FuncData) (ps : List Str) (g : List Value → List Value → List Value) (gV : List V → List V → List V), FnOk P w K mg base CX0 k f fd ps (LF K z) ∧ mg x = some (.ref f) ∧ PySem.W.keepIn K (.ref f) = true ∧ KBn K fd ps n ks g gV ∧
    ∀ H vs xs us zs, RVs K H vs xs → RVs K H us zs → vs.length = n → us.length = ks.length → RVs K H (gZ vs us) (gV xs zs)
abbrev PZK (X : Cx) (kws : List Keyword) (w : ZA) : Prop := PK X kws (LA X.K w)
theorem _root_.L2.PK.zimp {X : Cx} {e : List Keyword} {t t' : TA} (h : PK X e t) (i : ∀ σ H Q, t' σ H Q → t σ H Q) : PK X e t' := ⟨fun pos pins s σ H Q I q => h.run pos pins s σ H Q I (i _ _ _ q)⟩
theorem zk_nil : PZK X [] zaNil := pk_nil.zimp fun σ H Q ⟨ζ, S, q, hζ, hS, hw, hq⟩ => hq _ _ _ _ (.refl H) .nil hS hw
theorem zk_cons {kws : List Keyword} {nm : Option Str} {kpos : Pos} (ha : PZ X e we) (hr : PZK X kws ws) : PZK X (⟨nm, e, kpos⟩ :: kws) (zaCons we ws) := (pk_cons ha hr).zimp fun σ H Q ⟨ζ, S, q, hζ, hS, hw, hq⟩ =>
  ⟨ζ, S, _, hζ, hS, hw, fun v S1 x H1 p1 r1 hS1 h1 => ⟨ζ, S1, _, hζ.mono p1, hS1, h1, fun vs S2 xs H2 p2 r2 hS2 h2 => hq _ _ _ _ (p1.trans p2) (.cons (r1.mono p2) r2) hS2 h2⟩⟩
def zCallK (n m : Nat) (gZ : List Val → List Val → List Val) (z : ZSp) (ws wk : ZA) : ZE := fun ζ S q => ws ζ S fun vs S1 => wk ζ S1 fun us S2 => vs.length = n ∧ us.length = m ∧ z (gZ vs us) S2 q
theorem z_callK {k j n m : Nat} {x : Str} {ks : List Str} {gZ : List Val → List Val → List Val} {z : ZSp} {p : Pos} {kws : List Keyword} (c : ZCalK X.prog X.w X.K X.mg X.base k x n ks gZ z) (hr : Room j X.A) (hk : k ≤ j) (hg : Gl X x) (ha : PZA X (e :: es) ws) (hkw : PZK X kws wk)
    (hall : (backToKw pos (keywordEach kws X.env)).all (·.1.isSome) = true := by rfl) (hks : (backToKw pos (keywordEach kws X.env)).filterMap (·.1) = ks := by rfl)
    (hdb : (x == ("__debug__" : Str)) = false := by decide) (he : starEach (e :: es) X.env = (false, eval e X.env) :: starEach es X.env := by rfl)
    (hpl : ((backTo pos (starEach (e :: es) X.env)).any (·.1) || (backToKw pos (keywordEach kws X.env)).any (·.1.isNone)) = false := by rfl) (hlm : ks.length = m := by rfl) :
    PZ X (.Call (.Name x p) (e :: es) kws pos) (zCallK n m gZ z ws wk) := by
  subst hlm
  obtain ⟨f, fd, ps, g, gV, F, hm, kp, b, rg⟩ := c.ex
  exact (pe_callN F (hr.mono hk) hg hm kp b pass0 ha hkw hall hks hdb he hpl).zimp fun σ H Q ⟨ζ, S, q, hζ, hS, hw, hq⟩ =>
    ⟨ζ, S, _, hζ, hS, hw, fun vs S1 xs H1 p1 r1 hS1 h1 => ⟨ζ, S1, _, hζ.mono p1, hS1, h1, fun us S2 zs H2 p2 r2 hS2 ⟨l1, l2, h2⟩ =>
      ⟨by rw [← r1.length]; exact l1, by rw [← r2.length]; exact l2, gZ vs us, S2, q, rg H2 vs xs us zs (RVs.mono r1 p2) r2 l1 l2, hS2, h2, fun v S' x H' p => hq v S' x H' ((p1.trans p2).trans p)⟩⟩⟩
theorem ZCalD.mono {P : Program} {w : World} {K : PySem.W.Frag} {mg : Str → Option Value} {base : Heap} {k j : Nat} {x : Str} {ds : List Val} {z : ZSp} (c : ZCalD P w K mg base k x ds z) (h : k ≤ j) : ZCalD P w K mg base j x ds z := by
  obtain ⟨f, fd, ps, a, b, F, r⟩ := c.ex
  exact ⟨f, fd, ps, a, b, F.mono h, r⟩
theorem ZCalK.mono {P : Program} {w : World} {K : PySem.W.Frag} {mg : Str → Option Value} {base : Heap} {k j : Nat} {x : Str} {n : Nat} {ks : List Str} {gZ : List Val → List Val → List Val} {z : ZSp} (c : ZCalK P w K mg base k x n ks gZ z) (h : k ≤ j) : ZCalK P w K mg base j x n ks gZ z := by
  obtain ⟨f, fd, ps, a, b, F, r⟩ := c.ex
  exact ⟨f, fd, ps, a, b, F.mono h, r⟩
section
variable {P : Program} {w : World} {K : PySem.W.Frag} {mg : Str → Option Value} {base : Heap} {k : Nat} {x : Str} {z : ZSp} {params : Arguments} {body : List Stmt} {scope : Scope} {kws : List (Str × V)} {f : Addr} {fd : FuncData} {ps : List Str} {ds : List Val}
theorem ZCalD.mk0 (F : FunD K x x params body scope [] kws f fd) (fn : FnOk P w K mg base CX0 k f fd ps (LF K z)) (hm : mg x = some (.ref f)) (n : Nat) (hk : kws ≠ []) (hn : n + kws.length = ps.length)
    (h : ∀ (D : Addr) (doc pm : Value) (an : Option Addr) (cdv ct : Value) (us ks : List Value), us.length = n → ks.length = kws.length →
      KwChain D ((kws.map (·.1)).zip ks) (bindArgs (PySem.W.fnOf x x params body scope .none (.ref D) doc pm an cdv ct) ⟨us, []⟩) (ps.zip (us ++ ks))) (rds : ∀ H, RVs K H ds (kws.map (·.2))) : ZCalD P w K mg base k x ds z := by
  obtain ⟨dus, hv, b⟩ := F.binds0 n hk hn h
  exact ⟨f, fd, ps, _, dus, fn, hm, F.kp, b, hv, rds⟩
theorem ZCalK.mk0 {n : Nat} {ks : List Str} {gZ : List Val → List Val → List Val} (F : FunD K x x params body scope [] kws f fd) (fn : FnOk P w K mg base CX0 k f fd ps (LF K z)) (hm : mg x = some (.ref f)) (ms : List (Str × V)) (g : {α : Type} → List α → List α → List α → List α) (hk : kws ≠ []) (hms : ∀ q ∈ ms, q ∈ kws)
    (hrel : ∀ {vs mz zs : List V} {us mv ws : List Value}, Vals vs us → Vals mz mv → Vals zs ws → Vals (g vs mz zs) (g us mv ws))
    (h : ∀ (D : Addr) (doc pm : Value) (an : Option Addr) (cdv ct : Value) (us mv ws : List Value), us.length = n → mv.length = ms.length → ws.length = ks.length →
      KwChain D ((ms.map (·.1)).zip mv) (bindArgs (PySem.W.fnOf x x params body scope .none (.ref D) doc pm an cdv ct) ⟨us, ks.zip ws⟩) (ps.zip (g us mv ws)))
    (rz : ∀ H vs xs us zs, RVs K H vs xs → RVs K H us zs → RVs K H (gZ vs us) (g xs (ms.map (·.2)) zs)) : ZCalK P w K mg base k x n ks gZ z := by
  obtain ⟨mv, b⟩ := F.kbinds0 n ks ms g hk hms hrel h
  exact ⟨f, fd, ps, _, _, fn, hm, F.kp, b, fun H vs xs us zs r1 r2 _ _ => rz H vs xs us zs r1 r2⟩
end
/-! ### in -/
/-- v in seq, by == of values -/
def zInS (neg : Bool) : ZR2 := fun v u S q => match rdS S v, lstS S u with
  | some v', some us => v'.okd = true ∧ (Val.fl us).okd = true ∧ q (.bl (if neg then !us.any fun z => z.eqb v' else us.any fun z => z.eqb v')) S
  | _, _ => False
end
end Z

namespace Z
open PySem PySem.Spec PyProof.Rows L2
/-! ### readings, step by step -/
section
variable {ζ : Env} {S : Sto} {q : ZQ} {d : ZEnds} {wa wb we wc : ZE} {t u : ZS} {z : ZR2} {i j k : Int} {v w : Val} {vs us : List Val} {n m : Nat} {qt : Bool → Sto → Prop} {qa : List Val → Sto → Prop} {qg : Env → Sto → Prop} {g : ZG} {gs : ZGs} {ws wk : ZA} {ta tb : ZT} {a b : Addr}
theorem o_seq (h : t { d with nx := u d } ζ S) : zSeq t u d ζ S := h
theorem o_next (h : d.nx ζ S) : zNext d ζ S := h
theorem o_asg (h : we ζ S fun v S1 => g v ζ S1 d.nx) : zAsg we g d ζ S := h
theorem o_ret (h : we ζ S d.rt) : zRet we d ζ S := h
theorem o_retN (h : d.rt .non S) : zRetN d ζ S := h
theorem o_drop (h : we ζ S fun _ S1 => d.nx ζ S1) : zDrop we d ζ S := h
theorem o_ifS (h : ta ζ S fun b S1 => if b = true then t d ζ S1 else u d ζ S1) : zIfS ta t u d ζ S := h
theorem o_par {i j : Nat} (h : ws ζ S fun vs S1 => match vs with | [v, w] => d.nx ((ζ.set i (some v)).set j (some w)) S1 | _ => False) : zPar i j ws d ζ S := h
theorem o_par3 {i j l : Nat} (h : ws ζ S fun vs S1 => match vs with | [v, w, u] => d.nx (((ζ.set i (some v)).set j (some w)).set l (some u)) S1 | _ => False) : zPar3 i j l ws d ζ S := h
theorem o_aug {i : Nat} (e : ζ[i]? = some (some v)) (h : we ζ S fun u S1 => z v u S1 fun r S2 => d.nx (ζ.set i (some r)) S2) : zAug i we z d ζ S := by unfold zAug; rw [e]; exact h
theorem o_gname {i : Nat} (h : qg (ζ.set i (some v)) S) : zgName i v ζ S qg := h
theorem o_gtup (e : vs.length = n) (h : gs vs ζ S qg) : zgTup n gs (.tup vs) ζ S qg := ⟨e, h⟩
theorem o_gcons (h : g v ζ S fun ζ' S' => gs vs ζ' S' qg) : zgCons g gs (v :: vs) ζ S qg := h
theorem o_gnil (h : qg ζ S) : zgNil [] ζ S qg := ⟨rfl, h⟩
theorem o_gsub (h : wa ζ S fun o S1 => wb ζ S1 fun i S2 => gsubM v ζ qg o i S2) : zgSub wa wb v ζ S qg := h
theorem o_gsubM {j : Nat} (ea : S a = some (.lst vs)) (ej : ixN vs.length k = some j) (h : qg ζ (S.upd a (.lst (vs.set j v)))) : gsubM v ζ qg (.ref a) (.int k) S := by unfold gsubM; simp only [ea, ej]; exact h
theorem o_var {i : Nat} (e : ζ[i]? = some (some v)) (h : q v S) : zVar i ζ S q := by unfold zVar; rw [e]; exact h
theorem o_c (h : q v S) : zC v ζ S q := h
theorem o_op (h : wa ζ S fun v S1 => wb ζ S1 fun u S2 => z v u S2 q) : zOp z wa wb ζ S q := h
theorem o_un {z : Val → Sto → ZQ → Prop} (h : wa ζ S fun v S1 => z v S1 q) : zUn z wa ζ S q := h
theorem o_neg (h : q (.int (-i)) S) : zNeg (.int i) S q := h
theorem o_add (h : q (.int (i + j)) S) : zAdd (.int i) (.int j) S q := h
theorem o_addT (hl : vs.length + us.length ≤ sizeLine) (h : q (.tup (vs ++ us)) S) : zAdd (.tup vs) (.tup us) S q := ⟨hl, h⟩
theorem o_addL (ea : S a = some (.lst vs)) (eb : S b = some (.lst us)) (hl : vs.length + us.length ≤ sizeLine) (h : ∀ p, S p = none → q (.ref p) (S.upd p (.lst (vs ++ us)))) : zAdd (.ref a) (.ref b) S q := by
  unfold zAdd; simp only [ea, eb]; exact ⟨hl, h⟩
theorem o_sub (h : q (.int (i - j)) S) : zSub (.int i) (.int j) S q := h
theorem o_mul (c : MulOk i j) (h : q (.int (i * j)) S) : zMul (.int i) (.int j) S q := ⟨c, h⟩
theorem o_fdiv (c : DivOk j) (h : q (.int (i.fdiv j)) S) : zFdiv (.int i) (.int j) S q := ⟨c, h⟩
theorem o_mod (c : j ≠ 0) (h : q (.int (i.fmod j)) S) : zMod (.int i) (.int j) S q := ⟨c, h⟩
theorem o_pow (c : PowOk i j) (h : q (.int (i ^ j.toNat)) S) : zPow (.int i) (.int j) S q := ⟨c, h⟩
theorem o_shl (c : CPow i j) (h : q (.int (i * 2 ^ j.toNat)) S) : zShl (.int i) (.int j) S q := ⟨c, h⟩
theorem o_I0 {g : Int → Int → Val} (h : q (g i j) S) : zI0 g (.int i) (.int j) S q := h
theorem o_cmp {g : Int → Int → Bool} (h : q (.bl (g i j)) S) : zCmp g (.int i) (.int j) S q := h
theorem eqb_int : (Val.int i).eqb (.int j) = decide (i = j) := by simp only [Val.eqb]; by_cases h : i = j <;> simp [h]
theorem o_eqI (h : q (.bl (decide (i = j))) S) : zEqG false (.int i) (.int j) S q := by
  show _ ∧ _ ∧ _
  refine ⟨rfl, rfl, ?_⟩
  rw [eqb_int]; exact h
theorem o_neI (h : q (.bl (decide (i ≠ j))) S) : zEqG true (.int i) (.int j) S q := by
  show _ ∧ _ ∧ _
  refine ⟨rfl, rfl, ?_⟩
  rw [eqb_int]
  have e : (decide (i ≠ j)) = (if true = true then !decide (i = j) else decide (i = j)) := by by_cases h : i = j <;> simp [h]
  rw [← e]; exact h
theorem o_eq {v' w' : Val} (ev : rdS S v = some v') (ew : rdS S w = some w') (hv : v'.okd = true) (hw : w'.okd = true) (h : q (.bl (v'.eqb w')) S) : zEqG false v w S q := by
  unfold zEqG; rw [ev, ew]; exact ⟨hv, hw, h⟩
theorem o_ne {v' w' : Val} (ev : rdS S v = some v') (ew : rdS S w = some w') (hv : v'.okd = true) (hw : w'.okd = true) (h : q (.bl (!v'.eqb w')) S) : zEqG true v w S q := by
  unfold zEqG; rw [ev, ew]; exact ⟨hv, hw, h⟩
theorem o_ixT (e : atI vs i = some w) (h : q w S) : zIx (.tup vs) (.int i) S q := by unfold zIx; simp only [e]; exact h
theorem o_ixF (e : atI vs i = some w) (h : q w S) : zIx (.fl vs) (.int i) S q := by unfold zIx; simp only [e]; exact h
theorem o_ixL (ea : S a = some (.lst vs)) (e : atI vs i = some w) (h : q w S) : zIx (.ref a) (.int i) S q := by unfold zIx; simp only [ea, e]; exact h
theorem o_isN {neg : Bool} (h : we ζ S fun v S1 => v.isRaw = false ∧ q (.bl (if neg then !v.isNon else v.isNon)) S1) : zIsN neg we ζ S q := h
theorem o_isB {neg b c : Bool} (h : q (.bl (if neg then !decide (b = c) else decide (b = c))) S) : zIsB neg (.bl b) (.bl c) S q := h
theorem o_isI {T n : String} (e : tyN S v = some n) (h : q (.bl (isT n T)) S) : zIsI T v S q := by unfold zIsI; rw [e]; exact h
theorem o_call {zf : List Val → Sto → ZQ → Prop} (h : ws ζ S fun vs S1 => zf vs S1 q) : zCall zf ws ζ S q := h
theorem o_callK {gZ : List Val → List Val → List Val} {zf : ZSp} (h : ws ζ S fun vs S1 => wk ζ S1 fun us S2 => vs.length = n ∧ us.length = m ∧ zf (gZ vs us) S2 q) : zCallK n m gZ zf ws wk ζ S q := h
theorem o_anil (h : qa [] S) : zaNil ζ S qa := h
theorem o_acons (h : we ζ S fun v S1 => ws ζ S1 fun vs S2 => qa (v :: vs) S2) : zaCons we ws ζ S qa := h
theorem o_z1 {kf : Val → Sto → ZQ → Prop} (h : kf v S q) : z1 kf [v] S q := h
theorem o_z2 (h : z v w S q) : z2 z [v, w] S q := h
theorem o_len (e : seqS S v = some vs) (h : q (.int vs.length) S) : zLen v S q := by
  unfold zLen
  split
  · simp [seqS] at e
  · rw [e]; exact h
theorem o_int (h : q (.int i) S) : zInt (.int i) S q := h
theorem o_intB {c : Bool} (h : q (.int (if c then 1 else 0)) S) : zInt (.bl c) S q := h
theorem o_abs (h : q (.int (if i < 0 then -i else i)) S) : zAbs (.int i) S q := h
theorem o_max2 (h : q (.int (if j > i then j else i)) S) : zMax2 (.int i) (.int j) S q := h
theorem o_min2 (h : q (.int (if j < i then j else i)) S) : zMin2 (.int i) (.int j) S q := h
theorem o_bls {gb : List Bool → Bool} {bs : List Bool} (e : lstS S v = some (bs.map Val.bl)) (h : q (.bl (gb bs)) S) : zBls gb v S q := by unfold zBls; rw [e]; simp only [blsOf_map]; exact h
theorem o_sum {ns : List Int} (e : lstS S v = some (ns.map Val.int)) (h : q (.int ns.sum) S) : zSum v S q := by unfold zSum zInts; rw [e]; simp only [intsOf_map]; exact ⟨trivial, h⟩
theorem o_minL {ge : Int → Int → Prop} {ns : List Int} (e : lstS S v = some (ns.map Val.int)) (hl : 0 < ns.length) (h : ∀ m, m ∈ ns → (∀ y, y ∈ ns → ge m y) → q (.int m) S) : zMinL ge v S q := by unfold zMinL; rw [e]; simp only [intsOf_map]; exact ⟨hl, h⟩
theorem o_tuple (e : seqS S v = some vs) (h : q (.tup vs) S) : zTuple v S q := by unfold zTuple; rw [e]; exact h
theorem o_list (e : seqS S v = some vs) (h : ∀ p, S p = none → q (.ref p) (S.upd p (.lst vs))) : zList v S q := by unfold zList; rw [e]; exact h
theorem o_listRg (h : we ζ S fun v S1 => match v with | .int j => (0 ≤ j ∧ j ≤ 1000000) ∧ ∀ p, S1 p = none → q (.ref p) (S1.upd p (.lst (rgv 0 j.toNat))) | _ => False) : zListRg we ζ S q := h
theorem o_tup (h : ws ζ S fun vs S1 => vs.length ≤ sizeLine ∧ q (.tup vs) S1) : zTup ws ζ S q := h
theorem o_lst (h : ws ζ S fun vs S1 => vs.length ≤ sizeLine ∧ ∀ p, S1 p = none → q (.ref p) (S1.upd p (.lst vs))) : zLst ws ζ S q := h
theorem o_dr (h : we ζ S fun v S1 => ∃ S0, Sub S0 S1 ∧ q v S0) : zDr we ζ S q := h
theorem o_if (h : ta ζ S fun c S1 => if c = true then wa ζ S1 q else wb ζ S1 q) : zIf ta wa wb ζ S q := h
theorem o_andV (h : wa ζ S fun v S1 => match v with | .bl c => if c = true then wb ζ S1 q else q (.bl false) S1 | _ => False) : zAndV wa wb ζ S q := h
theorem o_orV (h : wa ζ S fun v S1 => match v with | .bl c => if c = true then q (.bl true) S1 else wb ζ S1 q | _ => False) : zOrV wa wb ζ S q := h
theorem o_notV (h : wa ζ S fun v S1 => match v with | .bl c => q (.bl (!c)) S1 | _ => False) : zNotV wa ζ S q := h
theorem o_chain {g g' : Int → Int → Bool} (h : wa ζ S fun v S1 => wb ζ S1 fun u S2 => match v, u with
  | .int i, .int j => if g i j = true then wc ζ S2 fun t S3 => (match t with | .int k => q (.bl (g' j k)) S3 | _ => False) else q (.bl false) S2
  | _, _ => False) : zChain g g' wa wb wc ζ S q := h
theorem o_B (h : wa ζ S fun v S1 => match v with | .bl c => qt c S1 | _ => False) : zB wa ζ S qt := h
theorem o_not (h : ta ζ S fun c S1 => qt (!c) S1) : ztNot ta ζ S qt := h
theorem o_and (h : ta ζ S fun c S1 => if c = true then tb ζ S1 qt else qt false S1) : ztAnd ta tb ζ S qt := h
theorem o_or (h : ta ζ S fun c S1 => if c = true then qt true S1 else tb ζ S1 qt) : ztOr ta tb ζ S qt := h
theorem o_sl {wl wh : ZO} (h : wa ζ S fun v S1 => wl ζ S1 fun l S2 => wh ζ S2 fun hh S3 => zSlV v l hh S3 q) : zSl wa wl wh ζ S q := h
theorem o_oN {qo : Option Int → Sto → Prop} (h : qo none S) : zoNone ζ S qo := h
theorem o_oS {qo : Option Int → Sto → Prop} (h : we ζ S fun v S1 => match v with | .int i => qo (some i) S1 | _ => False) : zoSome we ζ S qo := h
theorem o_slT {lo hi : Option Int} (h : q (.tup (cutZ vs lo hi)) S) : zSlV (.tup vs) lo hi S q := h
theorem o_slL {lo hi : Option Int} (ea : S a = some (.lst vs)) (h : ∀ p, S p = none → q (.ref p) (S.upd p (.lst (cutZ vs lo hi)))) : zSlV (.ref a) lo hi S q := by unfold zSlV; simp only [ea]; exact h
theorem o_slF {lo hi : Option Int} (h : ∀ p, S p = none → q (.ref p) (S.upd p (.lst (cutZ vs lo hi)))) : zSlV (.fl vs) lo hi S q := h
theorem o_mt {zm : Val → List Val → Sto → ZQ → Prop} (h : wa ζ S fun v S1 => (∃ a vs, v = .ref a ∧ S1 a = some (.lst vs)) ∧ ws ζ S1 fun us S2 => zm v us S2 q) : zMt zm wa ws ζ S q := h
theorem o_mt0 {zm : Val → List Val → Sto → ZQ → Prop} (h : wa ζ S fun v S1 => (∃ a vs, v = .ref a ∧ S1 a = some (.lst vs)) ∧ zm v [] S1 q) : zMt0 zm wa ζ S q := h
theorem o_append (ea : S a = some (.lst vs)) (hl : vs.length < sizeLine) (h : q .non (S.upd a (.lst (vs ++ [w])))) : zAppend (.ref a) [w] S q := by unfold zAppend; simp only [ea]; exact ⟨hl, h⟩
theorem o_extend (ea : S a = some (.lst vs)) (eb : S b = some (.lst us)) (hl : vs.length + us.length ≤ sizeLine) (h : q .non (S.upd a (.lst (vs ++ us)))) : zExtend (.ref a) [.ref b] S q := by unfold zExtend; simp only [ea, eb]; exact ⟨hl, h⟩
theorem o_pop (ea : S a = some (.lst (vs ++ [w]))) (h : q w (S.upd a (.lst vs))) : zPop (.ref a) [] S q := by unfold zPop; simp [ea]; exact h
variable {r : List Val → (Sto → Prop) → Sto → Prop}
theorem o_iseq (h : we ζ S fun v S1 => iseqM v S1 r) : ziSeq we ζ S r := h
theorem o_iseqM (e : seqS S v = some vs) (h : ∀ G, (∀ S', seqS S' v = some vs → G S') → r vs G S) : iseqM v S r := by
  unfold iseqM
  cases v with
  | tup us => simp only [seqS, Option.some.injEq] at e; subst e; exact h _ fun _ _ => trivial
  | fl us => simp only [seqS, Option.some.injEq] at e; subst e; exact h _ fun _ _ => trivial
  | ref a =>
    simp only [seqS] at e
    split at e
    · rename_i us ea
      cases e
      simp only [ea]
      refine h _ fun S' h' => ?_
      simp only [seqS] at h'
      split at h'
      · rename_i us' ea'; cases h'; exact ea'
      · cases h'
    · cases e
  | _ => simp [seqS] at e
theorem o_ienum (h : we ζ S fun v S1 => ienumM v S1 r) : ziEnum we ζ S r := h
theorem o_ienumM (e : seqS S v = some vs) (h : ∀ G, (∀ S', seqS S' v = some vs → G S') → r (enumV vs) G S) : ienumM v S r := by
  unfold ienumM
  cases v with
  | tup us => simp only [seqS, Option.some.injEq] at e; subst e; exact h _ fun _ _ => trivial
  | fl us => simp only [seqS, Option.some.injEq] at e; subst e; exact h _ fun _ _ => trivial
  | ref a =>
    simp only [seqS] at e
    split at e
    · rename_i us ea
      cases e
      simp only [ea]
      refine h _ fun S' h' => ?_
      simp only [seqS] at h'
      split at h'
      · rename_i us' ea'; cases h'; exact ea'
      · cases h'
    · cases e
  | _ => simp [seqS] at e
theorem o_irng1 (h : we ζ S fun v S1 => match v with | .int j => RgOk2 j ∧ r (rgv 0 j.toNat) (fun _ => True) S1 | _ => False) : ziRng1 we ζ S r := h
theorem o_irng2 (h : wa ζ S fun v S1 => wb ζ S1 fun u S2 => match v, u with | .int i, .int j => (RgOk2 i ∧ RgOk2 j) ∧ r (rgv i (j - i).toNat) (fun _ => True) S2 | _, _ => False) : ziRng2 wa wb ζ S r := h
/-- a walk that leaves the store as it is -/
theorem seqS_sub {S S' : Sto} {v : Val} {vs : List Val} (h : Sub S S') (e : seqS S v = some vs) : seqS S' v = some vs := by
  cases v with
  | ref a =>
    simp only [seqS] at e ⊢
    split at e
    · rename_i us ea; cases e; rw [h _ _ ea]
    · cases e
  | _ => exact e
theorem lstS_sub {S S' : Sto} {v : Val} {vs : List Val} (h : Sub S S') (e : lstS S v = some vs) : lstS S' v = some vs := by
  cases v with
  | ref a =>
    simp only [lstS] at e ⊢
    split at e
    · rename_i us ea; cases e; rw [h _ _ ea]
    · cases e
  | _ => exact e
theorem lstS_upd {S : Sto} {p : Addr} {vs : List Val} : lstS (S.upd p (.lst vs)) (.ref p) = some vs := by simp only [lstS, Sto.upd_same]
theorem seqS_upd {S : Sto} {p : Addr} {vs : List Val} : seqS (S.upd p (.lst vs)) (.ref p) = some vs := by simp only [seqS, Sto.upd_same]
theorem seqS_ne {S : Sto} {p : Addr} {o : Mo} {v : Val} {vs : List Val} (e : seqS S v = some vs) (hp : S p = none) : seqS (S.upd p o) v = some vs := seqS_sub (Sub.new hp) e
theorem ne_none {S : Sto} {p a : Addr} {o : Mo} (hp : S p = none) (ha : S a = some o) : a ≠ p := fun e => by subst e; rw [hp] at ha; cases ha
theorem Sub.upd {S S' : Sto} {a : Addr} {o : Mo} (h : Sub S S') : Sub (S.upd a o) (S'.upd a o) := fun b m e => by
  by_cases hb : b = a
  · subst hb; rw [Sto.upd_same] at e ⊢; exact e
  · rw [Sto.upd_ne hb] at e ⊢; exact h b m e
theorem Sub.nn {S S' : Sto} {a : Addr} (h : Sub S S') (e : S' a = none) : S a = none := by
  cases q : S a with
  | none => rfl
  | some o => rw [h _ _ q] at e; cases e
theorem Sto.comm {S : Sto} {a b : Addr} {o m : Mo} (h : a ≠ b) : (S.upd a o).upd b m = (S.upd b m).upd a o := by
  funext c; unfold Sto.upd
  by_cases h1 : c = b <;> by_cases h2 : c = a
  · subst h1; exact absurd h2.symm h
  · subst h1; simp [h2]
  · subst h2; simp [h1]
  · simp [h1, h2]
theorem Sub.skip {S S' : Sto} {a : Addr} {o : Mo} (h : Sub S S') (e : S a = none) : Sub S (S'.upd a o) := fun b m eb => by
  rw [Sto.upd_ne (ne_none e eb)]; exact h b m eb
/-- if's by their test -/
theorem o_iteT {c : Prop} [Decidable c] {A B : Prop} (hc : c) (h : A) : if c then A else B := by rw [if_pos hc]; exact h
theorem o_iteF {c : Prop} [Decidable c] {A B : Prop} (hc : ¬ c) (h : B) : if c then A else B := by rw [if_neg hc]; exact h
theorem o_ite {c : Prop} [Decidable c] {A B : Prop} (h1 : c → A) (h2 : ¬ c → B) : if c then A else B := by by_cases hc : c <;> simp only [hc, if_true, if_false]; exact h1 hc; exact h2 hc
end
/-- the only store that is spoken of behind a body -/
theorem end_ {S : Sto} {q : ZQ} {v : Val} (h : q v S) : ∃ S0, Sub S0 S ∧ q v S0 := ⟨S, Sub.refl S, h⟩
theorem o_while {ζ : Env} {S : Sto} {d : ZEnds} {c : ZT} {tb : ZS} (I : Nat → Env → Sto → Prop) (m : Nat) (h0 : I m ζ S) (step : ∀ m ζ S, I m ζ S →
  c ζ S fun b S1 => if b = true then tb { d with nx := fun ζ' S' => ∃ m', m' < m ∧ I m' ζ' S', ct := fun ζ' S' => ∃ m', m' < m ∧ I m' ζ' S', bk := d.nx } ζ S1 else d.nx ζ S1) : zWhile c tb d ζ S := ⟨I, ⟨m, h0⟩, step⟩
theorem o_for {ζ : Env} {S : Sto} {d : ZEnds} {wi : ZI} {g : ZG} {tb : ZS} (h : wi ζ S (forGo g tb d ζ)) : zFor wi g tb d ζ S := h
theorem o_lc {ζ : Env} {S : Sto} {q : ZQ} {wi : ZI} {g : ZG} {tt : ZT} {te : ZE} {own : List Nat} (h : wi ζ S (lcGo g tt te own ζ q)) : zLc wi g tt te own ζ S q := h
theorem o_forGo {g : ZG} {tb : ZS} {d : ZEnds} {ζ : Env} {vs : List Val} {G : Sto → Prop} {S : Sto} (I : Nat → Env → Sto → Prop) (h0 : I 0 ζ S) (hG : ∀ i ζ S, i ≤ vs.length → I i ζ S → G S)
    (step : ∀ (i : Nat) v ζ S, vs[i]? = some v → I i ζ S → g v ζ S fun ζ' S' => tb { d with nx := I (i + 1), ct := I (i + 1), bk := d.nx } ζ' S') (fin : ∀ ζ S, I vs.length ζ S → d.nx ζ S) : forGo g tb d ζ vs G S := ⟨I, h0, hG, step, fin⟩
theorem o_turn {g : ZG} {tt : ZT} {te : ZE} {own : List Nat} {ζ : Env} {v : Val} {S : Sto} {k : Option Val → Sto → Prop} (h : g v (zwipe ζ own) S fun ζ' S' => tt ζ' S' fun b S2 => if b = true then te ζ' S2 fun y S3 => k (some y) S3 else k none S2) : zTurn g tt te own ζ v S k := h
theorem o_yes {ζ : Env} {S : Sto} {q : Bool → Sto → Prop} (h : q true S) : zYes ζ S q := h
/-- a comprehension over a sequence, each turn leaves the store as it is -/
theorem o_lcS {ζ : Env} {S : Sto} {q : ZQ} {g : ZG} {tt : ZT} {te : ZE} {own : List Nat} {v : Val} {vs : List Val} (e : seqS S v = some vs) (F : Val → Option Val) (hl : vs.length ≤ sizeLine)
    (turn : ∀ v, v ∈ vs → ∀ S' k, Sub S S' → k (F v) S' → zTurn g tt te own ζ v S' k) (fin : ∀ D, S D = none → q (.ref D) (S.upd D (.lst (vs.filterMap F)))) :
    iseqM v S (lcGo g tt te own ζ q) := o_iseqM e fun G hG => lcGo_pure F hl (fun S' h => hG S' (seqS_sub h e)) turn fin
theorem o_lcE {ζ : Env} {S : Sto} {q : ZQ} {g : ZG} {tt : ZT} {te : ZE} {own : List Nat} {v : Val} {vs : List Val} (e : seqS S v = some vs) (F : Val → Option Val) (hl : vs.length ≤ sizeLine)
    (turn : ∀ v, v ∈ enumV vs → ∀ S' k, Sub S S' → k (F v) S' → zTurn g tt te own ζ v S' k) (fin : ∀ D, S D = none → q (.ref D) (S.upd D (.lst ((enumV vs).filterMap F)))) :
    ienumM v S (lcGo g tt te own ζ q) := o_ienumM e fun G hG => lcGo_pure F (by rw [enumV_length]; exact hl) (fun S' h => hG S' (seqS_sub h e)) turn fin
theorem len2 {α : Type} {a b : α} : [a, b].length ≤ sizeLine := by show 2 ≤ sizeLine; decide
theorem len3 {α : Type} {a b c : α} : [a, b, c].length ≤ sizeLine := by show 3 ≤ sizeLine; decide
theorem len4 {α : Type} {a b c d : α} : [a, b, c, d].length ≤ sizeLine := by show 4 ≤ sizeLine; decide
theorem len1 {α : Type} {a : α} : [a].length ≤ sizeLine := by show 1 ≤ sizeLine; decide
theorem len0 {α : Type} : ([] : List α).length ≤ sizeLine := Nat.zero_le _
theorem rdS_upd {S : Sto} {p : Addr} {vs : List Val} : rdS (S.upd p (.lst vs)) (.ref p) = some (.fl vs) := by simp only [rdS, Sto.upd_same]
theorem rdS_at {S : Sto} {p : Addr} {vs : List Val} (h : S p = some (.lst vs)) : rdS S (.ref p) = some (.fl vs) := by simp only [rdS, h]
end Z

namespace Z
open PySem PySem.Spec PyProof.Rows L2
section
variable {X : Cx} {a : Expr} {ta : TE} {p p2 q pos : Pos}
theorem pe_sortSetT (hc : X.calm = true) (hg : Gl X "sorted") (hm : X.mg "sorted" = none) (hg2 : Gl X "set") (hm2 : X.mg "set" = none) (ha : PE X a ta)
    (na : starEach [a] X.env = (false, eval a X.env) :: starEach [] X.env := by rfl) :
    PE X (.Call (.Name "sorted" p) [.Call (.Name "set" p2) [a] [] q] [] pos) (fun σ H Q => ta σ H fun x H1 => ∃ (l : Addr) (ns : List Int), x = V.ref l ∧ SqT X.K H1 l (ns.map V.int) ∧ ns.length < 64 ∧ ∀ (ms : List Int) (p : Addr), ms.Pairwise (· < ·) → (∀ k, k ∈ ms ↔ k ∈ ns) → H1 p = none → Q (.ref p) (L2.upd H1 p (.lst (ms.map V.int)))) := by
  refine ⟨fun pins s σ H Q I h => ?_⟩
  refine Call_ (ld_blt I hg hm boot_sorted ?_)
  refine PyProof.Rows.callWith_builtin1 (PyProof.Rows.args_cons ?_ rfl) rfl rfl
  refine Call_ (ld_blt I hg2 hm2 boot_set ?_)
  refine PyProof.Rows.callWith_type1 (PyProof.Rows.args_cons (thn (ha.run pins s σ H _ I h) fun v s1 ⟨x, H1, I1, r1, q1⟩ => PyProof.Rows.args_nil ?_) na) na rfl
  obtain ⟨l, ns, rfl, hq, hl, q1⟩ := q1
  cases r1
  obtain ⟨its, r, pl, hz⟩ := I1.tuple hq
  refine call_set_tupI ns (I1.ok.hd hc) (show s1.heap.IsTuple l its.toArray from pl) (by simpa using r.ints) (by unfold scanBound; omega) fun h' tk c R hcn hk => ?_
  refine PyProof.Rows.args_nil ?_
  have I2 : Inv X pins σ H1 { s1 with heap := h', toks := tk } := I1.kept fun b o e => hk b o e
  refine sorted_set R (I2.ok.hd hc) (by omega) fun s' p out c' ns' k g o hp hg hi hs hm hl' => ?_
  have hlen : (ns'.map V.int).length ≤ sizeLine := by rw [List.length_map, hl', sizeLine_eq]; omega
  have hn : H1 p = none := I2.hok.fresh hp
  have J : Inv X pins σ (L2.upd H1 p (.lst (ns'.map V.int))) { ({ s1 with heap := h', toks := tk } : Shared) with heap := s'.heap, gens := s'.gens, drawn := s'.drawn, toks := s'.toks } :=
    I2.call (ch := []) (Un.laid k hp hn) (I2.hok.laid k hp ⟨hlen, out.toList, c', vals_of_ints hi, hg⟩) (by rw [g]; exact I2.bare) (fun _ z => nomatch z)
  have e : s' = { ({ s1 with heap := h', toks := tk } : Shared) with heap := s'.heap, gens := s'.gens, drawn := s'.drawn, toks := s'.toks } := by
    cases s'
    cases s1
    cases o
    rfl
  rw [e]
  exact ⟨.ref p, _, J, rfl, q1 ns' p hs (fun j => by rw [hm j]; simp) hn⟩
/-- sorted(set(a tuple of ints)) -/
def zSortSet : Val → Sto → ZQ → Prop := fun v S q => match v with
  | .tup vs => (match intsOf vs with | some ns => ns.length < 64 ∧ ∀ (ms : List Int) p, ms.Pairwise (· < ·) → (∀ k, k ∈ ms ↔ k ∈ ns) → S p = none → q (.ref p) (S.upd p (.lst (ms.map Val.int))) | none => False)
  | _ => False
theorem z_sortSet {wa : ZE} (hm : X.mg "sorted" = none) (hm2 : X.mg "set" = none) (ha : PZ X a wa) (hg : Gl X "sorted" := by rfl) (hg2 : Gl X "set" := by rfl) (hc : X.calm = true := by rfl)
    (na : starEach [a] X.env = (false, eval a X.env) :: starEach [] X.env := by rfl) : PZ X (.Call (.Name "sorted" p) [.Call (.Name "set" p2) [a] [] q] [] pos) (zUn zSortSet wa) :=
  (pe_sortSetT hc hg hm hg2 hm2 ha na).zimp fun σ H Q ⟨ζ, S, q, hζ, hS, hw, hq⟩ =>
    ⟨ζ, S, _, hζ, hS, hw, fun v S1 x H1 p1 r1 hS1 h1 => by
      unfold zSortSet at h1
      split at h1
      · split at h1
        · rename_i ns en
          obtain ⟨l, xs, rfl, sa, ra⟩ := r1.tupE
          rw [intsOf_rv ra en] at sa
          refine ⟨l, ns, rfl, sa, h1.1, fun ms p hp hm hn => ?_⟩
          have pr : Pres H1 (L2.upd H1 p (.lst (ms.map V.int))) := Pres.new hn
          refine hq _ _ _ _ (p1.trans pr) (.ref p) (hS1.new (m := .lst (ms.map Val.int)) hn ⟨_, L2.upd_same, ?_⟩) (h1.2 ms p hp hm (hS1.non hn))
          refine Paired.of_ix (by simp) fun i v x ev ex => ?_
          rw [List.getElem?_map] at ev ex
          cases e : ms[i]? with
          | none => rw [e] at ev; cases ev
          | some k => rw [e] at ev ex; cases ev; cases ex; exact .int k
        · exact h1.elim
      · exact h1.elim⟩
/-- list.count of ints -/
def zCount : Val → List Val → Sto → ZQ → Prop := fun v us S q => match v, us with
  | .ref a, [.int k] => (match S a with | some (.lst vs) => (match intsOf vs with | some ns => q (.int (ns.count k : Nat)) S | none => False) | _ => False)
  | _, _ => False
theorem zCount_ok {K : PySem.W.Frag} : ZMOK K (rCntI K) zCount := by
  intro v us S q x xs H Q rv ru hS hz k
  unfold zCount at hz
  split at hz
  · split at hz
    · rename_i vs ea
      split at hz
      · rename_i ns en
        obtain ⟨xs', ha, ra⟩ := hS _ _ ea
        cases rv
        obtain ⟨y, rfl, ry⟩ := one_of ru
        cases ry
        rw [intsOf_rv ra en] at ha
        exact ⟨_, ns, _, rfl, rfl, SqL.of ha, k _ _ _ _ (.refl H) (.int _) hS hz⟩
      · exact hz.elim
    · exact hz.elim
  · exact hz.elim
end
section
variable {X : Cx} {pos apos : Pos} {e o : Expr} {wo : ZE} {ws : ZA}
theorem z_count (ho : PZ X o wo) (ha : PZA X [e] ws) (h : ∀ {to : TE} {t : TA}, PE X o to → PA X [e] t → PE X (.Call (.Attribute o "count" apos) [e] [] pos) (tBM X.K "list" (rCntI X.K) to t)) : PZ X (.Call (.Attribute o "count" apos) [e] [] pos) (zMt zCount wo ws) := (h ho ha).zimp (zmt_ok zCount_ok)
theorem o_sortSet {S : Sto} {q : ZQ} {ns : List Int} (hl : ns.length < 64) (h : ∀ (ms : List Int) p, ms.Pairwise (· < ·) → (∀ k, k ∈ ms ↔ k ∈ ns) → S p = none → q (.ref p) (S.upd p (.lst (ms.map Val.int)))) : zSortSet (.tup (ns.map Val.int)) S q := by
  unfold zSortSet
  simp only [intsOf_map]
  exact ⟨hl, h⟩
theorem o_count {S : Sto} {q : ZQ} {a : Addr} {ns : List Int} {k : Int} (ea : S a = some (.lst (ns.map Val.int))) (h : q (.int (ns.count k : Nat)) S) : zCount (.ref a) [.int k] S q := by
  unfold zCount; simp only [ea, intsOf_map]; exact h
end
end Z

namespace Cov
abbrev Pr := Int × Int
def has (p : Pr) (x : Int) : Bool := decide ((x - p.1) % p.2 = 0)
def had (ps : List Pr) (x : Int) : Bool := ps.any fun p => has p x
/-! ### two rests at once -/
theorem bez (a b : Nat) : ∃ x y : Int, ((Nat.gcd a b : Nat) : Int) = a * x + b * y := by
  refine Nat.gcd.induction (P := fun a b => ∃ x y : Int, ((Nat.gcd a b : Nat) : Int) = a * x + b * y) a b (fun n => ⟨0, 1, by simp⟩) fun m n hm ⟨x, y, e⟩ => ?_
  refine ⟨y - (n / m : Nat) * x, x, ?_⟩
  rw [Nat.gcd_rec m n, e]
  have h : (n : Int) = (m : Int) * (n / m : Nat) + (n % m : Nat) := by exact_mod_cast (Nat.div_add_mod n m).symm
  have h2 : ((n % m : Nat) : Int) = n - m * (n / m : Nat) := by omega
  rw [h2]
  grind
theorem emod0 {a b : Int} : a % b = 0 ↔ b ∣ a := ⟨Int.dvd_of_emod_eq_zero, Int.emod_eq_zero_of_dvd⟩
theorem has_iff {p : Pr} {x : Int} : has p x = true ↔ p.2 ∣ x - p.1 := by unfold has; rw [decide_eq_true_iff]; exact emod0
theorem solve {r s a n : Int} (hs : 0 < s) (hn : 0 < n) (h : (a - r) % (Int.gcd s n : Int) = 0) : ∃ k : Nat, (r + k * s - a) % n = 0 := by
  obtain ⟨x, y, e⟩ := bez s.natAbs n.natAbs
  have es : ((s.natAbs : Nat) : Int) = s := by omega
  have en : ((n.natAbs : Nat) : Int) = n := by omega
  rw [es, en] at e
  have eg : ((Nat.gcd s.natAbs n.natAbs : Nat) : Int) = (Int.gcd s n : Int) := rfl
  rw [eg] at e
  obtain ⟨t, ht⟩ := emod0.mp h
  refine ⟨((x * t) % n).toNat, emod0.mpr ?_⟩
  have h0 : 0 ≤ (x * t) % n := Int.emod_nonneg _ (by omega)
  have hk : (((x * t) % n).toNat : Int) = (x * t) % n := by omega
  rw [hk]
  have hd : n * ((x * t) / n) + (x * t) % n = x * t := Int.mul_ediv_add_emod _ _
  refine ⟨- (y * t) - ((x * t) / n) * s, ?_⟩
  have h3 : (x * t) % n = x * t - n * ((x * t) / n) := by omega
  rw [h3]
  have h4 : a - r = (s * x + n * y) * t := by rw [ht, e]
  grind
/-- what meet_in tells -/
def MeetOk (p q : Pr) : Option Pr → Prop
  | none => ∀ x, ¬ (has p x = true ∧ has q x = true)
  | some r => r.2 = (Int.lcm p.2 q.2 : Int) ∧ 0 ≤ r.1 ∧ r.1 < r.2 ∧ has p r.1 = true ∧ has q r.1 = true
theorem lcm_dvd' {a b c : Int} (h1 : a ∣ c) (h2 : b ∣ c) : (Int.lcm a b : Int) ∣ c := Int.ofNat_dvd_left.mpr (by
  unfold Int.lcm; exact Nat.lcm_dvd (Int.natAbs_dvd_natAbs.mpr h1) (Int.natAbs_dvd_natAbs.mpr h2))
theorem dvd_lcm_l {a b : Int} : a ∣ (Int.lcm a b : Int) := Int.ofNat_dvd_right.mpr (by unfold Int.lcm; exact Nat.dvd_lcm_left _ _)
theorem dvd_lcm_r {a b : Int} : b ∣ (Int.lcm a b : Int) := Int.ofNat_dvd_right.mpr (by unfold Int.lcm; exact Nat.dvd_lcm_right _ _)
theorem lcm_pos' {a b : Int} (h1 : 0 < a) (h2 : 0 < b) : (0 : Int) < (Int.lcm a b : Int) := by
  unfold Int.lcm; exact_mod_cast Nat.lcm_pos (by omega) (by omega)
theorem meet_has {p q r : Pr} (h : MeetOk p q (some r)) (x : Int) : has r x = (has p x && has q x) := by
  obtain ⟨h1, h2, h3, h4, h5⟩ := h
  rw [has_iff] at h4 h5
  rw [Bool.eq_iff_iff, Bool.and_eq_true, has_iff, has_iff, has_iff, h1]
  constructor
  · intro h
    have a1 : p.2 ∣ x - r.1 := Int.dvd_trans dvd_lcm_l h
    have a2 : q.2 ∣ x - r.1 := Int.dvd_trans dvd_lcm_r h
    have e1 : x - p.1 = (x - r.1) + (r.1 - p.1) := by omega
    have e2 : x - q.1 = (x - r.1) + (r.1 - q.1) := by omega
    rw [e1, e2]
    exact ⟨Int.dvd_add a1 h4, Int.dvd_add a2 h5⟩
  · rintro ⟨a1, a2⟩
    refine lcm_dvd' ?_ ?_
    · have e : x - r.1 = (x - p.1) - (r.1 - p.1) := by omega
      rw [e]; exact Int.dvd_sub a1 h4
    · have e : x - r.1 = (x - q.1) - (r.1 - q.1) := by omega
      rw [e]; exact Int.dvd_sub a2 h5
theorem small_dvd {a b : Int} (h : a ∣ b) (h1 : -a < b) (h2 : b < a) : b = 0 := by
  obtain ⟨k, rfl⟩ := h
  have ha : 0 < a := by omega
  have h3 : k < 1 := by
    have : a * k < a * 1 := by omega
    exact Int.lt_of_mul_lt_mul_left this (by omega)
  have h4 : -1 < k := by
    have : a * (-1) < a * k := by omega
    exact Int.lt_of_mul_lt_mul_left this (by omega)
  have : k = 0 := by omega
  rw [this]; simp
theorem meet_uniq {p q : Pr} {o o' : Option Pr} (h : MeetOk p q o) (h' : MeetOk p q o') : o = o' := by
  cases o with
  | none =>
    cases o' with
    | none => rfl
    | some r => exact absurd ⟨h'.2.2.2.1, h'.2.2.2.2⟩ (h r.1)
  | some r =>
    cases o' with
    | none => exact absurd ⟨h.2.2.2.1, h.2.2.2.2⟩ (h' r.1)
    | some r' =>
      have e2 : r.2 = r'.2 := h.1.trans h'.1.symm
      have e := meet_has h r'.1
      rw [h'.2.2.2.1, h'.2.2.2.2] at e
      have d := has_iff.mp e
      have z := small_dvd d (by have := h.2.1; have := h.2.2.1; have := h'.2.1; have := h'.2.2.1; omega) (by have := h.2.1; have := h.2.2.1; have := h'.2.1; have := h'.2.2.1; omega)
      have e1 : r.1 = r'.1 := by omega
      cases r; cases r'; simp_all
theorem meet_none {p q : Pr} (h : ¬ (q.1 - p.1) % (Int.gcd p.2 q.2 : Int) = 0) : MeetOk p q none := by
  rintro x ⟨h1, h2⟩
  rw [has_iff] at h1 h2
  refine h (emod0.mpr ?_)
  have e : q.1 - p.1 = (x - p.1) - (x - q.1) := by omega
  rw [e]
  exact Int.dvd_sub (Int.dvd_trans (Int.gcd_dvd_left ..) h1) (Int.dvd_trans (Int.gcd_dvd_right ..) h2)
theorem meet_some {p q : Pr} {x : Int} (hp : 0 < p.2) (hq : 0 < q.2) (h1 : has p x = true) (h2 : has q x = true) : MeetOk p q (some (x % (Int.lcm p.2 q.2 : Int), (Int.lcm p.2 q.2 : Int))) := by
  have hl := lcm_pos' hp hq
  rw [has_iff] at h1 h2
  refine ⟨rfl, Int.emod_nonneg _ (by omega), Int.emod_lt_of_pos _ hl, ?_, ?_⟩
  · rw [has_iff]
    have e : x % (Int.lcm p.2 q.2 : Int) - p.1 = (x - p.1) - (Int.lcm p.2 q.2 : Int) * (x / (Int.lcm p.2 q.2 : Int)) := by have := Int.mul_ediv_add_emod x (Int.lcm p.2 q.2 : Int); omega
    show p.2 ∣ x % (Int.lcm p.2 q.2 : Int) - p.1
    rw [e]
    exact Int.dvd_sub h1 (Int.dvd_mul_of_dvd_left dvd_lcm_l)
  · rw [has_iff]
    have e : x % (Int.lcm p.2 q.2 : Int) - q.1 = (x - q.1) - (Int.lcm p.2 q.2 : Int) * (x / (Int.lcm p.2 q.2 : Int)) := by have := Int.mul_ediv_add_emod x (Int.lcm p.2 q.2 : Int); omega
    show q.2 ∣ x % (Int.lcm p.2 q.2 : Int) - q.1
    rw [e]
    exact Int.dvd_sub h2 (Int.dvd_mul_of_dvd_left dvd_lcm_r)
/-! ### by all rests -/
theorem has_add {p : Pr} {L x t : Int} (h : p.2 ∣ L) : has p (x + L * t) = has p x := by
  rw [Bool.eq_iff_iff, has_iff, has_iff]
  have d : p.2 ∣ L * t := Int.dvd_mul_of_dvd_left h
  constructor
  · intro a
    have e : x - p.1 = (x + L * t - p.1) - L * t := by omega
    rw [e]; exact Int.dvd_sub a d
  · intro a
    have e : x + L * t - p.1 = (x - p.1) + L * t := by omega
    rw [e]; exact Int.dvd_add a d
theorem had_add {ps : List Pr} {L x t : Int} (h : ∀ p ∈ ps, p.2 ∣ L) : had ps (x + L * t) = had ps x := by
  unfold had
  induction ps with
  | nil => rfl
  | cons p ps ih => simp only [List.any_cons]; rw [has_add (h p (List.mem_cons_self ..)), ih fun q hq => h q (List.mem_cons_of_mem _ hq)]
theorem had_emod {ps : List Pr} {L x : Int} (h : ∀ p ∈ ps, p.2 ∣ L) : had ps (x % L) = had ps x := by
  have e := Int.emod_add_mul_ediv x L
  have := had_add (x := x % L) (t := x / L) h
  rw [e] at this
  exact this.symm
/-! ### sums of powers -/
def val : List (Int × Int) → Nat → Int
  | [], _ => 0
  | (c, z) :: T, x => c * z ^ x + val T x
theorem val_app (T U : List (Int × Int)) (x : Nat) : val (T ++ U) x = val T x + val U x := by
  induction T with
  | nil => simp [val]
  | cons a T ih => obtain ⟨c, z⟩ := a; simp only [List.cons_append, val, ih]; omega
theorem val_step (T : List (Int × Int)) (z : Int) (x : Nat) : val (T.map fun p => (p.1 * (p.2 - z), p.2)) x = val T (x + 1) - z * val T x := by
  induction T with
  | nil => simp [val]
  | cons a T ih =>
    obtain ⟨c, y⟩ := a
    simp only [List.map_cons, val, ih, Int.pow_succ]
    grind
/-- m powers' sum that is 0 at m neighbours is 0 behind them -/
theorem vanish (P : Int) : ∀ (m : Nat) (T : List (Int × Int)), T.length = m → (∀ i < m, P ∣ val T i) → ∀ x, P ∣ val T x
  | 0, [], _, _, x => by simp [val]
  | m + 1, (c, z) :: T, hl, h, x => by
    have ih := vanish P m (T.map fun p => (p.1 * (p.2 - z), p.2)) (by simpa using hl) (fun i hi => by
      have e : val (T.map fun p => (p.1 * (p.2 - z), p.2)) i = val ((c, z) :: T) (i + 1) - z * val ((c, z) :: T) i := by
        rw [val_step]; simp only [val, Int.pow_succ]; grind
      rw [e]
      exact Int.dvd_sub (h _ (by omega)) (Int.dvd_mul_of_dvd_right (h i (by omega))))
    have st : ∀ x, P ∣ val ((c, z) :: T) (x + 1) - z * val ((c, z) :: T) x := fun x => by
      have e : val (T.map fun p => (p.1 * (p.2 - z), p.2)) x = val ((c, z) :: T) (x + 1) - z * val ((c, z) :: T) x := by
        rw [val_step]; simp only [val, Int.pow_succ]; grind
      rw [← e]; exact ih x
    induction x with
    | zero => exact h 0 (by omega)
    | succ x ihx =>
      have e : val ((c, z) :: T) (x + 1) = (val ((c, z) :: T) (x + 1) - z * val ((c, z) :: T) x) + z * val ((c, z) :: T) x := by omega
      rw [e]
      exact Int.dvd_add (st x) (Int.dvd_mul_of_dvd_right ihx)
/-- the product of z ^ x - w -/
def facs : List (Int × Int) → Nat → Int
  | [], _ => 1
  | (z, w) :: F, x => (z ^ x - w) * facs F x
def terms : List (Int × Int) → List (Int × Int)
  | [] => [(1, 1)]
  | (z, w) :: F => (terms F).map (fun p => (p.1, p.2 * z)) ++ (terms F).map fun p => (-(p.1 * w), p.2)
theorem val_mulz (T : List (Int × Int)) (z : Int) (x : Nat) : val (T.map fun p => (p.1, p.2 * z)) x = z ^ x * val T x := by
  induction T with
  | nil => simp [val]
  | cons a T ih => obtain ⟨c, y⟩ := a; simp only [List.map_cons, val, ih, Int.mul_pow]; grind
theorem val_mulw (T : List (Int × Int)) (w : Int) (x : Nat) : val (T.map fun p => (-(p.1 * w), p.2)) x = -(w * val T x) := by
  induction T with
  | nil => simp [val]
  | cons a T ih => obtain ⟨c, y⟩ := a; simp only [List.map_cons, val, ih]; grind
theorem val_terms : ∀ (F : List (Int × Int)) (x : Nat), val (terms F) x = facs F x
  | [], x => by simp [terms, val, facs, Int.one_pow]
  | (z, w) :: F, x => by simp only [terms, val_app, val_mulz, val_mulw, val_terms F, facs]; grind
theorem terms_len : ∀ F : List (Int × Int), (terms F).length = 2 ^ F.length
  | [] => rfl
  | (z, w) :: F => by simp only [terms, List.length_append, List.length_map, terms_len F, List.length_cons, Nat.pow_succ]; omega
/-! ### a field with a root of order 4320 -/
def chk (p : Nat → Bool) : Nat → Bool
  | 0 => true
  | n + 1 => p n && chk p n
theorem chk_ok {p : Nat → Bool} : ∀ {n : Nat}, chk p n = true → ∀ k, k < n → p k = true
  | n + 1, h, k, hk => by
    unfold chk at h
    rw [Bool.and_eq_true] at h
    rcases Nat.lt_or_ge k n with h1 | h1
    · exact chk_ok h.2 k h1
    · have e : k = n := by omega
      rw [e]; exact h.1
theorem divs_b : chk (fun d => !(Nat.beq (8641 % d) 0) || (Nat.beq d 1 || Nat.beq d 8641)) 8642 = true := by decide +kernel
theorem divs8641 : ∀ d, d < 8642 → 8641 % d = 0 → d = 1 ∨ d = 8641 := fun d h e => by
  have := chk_ok divs_b d h
  rw [e] at this
  simpa using this
theorem euclid {a b : Int} (h : (8641 : Int) ∣ a * b) : (8641 : Int) ∣ a ∨ (8641 : Int) ∣ b := by
  have h1 : 8641 ∣ a.natAbs * b.natAbs := by
    rw [← Int.natAbs_mul]; exact Int.ofNat_dvd_left.mp h
  by_cases ha : 8641 ∣ a.natAbs
  · exact .inl (Int.ofNat_dvd_left.mpr ha)
  · have hg : Nat.gcd 8641 a.natAbs ∣ 8641 := Nat.gcd_dvd_left ..
    have hlt : Nat.gcd 8641 a.natAbs < 8642 := Nat.lt_succ_of_le (Nat.le_of_dvd (by decide) hg)
    rcases divs8641 _ hlt (Nat.mod_eq_zero_of_dvd hg) with e | e
    · exact .inr (Int.ofNat_dvd_left.mpr (Nat.Coprime.dvd_of_dvd_mul_left e h1))
    · exact absurd (e ▸ Nat.gcd_dvd_right 8641 a.natAbs) ha
theorem order_b : chk (fun k => !(Nat.beq (2 ^ k % 8641) 1) || Nat.beq k 0) 4320 = true := by decide +kernel
theorem order : ∀ k, k < 4320 → 2 ^ k % 8641 = 1 → k = 0 := fun k h e => by
  have := chk_ok order_b k h
  rw [e] at this
  simpa using this
theorem pow4320 : 2 ^ 4320 % 8641 = 1 := by decide +kernel
theorem ord_dvd {k : Nat} : (8641 : Int) ∣ (2 : Int) ^ k - 1 ↔ 4320 ∣ k := by
  have e1 : 2 ^ k % 8641 = 2 ^ (k % 4320) % 8641 := by
    have e : k = 4320 * (k / 4320) + k % 4320 := (Nat.div_add_mod k 4320).symm
    conv => lhs; rw [e]
    rw [Nat.pow_add, Nat.pow_mul, Nat.mul_mod, Nat.pow_mod (2 ^ 4320), pow4320, Nat.one_pow]
    simp
  have e2 : ((2 : Int) ^ k) % 8641 = ((2 ^ k % 8641 : Nat) : Int) := by
    rw [Int.natCast_emod, Int.natCast_pow]; rfl
  rw [← emod0, ← Int.emod_eq_emod_iff_emod_sub_eq_zero, e2, e1]
  constructor
  · intro h
    have h1 : 2 ^ (k % 4320) % 8641 = 1 := by
      have h3 : ((2 ^ (k % 4320) % 8641 : Nat) : Int) = ((1 : Nat) : Int) := h
      exact_mod_cast h3
    exact Nat.dvd_of_mod_eq_zero (order _ (Nat.mod_lt _ (by decide)) h1)
  · intro h
    rw [Nat.mod_eq_zero_of_dvd h]
    rfl
theorem not2 : ∀ v : Nat, ¬ (8641 : Int) ∣ (2 : Int) ^ v
  | 0 => by decide
  | v + 1 => by
    rw [Int.pow_succ]
    intro h
    rcases euclid h with h | h
    · exact not2 v h
    · exact absurd h (by decide)
theorem pw_le {u v : Nat} (h : v ≤ u) : (8641 : Int) ∣ (2 : Int) ^ u - 2 ^ v ↔ (4320 : Int) ∣ (u : Int) - v := by
  obtain ⟨k, rfl⟩ := Nat.exists_eq_add_of_le h
  have e : (2 : Int) ^ (v + k) - 2 ^ v = 2 ^ v * (2 ^ k - 1) := by rw [Int.pow_add]; grind
  have e2 : ((v + k : Nat) : Int) - v = (k : Nat) := by omega
  rw [e, e2]
  constructor
  · intro d
    rcases euclid d with d | d
    · exact absurd d (not2 v)
    · exact Int.ofNat_dvd.mpr (ord_dvd.mp d)
  · intro d
    exact Int.dvd_mul_of_dvd_right (ord_dvd.mpr (Int.ofNat_dvd.mp d))
theorem pw {u v : Nat} : (8641 : Int) ∣ (2 : Int) ^ u - 2 ^ v ↔ (4320 : Int) ∣ (u : Int) - v := by
  by_cases h : v ≤ u
  · exact pw_le h
  · have h' := pw_le (u := v) (v := u) (by omega)
    rw [← Int.dvd_neg, Int.neg_sub, h', ← Int.dvd_neg, Int.neg_sub]
/-- the pair's factor -/
def fac (p : Pr) : Int × Int := ((2 : Int) ^ (4320 / p.2).toNat, (2 : Int) ^ ((4320 / p.2).toNat * (p.1 % p.2).toNat))
theorem fac_has {p : Pr} (h0 : 0 < p.2) (hd : p.2 ∣ 4320) (x : Nat) : (8641 : Int) ∣ (fac p).1 ^ x - (fac p).2 ↔ has p x = true := by
  unfold fac
  simp only
  rw [← Int.pow_mul, pw, has_iff]
  obtain ⟨e, he⟩ := hd
  have hpos : 0 < e := by
    rcases Int.lt_trichotomy e 0 with h | h | h
    · have := Int.mul_neg_of_pos_of_neg h0 h; omega
    · subst h; simp at he
    · exact h
  have e1 : (4320 : Int) / p.2 = e := by rw [he]; exact Int.mul_ediv_cancel_left _ (by omega)
  rw [e1]
  have hr : 0 ≤ p.1 % p.2 := Int.emod_nonneg _ (by omega)
  have c1 : ((e.toNat * x : Nat) : Int) = e * x := by rw [Int.natCast_mul]; congr 1; omega
  have c2 : ((e.toNat * (p.1 % p.2).toNat : Nat) : Int) = e * (p.1 % p.2) := by rw [Int.natCast_mul]; congr 1 <;> omega
  rw [c1, c2, ← Int.mul_sub, he, Int.mul_comm p.2 e, Int.mul_dvd_mul_iff_left (by omega)]
  have e3 : (x : Int) - p.1 % p.2 = (x - p.1) + p.2 * (p.1 / p.2) := by have := Int.mul_ediv_add_emod p.1 p.2; omega
  rw [e3]
  constructor
  · intro h
    have := Int.dvd_sub h (Int.dvd_mul_right p.2 (p.1 / p.2))
    simpa using this
  · intro h
    exact Int.dvd_add h (Int.dvd_mul_right ..)
theorem facs_had : ∀ (ps : List Pr), (∀ p ∈ ps, 0 < p.2 ∧ p.2 ∣ 4320) → ∀ x : Nat, (8641 : Int) ∣ facs (ps.map fac) x ↔ had ps x = true
  | [], _, x => by simp only [List.map_nil, facs, had, List.any_nil]; decide
  | p :: ps, h, x => by
    have hp := h p (List.mem_cons_self ..)
    have ih := facs_had ps (fun q hq => h q (List.mem_cons_of_mem _ hq)) x
    have hf := fac_has hp.1 hp.2 x
    have e : had (p :: ps) x = (has p x || had ps x) := rfl
    rw [e, Bool.or_eq_true, ← hf, ← ih]
    simp only [List.map_cons]
    constructor
    · intro d; exact euclid d
    · rintro (d | d)
      · exact Int.dvd_mul_of_dvd_left d
      · exact Int.dvd_mul_of_dvd_right d
/-- neighbours tell all: two to the k of them -/
theorem neighbours {ps : List Pr} (h : ∀ p ∈ ps, 0 < p.2 ∧ p.2 ∣ 4320) (s : Int) (hc : ∀ i : Nat, i < 2 ^ ps.length → had ps (s + i) = true) (x : Int) : had ps x = true := by
  have sh : ∀ y : Int, had (ps.map fun p => (p.1 - s, p.2)) y = had ps (s + y) := fun y => by
    unfold had
    rw [List.any_map]
    congr 1
    funext p
    rw [Function.comp, Bool.eq_iff_iff, has_iff, has_iff]
    have e : y - (p.1 - s) = s + y - p.1 := by omega
    simp only [e]
  have h' : ∀ p ∈ ps.map (fun p => (p.1 - s, p.2)), 0 < p.2 ∧ p.2 ∣ 4320 := by
    intro p hp
    obtain ⟨q, hq, rfl⟩ := List.mem_map.mp hp
    exact h q hq
  have all : ∀ y : Nat, had (ps.map fun p => (p.1 - s, p.2)) y = true := fun y => by
    rw [← facs_had _ h', ← val_terms]
    refine vanish 8641 _ _ rfl (fun i hi => ?_) y
    rw [val_terms, facs_had _ h', sh]
    refine hc i ?_
    rw [terms_len, List.length_map, List.length_map] at hi
    exact hi
  have e : x = s + (x - s) := by omega
  rw [e, ← had_emod (L := 4320) (fun p hp => (h p hp).2)]
  have e2 : (s + (x - s)) % 4320 = (s + ((x - s) % 4320).toNat) % 4320 := by omega
  rw [e2, had_emod (L := 4320) (fun p hp => (h p hp).2), ← sh]
  exact all _
end Cov

namespace Cov
/-! ### sums over a range -/
def sumR (f : Nat → Int) : Nat → Int
  | 0 => 0
  | n + 1 => sumR f n + f n
theorem sumR_add (f : Nat → Int) (a : Nat) : ∀ b, sumR f (a + b) = sumR f a + sumR (fun i => f (a + i)) b
  | 0 => by simp [sumR]
  | b + 1 => by show sumR f (a + b) + f (a + b) = _; rw [sumR_add f a b]; simp only [sumR]; omega
theorem sumR_congr {f g : Nat → Int} : ∀ n, (∀ i, i < n → f i = g i) → sumR f n = sumR g n
  | 0, _ => rfl
  | n + 1, h => by show sumR f n + f n = sumR g n + g n; rw [sumR_congr n fun i hi => h i (by omega), h n (by omega)]
theorem sumR_plus (f g : Nat → Int) : ∀ n, sumR (fun i => f i + g i) n = sumR f n + sumR g n
  | 0 => rfl
  | n + 1 => by simp only [sumR, sumR_plus f g n]; omega
theorem sumR_mul (c : Int) (f : Nat → Int) : ∀ n, sumR (fun i => c * f i) n = c * sumR f n
  | 0 => by simp [sumR]
  | n + 1 => by simp only [sumR, sumR_mul c f n, Int.mul_add]
theorem sumR_zero : ∀ n, sumR (fun _ => 0) n = 0
  | 0 => rfl
  | n + 1 => by simp only [sumR, sumR_zero n]; rfl
theorem sumR_one (i0 : Nat) : ∀ n, sumR (fun i => if i = i0 then 1 else 0) n = if i0 < n then 1 else 0
  | 0 => by simp [sumR]
  | n + 1 => by
    simp only [sumR, sumR_one i0 n]
    by_cases h : n = i0
    · subst h; simp
    · by_cases h2 : i0 < n
      · have : i0 < n + 1 := by omega
        simp [h, h2, this]
      · have : ¬ i0 < n + 1 := by omega
        simp [h, h2, this]
/-- in n neighbours just one number is had -/
theorem window {p : Pr} (h : 0 < p.2) (s : Int) : sumR (fun i => if has p (s + i) then 1 else 0) p.2.toNat = 1 := by
  have h0 : 0 ≤ (p.1 - s) % p.2 := Int.emod_nonneg _ (by omega)
  have h1 : (p.1 - s) % p.2 < p.2 := Int.emod_lt_of_pos _ h
  rw [sumR_congr (g := fun i => if i = ((p.1 - s) % p.2).toNat then 1 else 0), sumR_one, if_pos (by omega)]
  intro i hi
  have e : has p (s + i) = true ↔ i = ((p.1 - s) % p.2).toNat := by
    rw [has_iff]
    have em : p.2 * ((p.1 - s) / p.2) + (p.1 - s) % p.2 = p.1 - s := Int.mul_ediv_add_emod _ _
    constructor
    · intro d
      have e1 : s + i - p.1 = (i - (p.1 - s) % p.2) - p.2 * ((p.1 - s) / p.2) := by omega
      have d2 : p.2 ∣ (i - (p.1 - s) % p.2) := by
        have := Int.dvd_add d (Int.dvd_mul_right p.2 ((p.1 - s) / p.2))
        rw [e1] at this
        simpa using this
      have := small_dvd d2 (by omega) (by omega)
      omega
    · intro e
      have e1 : s + i - p.1 = p.2 * (-((p.1 - s) / p.2)) := by rw [Int.mul_neg]; omega
      rw [e1]
      exact Int.dvd_mul_right ..
  by_cases hh : has p (s + i) = true
  · simp only [hh, if_true]; rw [if_pos (e.mp hh)]
  · simp only [hh, if_false]; rw [if_neg (fun z => hh (e.mpr z))]; simp
theorem cnt_has {p : Pr} (h : 0 < p.2) : ∀ k : Nat, sumR (fun i => if has p i then 1 else 0) (p.2.toNat * k) = k
  | 0 => rfl
  | k + 1 => by
    rw [Nat.mul_succ, sumR_add, cnt_has h k]
    have := window h ((p.2.toNat * k : Nat) : Int)
    have e : sumR (fun i => if has p ((p.2.toNat * k + i : Nat) : Int) then (1 : Int) else 0) p.2.toNat = sumR (fun i => if has p (((p.2.toNat * k : Nat) : Int) + i) then 1 else 0) p.2.toNat := sumR_congr _ fun i _ => by rw [Int.natCast_add]
    rw [e, this]
    omega
theorem cnt_dvd {p : Pr} {L : Nat} (h : 0 < p.2) (hd : p.2 ∣ (L : Int)) : sumR (fun i => if has p i then 1 else 0) L = (L : Int) / p.2 := by
  obtain ⟨k, hk⟩ := hd
  have hk0 : 0 ≤ k := by
    rcases Int.lt_or_le k 0 with h' | h'
    · have := Int.mul_neg_of_pos_of_neg h h'; omega
    · exact h'
  have e : L = p.2.toNat * k.toNat := by
    have : ((p.2.toNat * k.toNat : Nat) : Int) = p.2 * k := by rw [Int.natCast_mul]; congr 1 <;> omega
    omega
  rw [hk, Int.mul_ediv_cancel_left _ (by omega), e, cnt_has h]
  omega
/-! ### in and out -/
def wsum (M : List (Pr × Int)) (x : Int) : Int := (M.map fun m => if has m.1 x then m.2 else 0).sum
theorem wsum_app (M N : List (Pr × Int)) (x : Int) : wsum (M ++ N) x = wsum M x + wsum N x := by unfold wsum; rw [List.map_append, List.sum_append_int]
/-- the meets with one more pair -/
inductive More (p : Pr) : List (Pr × Int) → List (Pr × Int) → Prop
  | nil : More p [] []
  | non {M N : List (Pr × Int)} {m : Pr × Int} : More p M N → MeetOk m.1 p none → More p (M ++ [m]) N
  | one {M N : List (Pr × Int)} {m : Pr × Int} {r : Pr} : More p M N → MeetOk m.1 p (some r) → More p (M ++ [m]) (N ++ [(r, -m.2)])
theorem More.sum {p : Pr} {M N : List (Pr × Int)} (h : More p M N) (x : Int) : wsum N x = if has p x then - wsum M x else 0 := by
  induction h with
  | nil => simp [wsum]
  | @non M N m _ hm ih =>
    rw [ih, wsum_app]
    have := hm x
    by_cases h1 : has p x = true
    · have h2 : has m.1 x = false := by cases q : has m.1 x with
        | false => rfl
        | true => exact absurd ⟨q, h1⟩ this
      simp [h1, wsum, h2]
    · simp [h1]
  | @one M N m r _ hm ih =>
    rw [wsum_app, wsum_app, ih]
    have e := meet_has hm x
    by_cases h1 : has p x = true
    · by_cases h2 : has m.1 x = true
      · simp [h1, wsum, e, h2]; omega
      · simp [h1, wsum, e, h2]
    · simp [h1, wsum, e]
theorem More.len {p : Pr} {M N : List (Pr × Int)} (h : More p M N) : N.length ≤ M.length := by
  induction h with
  | nil => exact Nat.le_refl _
  | non _ _ ih => simp; omega
  | one _ _ ih => simp; omega
theorem More.good {p : Pr} {M N : List (Pr × Int)} {L : Int} (h : More p M N) (hp : 0 < p.2 ∧ p.2 ∣ L) (hM : ∀ m ∈ M, 0 < m.1.2 ∧ m.1.2 ∣ L) : ∀ m ∈ N, 0 < m.1.2 ∧ m.1.2 ∣ L := by
  induction h with
  | nil => simp
  | non _ _ ih => exact ih fun m hm => hM m (List.mem_append_left _ hm)
  | @one M N m r _ hm ih =>
    intro n hn
    rcases List.mem_append.mp hn with hn | hn
    · exact ih (fun m hm => hM m (List.mem_append_left _ hm)) n hn
    · simp only [List.mem_singleton] at hn
      subst hn
      have h1 := hM m (List.mem_append_right _ (List.mem_singleton_self m))
      obtain ⟨e, h2, h3, _⟩ := hm
      exact ⟨by show 0 < r.2; omega, by show r.2 ∣ L; rw [e]; exact lcm_dvd' h1.2 hp.2⟩
/-- what the meets of some pairs are -/
inductive Meets : List Pr → List (Pr × Int) → Prop
  | nil : Meets [] [((0, 1), -1)]
  | snoc {ps : List Pr} {p : Pr} {M N : List (Pr × Int)} : Meets ps M → More p M N → Meets (ps ++ [p]) (M ++ N)
theorem had_snoc (ps : List Pr) (p : Pr) (x : Int) : had (ps ++ [p]) x = (had ps x || has p x) := by unfold had; rw [List.any_append]; simp
theorem Meets.sum {ps : List Pr} {M : List (Pr × Int)} (h : Meets ps M) (x : Int) : wsum M x = if had ps x then 0 else -1 := by
  induction h with
  | nil =>
    have e : has ((0, 1) : Pr) x = true := by rw [has_iff]; exact Int.one_dvd _
    simp [wsum, had, e]
  | @snoc ps p M N _ hm ih =>
    rw [wsum_app, hm.sum, ih, had_snoc]
    by_cases h1 : has p x = true <;> by_cases h2 : had ps x = true <;> simp [h1, h2]
theorem Meets.len {ps : List Pr} {M : List (Pr × Int)} (h : Meets ps M) : M.length ≤ 2 ^ ps.length := by
  induction h with
  | nil => simp
  | snoc _ hm ih => have := hm.len; simp only [List.length_append, List.length_cons, List.length_nil, Nat.pow_succ]; omega
theorem Meets.head {ps : List Pr} {M : List (Pr × Int)} (h : Meets ps M) : ∃ T, M = ((0, 1), -1) :: T := by
  induction h with
  | nil => exact ⟨[], rfl⟩
  | snoc _ _ ih => obtain ⟨T, rfl⟩ := ih; exact ⟨_, rfl⟩
theorem Meets.good {ps : List Pr} {M : List (Pr × Int)} {L : Int} (h : Meets ps M) (hp : ∀ p ∈ ps, 0 < p.2 ∧ p.2 ∣ L) : ∀ m ∈ M, 0 < m.1.2 ∧ m.1.2 ∣ L := by
  induction h with
  | nil => simp
  | @snoc ps p M N _ hm ih =>
    have h1 := ih fun q hq => hp q (List.mem_append_left _ hq)
    intro m hmm
    rcases List.mem_append.mp hmm with h | h
    · exact h1 m h
    · exact hm.good (hp p (List.mem_append_right _ (List.mem_singleton_self p))) h1 m h
theorem wsumR (T : List (Pr × Int)) (L : Nat) (h : ∀ m ∈ T, 0 < m.1.2 ∧ m.1.2 ∣ (L : Int)) : sumR (fun i => wsum T i) L = (T.map fun m => m.2 * ((L : Int) / m.1.2)).sum := by
  induction T with
  | nil => simp [wsum]; exact sumR_zero L
  | cons m T ih =>
    have h1 := h m (List.mem_cons_self ..)
    rw [List.map_cons, List.sum_cons, ← ih fun n hn => h n (List.mem_cons_of_mem _ hn), ← cnt_dvd h1.1 h1.2, ← sumR_mul, ← sumR_plus]
    refine sumR_congr _ fun i _ => ?_
    simp only [wsum, List.map_cons, List.sum_cons]
    by_cases hh : has m.1 i = true <;> simp [hh]
/-- how many of the first L are had -/
def hits (ps : List Pr) (L : Nat) : Int := sumR (fun i => if had ps i then 1 else 0) L
theorem Meets.share {ps : List Pr} {M : List (Pr × Int)} {L : Nat} (h : Meets ps M) (hp : ∀ p ∈ ps, 0 < p.2 ∧ p.2 ∣ (L : Int)) : ((M.drop 1).map fun m => m.2 * ((L : Int) / m.1.2)).sum = hits ps L := by
  have g := h.good hp
  have s := h.sum
  obtain ⟨T, rfl⟩ := h.head
  show (T.map fun m => m.2 * ((L : Int) / m.1.2)).sum = _
  rw [← wsumR T L fun m hm => g m (List.mem_cons_of_mem _ hm)]
  refine sumR_congr _ fun i _ => ?_
  have e := s i
  have e1 : has ((0, 1) : Pr) i = true := by rw [has_iff]; exact Int.one_dvd _
  simp only [wsum, List.map_cons, List.sum_cons, e1, if_true] at e ⊢
  by_cases hh : had ps i = true
  · simp only [hh, if_true] at e ⊢; omega
  · simp only [hh, if_false] at e ⊢; simp at e ⊢; omega
theorem hits_left (ps : List Pr) : ∀ L : Nat, hits ps L = (L : Int) - (((List.range L).filter fun i => !had ps (i : Nat)).length : Nat)
  | 0 => rfl
  | L + 1 => by
    show hits ps L + (if had ps (L : Nat) then 1 else 0) = _
    rw [hits_left ps L, List.range_succ, List.filter_append, List.length_append]
    by_cases hh : had ps (L : Nat) = true
    · simp [hh]; omega
    · simp [hh]; omega
theorem hits_pos {ps : List Pr} {L : Nat} (hne : ps ≠ []) (hp : ∀ p ∈ ps, 0 < p.2 ∧ p.2 ∣ (L : Int)) (hL : 0 < L) : 0 < hits ps L := by
  cases ps with
  | nil => exact absurd rfl hne
  | cons p ps =>
    have h1 := hp p (List.mem_cons_self ..)
    have e := cnt_dvd h1.1 h1.2
    have pos : 0 < (L : Int) / p.2 := Int.ediv_pos_of_pos_of_dvd (by omega) (by omega) h1.2
    have mono : ∀ n : Nat, sumR (fun i => if has p i then 1 else 0) n ≤ hits (p :: ps) n := by
      intro n
      induction n with
      | zero => exact Int.le_refl _
      | succ n ih =>
        have hm : (if has p (n : Nat) then (1 : Int) else 0) ≤ (if had (p :: ps) (n : Nat) then 1 else 0) := by
          have e : had (p :: ps) (n : Nat) = (has p (n : Nat) || had ps (n : Nat)) := rfl
          rw [e]
          cases has p (n : Nat) <;> cases had ps (n : Nat) <;> simp
        exact Int.add_le_add ih hm
    have := mono L
    omega
/-! ### the least that is left -/
def leftIn (ps : List Pr) : Option Nat := (List.range (2 ^ ps.length)).find? fun i => !had ps (i : Nat)
theorem leftIn_eq {ps : List Pr} {L : Nat} (h : ∀ p ∈ ps, 0 < p.2 ∧ p.2 ∣ 4320) (hL : ∀ p ∈ ps, p.2 ∣ (L : Int)) (hL0 : 0 < L) : leftIn ps = ((List.range L).filter fun i => !had ps (i : Nat)).head? := by
  rw [List.head?_filter]
  unfold leftIn
  cases q : (List.range (2 ^ ps.length)).find? fun i => !had ps (i : Nat) with
  | none =>
    rw [List.find?_eq_none] at q
    have all := neighbours h 0 fun i hi => by
      have := q i (List.mem_range.mpr hi)
      rw [Int.zero_add]
      simpa using this
    symm
    rw [List.find?_eq_none]
    intro i _
    simp [all]
  | some i =>
    rw [List.find?_range_eq_some] at q
    obtain ⟨h1, h2, h3⟩ := q
    symm
    rw [List.find?_range_eq_some]
    refine ⟨h1, ?_, h3⟩
    rw [List.mem_range]
    rcases Nat.lt_or_ge i L with hi | hi
    · exact hi
    · exfalso
      have hlt : i % L < L := Nat.mod_lt _ hL0
      have h4 := h3 (i % L) (by omega)
      have e := had_emod (x := (i : Int)) hL
      rw [← Int.natCast_emod] at e
      simp only [e] at h4
      simp_all
theorem leftIn_none {ps : List Pr} (h : ∀ p ∈ ps, 0 < p.2 ∧ p.2 ∣ 4320) : leftIn ps = none ↔ ∀ x, had ps x = true := by
  unfold leftIn
  rw [List.find?_eq_none]
  constructor
  · intro q
    refine neighbours h 0 fun i hi => ?_
    have := q i (List.mem_range.mpr hi)
    rw [Int.zero_add]
    simpa using this
  · intro q i _
    simp [q]
end Cov

namespace Cov
/-! ### how few pairs a cover without idle ones may have -/
def fb (n : Nat) : Nat := (if n % 2 = 0 then 1 else 0) + (if n % 4 = 0 then 1 else 0) + (if n % 8 = 0 then 1 else 0) + (if n % 16 = 0 then 1 else 0) + (if n % 32 = 0 then 1 else 0) +
  2 * ((if n % 3 = 0 then 1 else 0) + (if n % 9 = 0 then 1 else 0) + (if n % 27 = 0 then 1 else 0)) + 4 * (if n % 5 = 0 then 1 else 0)
def dvs : List Nat := [1, 2, 3, 4, 5, 6, 8, 9, 10, 12, 15, 16, 18, 20, 24, 27, 30, 32, 36, 40, 45, 48, 54, 60, 72, 80, 90, 96, 108, 120, 135, 144, 160, 180, 216, 240, 270, 288, 360, 432, 480, 540, 720, 864, 1080, 1440, 2160, 4320]
theorem dvs_b : chk (fun d => !(Nat.beq (4320 % d) 0) || dvs.contains d) 4321 = true := by decide +kernel
theorem mem_dvs {d : Nat} (h : d ∣ 4320) : d ∈ dvs := by
  have := chk_ok dvs_b d (Nat.lt_succ_of_le (Nat.le_of_dvd (by decide) h))
  rw [Nat.mod_eq_zero_of_dvd h] at this
  simpa using this
theorem fl_b : (dvs.all fun a => dvs.all fun b => Nat.beq (fb (Nat.lcm a b) + fb (Nat.gcd a b)) (fb a + fb b)) = true := by decide +kernel
theorem fm_b : (dvs.all fun a => dvs.all fun b => !(Nat.beq (b % a) 0) || Nat.ble (fb a) (fb b)) = true := by decide +kernel
theorem fp_b : ([2, 3, 5].all fun p => dvs.all fun a => !(dvs.contains (p * a)) || Nat.beq (fb (p * a)) (fb a + (p - 1))) = true := by decide +kernel
theorem f1_b : (dvs.all fun n => Nat.beq n 1 || (Nat.beq (n % 2) 0 || (Nat.beq (n % 3) 0 || Nat.beq (n % 5) 0))) = true := by decide +kernel
theorem f_lcm {a b : Nat} (ha : a ∣ 4320) (hb : b ∣ 4320) : fb (Nat.lcm a b) + fb (Nat.gcd a b) = fb a + fb b := by
  have := List.all_eq_true.mp (List.all_eq_true.mp fl_b a (mem_dvs ha)) b (mem_dvs hb)
  exact Nat.eq_of_beq_eq_true this
theorem f_mono {a b : Nat} (hb : b ∣ 4320) (h : a ∣ b) : fb a ≤ fb b := by
  have := List.all_eq_true.mp (List.all_eq_true.mp fm_b a (mem_dvs (Nat.dvd_trans h hb))) b (mem_dvs hb)
  rw [Nat.mod_eq_zero_of_dvd h] at this
  exact Nat.le_of_ble_eq_true (by simpa using this)
theorem f_mul {p a : Nat} (hp : p ∈ [2, 3, 5]) (h : p * a ∣ 4320) : fb (p * a) = fb a + (p - 1) := by
  have := List.all_eq_true.mp (List.all_eq_true.mp fp_b p hp) a (mem_dvs (Nat.dvd_trans (Nat.dvd_mul_left a p) h))
  have hc : dvs.contains (p * a) = true := by simpa using mem_dvs h
  rw [hc] at this
  exact Nat.eq_of_beq_eq_true (by simpa using this)
theorem f_prime {n : Nat} (h : n ∣ 4320) (h1 : n ≠ 1) : ∃ p, p ∈ [2, 3, 5] ∧ p ∣ n := by
  have := List.all_eq_true.mp f1_b n (mem_dvs h)
  simp only [Bool.or_eq_true, Nat.beq_eq] at this
  rcases this with e | e | e | e
  · exact absurd e h1
  · exact ⟨2, by decide, Nat.dvd_of_mod_eq_zero e⟩
  · exact ⟨3, by decide, Nat.dvd_of_mod_eq_zero e⟩
  · exact ⟨5, by decide, Nat.dvd_of_mod_eq_zero e⟩
theorem prime235 {p : Nat} (hp : p ∈ [2, 3, 5]) {a b : Nat} (h : p ∣ a * b) : p ∣ a ∨ p ∣ b := by
  have hd : ∀ d, d ∣ p → d = 1 ∨ d = p := by
    have key : ∀ p ∈ [2, 3, 5], ∀ d, d < 6 → p % d = 0 → d = 1 ∨ d = p := by decide
    intro d hd
    have hp6 : p < 6 := by simp at hp; omega
    have h0 : 0 < p := by simp at hp; omega
    exact key p hp d (Nat.lt_of_le_of_lt (Nat.le_of_dvd h0 hd) hp6) (Nat.mod_eq_zero_of_dvd hd)
  by_cases ha : p ∣ a
  · exact .inl ha
  · refine .inr ?_
    rcases hd (Nat.gcd p a) (Nat.gcd_dvd_left ..) with e | e
    · exact Nat.Coprime.dvd_of_dvd_mul_left e h
    · exact absurd (e ▸ Nat.gcd_dvd_right p a) ha
theorem cop235 {p n : Nat} (hp : p ∈ [2, 3, 5]) (h : ¬ p ∣ n) : Nat.Coprime p n := by
  have key : ∀ p ∈ [2, 3, 5], ∀ d, d < 6 → p % d = 0 → d = 1 ∨ d = p := by decide
  have hp6 : p < 6 := by simp at hp; omega
  have h0 : 0 < p := by simp at hp; omega
  rcases key p hp (Nat.gcd p n) (Nat.lt_of_le_of_lt (Nat.le_of_dvd h0 (Nat.gcd_dvd_left ..)) hp6) (Nat.mod_eq_zero_of_dvd (Nat.gcd_dvd_left ..)) with e | e
  · exact e
  · exact absurd (e ▸ Nat.gcd_dvd_right p n) h
/-! families of pairs, parts of them -/
def cov (k : Nat) (a : Nat → Int) (n : Nat → Nat) (P : Nat → Bool) : Prop := ∀ x : Int, ∃ i, i < k ∧ P i = true ∧ (n i : Int) ∣ x - a i
def irr (k : Nat) (a : Nat → Int) (n : Nat → Nat) (P : Nat → Bool) : Prop := cov k a n P ∧ ∀ i, i < k → P i = true → ¬ cov k a n (fun j => P j && j != i)
def cnt (k : Nat) (P : Nat → Bool) : Nat := ((List.range k).filter P).length
def lc (k : Nat) (n : Nat → Nat) (P : Nat → Bool) : Nat := ((List.range k).filter P).foldl (fun b i => Nat.lcm b (n i)) 1
theorem foldl_lcm (n : Nat → Nat) : ∀ (l : List Nat) (b : Nat), b ∣ l.foldl (fun b i => Nat.lcm b (n i)) b ∧ (∀ i ∈ l, n i ∣ l.foldl (fun b i => Nat.lcm b (n i)) b) ∧ ∀ d, b ∣ d → (∀ i ∈ l, n i ∣ d) → l.foldl (fun b i => Nat.lcm b (n i)) b ∣ d
  | [], b => ⟨Nat.dvd_refl _, by simp, fun d h _ => h⟩
  | j :: l, b => by
    obtain ⟨h1, h2, h3⟩ := foldl_lcm n l (Nat.lcm b (n j))
    rw [List.foldl_cons]
    refine ⟨Nat.dvd_trans (Nat.dvd_lcm_left ..) h1, fun i hi => ?_, fun d hb hd => h3 d (Nat.lcm_dvd hb (hd j (List.mem_cons_self ..))) fun i hi => hd i (List.mem_cons_of_mem _ hi)⟩
    rcases List.mem_cons.mp hi with rfl | hi
    · exact Nat.dvd_trans (Nat.dvd_lcm_right ..) h1
    · exact h2 i hi
theorem dvd_lc {k : Nat} {n : Nat → Nat} {P : Nat → Bool} {i : Nat} (hi : i < k) (h : P i = true) : n i ∣ lc k n P := (foldl_lcm n _ 1).2.1 i (List.mem_filter.mpr ⟨List.mem_range.mpr hi, h⟩)
theorem lc_dvd {k : Nat} {n : Nat → Nat} {P : Nat → Bool} {d : Nat} (h : ∀ i, i < k → P i = true → n i ∣ d) : lc k n P ∣ d := (foldl_lcm n _ 1).2.2 d (Nat.one_dvd d) fun i hi => h i (List.mem_range.mp (List.mem_filter.mp hi).1) (List.mem_filter.mp hi).2
theorem cnt_le {k : Nat} {P Q : Nat → Bool} (h : ∀ i, i < k → P i = true → Q i = true) : cnt k P ≤ cnt k Q := by
  unfold cnt
  have e : (List.range k).filter P = ((List.range k).filter Q).filter P := by
    rw [List.filter_filter]
    refine List.filter_congr fun i hi => ?_
    rw [List.mem_range] at hi
    cases hp : P i with
    | false => rfl
    | true => rw [h i hi hp]; rfl
  rw [e]
  exact List.length_filter_le ..
theorem cnt_or {k : Nat} {P Q : Nat → Bool} (h : ∀ i, i < k → ¬ (P i = true ∧ Q i = true)) : cnt k (fun i => P i || Q i) = cnt k P + cnt k Q := by
  induction k with
  | zero => rfl
  | succ k ih =>
    have ih := ih fun i hi => h i (by omega)
    unfold cnt at ih ⊢
    rw [List.range_succ, List.filter_append, List.filter_append, List.filter_append, List.length_append, List.length_append, List.length_append, ih]
    have := h k (by omega)
    cases hp : P k <;> cases hq : Q k <;> simp_all <;> omega
theorem cnt_pos {k : Nat} {P : Nat → Bool} {i : Nat} (hi : i < k) (h : P i = true) : 0 < cnt k P := List.length_pos_of_mem (List.mem_filter.mpr ⟨List.mem_range.mpr hi, h⟩)
theorem cnt_minus {k : Nat} {P : Nat → Bool} {i : Nat} (hi : i < k) (h : P i = true) : cnt k (fun j => P j && j != i) < cnt k P := by
  have e : cnt k P = cnt k (fun j => (P j && j != i) || j == i) := by
    unfold cnt
    congr 1
    refine List.filter_congr fun j _ => ?_
    show P j = ((P j && j != i) || j == i)
    by_cases hj : j = i
    · rw [hj, h]; simp
    · have h1 : (j == i) = false := by simpa using hj
      rw [bne, h1]; cases P j <;> rfl
  rw [e, cnt_or (fun j _ hh => by simp at hh; exact hh.1.2 hh.2)]
  have := cnt_pos (P := fun j => j == i) hi (by simp)
  omega
theorem exists_irr {k : Nat} {a : Nat → Int} {n : Nat → Nat} : ∀ (c : Nat) (P : Nat → Bool), cnt k P = c → cov k a n P → ∃ D : Nat → Bool, (∀ i, D i = true → P i = true) ∧ irr k a n D := by
  intro c
  induction c using Nat.strongRecOn with
  | ind c ih =>
    intro P hc hP
    by_cases h : ∀ i, i < k → P i = true → ¬ cov k a n (fun j => P j && j != i)
    · exact ⟨P, fun _ h => h, hP, h⟩
    · obtain ⟨i, h⟩ := Classical.not_forall.mp h
      obtain ⟨hi, h⟩ := Classical.not_forall.mp h
      obtain ⟨hPi, h⟩ := Classical.not_forall.mp h
      have h := Classical.not_not.mp h
      obtain ⟨D, h1, h2⟩ := ih _ (by rw [← hc]; exact cnt_minus hi hPi) _ rfl h
      exact ⟨D, fun j hj => by have := h1 j hj; simp at this; exact this.1, h2⟩
theorem fchoice {α : Type} (d : α) {k : Nat} {Q : Nat → α → Prop} (H : ∀ i, i < k → ∃ z, Q i z) : ∃ b : Nat → α, ∀ i, i < k → Q i (b i) :=
  ⟨fun i => if h : i < k then Classical.choose (H i h) else d, fun i hi => by simp only [hi, dif_pos]; exact Classical.choose_spec (H i hi)⟩
theorem cop_cancel {p n : Nat} (h : Nat.Coprime p n) {z : Int} (hd : (n : Int) ∣ (p : Int) * z) : (n : Int) ∣ z := by
  rw [Int.ofNat_dvd_left] at hd ⊢
  rw [Int.natAbs_mul, Int.natAbs_natCast] at hd
  exact Nat.Coprime.dvd_of_dvd_mul_left h.symm hd
/-- the class of r by p: the pair there -/
theorem restrict {p n : Nat} (hp : p ∈ [2, 3, 5]) (hn : 0 < n) (a r : Int) (h : ¬ p ∣ n ∨ (p : Int) ∣ a - r) : ∃ z : Int, ∀ y : Int, ((if n % p = 0 then n / p else n : Nat) : Int) ∣ y - z ↔ (n : Int) ∣ (r + p * y) - a := by
  have hp0 : 0 < p := by simp at hp; omega
  by_cases hd : p ∣ n
  · rw [if_pos (Nat.mod_eq_zero_of_dvd hd)]
    obtain ⟨m, rfl⟩ := hd
    rcases h with h | ⟨z, hz⟩
    · exact absurd (Nat.dvd_mul_right p m) h
    · refine ⟨z, fun y => ?_⟩
      rw [Nat.mul_div_cancel_left m hp0]
      have e : r + p * y - a = p * (y - z) := by rw [Int.mul_sub, ← hz]; omega
      rw [e, Int.natCast_mul, Int.mul_dvd_mul_iff_left (by omega)]
  · rw [if_neg (fun e => hd (Nat.dvd_of_mod_eq_zero e))]
    have hc := cop235 hp hd
    obtain ⟨t, ht⟩ := solve (r := r) (s := p) (a := a) (n := n) (by omega) (by omega) (by
      have : Int.gcd (p : Int) (n : Int) = 1 := hc
      rw [this]; simp)
    refine ⟨t, fun y => ?_⟩
    have d0 : (n : Int) ∣ r + t * p - a := emod0.mp ht
    have e : r + p * y - a = p * (y - t) + (r + t * p - a) := by rw [Int.mul_sub, Int.mul_comm (p : Int) t]; omega
    rw [e]
    constructor
    · intro d
      exact Int.dvd_add (Int.dvd_mul_of_dvd_right d) d0
    · intro d
      have := Int.dvd_sub d d0
      rw [Int.add_sub_cancel] at this
      exact cop_cancel hc this
/-- p-free pairs that cover one class by p cover all -/
theorem free_all {p k : Nat} (hp : p ∈ [2, 3, 5]) {a : Nat → Int} {n : Nat → Nat} {P : Nat → Bool} (hn : ∀ i, i < k → 0 < n i ∧ n i ∣ 4320) (hf : ∀ i, i < k → P i = true → ¬ p ∣ n i) (r : Int)
    (h : ∀ y : Int, ∃ i, i < k ∧ P i = true ∧ (n i : Int) ∣ (r + p * y) - a i) : cov k a n P := by
  have hp0 : 0 < p := by simp at hp; omega
  -- the common step is p-free
  have hfree : ¬ p ∣ lc k n P := by
    have key : ∀ l : List Nat, (∀ i ∈ l, ¬ p ∣ n i ∧ 0 < n i) → ∀ b, ¬ p ∣ b → ¬ p ∣ l.foldl (fun b i => Nat.lcm b (n i)) b := by
      intro l
      induction l with
      | nil => intro _ b hb; exact hb
      | cons i l ih =>
        intro hl b hb
        rw [List.foldl_cons]
        refine ih (fun j hj => hl j (List.mem_cons_of_mem _ hj)) _ fun hd => ?_
        have h2 : p ∣ b * n i := Nat.dvd_trans hd (Nat.lcm_dvd_mul b (n i))
        rcases prime235 hp h2 with h3 | h3
        · exact hb h3
        · exact (hl i (List.mem_cons_self ..)).1 h3
    refine key _ (fun i hi => ?_) 1 (fun hd => ?_)
    · have h1 := List.mem_filter.mp hi
      exact ⟨hf i (List.mem_range.mp h1.1) h1.2, (hn i (List.mem_range.mp h1.1)).1⟩
    · have := Nat.le_of_dvd (by decide) hd
      simp at hp; omega
  have hM0 : 0 < lc k n P := Nat.pos_of_dvd_of_pos (lc_dvd (d := 4320) fun i hi _ => (hn i hi).2) (by decide)
  have hc := cop235 hp hfree
  intro x
  -- a number of the class of r that is as x by the common step
  obtain ⟨t, ht⟩ := solve (r := x) (s := lc k n P) (a := r) (n := p) (by omega) (by omega) (by
    have : Int.gcd ((lc k n P : Nat) : Int) (p : Int) = 1 := hc.symm
    rw [this]; simp)
  obtain ⟨y, hy⟩ := emod0.mp ht
  obtain ⟨i, hi, hPi, hd⟩ := h y
  refine ⟨i, hi, hPi, ?_⟩
  have hdl : (n i : Int) ∣ (lc k n P : Nat) := Int.ofNat_dvd.mpr (dvd_lc hi hPi)
  have e : x - a i = (r + p * y - a i) - (lc k n P : Nat) * t := by rw [← hy, Int.mul_comm ((lc k n P : Nat) : Int) t]; omega
  rw [e]
  exact Int.dvd_sub hd (Int.dvd_mul_of_dvd_left hdl)
theorem simpson (k : Nat) : ∀ (N : Nat) (a : Nat → Int) (n : Nat → Nat) (P E : Nat → Bool), (∀ i, i < k → 0 < n i ∧ n i ∣ 4320) → irr k a n P → (∀ i, E i = true → P i = true) → (∃ i, i < k ∧ P i = true ∧ E i = false) → lc k n P = N →
    1 + fb N ≤ cnt k (fun i => P i && !E i) + fb (lc k n E) := by
  intro N
  induction N using Nat.strongRecOn with
  | ind N ih =>
  intro a n P E hn hirr hE hex hN
  have hNd : N ∣ 4320 := hN ▸ lc_dvd fun i hi _ => (hn i hi).2
  obtain ⟨i1, hi1, hP1, hE1⟩ := hex
  by_cases h1 : N = 1
  · have := cnt_pos (k := k) (P := fun i => P i && !E i) hi1 (by simp [hP1, hE1])
    subst h1
    have e : fb 1 = 0 := by decide
    omega
  obtain ⟨p, hp, hpN⟩ := f_prime hNd h1
  have hp0 : 0 < p := by simp at hp; omega
  have hp2 : 2 ≤ p := by simp at hp; omega
  -- the steps in the classes
  let m : Nat → Nat := fun i => if n i % p = 0 then n i / p else n i
  have hmd : ∀ i, m i ∣ n i := fun i => by
    show (if n i % p = 0 then n i / p else n i) ∣ n i
    split
    · rename_i h; exact Nat.div_dvd_of_dvd (Nat.dvd_of_mod_eq_zero h)
    · exact Nat.dvd_refl _
  have hm : ∀ i, i < k → 0 < m i ∧ m i ∣ 4320 := fun i hi => ⟨Nat.pos_of_dvd_of_pos (hmd i) (hn i hi).1, Nat.dvd_trans (hmd i) (hn i hi).2⟩
  have hnm : ∀ i, n i ∣ p * m i := fun i => by
    show n i ∣ p * (if n i % p = 0 then n i / p else n i)
    split
    · rename_i h; rw [Nat.mul_div_cancel' (Nat.dvd_of_mod_eq_zero h)]; exact Nat.dvd_refl _
    · exact Nat.dvd_mul_left _ _
  have hmq : ∀ (i q : Nat), n i ∣ p * q → m i ∣ q := fun i q hd => by
    show (if n i % p = 0 then n i / p else n i) ∣ q
    split
    · rename_i h
      obtain ⟨z, hz⟩ := Nat.dvd_of_mod_eq_zero h
      rw [hz, Nat.mul_div_cancel_left z hp0]
      rw [hz] at hd
      exact Nat.dvd_of_mul_dvd_mul_left hp0 hd
    · rename_i h
      exact (cop235 hp (fun hh => h (Nat.mod_eq_zero_of_dvd hh))).symm.dvd_of_dvd_mul_left hd
  let C : Nat → Nat → Bool := fun r i => P i && (!(decide (p ∣ n i)) || decide ((p : Int) ∣ a i - (r : Int)))
  -- each class's own cover
  have hcls : ∀ r, r < p → ∃ z : (Nat → Int) × (Nat → Bool), (∀ i, z.2 i = true → C r i = true) ∧ irr k z.1 m z.2 ∧ ∀ i, i < k → C r i = true → ∀ y : Int, (m i : Int) ∣ y - z.1 i ↔ (n i : Int) ∣ ((r : Int) + p * y) - a i := by
    intro r hr
    obtain ⟨b, hb⟩ := fchoice (0 : Int) (k := k) (Q := fun i z => C r i = true → ∀ y : Int, (m i : Int) ∣ y - z ↔ (n i : Int) ∣ ((r : Int) + p * y) - a i) fun i hi => by
      by_cases hC : C r i = true
      · have h : ¬ p ∣ n i ∨ (p : Int) ∣ a i - (r : Int) := by
          simp only [C, Bool.and_eq_true, Bool.or_eq_true, Bool.not_eq_true', decide_eq_false_iff_not, decide_eq_true_eq] at hC
          exact hC.2
        obtain ⟨z, hz⟩ := restrict hp (hn i hi).1 (a i) (r : Int) h
        exact ⟨z, fun _ => hz⟩
      · exact ⟨0, fun h => absurd h hC⟩
    have hcov : cov k b m (C r) := by
      intro y
      obtain ⟨i, hi, hPi, hd⟩ := hirr.1 ((r : Int) + p * y)
      have hC : C r i = true := by
        simp only [C, Bool.and_eq_true, Bool.or_eq_true, Bool.not_eq_true', decide_eq_false_iff_not, decide_eq_true_eq]
        refine ⟨hPi, ?_⟩
        by_cases hpn : p ∣ n i
        · refine .inr ?_
          have h2 : (p : Int) ∣ (r : Int) + p * y - a i := Int.dvd_trans (Int.ofNat_dvd.mpr hpn) hd
          have e : a i - (r : Int) = p * y - ((r : Int) + p * y - a i) := by omega
          rw [e]
          exact Int.dvd_sub (Int.dvd_mul_right ..) h2
        · exact .inl hpn
      exact ⟨i, hi, hC, (hb i hi hC y).mpr hd⟩
    obtain ⟨D, hD1, hD2⟩ := exists_irr _ (C r) rfl hcov
    exact ⟨(b, D), hD1, hD2, hb⟩
  obtain ⟨Z, hZ⟩ := fchoice ((fun _ => 0, fun _ => false) : (Nat → Int) × (Nat → Bool)) hcls
  let D : Nat → Nat → Bool := fun r => (Z r).2
  have hDP : ∀ r, r < p → ∀ i, D r i = true → P i = true := fun r hr i h => by
    have := (hZ r hr).1 i h
    simp only [C, Bool.and_eq_true] at this
    exact this.1
  have hDcl : ∀ r, r < p → ∀ i, D r i = true → p ∣ n i → (p : Int) ∣ a i - (r : Int) := fun r hr i h hpn => by
    have := (hZ r hr).1 i h
    simp only [C, Bool.and_eq_true, Bool.or_eq_true, Bool.not_eq_true', decide_eq_false_iff_not, decide_eq_true_eq] at this
    rcases this.2 with h | h
    · exact absurd hpn h
    · exact h
  -- covering by the classes' covers without i
  have hmiss : ∀ i, i < k → P i = true → (∃ r, r < p ∧ D r i = true) := by
    intro i hi hPi
    refine Classical.byContradiction fun hno => hirr.2 i hi hPi ?_
    intro x
    have hr0 : 0 ≤ x % (p : Int) := Int.emod_nonneg _ (by omega)
    have hr1 : x % (p : Int) < p := Int.emod_lt_of_pos _ (by omega)
    have hr : (x % (p : Int)).toNat < p := by omega
    obtain ⟨h1, ⟨hcv, _⟩, h3⟩ := hZ _ hr
    obtain ⟨j, hj, hDj, hd⟩ := hcv (x / (p : Int))
    have hC := h1 j hDj
    have hd2 := (h3 j hj hC (x / (p : Int))).mp hd
    have e : (((x % (p : Int)).toNat : Nat) : Int) + p * (x / (p : Int)) = x := by have := Int.mul_ediv_add_emod x (p : Int); omega
    rw [e] at hd2
    refine ⟨j, hj, ?_, hd2⟩
    have hPj : P j = true := hDP _ hr j hDj
    have hne : j ≠ i := fun e => hno ⟨_, hr, by rw [← e]; exact hDj⟩
    simp [hPj, hne]
  -- each class has a pair whose step p divides
  have hT : ∀ r, r < p → ∃ i, i < k ∧ P i = true ∧ p ∣ n i ∧ (p : Int) ∣ a i - (r : Int) := by
    intro r hr
    refine Classical.byContradiction fun hno => ?_
    -- some step is divided by p
    have hsome : ∃ i, i < k ∧ P i = true ∧ p ∣ n i := by
      refine Classical.byContradiction fun hn0 => ?_
      have hfr : ¬ p ∣ lc k n P := by
        have hMq : lc k n P ∣ lc k m P := lc_dvd fun i hi hPi => by
          have : m i = n i := by
            show (if n i % p = 0 then n i / p else n i) = n i
            rw [if_neg (fun e => hn0 ⟨i, hi, hPi, Nat.dvd_of_mod_eq_zero e⟩)]
          rw [← this]; exact dvd_lc hi hPi
        intro hd
        obtain ⟨z, hz⟩ := hd
        have h2 : lc k n P ∣ z := by
          refine lc_dvd fun i hi hPi => ?_
          have h3 : n i ∣ p * z := by rw [← hz]; exact dvd_lc hi hPi
          exact (cop235 hp (fun hh => hn0 ⟨i, hi, hPi, hh⟩)).symm.dvd_of_dvd_mul_left h3
        have hpos : 0 < lc k n P := Nat.pos_of_dvd_of_pos (hN ▸ hNd) (by decide)
        have hz0 : 0 < z := by
          rcases Nat.eq_zero_or_pos z with e | e
          · rw [e] at hz; simp at hz; omega
          · exact e
        have := Nat.le_of_dvd hz0 h2
        have h4 : 2 * z ≤ p * z := Nat.mul_le_mul_right z hp2
        omega
      exact hfr (hN ▸ hpN)
    obtain ⟨i0, hi0, hPi0, hpi0⟩ := hsome
    have hfc : cov k a n (fun i => P i && !(decide (p ∣ n i))) := by
      refine free_all hp hn (fun i hi h => by simp at h; exact h.2) (r : Int) fun y => ?_
      obtain ⟨i, hi, hPi, hd⟩ := hirr.1 ((r : Int) + p * y)
      refine ⟨i, hi, ?_, hd⟩
      have hnp : ¬ p ∣ n i := fun hpn => hno ⟨i, hi, hPi, hpn, by
        have h2 : (p : Int) ∣ (r : Int) + p * y - a i := Int.dvd_trans (Int.ofNat_dvd.mpr hpn) hd
        have e : a i - (r : Int) = p * y - ((r : Int) + p * y - a i) := by omega
        rw [e]
        exact Int.dvd_sub (Int.dvd_mul_right ..) h2⟩
      simp [hPi, hnp]
    refine hirr.2 i0 hi0 hPi0 fun x => ?_
    obtain ⟨i, hi, h, hd⟩ := hfc x
    simp at h
    refine ⟨i, hi, ?_, hd⟩
    have hne : i ≠ i0 := fun e => h.2 (by rw [e]; exact hpi0)
    simp [h.1, hne]
  -- class by class
  let U : Nat → Nat → Bool := fun r => Nat.rec E (fun s u i => u i || D s i) r
  have hU0 : U 0 = E := rfl
  have hUs : ∀ s, U (s + 1) = fun i => U s i || D s i := fun s => rfl
  have hUP : ∀ r, r ≤ p → ∀ i, U r i = true → P i = true := by
    intro r
    induction r with
    | zero => intro _ i h; exact hE i h
    | succ r ihr =>
      intro hr i h
      rw [hUs] at h
      simp only [Bool.or_eq_true] at h
      rcases h with h | h
      · exact ihr (by omega) i h
      · exact hDP r (by omega) i h
  have hEU : ∀ r i, E i = true → U r i = true := by
    intro r
    induction r with
    | zero => intro i h; exact h
    | succ r ihr => intro i h; rw [hUs]; simp [ihr i h]
  have hAd : ∀ r, lc k m (U r) ∣ 4320 := fun r => lc_dvd fun i hi _ => (hm i hi).2
  have hNr : ∀ r, r < p → lc k m (D r) < N := by
    intro r hr
    obtain ⟨z, hz⟩ := hpN
    have h2 : lc k m (D r) ∣ z := lc_dvd fun i hi hD => hmq i z (by rw [← hz, ← hN]; exact dvd_lc hi (hDP r hr i hD))
    have hz0 : 0 < z := by
      rcases Nat.eq_zero_or_pos z with e | e
      · rw [e] at hz; simp at hz
        have := Nat.pos_of_dvd_of_pos hNd (by decide : 0 < 4320)
        omega
      · exact e
    have h3 := Nat.le_of_dvd hz0 h2
    have h4 : 2 * z ≤ p * z := Nat.mul_le_mul_right z hp2
    omega
  have hstep : ∀ r, r < p → cnt k (fun i => U (r + 1) i && !E i) = cnt k (fun i => U r i && !E i) + cnt k (fun i => D r i && !U r i) := by
    intro r hr
    rw [← cnt_or (fun i _ h => by
      simp only [Bool.and_eq_true, Bool.not_eq_true'] at h
      rw [h.1.1] at h; simp at h)]
    unfold cnt
    congr 1
    refine List.filter_congr fun i _ => ?_
    rw [hUs]
    have := hEU r i
    cases h1 : U r i <;> cases h2 : D r i <;> cases h3 : E i <;> simp_all
  let W : Nat → Bool := fun s => @decide (∃ i, i < k ∧ D s i = true ∧ U s i = false) (Classical.propDecidable _)
  have hW : ∀ s, W s = true ↔ ∃ i, i < k ∧ D s i = true ∧ U s i = false := fun s => @decide_eq_true_iff _ (Classical.propDecidable _)
  have hprog : ∀ r, r ≤ p → fb (lc k m (U r)) + ((List.range r).filter W).length ≤ cnt k (fun i => U r i && !E i) + fb (lc k m E) := by
    intro r
    induction r with
    | zero => intro _; rw [hU0]; simp
    | succ r ihr =>
      intro hr
      have ihr := ihr (by omega)
      rw [hstep r (by omega), List.range_succ, List.filter_append, List.length_append]
      rcases Classical.em (∃ i, i < k ∧ D r i = true ∧ U r i = false) with hex | hex
      · have e1 : ([r].filter W).length = 1 := by
          rw [List.filter_cons_of_pos ((hW r).mpr hex)]; rfl
        rw [e1]
        have h2 := ih _ (hNr r (by omega)) (Z r).1 m (D r) (fun i => D r i && U r i) hm (hZ r (by omega)).2.1 (fun i h => by simp at h; exact h.1) (by obtain ⟨i, hi, h3, h4⟩ := hex; exact ⟨i, hi, h3, by simp [h4]⟩) rfl
        have e2 : cnt k (fun i => D r i && !(D r i && U r i)) = cnt k (fun i => D r i && !U r i) := by
          unfold cnt
          congr 1
          refine List.filter_congr fun i _ => ?_
          cases D r i <;> simp
        rw [e2] at h2
        have hDd : lc k m (D r) ∣ 4320 := lc_dvd fun i hi _ => (hm i hi).2
        have h5 := f_lcm (hAd r) hDd
        have h6 : lc k m (U (r + 1)) ∣ Nat.lcm (lc k m (U r)) (lc k m (D r)) := lc_dvd fun i hi h => by
          rw [hUs] at h
          simp only [Bool.or_eq_true] at h
          rcases h with h | h
          · exact Nat.dvd_trans (dvd_lc hi h) (Nat.dvd_lcm_left ..)
          · exact Nat.dvd_trans (dvd_lc hi h) (Nat.dvd_lcm_right ..)
        have h7 := f_mono (Nat.lcm_dvd (hAd r) hDd) h6
        have h8 : lc k m (fun i => D r i && U r i) ∣ Nat.gcd (lc k m (U r)) (lc k m (D r)) := Nat.dvd_gcd (lc_dvd fun i hi h => by simp at h; exact dvd_lc hi h.2) (lc_dvd fun i hi h => by simp at h; exact dvd_lc hi h.1)
        have h9 := f_mono (Nat.dvd_trans (Nat.gcd_dvd_left ..) (hAd r)) h8
        omega
      · have e1 : ([r].filter W).length = 0 := by
          rw [List.filter_cons_of_neg (fun h => hex ((hW r).mp h))]; rfl
        rw [e1]
        have h6 : lc k m (U (r + 1)) ∣ lc k m (U r) := lc_dvd fun i hi h => by
          rw [hUs] at h
          simp only [Bool.or_eq_true] at h
          rcases h with h | h
          · exact dvd_lc hi h
          · cases hu : U r i with
            | true => exact dvd_lc hi hu
            | false => exact absurd ⟨i, hi, h, hu⟩ hex
        have h7 := f_mono (hAd r) h6
        omega
  have hend := hprog p (Nat.le_refl p)
  have hPU : ∀ i, i < k → P i = true → U p i = true := by
    intro i hi hPi
    obtain ⟨r, hr, hD⟩ := hmiss i hi hPi
    have key : ∀ t, r < t → t ≤ p → U t i = true := by
      intro t
      induction t with
      | zero => intro h; omega
      | succ t iht =>
        intro h1 h2
        rw [hUs]
        by_cases e : r = t
        · subst e; simp [hD]
        · simp [iht (by omega) (by omega)]
    exact key p hr (Nat.le_refl p)
  have hcle : cnt k (fun i => U p i && !E i) ≤ cnt k (fun i => P i && !E i) := cnt_le fun i hi h => by
    simp only [Bool.and_eq_true] at h ⊢
    exact ⟨hUP p (Nat.le_refl p) i h.1, h.2⟩
  -- the whole step by p
  have hbig : fb N ≤ fb (lc k m (U p)) + (p - 1) := by
    obtain ⟨z, hz⟩ := hpN
    have h1 : z ∣ lc k m (U p) := by
      have h2 : p * z ∣ p * lc k m (U p) := by
        rw [← hz, ← hN]
        exact lc_dvd fun i hi hPi => Nat.dvd_trans (hnm i) (Nat.mul_dvd_mul_left p (dvd_lc hi (hPU i hi hPi)))
      exact Nat.dvd_of_mul_dvd_mul_left hp0 h2
    have h3 := f_mono (hAd p) h1
    have h4 := f_mul (a := z) hp (by rw [← hz]; exact hNd)
    rw [← hz] at h4
    omega
  by_cases hEp : ∃ i, i < k ∧ E i = true ∧ p ∣ n i
  · -- a step of E is divided by p
    obtain ⟨i, hi, hEi, hpi⟩ := hEp
    have hpe : p ∣ lc k n E := Nat.dvd_trans hpi (dvd_lc hi hEi)
    obtain ⟨z, hz⟩ := hpe
    have hEd : lc k n E ∣ 4320 := lc_dvd fun i hi _ => (hn i hi).2
    have h1 : lc k m E ∣ z := lc_dvd fun i hi h => hmq i z (by rw [← hz]; exact dvd_lc hi h)
    have h2 := f_mono (Nat.dvd_trans (Nat.dvd_mul_left z p) (hz ▸ hEd)) h1
    have h3 := f_mul (a := z) hp (by rw [← hz]; exact hEd)
    rw [← hz] at h3
    have h4 : 1 ≤ ((List.range p).filter W).length := by
      refine Classical.byContradiction fun hno => ?_
      have hnil : ∀ s, s < p → ¬ ∃ i, i < k ∧ D s i = true ∧ U s i = false := fun s hs hex => hno (List.length_pos_of_mem (List.mem_filter.mpr ⟨List.mem_range.mpr hs, (hW s).mpr hex⟩))
      have hUE : ∀ t, t ≤ p → ∀ i, i < k → U t i = true → E i = true := by
        intro t
        induction t with
        | zero => intro _ i _ h; exact h
        | succ t iht =>
          intro ht i hi h
          rw [hUs] at h
          simp only [Bool.or_eq_true] at h
          rcases h with h | h
          · exact iht (by omega) i hi h
          · cases hu : U t i with
            | true => exact iht (by omega) i hi hu
            | false => exact absurd ⟨i, hi, h, hu⟩ (hnil t (by omega))
      have := hUE p (Nat.le_refl p) i1 hi1 (hPU i1 hi1 hP1)
      rw [hE1] at this; cases this
    omega
  · -- E is p-free
    have hmE : lc k m E ∣ lc k n E := lc_dvd fun i hi h => Nat.dvd_trans (hmd i) (dvd_lc hi h)
    have h2 := f_mono (lc_dvd fun i hi _ => (hn i hi).2) hmE
    have h4 : p ≤ ((List.range p).filter W).length := by
      have e : ((List.range p).filter W) = List.range p := by
        rw [List.filter_eq_self]
        intro s hs
        rw [List.mem_range] at hs
        rw [hW]
        obtain ⟨i, hi, hPi, hpi, hcl⟩ := hT s hs
        obtain ⟨r, hr, hD⟩ := hmiss i hi hPi
        have hcl2 := hDcl r hr i hD hpi
        have hrs : r = s := by
          have h5 : (p : Int) ∣ (s : Int) - (r : Int) := by
            have e : (s : Int) - r = (a i - r) - (a i - s) := by omega
            rw [e]; exact Int.dvd_sub hcl2 hcl
          have := small_dvd h5 (by omega) (by omega)
          omega
        subst hrs
        refine ⟨i, hi, hD, ?_⟩
        have key : ∀ t, t ≤ r → U t i = false := by
          intro t
          induction t with
          | zero =>
            intro _
            cases he : E i with
            | false => exact he
            | true => exact absurd ⟨i, hi, he, hpi⟩ hEp
          | succ t iht =>
            intro ht
            rw [hUs]
            simp only [Bool.or_eq_false_iff]
            refine ⟨iht (by omega), ?_⟩
            cases hd : D t i with
            | false => rfl
            | true =>
              have hcl3 := hDcl t (by omega) i hd hpi
              have h5 : (p : Int) ∣ (r : Int) - (t : Int) := by
                have e : (r : Int) - t = (a i - t) - (a i - r) := by omega
                rw [e]; exact Int.dvd_sub hcl3 hcl
              have := small_dvd h5 (by omega) (by omega)
              omega
        exact key r (Nat.le_refl r)
      rw [e, List.length_range]
      exact Nat.le_refl p
    omega
end Cov

namespace Cov
/-! ### exact covers: the greatest step stands twice -/
def csum (ps : List Pr) (x : Int) : Int := (ps.map fun p => if has p x then (1 : Int) else 0).sum
def geo (z : Int) : Nat → Int
  | 0 => 0
  | k + 1 => geo z k + z ^ k
theorem geo_mul (z : Int) : ∀ k, (z - 1) * geo z k = z ^ k - 1
  | 0 => by simp [geo]
  | k + 1 => by
    show (z - 1) * (geo z k + z ^ k) = z ^ (k + 1) - 1
    rw [Int.mul_add, geo_mul z k, Int.pow_succ]
    grind
theorem sumR_blocks (g : Nat → Int) (z : Int) (n : Nat) (h : ∀ x, g (x + n) = z * g x) : ∀ k, sumR g (n * k) = sumR g n * geo z k
  | 0 => by simp [sumR, geo]
  | k + 1 => by
    rw [Nat.mul_succ, sumR_add, sumR_blocks g z n h k]
    have e : ∀ j x, g (n * j + x) = z ^ j * g x := by
      intro j
      induction j with
      | zero => intro x; simp
      | succ j ih =>
        intro x
        have e1 : n * (j + 1) + x = (n * j + x) + n := by rw [Nat.mul_succ]; omega
        rw [e1, h, ih, Int.pow_succ]
        grind
    have e2 : sumR (fun i => g (n * k + i)) n = z ^ k * sumR g n := by
      rw [← sumR_mul]
      exact sumR_congr n fun i _ => e k i
    rw [e2]
    show _ = sumR g n * (geo z k + z ^ k)
    grind
theorem geo_dvd {P z : Int} {k : Nat} (hz : ¬ P ∣ z - 1) (hp : ∀ a b : Int, P ∣ a * b → P ∣ a ∨ P ∣ b) (h : P ∣ z ^ k - 1) : P ∣ geo z k := by
  rw [← geo_mul] at h
  exact (hp _ _ h).resolve_left hz
theorem geo_one {P z : Int} (hz : P ∣ z - 1) : ∀ k : Nat, P ∣ geo z k - k
  | 0 => by simp [geo]
  | k + 1 => by
    have ih := geo_one hz k
    have hk : P ∣ z ^ k - 1 := by rw [← geo_mul]; exact Int.dvd_mul_of_dvd_left hz
    have e : geo z (k + 1) - ((k + 1 : Nat) : Int) = (geo z k - k) + (z ^ k - 1) := by show geo z k + z ^ k - _ = _; omega
    rw [e]
    exact Int.dvd_add ih hk
/-- the root of order M -/
def rt (M : Nat) : Int := (2 : Int) ^ (4320 / M)
theorem rt_one {M n : Nat} (hM : 0 < M) (hd : M ∣ 4320) : (8641 : Int) ∣ rt M ^ n - 1 ↔ M ∣ n := by
  unfold rt
  rw [← Int.pow_mul, ord_dvd]
  obtain ⟨e, he⟩ := hd
  have e1 : 4320 / M = e := by rw [he]; exact Nat.mul_div_cancel_left e hM
  have he0 : 0 < e := by
    rcases Nat.eq_zero_or_pos e with h | h
    · rw [h] at he; simp at he
    · exact h
  rw [e1]
  constructor
  · intro h
    rw [he, Nat.mul_comm M e] at h
    exact Nat.dvd_of_mul_dvd_mul_left he0 h
  · intro h
    rw [he, Nat.mul_comm M e]
    exact Nat.mul_dvd_mul_left e h
def gsum (w : Int) (p : Pr) (L : Nat) : Int := sumR (fun x => if has p x then w ^ x else 0) L
theorem gsum_blocks (w : Int) {p : Pr} (h : 0 < p.2) (k : Nat) : gsum w p (p.2.toNat * k) = gsum w p p.2.toNat * geo (w ^ p.2.toNat) k := by
  unfold gsum
  refine sumR_blocks _ _ _ (fun x => ?_) k
  have e : has p ((x + p.2.toNat : Nat) : Int) = has p x := by
    have e1 : ((x + p.2.toNat : Nat) : Int) = (x : Int) + p.2 * 1 := by omega
    rw [e1]; exact has_add (Int.dvd_refl _)
  rw [e]
  by_cases hh : has p x = true
  · simp only [hh, if_true]; rw [Int.pow_add, Int.mul_comm]
  · simp only [hh, if_false]; simp
theorem gsum_one (w : Int) {p : Pr} (h0 : 0 ≤ p.1) (h1 : p.1 < p.2) : gsum w p p.2.toNat = w ^ p.1.toNat := by
  unfold gsum
  have e : ∀ n : Nat, sumR (fun x => if x = p.1.toNat then w ^ x else 0) n = if p.1.toNat < n then w ^ p.1.toNat else 0 := by
    intro n
    induction n with
    | zero => simp [sumR]
    | succ n ih =>
      simp only [sumR, ih]
      by_cases h : n = p.1.toNat
      · subst h; simp
      · by_cases h2 : p.1.toNat < n
        · have : p.1.toNat < n + 1 := by omega
          simp [h, h2, this]
        · have : ¬ p.1.toNat < n + 1 := by omega
          simp [h, h2, this]
  rw [sumR_congr (g := fun x => if x = p.1.toNat then w ^ x else 0), e, if_pos (by omega)]
  intro x hx
  have hk : has p x = true ↔ x = p.1.toNat := by
    rw [has_iff]
    constructor
    · intro d; have := small_dvd d (by omega) (by omega); omega
    · intro e; have : (x : Int) - p.1 = 0 := by omega
      rw [this]; exact Int.dvd_zero _
  by_cases hh : has p x = true
  · simp only [hh, if_true]; rw [if_pos (hk.mp hh)]
  · simp only [hh, if_false]; rw [if_neg (fun z => hh (hk.mpr z))]; simp
theorem gsum_list (w : Int) (L : Nat) : ∀ ps : List Pr, sumR (fun x => w ^ x * csum ps x) L = (ps.map fun p => gsum w p L).sum
  | [] => by
    have : (fun x : Nat => w ^ x * csum [] x) = fun _ => 0 := by funext x; simp [csum]
    rw [this, sumR_zero]; rfl
  | p :: ps => by
    rw [List.map_cons, List.sum_cons, ← gsum_list w L ps]
    unfold gsum
    rw [← sumR_plus]
    refine sumR_congr L fun x _ => ?_
    unfold csum
    rw [List.map_cons, List.sum_cons, Int.mul_add]
    by_cases hh : has p x = true <;> simp [hh]
theorem dvd_sum {P : Int} : ∀ {l : List Int}, (∀ a ∈ l, P ∣ a) → P ∣ l.sum
  | [], _ => Int.dvd_zero _
  | a :: l, h => by rw [List.sum_cons]; exact Int.dvd_add (h a (List.mem_cons_self ..)) (dvd_sum fun b hb => h b (List.mem_cons_of_mem _ hb))
/-- an exact cover's greatest step can't stand alone -/
theorem mirsky {l1 l2 : List Pr} {p : Pr} (hok : ∀ q ∈ l1 ++ p :: l2, 0 ≤ q.1 ∧ q.1 < q.2 ∧ q.2 ∣ 4320) (hex : ∀ x : Nat, csum (l1 ++ p :: l2) x = 1) (hM : 1 < p.2) (hlt : ∀ q ∈ l1 ++ l2, q.2 < p.2) : False := by
  have hp := hok p (by simp)
  obtain ⟨M, hMe⟩ : ∃ M : Nat, p.2 = M := ⟨p.2.toNat, by omega⟩
  have hMd : M ∣ 4320 := by have := hp.2.2; rw [hMe] at this; exact Int.ofNat_dvd.mp this
  have hM0 : 0 < M := by omega
  have key : ∀ q : Pr, 0 ≤ q.1 → q.1 < q.2 → q.2 ∣ 4320 → ¬ (M ∣ q.2.toNat) → (8641 : Int) ∣ gsum (rt M) q 4320 := by
    intro q h0 h1 h2 h3
    obtain ⟨k, hk⟩ := h2
    have hk0 : 0 ≤ k := by
      rcases Int.lt_or_le k 0 with h' | h'
      · have := Int.mul_neg_of_pos_of_neg (show 0 < q.2 by omega) h'; omega
      · exact h'
    have e : 4320 = q.2.toNat * k.toNat := by
      have : ((q.2.toNat * k.toNat : Nat) : Int) = q.2 * k := by rw [Int.natCast_mul]; congr 1 <;> omega
      omega
    have eg : gsum (rt M) q 4320 = gsum (rt M) q q.2.toNat * geo (rt M ^ q.2.toNat) k.toNat := by
      conv => lhs; rw [e]
      exact gsum_blocks (rt M) (by omega) k.toNat
    rw [eg]
    refine Int.dvd_mul_of_dvd_right (geo_dvd (fun h => h3 ((rt_one hM0 hMd).mp h)) (fun a b => euclid) ?_)
    rw [← Int.pow_mul, ← e]
    exact (rt_one hM0 hMd).mpr hMd
  have hall := gsum_list (rt M) 4320 (l1 ++ p :: l2)
  have h1 : sumR (fun x : Nat => rt M ^ x * csum (l1 ++ p :: l2) x) 4320 = gsum (rt M) (0, 1) 4320 := by
    unfold gsum
    refine sumR_congr _ fun x _ => ?_
    rw [hex x]
    have e1 : has ((0, 1) : Pr) x = true := by rw [has_iff]; exact Int.one_dvd _
    rw [if_pos e1]; simp
  rw [h1, List.map_append, List.map_cons, List.sum_append, List.sum_cons] at hall
  have d0 := key (0, 1) (by decide) (by decide) (by decide) (fun h => by
    have := Nat.le_of_dvd (by decide) h
    have e : ((0, 1) : Pr).2.toNat = 1 := rfl
    omega)
  have dl : ∀ l : List Pr, (∀ q ∈ l, q ∈ l1 ++ l2) → (8641 : Int) ∣ (l.map fun q => gsum (rt M) q 4320).sum := fun l hl => dvd_sum fun a ha => by
    obtain ⟨q, hq, rfl⟩ := List.mem_map.mp ha
    have hq2 : q ∈ l1 ++ p :: l2 := by
      rcases List.mem_append.mp (hl q hq) with h | h
      · exact List.mem_append_left _ h
      · exact List.mem_append_right _ (List.mem_cons_of_mem _ h)
    have h3 := hok q hq2
    have h4 := hlt q (hl q hq)
    exact key q h3.1 h3.2.1 h3.2.2 fun hd => by
      have := Nat.le_of_dvd (by omega) hd
      omega
  have d1 := dl l1 fun q hq => List.mem_append_left _ hq
  have d2 := dl l2 fun q hq => List.mem_append_right _ hq
  have dp : (8641 : Int) ∣ gsum (rt M) p 4320 := by
    have e : gsum (rt M) p 4320 = gsum (rt M) (0, 1) 4320 - (l1.map fun q => gsum (rt M) q 4320).sum - (l2.map fun q => gsum (rt M) q 4320).sum := by omega
    rw [e]
    exact Int.dvd_sub (Int.dvd_sub d0 d1) d2
  obtain ⟨k, hk⟩ := hMd
  have e : 4320 = p.2.toNat * k := by rw [hMe]; simpa using hk
  have hk0 : 0 < k := by
    rcases Nat.eq_zero_or_pos k with h | h
    · rw [h] at hk; simp at hk
    · exact h
  have hk1 : k ≤ 4320 := by rw [hk]; exact Nat.le_mul_of_pos_left k hM0
  have eg : gsum (rt M) p 4320 = rt M ^ p.1.toNat * geo (rt M ^ p.2.toNat) k := by
    conv => lhs; rw [e]
    rw [gsum_blocks (rt M) (by omega) k, gsum_one _ hp.1 hp.2.1]
  rw [eg] at dp
  rcases euclid dp with h | h
  · unfold rt at h
    rw [← Int.pow_mul] at h
    exact not2 _ h
  · have hz : (8641 : Int) ∣ rt M ^ p.2.toNat - 1 := (rt_one hM0 (by exact ⟨k, hk⟩)).mpr (by rw [hMe]; simp)
    have h2 := geo_one hz k
    have h3 : (8641 : Int) ∣ (k : Int) := by
      have e : (k : Int) = geo (rt M ^ p.2.toNat) k - (geo (rt M ^ p.2.toNat) k - k) := by omega
      rw [e]; exact Int.dvd_sub h h2
    have := Int.le_of_dvd (by omega) h3
    omega
/-- the parts of an exact cover make one whole -/
theorem exact_sum {ps : List Pr} {L : Nat} (hp : ∀ p ∈ ps, 0 < p.2 ∧ p.2 ∣ (L : Int)) (hex : ∀ x : Nat, csum ps x = 1) : (ps.map fun p => (L : Int) / p.2).sum = L := by
  have h := gsum_list 1 L ps
  have e1 : sumR (fun x : Nat => (1 : Int) ^ x * csum ps x) L = L := by
    rw [sumR_congr (g := fun _ => 1)]
    · have : ∀ n : Nat, sumR (fun _ => (1 : Int)) n = n := by
        intro n
        induction n with
        | zero => rfl
        | succ n ih => simp only [sumR, ih]; omega
      exact this L
    · intro i _; rw [hex i, Int.one_pow]; rfl
  rw [e1] at h
  refine Eq.trans ?_ h.symm
  congr 1
  refine List.map_congr_left fun p hpm => ?_
  rw [← cnt_dvd (hp p hpm).1 (hp p hpm).2]
  unfold gsum
  refine sumR_congr L fun i _ => ?_
  by_cases hh : has p i = true <;> simp [hh, Int.one_pow]
end Cov

namespace Z
open PySem PySem.Spec PyProof.Rows L2
def N_is_whole : List Str := ["thing", "least", "most"]
def w_is_whole : ZS :=
  (zSeq (zIfS (ztOr (ztNot (zB (zUn (zIsI "int") (zVar 0)))) (zB (zUn (zIsI "bool") (zVar 0))))
    (zRet (zC (.bl false)))
    zNext)
    (zSeq (zIfS (ztAnd (zB (zIsN true (zVar 1))) (zB (zOp (zCmp fun i j => decide (i < j)) (zVar 0) (zVar 1))))
    (zRet (zC (.bl false)))
    zNext)
    (zRet (zOrV (zIsN false (zVar 2)) (zOp (zCmp fun i j => decide (i ≤ j)) (zVar 0) (zVar 2))))))

def N_has_number : List Str := ["pair", "number"]
def w_has_number : ZS :=
  (zRet (zOp (zEqG false) (zOp zMod (zOp zSub (zVar 1) (zOp zIx (zVar 0) (zC (.int 0)))) (zOp zIx (zVar 0) (zC (.int 1)))) (zC (.int 0))))

def N_greatest_shared : List Str := ["one", "other"]
def w_greatest_shared : ZS :=
  (zSeq (zWhile (zB (zOp (zEqG true) (zVar 1) (zC (.int 0))))
    (zPar 0 1 (zaCons (zVar 1) (zaCons (zOp zMod (zVar 0) (zVar 1)) zaNil))))
    (zRet (zVar 0)))

def N_least_common : List Str := ["one", "other"]
def w_least_common (g_greatest_shared : ZSp) : ZS :=
  (zRet (zOp zMul (zOp zFdiv (zVar 0) (zCall g_greatest_shared (zaCons (zVar 0) (zaCons (zVar 1) zaNil)))) (zVar 1)))

def N_meet_in : List Str := ["pair", "other", "part", "step", "rest"]
def w_meet_in (g_greatest_shared : ZSp) (g_least_common : ZSp) : ZS :=
  (zSeq (zAsg (zCall g_greatest_shared (zaCons (zOp zIx (zVar 0) (zC (.int 1))) (zaCons (zOp zIx (zVar 1) (zC (.int 1))) zaNil))) (zgName 2))
    (zSeq (zIfS (zB (zOp (zEqG true) (zOp zMod (zOp zSub (zOp zIx (zVar 1) (zC (.int 0))) (zOp zIx (zVar 0) (zC (.int 0)))) (zVar 2)) (zC (.int 0))))
    (zRet (zC .non))
    zNext)
    (zSeq (zPar 3 4 (zaCons (zCall g_least_common (zaCons (zOp zIx (zVar 0) (zC (.int 1))) (zaCons (zOp zIx (zVar 1) (zC (.int 1))) zaNil))) (zaCons (zOp zIx (zVar 0) (zC (.int 0))) zaNil)))
    (zSeq (zWhile (zB (zOp (zEqG true) (zOp zMod (zOp zSub (zVar 4) (zOp zIx (zVar 1) (zC (.int 0)))) (zOp zIx (zVar 1) (zC (.int 1)))) (zC (.int 0))))
    (zAug 4 (zOp zIx (zVar 0) (zC (.int 1))) (zI0 fun i j => .int (i + j))))
    (zRet (zTup (zaCons (zOp zMod (zVar 4) (zVar 3)) (zaCons (zVar 3) zaNil))))))))

def N_is_had : List Str := ["pairs", "number", "pair"]
def w_is_had (g_has_number : ZSp) : ZS :=
  (zRet (zDr (zCall (z1 (zBls fun b => b.any id)) (zaCons (zLc (ziSeq (zVar 0)) (zgName 2) zYes (zCall g_has_number (zaCons (zVar 2) (zaCons (zVar 1) zaNil))) [2]) zaNil))))

def N_left_in : List Str := ["pairs", "number"]
def w_left_in (g_is_had : ZSp) : ZS :=
  (zSeq (zFor (ziRng1 (zOp zShl (zC (.int 1)) (zCall (z1 zLen) (zaCons (zVar 0) zaNil)))) (zgName 1)
    (zIfS (ztNot (zB (zCall g_is_had (zaCons (zVar 0) (zaCons (zVar 1) zaNil)))))
    (zRet (zVar 1))
    zNext))
    (zRet (zC .non)))

def N_does_cover_in : List Str := ["pairs"]
def w_does_cover_in (g_left_in : ZSp) : ZS :=
  (zRet (zIsN false (zCall g_left_in (zaCons (zVar 0) zaNil))))

def N_least_in : List Str := ["pairs", "found", "index", "rest", "one"]
def w_least_in (g_does_cover_in : ZSp) : ZS :=
  (zSeq (zAsg (zListRg (zCall (z1 zLen) (zaCons (zVar 0) zaNil))) (zgName 1))
    (zSeq (zFor (ziRng1 (zCall (z1 zLen) (zaCons (zVar 0) zaNil))) (zgName 2)
    (zSeq (zAsg (zLc (ziSeq (zVar 1)) (zgName 4) (zB (zOp (zEqG true) (zVar 4) (zVar 2))) (zVar 4) [4]) (zgName 3))
    (zIfS (zB (zCall g_does_cover_in (zaCons (zLc (ziSeq (zVar 3)) (zgName 4) zYes (zOp zIx (zVar 0) (zVar 4)) [4]) zaNil)))
    (zAsg (zVar 3) (zgName 1))
    zNext)))
    (zRet (zVar 1))))

def N_share_in : List Str := ["pairs", "meets", "pair", "more", "here", "sign", "later", "bottom", "top", "part"]
def w_share_in (g_greatest_shared : ZSp) (g_least_common : ZSp) (g_meet_in : ZSp) : ZS :=
  (zSeq (zAsg (zLst (zaCons (zTup (zaCons (zTup (zaCons (zC (.int 0)) (zaCons (zC (.int 1)) zaNil))) (zaCons (zUn zNeg (zC (.int 1))) zaNil))) zaNil)) (zgName 1))
    (zSeq (zFor (ziSeq (zVar 0)) (zgName 2)
    (zSeq (zAsg (zLst zaNil) (zgName 3))
    (zSeq (zFor (ziSeq (zVar 1)) (zgTup 2 (zgCons (zgName 4) (zgCons (zgName 5) zgNil)))
    (zSeq (zAsg (zCall g_meet_in (zaCons (zVar 4) (zaCons (zVar 2) zaNil))) (zgName 6))
    (zIfS (zB (zIsN true (zVar 6)))
    (zDrop (zMt zAppend (zVar 3) (zaCons (zTup (zaCons (zVar 6) (zaCons (zUn zNeg (zVar 5)) zaNil))) zaNil)))
    zNext)))
    (zAsg (zOp zAdd (zVar 1) (zVar 3)) (zgName 1)))))
    (zSeq (zAsg (zC (.int 1)) (zgName 7))
    (zSeq (zFor (ziSeq (zVar 0)) (zgName 2)
    (zAsg (zCall g_least_common (zaCons (zVar 7) (zaCons (zOp zIx (zVar 2) (zC (.int 1))) zaNil))) (zgName 7)))
    (zSeq (zAsg (zDr (zCall (z1 zSum) (zaCons (zLc (ziSeq (zSl (zVar 1) (zoSome (zC (.int 1))) zoNone)) (zgTup 2 (zgCons (zgName 4) (zgCons (zgName 5) zgNil))) zYes (zOp zMul (zVar 5) (zOp zFdiv (zVar 7) (zOp zIx (zVar 4) (zC (.int 1))))) [4, 5]) zaNil))) (zgName 8))
    (zSeq (zAsg (zCall g_greatest_shared (zaCons (zVar 7) (zaCons (zVar 8) zaNil))) (zgName 9))
    (zRet (zTup (zaCons (zOp zFdiv (zVar 8) (zVar 9)) (zaCons (zOp zFdiv (zVar 7) (zVar 9)) zaNil))))))))))

def N_are_apart : List Str := ["pairs", "at", "pair", "other"]
def w_are_apart (g_meet_in : ZSp) : ZS :=
  (zSeq (zFor (ziEnum (zVar 0)) (zgTup 2 (zgCons (zgName 1) (zgCons (zgName 2) zgNil)))
    (zIfS (zB (zDr (zCall (z1 (zBls fun b => b.any id)) (zaCons (zLc (ziSeq (zSl (zVar 0) zoNone (zoSome (zVar 1)))) (zgName 3) zYes (zIsN true (zCall g_meet_in (zaCons (zVar 2) (zaCons (zVar 3) zaNil)))) [3]) zaNil))))
    (zRet (zC (.bl false)))
    zNext))
    (zRet (zC (.bl true))))

def N_is_pair : List Str := ["thing"]
def w_is_pair (g_is_whole : ZSp) : ZS :=
  (zSeq (zIfS (ztOr (ztNot (zB (zUn (zIsI "tuple") (zVar 0)))) (ztOr (zB (zOp (zEqG true) (zCall (z1 zLen) (zaCons (zVar 0) zaNil)) (zC (.int 2)))) (ztNot (zB (zCallK 1 2 (fun vs us => vs ++ us) g_is_whole (zaCons (zOp zIx (zVar 0) (zC (.int 1))) zaNil) (zaCons (zC (.int 1)) (zaCons (zC (.int 60)) zaNil)))))))
    (zRet (zC (.bl false)))
    zNext)
    (zRet (zCallK 1 2 (fun vs us => vs ++ us) g_is_whole (zaCons (zOp zIx (zVar 0) (zC (.int 0))) zaNil) (zaCons (zC (.int 0)) (zaCons (zOp zSub (zOp zIx (zVar 0) (zC (.int 1))) (zC (.int 1))) zaNil)))))

def N_are_pairs_in : List Str := ["thing", "pair"]
def w_are_pairs_in (g_is_pair : ZSp) : ZS :=
  (zRet (zAndV (zUn (zIsI "tuple") (zVar 0)) (zAndV (zChain (fun i j => decide (i ≤ j)) (fun i j => decide (i ≤ j)) (zC (.int 1)) (zCall (z1 zLen) (zaCons (zVar 0) zaNil)) (zC (.int 8))) (zDr (zCall (z1 (zBls fun b => b.all id)) (zaCons (zLc (ziSeq (zVar 0)) (zgName 1) zYes (zCall g_is_pair (zaCons (zVar 1) zaNil)) [1]) zaNil))))))

def N_need_pairs : List Str := ["thing"]
def w_need_pairs (g_are_pairs_in : ZSp) : ZS :=
  (zIfS (ztNot (zB (zCall g_are_pairs_in (zaCons (zVar 0) zaNil))))
    zNever
    zNext)

def N_does_cover : List Str := ["pairs"]
def w_does_cover (g_does_cover_in : ZSp) (g_need_pairs : ZSp) : ZS :=
  (zSeq (zDrop (zCall g_need_pairs (zaCons (zVar 0) zaNil)))
    (zRet (zCall g_does_cover_in (zaCons (zVar 0) zaNil))))

def N_share_of : List Str := ["pairs"]
def w_share_of (g_need_pairs : ZSp) (g_share_in : ZSp) : ZS :=
  (zSeq (zDrop (zCall g_need_pairs (zaCons (zVar 0) zaNil)))
    (zRet (zCall g_share_in (zaCons (zVar 0) zaNil))))

def N_is_exact : List Str := ["pairs"]
def w_is_exact (g_are_apart : ZSp) (g_does_cover_in : ZSp) (g_need_pairs : ZSp) : ZS :=
  (zSeq (zDrop (zCall g_need_pairs (zaCons (zVar 0) zaNil)))
    (zRet (zAndV (zCall g_does_cover_in (zaCons (zVar 0) zaNil)) (zCall g_are_apart (zaCons (zVar 0) zaNil)))))

def N_is_least_cover : List Str := ["pairs"]
def w_is_least_cover (g_does_cover_in : ZSp) (g_least_in : ZSp) (g_need_pairs : ZSp) : ZS :=
  (zSeq (zDrop (zCall g_need_pairs (zaCons (zVar 0) zaNil)))
    (zRet (zAndV (zCall g_does_cover_in (zaCons (zVar 0) zaNil)) (zOp (zEqG false) (zCall (z1 zLen) (zaCons (zCall g_least_in (zaCons (zVar 0) zaNil)) zaNil)) (zCall (z1 zLen) (zaCons (zVar 0) zaNil))))))

def N_least_cover : List Str := ["pairs"]
def w_least_cover (g_does_cover_in : ZSp) (g_least_in : ZSp) (g_need_pairs : ZSp) : ZS :=
  (zSeq (zDrop (zCall g_need_pairs (zaCons (zVar 0) zaNil)))
    (zRet (zIf (zB (zCall g_does_cover_in (zaCons (zVar 0) zaNil))) (zCall (z1 zTuple) (zaCons (zCall g_least_in (zaCons (zVar 0) zaNil)) zaNil)) (zC .non))))

def N_split_at : List Str := ["pairs", "index", "many", "start", "step", "parts", "found", "at"]
def w_split_at (g_is_whole : ZSp) (g_need_pairs : ZSp) : ZS :=
  (zSeq (zDrop (zCall g_need_pairs (zaCons (zVar 0) zaNil)))
    (zSeq (zIfS (ztNot (zB (zCallK 1 2 (fun vs us => vs ++ us) g_is_whole (zaCons (zVar 1) zaNil) (zaCons (zC (.int 0)) (zaCons (zOp zSub (zCall (z1 zLen) (zaCons (zVar 0) zaNil)) (zC (.int 1))) zaNil)))))
    zNever
    zNext)
    (zSeq (zIfS (ztNot (zB (zCallK 1 2 (fun vs us => vs ++ us) g_is_whole (zaCons (zVar 2) zaNil) (zaCons (zC (.int 2)) (zaCons (zC (.int 60)) zaNil)))))
    zNever
    zNext)
    (zSeq (zAsg (zOp zIx (zVar 0) (zVar 1)) (zgTup 2 (zgCons (zgName 3) (zgCons (zgName 4) zgNil))))
    (zSeq (zAsg (zDr (zCall (z1 zTuple) (zaCons (zLc (ziRng1 (zVar 2)) (zgName 7) zYes (zTup (zaCons (zOp zAdd (zVar 3) (zOp zMul (zVar 7) (zVar 4))) (zaCons (zOp zMul (zVar 4) (zVar 2)) zaNil))) [7]) zaNil))) (zgName 5))
    (zSeq (zAsg (zOp zAdd (zOp zAdd (zSl (zVar 0) zoNone (zoSome (zVar 1))) (zVar 5)) (zSl (zVar 0) (zoSome (zOp zAdd (zVar 1) (zC (.int 1)))) zoNone)) (zgName 6))
    (zSeq (zDrop (zCall g_need_pairs (zaCons (zVar 6) zaNil)))
    (zRet (zVar 6)))))))))

def N__law_bag : List Str := ["script", "spot", "cell", "great", "mixed"]
def w__law_bag : ZS :=
  (zSeq (zAsg (zIf (zB (zOp (zCmp fun i j => decide (i < j)) (zVar 1) (zCall (z1 zLen) (zaCons (zVar 0) zaNil)))) (zCall (z1 zInt) (zaCons (zOp zIx (zVar 0) (zVar 1)) zaNil)) (zOp zAdd (zOp zMul (zC (.int 823)) (zVar 1)) (zC (.int 71)))) (zgName 2))
    (zSeq (zAsg (zOp zMod (zCall (z1 zInt) (zaCons (zCall (z1 zAbs) (zaCons (zVar 2) zaNil)) zaNil)) (zOp zPow (zOp zPow (zC (.int 10)) (zC (.int 39))) (zC (.int 8)))) (zgName 3))
    (zSeq (zAsg (zOp zAdd (zOp zAdd (zOp zAdd (zOp zMul (zOp zMod (zVar 3) (zC (.int 2305843009213693951))) (zC (.int 139))) (zOp zMul (zC (.int 587)) (zVar 1))) (zOp zMul (zC (.int 97)) (zCall (z1 zInt) (zaCons (zOp (zCmp fun i j => decide (i < j)) (zVar 2) (zC (.int 0))) zaNil)))) (zC (.int 53))) (zgName 4))
    (zRet (zLst (zaCons (zCall (z2 zMax2) (zaCons (zC (.int 0)) (zaCons (zOp zSub (zVar 3) (zOp zPow (zC (.int 10)) (zC (.int 16)))) zaNil))) (zaCons (zVar 4) (zaCons (zC (.int 0)) zaNil))))))))

def N__law_pull : List Str := ["bag", "total", "found", "one", "two"]
def w__law_pull : ZS :=
  (zSeq (zIfS (zB (zOp (zCmp fun i j => decide (j < i)) (zOp zIx (zVar 0) (zC (.int 0))) (zC (.int 0))))
    (zSeq (zAsg (zOp zMod (zCall (z1 zInt) (zaCons (zOp zIx (zVar 0) (zC (.int 0))) zaNil)) (zVar 1)) (zgName 2))
    (zSeq (zAsg (zOp zFdiv (zOp zIx (zVar 0) (zC (.int 0))) (zVar 1)) (zgSub (zVar 0) (zC (.int 0))))
    (zRet (zVar 2))))
    zNext)
    (zSeq (zAsg (zOp zAdd (zOp zIx (zVar 0) (zC (.int 2))) (zC (.int 1))) (zgSub (zVar 0) (zC (.int 2))))
    (zSeq (zAsg (zOp zMod (zCall (z1 zInt) (zaCons (zOp zAdd (zOp zIx (zVar 0) (zC (.int 1))) (zOp zMul (zC (.int 10001431)) (zOp zIx (zVar 0) (zC (.int 2))))) zaNil)) (zC (.int 2305843009213693951))) (zgName 3))
    (zSeq (zAsg (zOp zAdd (zOp zMul (zOp zMod (zCall (z1 zInt) (zaCons (zOp zAdd (zOp zMul (zVar 3) (zVar 3)) (zOp zMul (zC (.int 701)) (zOp zIx (zVar 0) (zC (.int 2))))) zaNil)) (zC (.int 2305843009213693951))) (zC (.int 8589934609))) (zVar 3)) (zgName 4))
    (zRet (zOp zMod (zCall (z1 zInt) (zaCons (zOp zFdiv (zVar 4) (zC (.int 131072))) zaNil)) (zVar 1)))))))

def N__law_choose : List Str := ["bag", "items"]
def w__law_choose (g__law_pull : ZSp) : ZS :=
  (zRet (zOp zIx (zVar 1) (zCall g__law_pull (zaCons (zVar 0) (zaCons (zCall (z1 zLen) (zaCons (zVar 1) zaNil)) zaNil)))))

def N__law_common : List Str := ["one", "other"]
def w__law_common : ZS :=
  (zSeq (zPar 0 1 (zaCons (zCall (z1 zAbs) (zaCons (zVar 0) zaNil)) (zaCons (zCall (z1 zAbs) (zaCons (zVar 1) zaNil)) zaNil)))
    (zSeq (zWhile (zB (zOp (zCmp fun i j => decide (j < i)) (zVar 1) (zC (.int 0))))
    (zPar 0 1 (zaCons (zVar 1) (zaCons (zOp zMod (zCall (z1 zInt) (zaCons (zVar 0) zaNil)) (zVar 1)) zaNil))))
    (zRet (zVar 0))))

def N__law_fraction : List Str := ["top", "bottom", "part"]
def w__law_fraction (g__law_common : ZSp) : ZS :=
  (zSeq (zAsg (zCall g__law_common (zaCons (zVar 0) (zaCons (zVar 1) zaNil))) (zgName 2))
    (zSeq (zAsg (zIf (zB (zOp (zCmp fun i j => decide (j < i)) (zVar 1) (zC (.int 0)))) (zVar 2) (zOp zSub (zC (.int 0)) (zVar 2))) (zgName 2))
    (zRet (zTup (zaCons (zOp zFdiv (zVar 0) (zVar 2)) (zaCons (zOp zFdiv (zVar 1) (zVar 2)) zaNil))))))

def N__law_plus : List Str := ["one", "other"]
def w__law_plus (g__law_fraction : ZSp) : ZS :=
  (zRet (zCall g__law_fraction (zaCons (zOp zAdd (zOp zMul (zOp zIx (zVar 0) (zC (.int 0))) (zOp zIx (zVar 1) (zC (.int 1)))) (zOp zMul (zOp zIx (zVar 1) (zC (.int 0))) (zOp zIx (zVar 0) (zC (.int 1))))) (zaCons (zOp zMul (zOp zIx (zVar 0) (zC (.int 1))) (zOp zIx (zVar 1) (zC (.int 1)))) zaNil))))

def N__law_pairs : List Str := ["bag", "most", "found", "steps", "turn", "n"]
def w__law_pairs (g__law_choose : ZSp) (g__law_pull : ZSp) : ZS :=
  (zSeq (zAsg (zLst zaNil) (zgName 2))
    (zSeq (zAsg (zLst (zaCons (zLst (zaCons (zC (.int 2)) (zaCons (zC (.int 3)) (zaCons (zC (.int 4)) (zaCons (zC (.int 6)) (zaCons (zC (.int 12)) zaNil)))))) (zaCons (zLst (zaCons (zC (.int 2)) (zaCons (zC (.int 4)) (zaCons (zC (.int 8)) (zaCons (zC (.int 3)) (zaCons (zC (.int 6)) zaNil)))))) (zaCons (zLst (zaCons (zC (.int 3)) (zaCons (zC (.int 9)) (zaCons (zC (.int 2)) (zaCons (zC (.int 6)) (zaCons (zC (.int 18)) zaNil)))))) (zaCons (zLst (zaCons (zC (.int 1)) (zaCons (zC (.int 2)) (zaCons (zC (.int 5)) (zaCons (zC (.int 10)) (zaCons (zC (.int 4)) zaNil)))))) (zaCons (zLst (zaCons (zC (.int 2)) (zaCons (zC (.int 3)) (zaCons (zC (.int 6)) (zaCons (zC (.int 6)) (zaCons (zC (.int 12)) (zaCons (zC (.int 24)) zaNil))))))) zaNil)))))) (zgName 3))
    (zSeq (zAsg (zCall g__law_choose (zaCons (zVar 0) (zaCons (zVar 3) zaNil))) (zgName 3))
    (zSeq (zFor (ziRng1 (zOp zAdd (zC (.int 1)) (zCall g__law_pull (zaCons (zVar 0) (zaCons (zVar 1) zaNil))))) (zgName 4)
    (zSeq (zAsg (zCall g__law_choose (zaCons (zVar 0) (zaCons (zVar 3) zaNil))) (zgName 5))
    (zDrop (zMt zAppend (zVar 2) (zaCons (zTup (zaCons (zCall g__law_pull (zaCons (zVar 0) (zaCons (zVar 5) zaNil))) (zaCons (zVar 5) zaNil))) zaNil)))))
    (zRet (zCall (z1 zTuple) (zaCons (zVar 2) zaNil)))))))

def N__law_whole_step : List Str := ["pairs", "found", "a", "n"]
def w__law_whole_step (g__law_common : ZSp) : ZS :=
  (zSeq (zAsg (zC (.int 1)) (zgName 1))
    (zSeq (zFor (ziSeq (zVar 0)) (zgTup 2 (zgCons (zgName 2) (zgCons (zgName 3) zgNil)))
    (zAsg (zOp zFdiv (zOp zMul (zVar 1) (zVar 3)) (zCall g__law_common (zaCons (zVar 1) (zaCons (zVar 3) zaNil)))) (zgName 1)))
    (zRet (zVar 1))))

def N__law_has : List Str := ["pairs", "number", "at", "pair"]
def w__law_has : ZS :=
  (zRet (zLc (ziEnum (zVar 0)) (zgTup 2 (zgCons (zgName 2) (zgCons (zgName 3) zgNil))) (zB (zOp (zEqG false) (zOp zMod (zCall (z1 zInt) (zaCons (zOp zSub (zVar 1) (zOp zIx (zVar 3) (zC (.int 0)))) zaNil)) (zOp zIx (zVar 3) (zC (.int 1)))) (zC (.int 0)))) (zVar 2) [2, 3]))

def N__law_cover : List Str := ["bag", "found", "turn", "at", "many", "a", "n", "step"]
def w__law_cover (g__law_choose : ZSp) (g__law_pull : ZSp) : ZS :=
  (zSeq (zAsg (zLst (zaCons (zTup (zaCons (zC (.int 0)) (zaCons (zC (.int 1)) zaNil))) zaNil)) (zgName 1))
    (zSeq (zFor (ziRng1 (zOp zAdd (zC (.int 1)) (zCall g__law_pull (zaCons (zVar 0) (zaCons (zC (.int 3)) zaNil))))) (zgName 2)
    (zSeq (zAsg (zTup (zaCons (zCall g__law_pull (zaCons (zVar 0) (zaCons (zCall (z1 zLen) (zaCons (zVar 1) zaNil)) zaNil))) (zaCons (zOp zAdd (zC (.int 2)) (zCall g__law_pull (zaCons (zVar 0) (zaCons (zC (.int 2)) zaNil)))) zaNil))) (zgTup 2 (zgCons (zgName 3) (zgCons (zgName 4) zgNil))))
    (zSeq (zAsg (zOp zIx (zVar 1) (zVar 3)) (zgTup 2 (zgCons (zgName 5) (zgCons (zgName 6) zgNil))))
    (zIfS (ztAnd (zB (zOp (zCmp fun i j => decide (i ≤ j)) (zOp zMul (zVar 6) (zVar 4)) (zC (.int 60)))) (zB (zOp (zCmp fun i j => decide (i < j)) (zOp zAdd (zCall (z1 zLen) (zaCons (zVar 1) zaNil)) (zVar 4)) (zC (.int 9)))))
    (zAsg (zOp zAdd (zOp zAdd (zSl (zVar 1) zoNone (zoSome (zVar 3))) (zLc (ziRng1 (zVar 4)) (zgName 7) zYes (zTup (zaCons (zOp zAdd (zVar 5) (zOp zMul (zVar 6) (zVar 7))) (zaCons (zOp zMul (zVar 6) (zVar 4)) zaNil))) [7])) (zSl (zVar 1) (zoSome (zOp zAdd (zVar 3) (zC (.int 1)))) zoNone)) (zgName 1))
    zNext))))
    (zSeq (zIfS (ztAnd (zB (zOp (zEqG false) (zCall g__law_pull (zaCons (zVar 0) (zaCons (zC (.int 3)) zaNil))) (zC (.int 0)))) (zB (zOp (zCmp fun i j => decide (i < j)) (zCall (z1 zLen) (zaCons (zVar 1) zaNil)) (zC (.int 8)))))
    (zDrop (zMt zAppend (zVar 1) (zaCons (zCall g__law_choose (zaCons (zVar 0) (zaCons (zLst (zaCons (zTup (zaCons (zC (.int 0)) (zaCons (zC (.int 2)) zaNil))) (zaCons (zTup (zaCons (zC (.int 1)) (zaCons (zC (.int 3)) zaNil))) (zaCons (zTup (zaCons (zC (.int 0)) (zaCons (zC (.int 5)) zaNil))) (zaCons (zTup (zaCons (zC (.int 3)) (zaCons (zC (.int 4)) zaNil))) zaNil))))) zaNil))) zaNil)))
    zNext)
    (zSeq (zIfS (zB (zOp (zEqG false) (zCall g__law_pull (zaCons (zVar 0) (zaCons (zC (.int 4)) zaNil))) (zC (.int 0))))
    (zAsg (zIf (zB (zOp (zCmp fun i j => decide (j < i)) (zCall (z1 zLen) (zaCons (zVar 1) zaNil)) (zC (.int 1)))) (zSl (zVar 1) (zoSome (zC (.int 1))) zoNone) (zVar 1)) (zgName 1))
    zNext)
    (zRet (zCall (z1 zTuple) (zaCons (zVar 1) zaNil)))))))

def N__law_does : List Str := ["pairs", "number"]
def w__law_does (g__law_has : ZSp) (g__law_whole_step : ZSp) : ZS :=
  (zRet (zOp (zEqG false) (zLc (ziRng1 (zCall g__law_whole_step (zaCons (zVar 0) zaNil))) (zgName 1) (zB (zOp (zEqG false) (zCall g__law_has (zaCons (zVar 0) (zaCons (zVar 1) zaNil))) (zLst zaNil))) (zC (.int 1)) [1]) (zLst zaNil)))

def N__law_is_exact : List Str := ["pairs", "number"]
def w__law_is_exact (g__law_has : ZSp) (g__law_whole_step : ZSp) : ZS :=
  (zRet (zOp (zEqG false) (zLc (ziRng1 (zCall g__law_whole_step (zaCons (zVar 0) zaNil))) (zgName 1) (zB (zOp (zEqG true) (zCall (z1 zLen) (zaCons (zCall g__law_has (zaCons (zVar 0) (zaCons (zVar 1) zaNil))) zaNil)) (zC (.int 1)))) (zC (.int 1)) [1]) (zLst zaNil)))

def N__law_is_least : List Str := ["pairs", "fewer", "at", "some"]
def w__law_is_least (g__law_does : ZSp) : ZS :=
  (zSeq (zIfS (ztNot (zB (zCall g__law_does (zaCons (zVar 0) zaNil))))
    (zRet (zC (.bl false)))
    zNext)
    (zSeq (zAsg (zLc (ziRng1 (zCall (z1 zLen) (zaCons (zVar 0) zaNil))) (zgName 2) zYes (zOp zAdd (zSl (zVar 0) zoNone (zoSome (zVar 2))) (zSl (zVar 0) (zoSome (zOp zAdd (zVar 2) (zC (.int 1)))) zoNone)) [2]) (zgName 1))
    (zRet (zOp (zEqG false) (zLc (ziSeq (zVar 1)) (zgName 3) (ztAnd (zB (zOp (zEqG true) (zVar 3) (zTup zaNil))) (zB (zCall g__law_does (zaCons (zVar 3) zaNil)))) (zC (.int 1)) [3]) (zLst zaNil)))))

def N__law_bound : List Str := ["pairs", "left", "found", "prime"]
def w__law_bound (g__law_whole_step : ZSp) : ZS :=
  (zSeq (zPar3 1 2 3 (zaCons (zCall g__law_whole_step (zaCons (zVar 0) zaNil)) (zaCons (zC (.int 1)) (zaCons (zC (.int 2)) zaNil))))
    (zSeq (zWhile (zB (zOp (zCmp fun i j => decide (j < i)) (zVar 1) (zC (.int 1))))
    (zSeq (zWhile (zB (zOp (zEqG false) (zOp zMod (zCall (z1 zInt) (zaCons (zVar 1) zaNil)) (zVar 3)) (zC (.int 0))))
    (zPar 1 2 (zaCons (zOp zFdiv (zVar 1) (zVar 3)) (zaCons (zOp zSub (zOp zAdd (zVar 2) (zVar 3)) (zC (.int 1))) zaNil))))
    (zAsg (zOp zAdd (zVar 3) (zC (.int 1))) (zgName 3))))
    (zRet (zVar 2))))

def N__law_right : List Str := ["bag", "pairs", "exact", "least", "does", "whole", "a", "n", "steps", "found", "at", "many", "parted", "told", "step"]
def w__law_right (g__law_bound : ZSp) (g__law_cover : ZSp) (g__law_does : ZSp) (g__law_is_exact : ZSp) (g__law_is_least : ZSp) (g__law_pairs : ZSp) (g__law_plus : ZSp) (g__law_pull : ZSp) (g_does_cover : ZSp) (g_is_exact : ZSp) (g_is_least_cover : ZSp) (g_least_cover : ZSp) (g_share_of : ZSp) (g_split_at : ZSp) : ZS :=
  (zSeq (zAsg (zIf (zB (zOp (zCmp fun i j => decide (j < i)) (zCall g__law_pull (zaCons (zVar 0) (zaCons (zC (.int 4)) zaNil))) (zC (.int 0)))) (zCall g__law_cover (zaCons (zVar 0) zaNil)) (zCall g__law_pairs (zaCons (zVar 0) (zaCons (zC (.int 6)) zaNil)))) (zgName 1))
    (zSeq (zPar3 2 3 4 (zaCons (zCall g__law_is_exact (zaCons (zVar 1) zaNil)) (zaCons (zCall g__law_is_least (zaCons (zVar 1) zaNil)) (zaCons (zCall g__law_does (zaCons (zVar 1) zaNil)) zaNil))))
    (zSeq (zIfS (ztOr (zB (zOp (zEqG true) (zCall g_is_exact (zaCons (zVar 1) zaNil)) (zVar 2))) (ztOr (zB (zOp (zEqG true) (zCall g_is_least_cover (zaCons (zVar 1) zaNil)) (zVar 3))) (zB (zOp (zEqG true) (zCall g_does_cover (zaCons (zVar 1) zaNil)) (zVar 4)))))
    (zRet (zC (.bl false)))
    zNext)
    (zSeq (zIfS (zB (zVar 2))
    (zSeq (zAsg (zTup (zaCons (zC (.int 0)) (zaCons (zC (.int 1)) zaNil))) (zgName 5))
    (zSeq (zFor (ziSeq (zVar 1)) (zgTup 2 (zgCons (zgName 6) (zgCons (zgName 7) zgNil)))
    (zAsg (zCall g__law_plus (zaCons (zVar 5) (zaCons (zTup (zaCons (zC (.int 1)) (zaCons (zVar 7) zaNil))) zaNil))) (zgName 5)))
    (zSeq (zAsg (zLc (ziSeq (zVar 1)) (zgTup 2 (zgCons (zgName 6) (zgCons (zgName 7) zgNil))) zYes (zVar 7) [6, 7]) (zgName 8))
    (zIfS (ztOr (zB (zOp (zEqG true) (zVar 5) (zTup (zaCons (zC (.int 1)) (zaCons (zC (.int 1)) zaNil))))) (ztOr (ztNot (zB (zVar 3))) (ztAnd (zB (zOp (zCmp fun i j => decide (j < i)) (zCall (z1 zLen) (zaCons (zVar 1) zaNil)) (zC (.int 1)))) (zB (zOp (zCmp fun i j => decide (i < j)) (zMt zCount (zVar 8) (zaCons (zCall (z1 (zMinL fun m y => y ≤ m)) (zaCons (zVar 8) zaNil)) zaNil)) (zC (.int 2)))))))
    (zRet (zC (.bl false)))
    zNext))))
    zNext)
    (zSeq (zIfS (ztAnd (zB (zVar 3)) (zB (zOp (zCmp fun i j => decide (i < j)) (zCall (z1 zLen) (zaCons (zVar 1) zaNil)) (zCall g__law_bound (zaCons (zVar 1) zaNil)))))
    (zRet (zC (.bl false)))
    zNext)
    (zSeq (zAsg (zCall g_least_cover (zaCons (zVar 1) zaNil)) (zgName 9))
    (zSeq (zIfS (zB (zOp (zEqG false) (zIsN false (zVar 9)) (zVar 4)))
    (zRet (zC (.bl false)))
    zNext)
    (zSeq (zIfS (ztAnd (zB (zVar 4)) (ztOr (zB (zOp (zEqG true) (zCall (z1 zList) (zaCons (zVar 9) zaNil)) (zUn zSortSet (zVar 9)))) (ztNot (zB (zCall g__law_is_least (zaCons (zDr (zCall (z1 zTuple) (zaCons (zLc (ziSeq (zVar 9)) (zgName 10) zYes (zOp zIx (zVar 1) (zVar 10)) [10]) zaNil))) zaNil))))))
    (zRet (zC (.bl false)))
    zNext)
    (zSeq (zAsg (zTup (zaCons (zCall g__law_pull (zaCons (zVar 0) (zaCons (zCall (z1 zLen) (zaCons (zVar 1) zaNil)) zaNil))) (zaCons (zOp zAdd (zC (.int 2)) (zCall g__law_pull (zaCons (zVar 0) (zaCons (zC (.int 3)) zaNil)))) zaNil))) (zgTup 2 (zgCons (zgName 10) (zgCons (zgName 11) zgNil))))
    (zSeq (zAsg (zOp zIx (zVar 1) (zVar 10)) (zgTup 2 (zgCons (zgName 6) (zgCons (zgName 7) zgNil))))
    (zSeq (zIfS (ztAnd (zB (zOp (zCmp fun i j => decide (i ≤ j)) (zOp zMul (zVar 7) (zVar 11)) (zC (.int 60)))) (zB (zOp (zCmp fun i j => decide (i ≤ j)) (zOp zAdd (zCall (z1 zLen) (zaCons (zVar 1) zaNil)) (zVar 11)) (zC (.int 9)))))
    (zSeq (zAsg (zOp zAdd (zOp zAdd (zSl (zVar 1) zoNone (zoSome (zVar 10))) (zDr (zCall (z1 zTuple) (zaCons (zLc (ziRng1 (zVar 11)) (zgName 14) zYes (zTup (zaCons (zOp zAdd (zVar 6) (zOp zMul (zVar 7) (zVar 14))) (zaCons (zOp zMul (zVar 7) (zVar 11)) zaNil))) [14]) zaNil)))) (zSl (zVar 1) (zoSome (zOp zAdd (zVar 10) (zC (.int 1)))) zoNone)) (zgName 12))
    (zSeq (zAsg (zCall g_split_at (zaCons (zVar 1) (zaCons (zVar 10) (zaCons (zVar 11) zaNil)))) (zgName 13))
    (zIfS (ztOr (zB (zOp (zEqG true) (zVar 13) (zVar 12))) (ztOr (zB (zOp (zEqG true) (zCall g_does_cover (zaCons (zVar 13) zaNil)) (zVar 4))) (ztOr (zB (zOp (zEqG true) (zCall g_is_exact (zaCons (zVar 13) zaNil)) (zVar 2))) (zB (zOp (zEqG true) (zCall g_share_of (zaCons (zVar 13) zaNil)) (zCall g_share_of (zaCons (zVar 1) zaNil)))))))
    (zRet (zC (.bl false)))
    zNext)))
    zNext)
    (zRet (zC (.bl true))))))))))))))

def N_law : List Str := ["script", "spot", "bag", "turn", "five", "told"]
def w_law (g__law_bag : ZSp) (g__law_right : ZSp) (g_is_exact : ZSp) (g_is_least_cover : ZSp) (g_least_cover : ZSp) (g_split_at : ZSp) : ZS :=
  (zSeq (zFor (ziRng1 (zCall (z2 zMax2) (zaCons (zC (.int 1)) (zaCons (zCall (z2 zMin2) (zaCons (zC (.int 3)) (zaCons (zCall (z1 zLen) (zaCons (zVar 0) zaNil)) zaNil))) zaNil)))) (zgName 1)
    (zSeq (zAsg (zCall g__law_bag (zaCons (zVar 0) (zaCons (zVar 1) zaNil))) (zgName 2))
    (zFor (ziRng1 (zC (.int 4))) (zgName 3)
    (zIfS (ztNot (zB (zCall g__law_right (zaCons (zVar 2) zaNil))))
    (zRet (zC (.bl false)))
    zNext))))
    (zSeq (zAsg (zTup (zaCons (zTup (zaCons (zC (.int 0)) (zaCons (zC (.int 2)) zaNil))) (zaCons (zTup (zaCons (zC (.int 0)) (zaCons (zC (.int 3)) zaNil))) (zaCons (zTup (zaCons (zC (.int 1)) (zaCons (zC (.int 4)) zaNil))) (zaCons (zTup (zaCons (zC (.int 5)) (zaCons (zC (.int 6)) zaNil))) (zaCons (zTup (zaCons (zC (.int 7)) (zaCons (zC (.int 12)) zaNil))) zaNil)))))) (zgName 4))
    (zSeq (zAsg (zLst (zaCons (zCall g_is_exact (zaCons (zVar 4) zaNil)) (zaCons (zCall g_is_least_cover (zaCons (zVar 4) zaNil)) (zaCons (zCall g_is_exact (zaCons (zTup (zaCons (zTup (zaCons (zC (.int 0)) (zaCons (zC (.int 2)) zaNil))) (zaCons (zTup (zaCons (zC (.int 1)) (zaCons (zC (.int 4)) zaNil))) (zaCons (zTup (zaCons (zC (.int 3)) (zaCons (zC (.int 4)) zaNil))) zaNil)))) zaNil)) (zaCons (zCall g_least_cover (zaCons (zTup (zaCons (zTup (zaCons (zC (.int 0)) (zaCons (zC (.int 2)) zaNil))) (zaCons (zTup (zaCons (zC (.int 0)) (zaCons (zC (.int 1)) zaNil))) (zaCons (zTup (zaCons (zC (.int 1)) (zaCons (zC (.int 3)) zaNil))) zaNil)))) zaNil)) (zaCons (zCall g_split_at (zaCons (zTup (zaCons (zTup (zaCons (zC (.int 0)) (zaCons (zC (.int 2)) zaNil))) (zaCons (zTup (zaCons (zC (.int 1)) (zaCons (zC (.int 2)) zaNil))) zaNil))) (zaCons (zC (.int 1)) (zaCons (zC (.int 2)) zaNil)))) (zaCons (zCall g_is_exact (zaCons (zTup (zaCons (zTup (zaCons (zC (.int 0)) (zaCons (zC (.int 1)) zaNil))) zaNil)) zaNil)) zaNil))))))) (zgName 5))
    (zRet (zAndV (zOp (zEqG false) (zVar 5) (zLst (zaCons (zC (.bl false)) (zaCons (zC (.bl true)) (zaCons (zC (.bl true)) (zaCons (zTup (zaCons (zC (.int 1)) zaNil)) (zaCons (zTup (zaCons (zTup (zaCons (zC (.int 0)) (zaCons (zC (.int 2)) zaNil))) (zaCons (zTup (zaCons (zC (.int 1)) (zaCons (zC (.int 4)) zaNil))) (zaCons (zTup (zaCons (zC (.int 3)) (zaCons (zC (.int 4)) zaNil))) zaNil)))) (zaCons (zC (.bl true)) zaNil)))))))) (zOp (zIsB false) (zCall g_is_exact (zaCons (zTup (zaCons (zTup (zaCons (zC (.int 0)) (zaCons (zC (.int 1)) zaNil))) (zaCons (zTup (zaCons (zC (.int 0)) (zaCons (zC (.int 2)) zaNil))) zaNil))) zaNil)) (zC (.bl false))))))))

end Z


namespace Z
open PySem PySem.Spec PyProof.Rows L2 Cov
local macro_rules | `(tactic| walk_at "z") => `(tactic| first
  | ((with_reducible apply o_var); · exact rfl)
  | with_reducible refine o_c ?_ | with_reducible refine o_seq ?_ | with_reducible refine o_next ?_ | with_reducible refine o_asg ?_ | with_reducible refine o_ret ?_
  | with_reducible refine o_retN ?_ | with_reducible refine o_drop ?_ | with_reducible refine o_ifS ?_ | with_reducible refine o_par ?_ | with_reducible refine o_par3 ?_
  | with_reducible refine o_gname ?_ | with_reducible refine o_gtup rfl ?_ | with_reducible refine o_gcons ?_ | with_reducible refine o_gnil ?_ | with_reducible refine o_gsub ?_
  | ((with_reducible apply o_aug); · exact rfl)
  | with_reducible refine o_op ?_ | with_reducible refine o_un ?_ | with_reducible refine o_neg ?_ | with_reducible refine o_add ?_ | with_reducible refine o_sub ?_ | with_reducible refine o_I0 ?_
  | with_reducible refine o_cmp ?_ | with_reducible refine o_eqI ?_ | with_reducible refine o_neI ?_ | with_reducible refine o_ixT rfl ?_ | with_reducible refine o_ixF rfl ?_
  | with_reducible refine o_isB ?_ | with_reducible refine o_isI rfl ?_ | with_reducible refine o_call ?_ | with_reducible refine o_callK ?_
  | with_reducible refine o_anil ?_ | with_reducible refine o_acons ?_ | with_reducible refine o_z1 ?_ | with_reducible refine o_z2 ?_
  | with_reducible refine o_int ?_ | with_reducible refine o_intB ?_ | with_reducible refine o_abs ?_ | with_reducible refine o_max2 ?_ | with_reducible refine o_min2 ?_
  | with_reducible refine o_tup ?_ | with_reducible refine o_lst ?_ | with_reducible refine o_dr ?_ | with_reducible refine o_if ?_ | with_reducible refine o_andV ?_ | with_reducible refine o_orV ?_
  | with_reducible refine o_notV ?_ | with_reducible refine o_chain ?_ | with_reducible refine o_B ?_ | with_reducible refine o_not ?_ | with_reducible refine o_and ?_ | with_reducible refine o_or ?_
  | with_reducible refine o_sl ?_ | with_reducible refine o_oN ?_ | with_reducible refine o_oS ?_ | with_reducible refine o_slT ?_ | with_reducible refine o_mt ?_ | with_reducible refine o_mt0 ?_
  | with_reducible refine o_iseq ?_ | with_reducible refine o_ienum ?_ | with_reducible refine o_irng1 ?_ | with_reducible refine o_irng2 ?_ | with_reducible refine o_listRg ?_ | with_reducible refine o_isN ?_ | with_reducible refine o_for ?_ | with_reducible refine o_lc ?_ | with_reducible refine o_turn ?_ | with_reducible refine o_yes ?_ | with_reducible refine o_iteT rfl ?_)
local macro_rules | `(tactic| walk_at "zz") => `(tactic| repeat walk_at "z")
theorem szL : (1000000 : Nat) ≤ sizeLine := by decide
abbrev pV (p : Pr) : Val := .tup [.int p.1, .int p.2]
def oV : Option Pr → Val
  | none => .non
  | some p => pV p
theorem fmodp {a b : Int} (h : 0 < b) : a.fmod b = a % b := Int.fmod_eq_emod_of_nonneg _ (by omega)
theorem fdivp {a b : Int} (h : 0 < b) : a.fdiv b = a / b := Int.fdiv_eq_ediv_of_nonneg _ (by omega)
/-! ### the plain functions -/
def sp_has_number : ZSp := fun vs S q => ∃ p x, vs = [pV p, .int x] ∧ 0 < p.2 ∧ q (.bl (has p x)) S
theorem rd_has_number : ∀ vs S q, sp_has_number vs S q → zBody w_has_number N_has_number vs S q := by
  rintro vs S q ⟨p, x, rfl, hp, h⟩
  unfold zBody w_has_number
  walk_at "zz"
  refine o_mod (show p.2 ≠ 0 by omega) ?_
  walk_at "zz"
  refine end_ ?_
  show q (.bl (decide ((x - p.1).fmod p.2 = 0))) S
  rw [fmodp hp]
  exact h
def sp_greatest_shared : ZSp := fun vs S q => ∃ a b : Int, vs = [.int a, .int b] ∧ 0 ≤ a ∧ 0 ≤ b ∧ q (.int (Int.gcd a b)) S
theorem gcd_step {a b : Int} (ha : 0 ≤ a) (hb : 0 < b) : Int.gcd b (a.fmod b) = Int.gcd a b := by
  rw [fmodp hb]
  unfold Int.gcd
  have e : (a % b).natAbs = a.natAbs % b.natAbs := by
    rw [Int.natAbs_emod _ (by omega)]; simp [show 0 ≤ a from ha]
  rw [e, Nat.gcd_comm a.natAbs, Nat.gcd_rec b.natAbs a.natAbs, Nat.gcd_comm]
theorem rd_greatest_shared : ∀ vs S q, sp_greatest_shared vs S q → zBody w_greatest_shared N_greatest_shared vs S q := by
  rintro vs S q ⟨a, b, rfl, ha, hb, h⟩
  unfold zBody w_greatest_shared
  walk_at "zz"
  refine o_while (fun m ζ S' => S' = S ∧ ∃ x y : Int, ζ = [some (.int x), some (.int y)] ∧ 0 ≤ x ∧ 0 ≤ y ∧ m = y.toNat ∧ Int.gcd x y = Int.gcd a b) b.toNat ⟨rfl, a, b, rfl, ha, hb, rfl, rfl⟩ ?_
  rintro m ζ S' ⟨rfl, x, y, rfl, hx, hy, rfl, hg⟩
  walk_at "zz"
  refine o_ite (fun hc => ?_) (fun hc => ?_)
  · have hy0 : y ≠ 0 := by simpa using hc
    walk_at "zz"
    refine o_mod hy0 ?_
    walk_at "zz"
    have h1 : 0 ≤ x.fmod y := by rw [fmodp (by omega)]; exact Int.emod_nonneg _ hy0
    have h2 : x.fmod y < y := by rw [fmodp (by omega)]; exact Int.emod_lt_of_pos _ (by omega)
    exact ⟨_, by omega, rfl, y, x.fmod y, rfl, hy, h1, rfl, by rw [gcd_step hx (by omega)]; exact hg⟩
  · have hy0 : y = 0 := by simpa using hc
    subst hy0
    walk_at "zz"
    refine end_ ?_
    have e : (Int.gcd x 0 : Int) = x := by rw [Int.gcd_zero_right]; omega
    rw [hg] at e
    rw [← e]; exact h
def sp_least_common : ZSp := fun vs S q => ∃ a b : Int, vs = [.int a, .int b] ∧ 0 < a ∧ 0 < b ∧ b < 2 ^ 64 ∧ q (.int (Int.lcm a b)) S
theorem lcm_eq {a b : Int} (ha : 0 < a) (hb : 0 < b) : a / (Int.gcd a b : Int) * b = Int.lcm a b := by
  have hd : (Int.gcd a b : Int) ∣ a := Int.gcd_dvd_left ..
  have hp : 0 < Int.gcd a b := Int.gcd_pos_of_ne_zero_left _ (by omega)
  have e : Int.gcd a b * Int.lcm a b = a.natAbs * b.natAbs := Int.gcd_mul_lcm a b
  have e2 : (Int.gcd a b : Int) * (Int.lcm a b : Int) = a * b := by
    rw [← Int.natCast_mul, e, Int.natCast_mul]; congr 1 <;> omega
  obtain ⟨k, hk⟩ := hd
  have e3 : a / (Int.gcd a b : Int) = k := by
    conv => lhs; lhs; rw [hk]
    exact Int.mul_ediv_cancel_left _ (by omega)
  rw [e3]
  refine Int.eq_of_mul_eq_mul_left (a := (Int.gcd a b : Int)) (by omega) ?_
  rw [e2, ← Int.mul_assoc, ← hk]
theorem rd_least_common : ∀ vs S q, sp_least_common vs S q → zBody (w_least_common sp_greatest_shared) N_least_common vs S q := by
  rintro vs S q ⟨a, b, rfl, ha, hb, hb2, h⟩
  unfold zBody w_least_common
  walk_at "zz"
  refine ⟨a, b, rfl, by omega, by omega, ?_⟩
  have hp : 0 < Int.gcd a b := Int.gcd_pos_of_ne_zero_left _ (by omega)
  have hle : (Int.gcd a b : Int) ≤ b := Int.le_of_dvd hb (Int.gcd_dvd_right ..)
  refine o_fdiv (divOk_small (by omega) (by omega)) ?_
  walk_at "zz"
  refine o_mul (mulOk_r (by omega) hb2) ?_
  refine end_ ?_
  rw [fdivp (by omega), lcm_eq ha hb]
  exact h

def sp_meet_in : ZSp := fun vs S k => ∃ p q : Pr, vs = [pV p, pV q] ∧ 0 < p.2 ∧ 0 < q.2 ∧ q.2 < 2 ^ 64 ∧ ∀ o, MeetOk p q o → k (oV o) S
theorem rd_meet_in : ∀ vs S q, sp_meet_in vs S q → zBody (w_meet_in sp_greatest_shared sp_least_common) N_meet_in vs S q := by
  rintro vs S k ⟨p, q, rfl, hp, hq, hq2, h⟩
  unfold zBody w_meet_in
  walk_at "zz"
  refine ⟨p.2, q.2, rfl, by omega, by omega, ?_⟩
  walk_at "zz"
  have hg : 0 < Int.gcd p.2 q.2 := Int.gcd_pos_of_ne_zero_left _ (by omega)
  refine o_mod (by omega) ?_
  walk_at "zz"
  rw [fmodp (by omega)]
  refine o_ite (fun hc => ?_) (fun hc => ?_)
  · have hc' : ¬ (q.1 - p.1) % (Int.gcd p.2 q.2 : Int) = 0 := by simpa using hc
    walk_at "zz"
    exact end_ (h none (meet_none hc'))
  · have hc' : (q.1 - p.1) % (Int.gcd p.2 q.2 : Int) = 0 := by simpa using hc
    obtain ⟨k0, hk0⟩ := solve hp hq hc'
    walk_at "zz"
    refine ⟨p.2, q.2, rfl, hp, hq, hq2, ?_⟩
    walk_at "zz"
    refine o_while (fun m ζ S' => S' = S ∧ ∃ j : Nat, j + m = k0 ∧ ζ = [some (pV p), some (pV q), some (.int (Int.gcd p.2 q.2)), some (.int (Int.lcm p.2 q.2)), some (.int (p.1 + j * p.2))]) k0 ⟨rfl, 0, by omega, by simp [zstart, N_meet_in]⟩ ?_
    rintro m ζ S' ⟨rfl, j, hj, rfl⟩
    walk_at "zz"
    refine o_mod (show q.2 ≠ 0 by omega) ?_
    walk_at "zz"
    rw [fmodp hq]
    refine o_ite (fun hc => ?_) (fun hc => ?_)
    · have hn : ¬ (p.1 + j * p.2 - q.1) % q.2 = 0 := by simpa using hc
      walk_at "zz"
      have hm : j ≠ k0 := fun e => hn (by rw [e]; exact hk0)
      refine ⟨m - 1, by omega, rfl, j + 1, by omega, ?_⟩
      have e : p.1 + (j : Int) * p.2 + p.2 = p.1 + ((j + 1 : Nat) : Int) * p.2 := by rw [Int.natCast_add, Int.add_mul]; simp; omega
      rw [← e]; rfl
    · have hn : (p.1 + j * p.2 - q.1) % q.2 = 0 := by simpa using hc
      walk_at "zz"
      have hl := lcm_pos' hp hq
      refine o_mod (by omega) ?_
      walk_at "zz"
      refine ⟨len2, end_ ?_⟩
      rw [fmodp hl]
      refine h (some _) (meet_some (x := p.1 + j * p.2) hp hq ?_ ?_)
      · rw [has_iff]; have e : p.1 + (j : Int) * p.2 - p.1 = p.2 * j := by rw [Int.mul_comm]; omega
        rw [e]; exact Int.dvd_mul_right ..
      · rw [has_iff]; exact emod0.mp hn
def sp_is_had : ZSp := fun vs S q => ∃ v ps x, vs = [v, .int x] ∧ seqS S v = some (ps.map pV) ∧ (∀ p ∈ ps, 0 < p.2) ∧ ps.length ≤ 1000 ∧ q (.bl (had ps x)) S
theorem fm_some {α β : Type} (f : α → β) (l : List α) : l.filterMap (fun a => some (f a)) = l.map f := by rw [← List.filterMap_eq_map]; rfl
/-- the pair that a value is -/
def unP : Val → Pr
  | .tup [.int a, .int n] => (a, n)
  | _ => (0, 1)
theorem unP_pV (p : Pr) : unP (pV p) = p := rfl
theorem rd_is_had : ∀ vs S q, sp_is_had vs S q → zBody (w_is_had sp_has_number) N_is_had vs S q := by
  rintro vs S q ⟨v, ps, x, rfl, hv, hp, hl, h⟩
  unfold zBody w_is_had
  walk_at "zz"
  refine o_lcS hv (fun v => some (.bl (has (unP v) x))) (by have := szL; simp; omega) (fun w hw S' k hS' hk => ?_) fun D hD => ?_
  · obtain ⟨p, hpm, rfl⟩ := List.mem_map.mp hw
    walk_at "zz"
    exact ⟨p, x, rfl, hp p hpm, hk⟩
  · walk_at "zz"
    refine o_bls (bs := ps.map fun p => has p x) ?_ ?_
    · rw [lstS_upd, fm_some, List.map_map, List.map_map]; rfl
    · refine ⟨S, Sub.new hD, end_ ?_⟩
      have e : (ps.map fun p => has p x).any id = had ps x := by rw [List.any_map]; rfl
      rw [e]; exact h
def oN : Option Nat → Val
  | none => .non
  | some i => .int (i : Nat)
def sp_left_in : ZSp := fun vs S q => ∃ v ps, vs = [v] ∧ seqS S v = some (ps.map pV) ∧ (∀ p ∈ ps, 0 < p.2) ∧ ps.length ≤ 12 ∧ q (oN (leftIn ps)) S
theorem pow2le {n : Nat} (h : n ≤ 12) : 2 ^ n ≤ 4096 := Nat.pow_le_pow_right (by decide) h
theorem find_take {p : Nat → Bool} {n i : Nat} (h : (List.range i).find? p = none) (hi : i < n) (hp : p i = true) : (List.range n).find? p = some i := by
  rw [List.find?_range_eq_some]
  rw [List.find?_eq_none] at h
  refine ⟨hp, List.mem_range.mpr hi, fun j hj => ?_⟩
  have := h j (List.mem_range.mpr hj)
  simpa using this
theorem rd_left_in : ∀ vs S q, sp_left_in vs S q → zBody (w_left_in sp_is_had) N_left_in vs S q := by
  rintro vs S q ⟨v, ps, rfl, hv, hp, hl, h⟩
  have h2 := pow2le hl
  have hR : RgOk2 ((2 ^ ps.length : Nat) : Int) := by
    generalize 2 ^ ps.length = N at h2
    exact ⟨by omega, by omega⟩
  unfold zBody w_left_in
  walk_at "zz"
  refine o_len hv ?_
  rw [List.length_map]
  refine o_shl ?_ ?_
  · exact ⟨by omega, by omega, by omega⟩
  have e : ((1 : Int) * 2 ^ ((ps.length : Int)).toNat) = ((2 ^ ps.length : Nat) : Int) := by rw [Int.one_mul, Int.natCast_pow]; rfl
  show RgOk2 _ ∧ _
  rw [e, Int.toNat_natCast]
  refine ⟨hR, ?_⟩
  refine o_forGo (fun i ζ S' => S' = S ∧ (∃ o, ζ = [some v, o]) ∧ (List.range i).find? (fun i => !had ps (i : Nat)) = none) ⟨rfl, ⟨_, rfl⟩, rfl⟩ (fun _ _ _ _ _ => trivial) ?_ ?_
  · rintro i w ζ S' ew ⟨rfl, ⟨o, rfl⟩, hn⟩
    have hi : i < 2 ^ ps.length := by
      have := (List.getElem?_eq_some_iff.mp ew).1
      rw [ints_length] at this; exact this
    rw [ints_get hi] at ew
    cases ew
    walk_at "zz"
    refine ⟨v, ps, _, rfl, hv, hp, by omega, ?_⟩
    walk_at "zz"
    rw [Int.zero_add]
    refine o_ite (fun hc => ?_) (fun hc => ?_)
    · walk_at "zz"
      refine end_ ?_
      have e : leftIn ps = some i := find_take hn hi hc
      rw [e] at h
      exact h
    · walk_at "zz"
      refine ⟨rfl, ⟨_, rfl⟩, ?_⟩
      rw [List.range_succ, List.find?_append, hn]
      simp at hc ⊢
      exact hc
  · rintro ζ S' ⟨rfl, ⟨o, rfl⟩, hn⟩
    rw [ints_length] at hn
    walk_at "zz"
    refine end_ ?_
    have e : leftIn ps = none := hn
    rw [e] at h; exact h
def sp_does_cover_in : ZSp := fun vs S q => ∃ v ps, vs = [v] ∧ seqS S v = some (ps.map pV) ∧ (∀ p ∈ ps, 0 < p.2) ∧ ps.length ≤ 12 ∧ q (.bl (leftIn ps).isNone) S
theorem rd_does_cover_in : ∀ vs S q, sp_does_cover_in vs S q → zBody (w_does_cover_in sp_left_in) N_does_cover_in vs S q := by
  rintro vs S q ⟨v, ps, rfl, hv, hp, hl, h⟩
  unfold zBody w_does_cover_in
  walk_at "zz"
  refine ⟨v, ps, rfl, hv, hp, hl, ?_⟩
  cases e : leftIn ps with
  | none => rw [e] at h; exact ⟨rfl, end_ h⟩
  | some i => rw [e] at h; exact ⟨rfl, end_ h⟩

theorem o_ixS {S : Sto} {q : ZQ} {v w : Val} {vs : List Val} {i : Int} (e : seqS S v = some vs) (ew : L2.atI vs i = some w) (h : q w S) : zIx v (.int i) S q := by
  unfold zIx
  cases v with
  | tup us => simp only [seqS, Option.some.injEq] at e; subst e; simp only [ew]; exact h
  | fl us => simp only [seqS, Option.some.injEq] at e; subst e; simp only [ew]; exact h
  | ref a =>
    simp only [seqS] at e
    split at e
    · rename_i us ea
      cases e
      simp only [ea, ew]; exact h
    · cases e
  | _ => simp [seqS] at e
theorem atI_nat {α : Type} {vs : List α} {i : Nat} {w : α} (h : vs[i]? = some w) : L2.atI vs (i : Int) = some w := by
  have hi : i < vs.length := (List.getElem?_eq_some_iff.mp h).1
  unfold L2.atI
  have e : ixN vs.length (i : Int) = some i := by
    unfold ixN; split
    · simp; omega
    · omega
  rw [e]; exact h
def unI : Val → Int
  | .int i => i
  | _ => 0
def iV (i : Nat) : Val := .int (i : Nat)
theorem unI_iV (i : Nat) : unI (iV i) = i := rfl
def sub (ps : List Pr) (l : List Nat) : List Pr := l.map fun i => ps.getD i (0, 1)
def lstep (ps : List Pr) (found : List Nat) (i : Nat) : List Nat := if (leftIn (sub ps (found.filter fun j => j != i))).isNone then found.filter (fun j => j != i) else found
def leastIn (ps : List Pr) : List Nat := (List.range ps.length).foldl (lstep ps) (List.range ps.length)
def sp_least_in : ZSp := fun vs S q => ∃ v ps, vs = [v] ∧ seqS S v = some (ps.map pV) ∧ (∀ p ∈ ps, 0 < p.2) ∧ ps.length ≤ 12 ∧ ∀ p, S p = none → q (.ref p) (S.upd p (.lst ((leastIn ps).map iV)))
theorem lstep_sub {ps : List Pr} {f : List Nat} {i : Nat} : (lstep ps f i).Sublist f := by
  unfold lstep
  split
  · exact List.filter_sublist
  · exact List.Sublist.refl _
theorem foldl_sub {ps : List Pr} : ∀ (l f : List Nat), (l.foldl (lstep ps) f).Sublist f
  | [], f => List.Sublist.refl _
  | i :: l, f => by rw [List.foldl_cons]; exact (foldl_sub l _).trans lstep_sub
theorem sub_pos {ps : List Pr} (hp : ∀ p ∈ ps, 0 < p.2) (l : List Nat) : ∀ p ∈ sub ps l, 0 < p.2 := by
  intro p h
  obtain ⟨i, _, rfl⟩ := List.mem_map.mp h
  rw [List.getD_eq_getElem?_getD]
  cases e : ps[i]? with
  | none => simp
  | some q => simp; exact hp q (List.mem_of_getElem? e)
theorem rgv_nat (n : Nat) : rgv 0 n = (List.range n).map iV := by
  unfold rgv iV
  refine List.map_congr_left fun i _ => ?_
  rw [Int.zero_add]
theorem get_pV {ps : List Pr} {i : Nat} (h : i < ps.length) : (ps.map pV)[i]? = some (pV (ps.getD i (0, 1))) := by
  rw [List.getElem?_map, List.getD_eq_getElem?_getD, List.getElem?_eq_getElem h]; rfl
theorem rd_least_in : ∀ vs S q, sp_least_in vs S q → zBody (w_least_in sp_does_cover_in) N_least_in vs S q := by
  rintro vs S q ⟨v, ps, rfl, hv, hp, hl, h⟩
  unfold zBody w_least_in
  walk_at "zz"
  refine o_len hv ?_
  rw [List.length_map]
  refine ⟨⟨by omega, by omega⟩, fun a0 ha0 => ?_⟩
  rw [Int.toNat_natCast, rgv_nat]
  walk_at "zz"
  refine o_len (seqS_ne hv ha0) ?_
  rw [List.length_map]
  show RgOk2 _ ∧ _
  refine ⟨⟨by omega, by omega⟩, ?_⟩
  rw [Int.toNat_natCast]
  refine o_forGo (fun i ζ S' => ∃ a, S a = none ∧ Sub (S.upd a (.lst (((List.range i).foldl (lstep ps) (List.range ps.length)).map iV))) S' ∧ ∃ o2 o3 o4, ζ = [some v, some (.ref a), o2, o3, o4]) ⟨a0, ha0, Sub.refl _, _, _, _, rfl⟩ (fun _ _ _ _ _ => trivial) ?_ ?_
  · rintro i w ζ S' ew ⟨a, ha, hs, o2, o3, o4, rfl⟩
    have hi : i < ps.length := by
      have := (List.getElem?_eq_some_iff.mp ew).1
      rw [ints_length] at this; exact this
    rw [ints_get hi] at ew
    cases ew
    have hsub := foldl_sub (ps := ps) (List.range i) (List.range ps.length)
    have hstep : (List.range (i + 1)).foldl (lstep ps) (List.range ps.length) = lstep ps ((List.range i).foldl (lstep ps) (List.range ps.length)) i := by rw [List.range_succ, List.foldl_append]; rfl
    generalize hf : (List.range i).foldl (lstep ps) (List.range ps.length) = f at *
    have hfl : f.length ≤ ps.length := by have := hsub.length_le; simpa using this
    have hfm : ∀ j ∈ f, j < ps.length := fun j hj => by simpa using hsub.subset hj
    have hSS : Sub S S' := (Sub.new ha).trans hs
    have sa : seqS S' (.ref a) = some (f.map iV) := seqS_sub hs seqS_upd
    walk_at "zz"
    refine o_lcS sa (fun v => if unI v = i then none else some v) (by have := szL; simp; omega) (fun w hw S2 k hS2 hk => ?_) fun D hD => ?_
    · obtain ⟨j, hj, rfl⟩ := List.mem_map.mp hw
      unfold iV at hk ⊢
      walk_at "zz"
      rw [unI] at hk
      rw [Int.zero_add]
      by_cases hji : (j : Int) = i
      · rw [if_pos hji] at hk
        refine o_iteF (by simpa using hji) hk
      · rw [if_neg hji] at hk
        refine o_iteT (by simpa using hji) ?_
        walk_at "zz"
        exact hk
    · have er : (f.map iV).filterMap (fun v => if unI v = i then none else some v) = (f.filter fun j => j != i).map iV := by
        rw [List.filterMap_map]
        clear hf hsub hstep hfl hfm sa hs
        induction f with
        | nil => rfl
        | cons j f ih =>
          rw [List.filterMap_cons, List.filter_cons]
          by_cases hj : j = i
          · subst hj; simp [Function.comp, unI_iV]; exact ih
          · have : ¬ (j : Int) = i := by omega
            simp [Function.comp, unI_iV, this, hj]
            exact ih
      rw [er]
      have hrl : (f.filter fun j => j != i).length ≤ f.length := List.length_filter_le ..
      have hrm : ∀ j ∈ f.filter (fun j => j != i), j < ps.length := fun j hj => hfm j (List.mem_filter.mp hj).1
      generalize hr : f.filter (fun j => j != i) = r at *
      walk_at "zz"
      refine o_lcS seqS_upd (fun v => some (pV (ps.getD (unI v).toNat (0, 1)))) (by have := szL; simp; omega) (fun w hw S2 k hS2 hk => ?_) fun E hE => ?_
      · obtain ⟨j, hj, rfl⟩ := List.mem_map.mp hw
        walk_at "zz"
        refine o_ixS (i := (j : Nat)) (seqS_sub (hSS.trans ((Sub.new hD).trans hS2)) hv) (atI_nat (get_pV (hrm j hj))) ?_
        exact hk
      · have ee : (r.map iV).filterMap (fun v => some (pV (ps.getD (unI v).toNat (0, 1)))) = (sub ps r).map pV := by
          rw [fm_some, List.map_map]; unfold sub; rw [List.map_map]; rfl
        rw [ee]
        walk_at "zz"
        refine ⟨.ref E, sub ps r, rfl, seqS_upd, sub_pos hp r, by unfold sub; rw [List.length_map]; omega, ?_⟩
        refine o_ite (fun hc => ?_) (fun hc => ?_)
        · walk_at "zz"
          refine ⟨D, hSS.nn hD, ?_, _, _, _, rfl⟩
          rw [hstep]
          unfold lstep
          rw [hr, if_pos hc]
          exact hSS.upd.trans (Sub.new hE)
        · walk_at "zz"
          refine ⟨a, ha, ?_, _, _, _, rfl⟩
          rw [hstep]
          unfold lstep
          rw [hr, if_neg hc]
          exact hs.trans ((Sub.new hD).trans (Sub.new hE))
  · rintro ζ S' ⟨a, ha, hs, o2, o3, o4, rfl⟩
    rw [ints_length] at hs
    walk_at "zz"
    exact ⟨_, hs, h a ha⟩
def sp_least_factor : ZSp := fun vs S q => ∃ n : Int, vs = [.int n] ∧ 2 ≤ n ∧ ∀ f : Int, 2 ≤ f → f ≤ n → n % f = 0 → (∀ g : Int, 2 ≤ g → g < f → ¬ n % g = 0) → q (.int f) S
theorem fm_filter (l : List Nat) (c : Nat → Bool) : (l.map iV).filterMap (fun v => if c (unI v).toNat then some v else none) = (l.filter c).map iV := by
  induction l with
  | nil => rfl
  | cons i l ih =>
    rw [List.map_cons, List.filterMap_cons, List.filter_cons]
    have e : c (unI (iV i)).toNat = c i := rfl
    rw [e, ih]
    cases c i <;> rfl
theorem lcGo_rel {g : ZG} {tt : ZT} {te : ZE} {own : List Nat} {vs : List Val} {S1 : Sto} {ζ : Env} {q : ZQ} {G : Sto → Prop} (R : Nat → Val → Prop) (hl : vs.length ≤ sizeLine) (hG : ∀ S, Sub S1 S → G S)
    (turn : ∀ (i : Nat) v, vs[i]? = some v → ∀ S k, Sub S1 S → (∀ y, R i y → k (some y) S) → zTurn g tt te own ζ v S k)
    (fin : ∀ D acc, S1 D = none → acc.length = vs.length → (∀ (i : Nat) y, acc[i]? = some y → R i y) → q (.ref D) (S1.upd D (.lst acc))) : lcGo g tt te own ζ q vs G S1 := by
  intro D hD
  refine ⟨fun i S => ∃ acc : List Val, S = S1.upd D (.lst acc) ∧ acc.length = i ∧ ∀ (j : Nat) y, acc[j]? = some y → R j y, ⟨[], rfl, rfl, fun j y h => by simp at h⟩, fun i S _ ⟨acc, e, _⟩ => hG S (by subst e; exact Sub.new hD), fun i v S ev ⟨acc, e, el, ea⟩ => ?_, fun S ⟨acc, e, el, ea⟩ => ?_⟩
  · subst e
    have hi : i < vs.length := (List.getElem?_eq_some_iff.mp ev).1
    refine turn i v ev _ _ (Sub.new hD) fun y hy => ?_
    refine ⟨acc, Sto.upd_same, by omega, acc ++ [y], by rw [Sto.upd_upd], by simp [el], fun j z hz => ?_⟩
    by_cases hj : j < acc.length
    · rw [List.getElem?_append_left hj] at hz; exact ea j z hz
    · have e1 : j = i := by
        have := (List.getElem?_eq_some_iff.mp hz).1
        simp at this; omega
      subst e1
      subst el
      simp at hz
      subst hz; exact hy
  · subst e; exact fin D acc hD el ea
/-- a tree of splits by the pairs, of at most d turns -/
inductive IsTree (ps : List Pr) : Nat → Int → Int → Val → Prop
  | leaf {d : Nat} {r s : Int} {i : Nat} : i < ps.length → s % (ps.getD i (0, 1)).2 = 0 → (r - (ps.getD i (0, 1)).1) % (ps.getD i (0, 1)).2 = 0 → IsTree ps d r s (.tup [.str "pair", iV i])
  | split {d : Nat} {r s : Int} {m : Nat} {ts : List Val} : 2 ≤ m → m ≤ 60 → ts.length = m → (∀ (j : Nat) t, ts[j]? = some t → IsTree ps d (r + j * s) (s * m) t) → IsTree ps (d + 1) r s (.tup [.str "split", iV m, .tup ts])
structure PsOk (ps : List Pr) : Prop where
  ne : ps ≠ []
  len : ps.length ≤ 8
  ok : ∀ p ∈ ps, 0 ≤ p.1 ∧ p.1 < p.2 ∧ p.2 ≤ 60 ∧ p.2 ∣ 4320
theorem PsOk.pos {ps : List Pr} (h : PsOk ps) : ∀ p ∈ ps, 0 < p.2 := fun p hp => by have := h.ok p hp; omega
theorem PsOk.at_ {ps : List Pr} (h : PsOk ps) {i : Nat} (hi : i < ps.length) : 0 < (ps.getD i (0, 1)).2 ∧ (ps.getD i (0, 1)).2 ≤ 60 ∧ (ps.getD i (0, 1)).2 ∣ 4320 := by
  rw [List.getD_eq_getElem?_getD, List.getElem?_eq_getElem hi]
  have := h.ok _ (List.getElem_mem hi)
  exact ⟨by simp; omega, by simp; omega, by simp; exact this.2.2.2⟩
def meets (p q : Pr) : Bool := decide ((q.1 - p.1) % (Int.gcd p.2 q.2 : Int) = 0)
theorem meets_of {p q : Pr} {x : Int} (h1 : has p x = true) (h2 : has q x = true) : meets p q = true := by
  unfold meets
  rw [decide_eq_true_iff]
  exact Decidable.byContradiction fun h => meet_none h x ⟨h1, h2⟩
theorem meets_some {p q : Pr} (hp : 0 < p.2) (hq : 0 < q.2) {o : Option Pr} (h : MeetOk p q o) : o.isSome = meets p q := by
  cases o with
  | some r => rw [meets_of h.2.2.2.1 h.2.2.2.2]; rfl
  | none =>
    cases e : meets p q with
    | false => rfl
    | true =>
      unfold meets at e
      rw [decide_eq_true_iff] at e
      obtain ⟨k, hk⟩ := solve hp hq e
      refine absurd ⟨?_, ?_⟩ (h (p.1 + k * p.2))
      · rw [has_iff]; have e : p.1 + (k : Int) * p.2 - p.1 = p.2 * k := by rw [Int.mul_comm]; omega
        rw [e]; exact Int.dvd_mul_right ..
      · rw [has_iff]; exact emod0.mp hk
def sp_tree_for (j : Nat) : ZSp := fun vs S q => ∃ (ps : List Pr) (v v2 : Val) (I : List Nat) (r s : Int), vs = [v, v2, .int r, .int s] ∧ seqS S v = some (ps.map pV) ∧ seqS S v2 = some (I.map iV) ∧ PsOk ps ∧ I.length ≤ 8 ∧ (∀ i ∈ I, i < ps.length) ∧
  0 < s ∧ s ∣ 4320 ∧ 4320 / s < 2 ^ j ∧ (∀ x, has (r, s) x = true → ∃ i ∈ I, has (ps.getD i (0, 1)) x = true) ∧ ∀ t, IsTree ps j r s t → q t S
theorem lacks_of {n s : Int} (hn : 0 < n) (hs : 0 < s) : 0 < n / (Int.gcd n s : Int) ∧ s * (n / (Int.gcd n s : Int)) = Int.lcm n s ∧ (n / (Int.gcd n s : Int) = 1 → s % n = 0) ∧ n / (Int.gcd n s : Int) ≤ n := by
  have hg : 0 < Int.gcd n s := Int.gcd_pos_of_ne_zero_left _ (by omega)
  have hd : (Int.gcd n s : Int) ∣ n := Int.gcd_dvd_left ..
  have e := lcm_eq hn hs
  refine ⟨Int.ediv_pos_of_pos_of_dvd hn (by omega) hd, by rw [Int.mul_comm]; exact e, fun h1 => ?_, Int.ediv_le_self _ (by omega)⟩
  obtain ⟨k, hk⟩ := hd
  have e3 : n / (Int.gcd n s : Int) = k := by
    conv => lhs; lhs; rw [hk]
    exact Int.mul_ediv_cancel_left _ (by omega)
  rw [e3] at h1
  subst h1
  rw [Int.mul_one] at hk
  rw [hk]
  exact Int.emod_eq_zero_of_dvd (Int.gcd_dvd_right ..)
theorem dvd1080_le {s : Int} (h0 : 0 < s) (h : s ∣ 4320) : s ≤ 4320 := Int.le_of_dvd (by decide) h
theorem iV_mem {I : List Nat} {w : Val} (h : w ∈ I.map iV) : ∃ i ∈ I, w = iV i := by obtain ⟨i, h1, h2⟩ := List.mem_map.mp h; exact ⟨i, h1, h2.symm⟩
def IsPaper (ps : List Pr) (t : Val) : Prop := match leftIn ps with
  | some x => t = .tup [.str "left", iV x]
  | none => ∃ t', IsTree ps 11 0 1 t' ∧ t = .tup [.str "all", t']
def sp_paper_in : ZSp := fun vs S q => ∃ (ps : List Pr) (v : Val), vs = [v] ∧ seqS S v = some (ps.map pV) ∧ PsOk ps ∧ ∀ t, IsPaper ps t → q t S
theorem leastIn_lt {ps : List Pr} : ∀ i ∈ leastIn ps, i < ps.length := fun i hi => by
  have := (foldl_sub (ps := ps) (List.range ps.length) (List.range ps.length)).subset hi
  simpa using this
theorem PsOk.n1080 {ps : List Pr} (h : PsOk ps) : ∀ p ∈ ps, 0 < p.2 ∧ p.2 ∣ 4320 := fun p hp => ⟨h.pos p hp, (h.ok p hp).2.2.2⟩
theorem sub_1080 {ps : List Pr} (h : PsOk ps) {l : List Nat} (hl : ∀ i ∈ l, i < ps.length) : ∀ p ∈ sub ps l, 0 < p.2 ∧ p.2 ∣ 4320 := by
  intro p hp
  obtain ⟨i, hi, rfl⟩ := List.mem_map.mp hp
  exact ⟨(h.at_ (hl i hi)).1, (h.at_ (hl i hi)).2.2⟩
theorem sub_range (ps : List Pr) : sub ps (List.range ps.length) = ps := by
  refine List.ext_getElem? fun i => ?_
  unfold sub
  rw [List.getElem?_map]
  by_cases hi : i < ps.length
  · rw [List.getElem?_range hi, List.getElem?_eq_getElem hi]
    simp [List.getD_eq_getElem?_getD, hi]
  · rw [List.getElem?_eq_none (by simpa using hi), List.getElem?_eq_none (by simpa using hi)]; rfl
/-- what is left over of a cover covers -/
theorem leastIn_covers {ps : List Pr} (h : leftIn ps = none) : leftIn (sub ps (leastIn ps)) = none := by
  unfold leastIn
  have key : ∀ (l f : List Nat), leftIn (sub ps f) = none → leftIn (sub ps (l.foldl (lstep ps) f)) = none := by
    intro l
    induction l with
    | nil => intro f h; exact h
    | cons i l ih =>
      intro f hf
      rw [List.foldl_cons]
      refine ih _ ?_
      unfold lstep
      split
      · rename_i hc; simpa using hc
      · exact hf
  refine key _ _ ?_
  rw [sub_range]; exact h
def mV (m : Pr × Int) : Val := .tup [pV m.1, .int m.2]
def unM : Val → Pr × Int
  | .tup [p, .int s] => (unP p, s)
  | _ => ((0, 1), 0)
theorem unM_mV (m : Pr × Int) : unM (mV m) = m := rfl
def lcmL (ps : List Pr) : Nat := ps.foldl (fun b p => Int.lcm b p.2) 1
theorem lcmL_snoc (ps : List Pr) (p : Pr) : lcmL (ps ++ [p]) = Int.lcm (lcmL ps : Nat) p.2 := by unfold lcmL; rw [List.foldl_append]; rfl
theorem rev_ind {α : Type} {P : List α → Prop} (h0 : P []) (h1 : ∀ l a, P l → P (l ++ [a])) (l : List α) : P l := by
  have key : ∀ l : List α, P l.reverse := by
    intro l
    induction l with
    | nil => exact h0
    | cons a l ih => rw [List.reverse_cons]; exact h1 _ _ ih
  have := key l.reverse
  rw [List.reverse_reverse] at this
  exact this
theorem lcmL_facts (ps : List Pr) : (∀ p ∈ ps, 0 < p.2) → 0 < lcmL ps ∧ (∀ p ∈ ps, p.2 ∣ (lcmL ps : Int)) ∧ ∀ d : Int, (∀ p ∈ ps, p.2 ∣ d) → (lcmL ps : Int) ∣ d := by
  refine rev_ind (P := fun ps => (∀ p ∈ ps, 0 < p.2) → 0 < lcmL ps ∧ (∀ p ∈ ps, p.2 ∣ (lcmL ps : Int)) ∧ ∀ d : Int, (∀ p ∈ ps, p.2 ∣ d) → (lcmL ps : Int) ∣ d) (fun _ => ⟨by decide, by simp, fun d _ => Int.one_dvd d⟩) (fun l p ih h => ?_) ps
  obtain ⟨h1, h2, h3⟩ := ih fun q hq => h q (List.mem_append_left _ hq)
  have hp := h p (List.mem_append_right _ (List.mem_singleton_self p))
  rw [lcmL_snoc]
  refine ⟨?_, fun q hq => ?_, fun d hd => lcm_dvd' (h3 d fun q hq => hd q (List.mem_append_left _ hq)) (hd p (List.mem_append_right _ (List.mem_singleton_self p)))⟩
  · have := lcm_pos' (a := (lcmL l : Int)) (by omega) hp; omega
  · rcases List.mem_append.mp hq with hq | hq
    · exact Int.dvd_trans (h2 q hq) dvd_lcm_l
    · simp only [List.mem_singleton] at hq; subst hq; exact dvd_lcm_r
theorem PsOk.lcm {ps : List Pr} (h : PsOk ps) : 0 < lcmL ps ∧ (∀ p ∈ ps, p.2 ∣ (lcmL ps : Int)) ∧ (lcmL ps : Int) ∣ 4320 ∧ lcmL ps ≤ 4320 := by
  obtain ⟨h1, h2, h3⟩ := lcmL_facts ps h.pos
  have h4 := h3 4320 fun p hp => (h.ok p hp).2.2.2
  exact ⟨h1, h2, h4, by have := dvd1080_le (by omega) h4; omega⟩
def shareV (ps : List Pr) : Val := .tup [.int (hits ps (lcmL ps) / (Int.gcd (lcmL ps : Int) (hits ps (lcmL ps)) : Int)), .int ((lcmL ps : Int) / (Int.gcd (lcmL ps : Int) (hits ps (lcmL ps)) : Int))]
def sp_share_in : ZSp := fun vs S q => ∃ (ps : List Pr) (v : Val), vs = [v] ∧ seqS S v = some (ps.map pV) ∧ PsOk ps ∧ q (shareV ps) S
theorem take_snoc {α : Type} {l : List α} {i : Nat} {a : α} (h : l[i]? = some a) : l.take (i + 1) = l.take i ++ [a] := by rw [List.take_add_one, h]; rfl
theorem cutZ_1 {α : Type} (xs : List α) : cutZ xs (some 1) none = xs.drop 1 := by
  unfold cutZ
  rw [show HT.sIx xs.length 0 (some 1) = min 1 xs.length from HT.sIx_nat xs.length 0 1, HT.sIx_none]
  cases xs with
  | nil => rfl
  | cons x r =>
    rw [show min 1 (x :: r).length = 1 by rw [List.length_cons]; omega]
    show (List.take ((x :: r).length - 1) r) = r
    rw [List.length_cons, Nat.add_sub_cancel]
    exact List.take_length
theorem get_map {α β : Type} {l : List α} {f : α → β} {i : Nat} {w : β} (h : (l.map f)[i]? = some w) : ∃ a, l[i]? = some a ∧ w = f a := by
  rw [List.getElem?_map] at h
  cases e : l[i]? with
  | none => rw [e] at h; cases h
  | some a => rw [e] at h; cases h; exact ⟨a, rfl, rfl⟩
theorem rd_share_in : ∀ vs S q, sp_share_in vs S q → zBody (w_share_in sp_greatest_shared sp_least_common sp_meet_in) N_share_in vs S q := by
  rintro vs S q ⟨ps, v, rfl, hv, hps, h⟩
  obtain ⟨hL0, hL1, hL2, hL3⟩ := hps.lcm
  have hgood : ∀ p ∈ ps, 0 < p.2 ∧ p.2 ∣ (lcmL ps : Int) := fun p hp => ⟨hps.pos p hp, hL1 p hp⟩
  unfold zBody w_share_in
  walk_at "zz"
  refine ⟨len2, ?_⟩
  walk_at "zz"
  refine ⟨len2, ?_⟩
  walk_at "zz"
  refine ⟨len1, fun a0 ha0 => ?_⟩
  walk_at "zz"
  refine o_iseqM (seqS_ne hv ha0) fun G hG => ?_
  refine o_forGo (fun i ζ S' => ∃ a M, S a = none ∧ Sub (S.upd a (.lst (M.map mV))) S' ∧ Meets (ps.take i) M ∧ ∃ o2 o3 o4 o5 o6, ζ = [some v, some (.ref a), o2, o3, o4, o5, o6, none, none, none])
    ⟨a0, [((0, 1), -1)], ha0, Sub.refl _, .nil, _, _, _, _, _, rfl⟩ (fun i ζ S' _ ⟨a, M, ha, hs, _⟩ => hG S' (seqS_sub ((Sub.new ha).trans hs) hv)) ?_ ?_
  · rintro i w ζ S' ew ⟨a, M, ha, hs, hM, o2, o3, o4, o5, o6, rfl⟩
    obtain ⟨p, ep, rfl⟩ := get_map ew
    have hpm : p ∈ ps := List.mem_of_getElem? ep
    have hil : i < ps.length := (List.getElem?_eq_some_iff.mp ep).1
    have hMl : M.length ≤ 256 := by
      have h1 := hM.len
      have h2 : 2 ^ (ps.take i).length ≤ 2 ^ 8 := Nat.pow_le_pow_right (by decide) (by rw [List.length_take]; have := hps.len; omega)
      omega
    have hMg := hM.good (L := (lcmL ps : Int)) (fun q hq => hgood q (List.take_subset _ _ hq))
    walk_at "zz"
    refine ⟨len0, fun b hb => ?_⟩
    have hSb : S b = none := ((Sub.new ha).trans hs).nn hb
    have hab : a ≠ b := fun e => by subst e; rw [hs _ _ Sto.upd_same] at hb; cases hb
    walk_at "zz"
    refine o_iseqM (vs := M.map mV) (by simp only [seqS, Sto.upd_ne hab, hs _ _ Sto.upd_same]) fun G2 hG2 => ?_
    refine o_forGo (fun k ζ S2 => ∃ N, Sub ((S.upd a (.lst (M.map mV))).upd b (.lst (N.map mV))) S2 ∧ More p (M.take k) N ∧ ∃ o4 o5 o6, ζ = [some v, some (.ref a), some (pV p), some (.ref b), o4, o5, o6, none, none, none])
      ⟨[], hs.upd, .nil, _, _, _, rfl⟩ (fun k ζ S2 _ ⟨N, hs2, _⟩ => hG2 S2 (by simp only [seqS, hs2 a _ (by rw [Sto.upd_ne hab, Sto.upd_same])])) ?_ ?_
    · rintro k w ζ S2 ew2 ⟨N, hs2, hN, o4, o5, o6, rfl⟩
      obtain ⟨m, em, rfl⟩ := get_map ew2
      have hmg := hMg m (List.mem_of_getElem? em)
      have hNl := hN.len
      have hkl : k < M.length := (List.getElem?_eq_some_iff.mp em).1
      rw [List.length_take] at hNl
      unfold mV
      walk_at "zz"
      refine ⟨m.1, p, rfl, hmg.1, hps.pos p hpm, by have := (hps.ok p hpm).2.2.1; omega, fun o ho => ?_⟩
      walk_at "zz"
      cases o with
      | none =>
        refine ⟨rfl, ?_⟩
        refine o_iteF (by simp [oV, Val.isNon]) ?_
        walk_at "zz"
        exact ⟨N, hs2, by rw [take_snoc em]; exact .non hN ho, _, _, _, rfl⟩
      | some r =>
        refine ⟨rfl, ?_⟩
        walk_at "zz"
        refine ⟨⟨b, _, rfl, hs2 b _ Sto.upd_same⟩, ?_⟩
        walk_at "zz"
        refine ⟨len2, ?_⟩
        walk_at "zz"
        refine o_append (hs2 b _ Sto.upd_same) (by have := szL; simp; omega) ?_
        walk_at "zz"
        refine ⟨N ++ [(r, -m.2)], ?_, by rw [take_snoc em]; exact .one hN ho, _, _, _, rfl⟩
        have e : N.map mV ++ [Val.tup [oV (some r), Val.int (-m.2)]] = (N ++ [(r, -m.2)]).map mV := by rw [List.map_append]; rfl
        rw [e]
        have := hs2.upd (a := b) (o := .lst ((N ++ [(r, -m.2)]).map mV))
        rw [Sto.upd_upd] at this
        exact this
    · rintro ζ S2 ⟨N, hs2, hN, o4, o5, o6, rfl⟩
      rw [List.length_map, List.take_length] at hN
      have hNl := hN.len
      walk_at "zz"
      refine o_addL (hs2 a _ (by rw [Sto.upd_ne hab, Sto.upd_same])) (hs2 b _ Sto.upd_same) (by have := szL; simp; omega) fun c hc => ?_
      walk_at "zz"
      have hSS : Sub S S2 := ((Sub.new ha).trans (Sub.new (by rw [Sto.upd_ne (Ne.symm hab)]; exact hSb))).trans hs2
      refine ⟨c, M ++ N, hSS.nn hc, ?_, by rw [take_snoc ep]; exact .snoc hM hN, _, _, _, _, _, rfl⟩
      rw [List.map_append]
      exact hSS.upd
  · rintro ζ S' ⟨a, M, ha, hs, hM, o2, o3, o4, o5, o6, rfl⟩
    rw [List.length_map, List.take_length] at hM
    have hSS : Sub S S' := (Sub.new ha).trans hs
    have hMl : M.length ≤ 256 := by
      have h1 := hM.len
      have h2 : 2 ^ ps.length ≤ 2 ^ 8 := Nat.pow_le_pow_right (by decide) hps.len
      omega
    have hMg := hM.good (L := (lcmL ps : Int)) hgood
    walk_at "zz"
    refine o_iseqM (seqS_sub hSS hv) fun G hG => ?_
    refine o_forGo (fun i ζ S2 => S2 = S' ∧ ∃ o2, ζ = [some v, some (.ref a), o2, o3, o4, o5, o6, some (.int (lcmL (ps.take i))), none, none]) ⟨rfl, _, rfl⟩ (fun i ζ S2 _ ⟨e, _⟩ => hG S2 (by rw [e]; exact seqS_sub hSS hv)) ?_ ?_
    · rintro i w ζ S2 ew ⟨rfl, o2, rfl⟩
      obtain ⟨p, ep, rfl⟩ := get_map ew
      have hpm : p ∈ ps := List.mem_of_getElem? ep
      walk_at "zz"
      have h1 := (lcmL_facts (ps.take i) fun q hq => hps.pos q (List.take_subset _ _ hq)).1
      refine ⟨_, p.2, rfl, by omega, hps.pos p hpm, by have := (hps.ok p hpm).2.2.1; omega, ?_⟩
      walk_at "zz"
      exact ⟨rfl, _, by rw [take_snoc ep, lcmL_snoc]; rfl⟩
    · rintro ζ S2 ⟨rfl, o2, rfl⟩
      rw [List.length_map, List.take_length]
      walk_at "zz"
      refine o_slL (hs a _ Sto.upd_same) fun c hc => ?_
      rw [cutZ_1, ← List.map_drop]
      have hTg : ∀ m ∈ M.drop 1, 0 < m.1.2 ∧ m.1.2 ∣ (lcmL ps : Int) := fun m hm => hMg m (List.drop_subset _ _ hm)
      refine o_lcS seqS_upd (fun v => some (.int ((unM v).2 * ((lcmL ps : Int) / (unM v).1.2)))) (by have := szL; simp; omega) (fun w hw S3 k hS3 hk => ?_) fun D hD => ?_
      · obtain ⟨m, hm, rfl⟩ := List.mem_map.mp hw
        have hmg := hTg m hm
        rw [unM_mV] at hk
        unfold mV
        walk_at "zz"
        have hle : m.1.2 ≤ (lcmL ps : Int) := Int.le_of_dvd (by omega) hmg.2
        refine o_fdiv (divOk_small hmg.1 (by omega)) ?_
        rw [fdivp hmg.1]
        have hq0 : 0 ≤ (lcmL ps : Int) / m.1.2 := Int.ediv_nonneg (by omega) (by omega)
        have hq1 : (lcmL ps : Int) / m.1.2 ≤ lcmL ps := Int.ediv_le_self _ (by omega)
        refine o_mul (mulOk_r (by omega) (by omega)) ?_
        exact hk
      · have el : ((M.drop 1).map mV).filterMap (fun v => some (.int ((unM v).2 * ((lcmL ps : Int) / (unM v).1.2)))) = ((M.drop 1).map fun m => m.2 * ((lcmL ps : Int) / m.1.2)).map Val.int := by
          rw [fm_some, List.map_map, List.map_map]; rfl
        rw [el]
        walk_at "zz"
        refine o_sum lstS_upd ?_
        rw [hM.share hgood]
        refine ⟨_, (Sub.new hc).trans (Sub.new hD), ?_⟩
        have hpos := hits_pos hps.ne hgood hL0
        have hgp : 0 < Int.gcd (lcmL ps : Int) (hits ps (lcmL ps)) := Int.gcd_pos_of_ne_zero_left _ (by omega)
        have hgl : (Int.gcd (lcmL ps : Int) (hits ps (lcmL ps)) : Int) ≤ (lcmL ps : Int) := Int.le_of_dvd (by omega) (Int.gcd_dvd_left ..)
        walk_at "zz"
        refine ⟨_, _, rfl, by omega, by omega, ?_⟩
        walk_at "zz"
        refine o_fdiv (divOk_small (by omega) (by omega)) ?_
        rw [fdivp (by omega)]
        walk_at "zz"
        refine o_fdiv (divOk_small (by omega) (by omega)) ?_
        rw [fdivp (by omega)]
        refine ⟨len2, S, hSS, h⟩

def oI : Option Int → Val
  | none => .non
  | some i => .int i
def wholeB : Val → Option Int → Option Int → Bool
  | .int i, l, m => (match l with | some a => decide (a ≤ i) | none => true) && (match m with | some b => decide (i ≤ b) | none => true)
  | _, _, _ => false
def sp_is_whole : ZSp := fun vs S q => ∃ t l m, vs = [t, oI l, oI m] ∧ (tyN S t).isSome = true ∧ q (.bl (wholeB t l m)) S
theorem isT_int {S : Sto} {t : Val} {n : String} (h : tyN S t = some n) : (isT n "int" = true ∧ isT n "bool" = false ↔ ∃ i, t = .int i) := by
  cases t with
  | ref a =>
    simp only [tyN] at h
    split at h <;> first | (cases h; simp [isT]) | cases h
  | raw v => simp [tyN] at h
  | _ => simp only [tyN, Option.some.injEq] at h; subst h; simp [isT]
theorem rd_is_whole : ∀ vs S q, sp_is_whole vs S q → zBody w_is_whole N_is_whole vs S q := by
  rintro vs S q ⟨t, l, m, rfl, ht, h⟩
  obtain ⟨n, hn⟩ := Option.isSome_iff_exists.mp ht
  have key := isT_int hn
  unfold zBody w_is_whole
  walk_at "zz"
  refine o_isI hn ?_
  walk_at "zz"
  by_cases hi : ∃ i, t = .int i
  · obtain ⟨i, rfl⟩ := hi
    obtain ⟨k1, k2⟩ := key.mpr ⟨i, rfl⟩
    rw [k1]
    refine o_iteF (by simp) ?_
    walk_at "zz"
    refine o_iteF (by simp [isT]) ?_
    walk_at "zz"
    cases l with
    | none =>
      refine ⟨rfl, ?_⟩
      refine o_iteF (by simp [oI, Val.isNon]) ?_
      refine o_iteF (by simp) ?_
      walk_at "zz"
      cases m with
      | none =>
        refine ⟨rfl, ?_⟩
        refine o_iteT (by simp [oI, Val.isNon]) ?_
        exact end_ h
      | some b =>
        refine ⟨rfl, ?_⟩
        refine o_iteF (by simp [oI, Val.isNon]) ?_
        unfold oI
        walk_at "zz"
        refine end_ ?_
        have e : wholeB (.int i) none (some b) = decide (i ≤ b) := by simp [wholeB]
        rw [e] at h; exact h
    | some a =>
      refine ⟨rfl, ?_⟩
      refine o_iteT (by simp [oI, Val.isNon]) ?_
      unfold oI
      walk_at "zz"
      refine o_ite (fun hc => ?_) (fun hc => ?_)
      · walk_at "zz"
        have hc' : i < a := by simpa using hc
        refine end_ ?_
        have e : wholeB (.int i) (some a) m = false := by simp [wholeB]; omega
        rw [e] at h; exact h
      · have hc' : ¬ i < a := by simpa using hc
        have ha : decide (a ≤ i) = true := by simp; omega
        walk_at "zz"
        cases m with
        | none =>
          refine ⟨rfl, ?_⟩
          refine o_iteT (by simp [Val.isNon]) ?_
          refine end_ ?_
          have e : wholeB (.int i) (some a) none = true := by simp only [wholeB, ha]; rfl
          rw [e] at h; exact h
        | some b =>
          refine ⟨rfl, ?_⟩
          refine o_iteF (by simp [Val.isNon]) ?_
          walk_at "zz"
          refine end_ ?_
          have e : wholeB (.int i) (some a) (some b) = decide (i ≤ b) := by simp only [wholeB, ha]; rfl
          rw [e] at h; exact h
  · have e : wholeB t l m = false := by
      cases t <;> first | rfl | exact absurd ⟨_, rfl⟩ hi
    rw [e] at h
    cases k1 : isT n "int" with
    | false =>
      walk_at "zz"
      exact end_ h
    | true =>
      refine o_iteF (by simp) ?_
      walk_at "zz"
      refine o_isI hn ?_
      cases k2 : isT n "bool" with
      | true => walk_at "zz"; exact end_ h
      | false => exact absurd (key.mp ⟨k1, k2⟩) hi
/-- its kind is known, and its items' kinds -/
def Kn1 (S : Sto) (t : Val) : Prop := (tyN S t).isSome = true ∧ ∀ vs, t = .tup vs → ∀ w ∈ vs, (tyN S w).isSome = true
def Kn2 (S : Sto) (t : Val) : Prop := (tyN S t).isSome = true ∧ ∀ vs, t = .tup vs → ∀ w ∈ vs, Kn1 S w
theorem tyN_tup {S : Sto} {t : Val} {n : String} (h : tyN S t = some n) : (isT n "tuple" = true ↔ ∃ vs, t = .tup vs) := by
  cases t with
  | ref a =>
    simp only [tyN] at h
    split at h <;> first | (cases h; simp [isT]) | cases h
  | raw v => simp [tyN] at h
  | _ => simp only [tyN, Option.some.injEq] at h; subst h; simp [isT]
theorem tyN_str {S : Sto} {t : Val} {n : String} (h : tyN S t = some n) : (isT n "str" = true ↔ ∃ x, t = .str x) := by
  cases t with
  | ref a =>
    simp only [tyN] at h
    split at h <;> first | (cases h; simp [isT]) | cases h
  | raw v => simp [tyN] at h
  | _ => simp only [tyN, Option.some.injEq] at h; subst h; simp [isT]
def isPairB : Val → Bool
  | .tup [x, y] => wholeB y (some 1) (some 60) && (match y with | .int n => wholeB x (some 0) (some (n - 1)) | _ => false)
  | _ => false
def sp_is_pair : ZSp := fun vs S q => ∃ t, vs = [t] ∧ Kn1 S t ∧ q (.bl (isPairB t)) S
theorem seqS_tup {S : Sto} {vs : List Val} : seqS S (.tup vs) = some vs := rfl
theorem rd_is_pair : ∀ vs S q, sp_is_pair vs S q → zBody (w_is_pair sp_is_whole) N_is_pair vs S q := by
  rintro vs S q ⟨t, rfl, ⟨ht, hts⟩, h⟩
  obtain ⟨n, hn⟩ := Option.isSome_iff_exists.mp ht
  have key := tyN_tup hn
  unfold zBody w_is_pair
  walk_at "zz"
  refine o_isI hn ?_
  cases k1 : isT n "tuple" with
  | false =>
    have e : isPairB t = false := by
      cases t with
      | tup us => rw [key.mpr ⟨_, rfl⟩] at k1; cases k1
      | _ => rfl
    rw [e] at h
    walk_at "zz"
    exact end_ h
  | true =>
    obtain ⟨us, rfl⟩ := key.mp k1
    refine o_iteF (by simp) ?_
    walk_at "zz"
    refine o_len seqS_tup ?_
    walk_at "zz"
    by_cases hl : us.length = 2
    · obtain ⟨x, y, rfl⟩ : ∃ x y, us = [x, y] := by
        match us, hl with
        | [x, y], _ => exact ⟨x, y, rfl⟩
      have hx := hts _ rfl x (by simp)
      have hy := hts _ rfl y (by simp)
      refine o_iteF (by simp) ?_
      walk_at "zz"
      refine ⟨rfl, rfl, y, some 1, some 60, rfl, hy, ?_⟩
      cases e1 : wholeB y (some 1) (some 60) with
      | false =>
        have e : isPairB (.tup [x, y]) = false := by simp only [isPairB, e1]; rfl
        rw [e] at h
        walk_at "zz"
        exact end_ h
      | true =>
        have hyi : ∃ k, y = .int k := by
          cases y <;> first | exact ⟨_, rfl⟩ | cases e1
        obtain ⟨k, rfl⟩ := hyi
        refine o_iteF (by simp) ?_
        walk_at "zz"
        refine ⟨rfl, rfl, x, some 0, some (k - 1), rfl, hx, end_ ?_⟩
        have e : isPairB (.tup [x, .int k]) = wholeB x (some 0) (some (k - 1)) := by simp only [isPairB, e1]; rfl
        rw [e] at h; exact h
    · have e : isPairB (.tup us) = false := by
        unfold isPairB
        split
        · rename_i heq; cases heq; exact absurd rfl hl
        · rfl
      rw [e] at h
      refine o_iteT (by simpa using (show ¬ (us.length : Int) = 2 by omega)) ?_
      walk_at "zz"
      exact end_ h
def arePairsB : Val → Bool
  | .tup ts => decide (1 ≤ ts.length) && (decide (ts.length ≤ 8) && ts.all isPairB)
  | _ => false
def sp_are_pairs_in : ZSp := fun vs S q => ∃ t, vs = [t] ∧ Kn2 S t ∧ q (.bl (arePairsB t)) S
theorem Kn1.sub {S S' : Sto} {t : Val} (h : Kn1 S t) (hs : Sub S S') : Kn1 S' t := by
  have ty : ∀ w : Val, (tyN S w).isSome = true → (tyN S' w).isSome = true := fun w hw => by
    cases w with
    | ref a =>
      simp only [tyN] at hw ⊢
      split at hw <;> first | (rename_i e; rw [hs _ _ e]; rfl) | cases hw
    | raw v => simp [tyN] at hw
    | _ => rfl
  exact ⟨ty t h.1, fun vs e w hw => ty w (h.2 vs e w hw)⟩
theorem rd_are_pairs_in : ∀ vs S q, sp_are_pairs_in vs S q → zBody (w_are_pairs_in sp_is_pair) N_are_pairs_in vs S q := by
  rintro vs S q ⟨t, rfl, ⟨ht, hts⟩, h⟩
  obtain ⟨n, hn⟩ := Option.isSome_iff_exists.mp ht
  have key := tyN_tup hn
  unfold zBody w_are_pairs_in
  walk_at "zz"
  refine o_isI hn ?_
  cases k1 : isT n "tuple" with
  | false =>
    have e : arePairsB t = false := by
      cases t with
      | tup us => rw [key.mpr ⟨_, rfl⟩] at k1; cases k1
      | _ => rfl
    rw [e] at h
    refine o_iteF (by simp) ?_
    exact end_ h
  | true =>
    obtain ⟨us, rfl⟩ := key.mp k1
    walk_at "zz"
    refine o_len seqS_tup ?_
    by_cases h1 : 1 ≤ us.length
    · refine o_iteT (by simpa using (show (1 : Int) ≤ us.length by omega)) ?_
      walk_at "zz"
      by_cases h8 : us.length ≤ 8
      · refine o_iteT (by simpa using (show (us.length : Int) ≤ 8 by omega)) ?_
        walk_at "zz"
        refine o_lcS seqS_tup (fun v => some (.bl (isPairB v))) (by have := szL; omega) (fun w hw S2 k hS2 hk => ?_) fun D hD => ?_
        · walk_at "zz"
          exact ⟨w, rfl, (hts _ rfl w hw).sub hS2, hk⟩
        · walk_at "zz"
          refine o_bls (bs := us.map isPairB) (by rw [lstS_upd, fm_some, List.map_map]; rfl) ?_
          refine ⟨S, Sub.new hD, end_ ?_⟩
          have e : arePairsB (.tup us) = (us.map isPairB).all id := by
            simp only [arePairsB, decide_eq_true h1, decide_eq_true h8, Bool.true_and, List.all_map]; rfl
          rw [e] at h; exact h
      · refine o_iteF (by simpa using (show ¬ (us.length : Int) ≤ 8 by omega)) ?_
        have e : arePairsB (.tup us) = false := by
          have : decide (us.length ≤ 8) = false := decide_eq_false h8
          simp only [arePairsB, this, Bool.false_and, Bool.and_false]
        rw [e] at h
        refine end_ ?_
        first | exact h | (have e2 : decide ((us.length : Int) ≤ 8) = false := decide_eq_false (by omega)
                           rw [e2]; exact h)
    · refine o_iteF (by simpa using (show ¬ (1 : Int) ≤ us.length by omega)) ?_
      have e : arePairsB (.tup us) = false := by
        have : decide (1 ≤ us.length) = false := decide_eq_false h1
        simp only [arePairsB, this, Bool.false_and]
      rw [e] at h
      refine o_iteF (by simp) ?_
      exact end_ h
theorem isPairB_of {p : Pr} (h : 0 ≤ p.1 ∧ p.1 < p.2 ∧ p.2 ≤ 60 ∧ p.2 ∣ 4320) : isPairB (pV p) = true := by
  simp only [pV, isPairB, wholeB, Bool.and_eq_true, decide_eq_true_eq]; omega
theorem PsOk.pairs {ps : List Pr} (h : PsOk ps) : arePairsB (.tup (ps.map pV)) = true := by
  have h1 : 1 ≤ ps.length := List.length_pos_iff.mpr h.ne
  simp only [arePairsB, List.length_map, Bool.and_eq_true, decide_eq_true_eq, List.all_map]
  refine ⟨h1, h.len, ?_⟩
  rw [List.all_eq_true]
  intro p hp
  exact isPairB_of (h.ok p hp)
theorem kn1_pV {S : Sto} (p : Pr) : Kn1 S (pV p) := ⟨rfl, fun vs e w hw => by cases e; simp at hw; rcases hw with rfl | rfl <;> rfl⟩
theorem kn2_ps {S : Sto} (ps : List Pr) : Kn2 S (.tup (ps.map pV)) := ⟨rfl, fun vs e w hw => by cases e; obtain ⟨p, _, rfl⟩ := List.mem_map.mp hw; exact kn1_pV p⟩
def sp_need_pairs : ZSp := fun vs S q => ∃ t, vs = [t] ∧ Kn2 S t ∧ arePairsB t = true ∧ q .non S
theorem rd_need_pairs : ∀ vs S q, sp_need_pairs vs S q → zBody (w_need_pairs sp_are_pairs_in) N_need_pairs vs S q := by
  rintro vs S q ⟨t, rfl, hk, ht, h⟩
  unfold zBody w_need_pairs
  walk_at "zz"
  refine ⟨t, rfl, hk, ?_⟩
  rw [ht]
  refine o_iteF (by simp) ?_
  exact end_ h
abbrev psT (ps : List Pr) : Val := .tup (ps.map pV)
theorem need_ok {ps : List Pr} (h : PsOk ps) {S : Sto} {q : ZQ} (k : q .non S) : sp_need_pairs [psT ps] S q := ⟨_, rfl, kn2_ps ps, h.pairs, k⟩
def sp_does_cover : ZSp := fun vs S q => ∃ ps, vs = [psT ps] ∧ PsOk ps ∧ q (.bl (leftIn ps).isNone) S
theorem rd_does_cover : ∀ vs S q, sp_does_cover vs S q → zBody (w_does_cover sp_does_cover_in sp_need_pairs) N_does_cover vs S q := by
  rintro vs S q ⟨ps, rfl, hps, h⟩
  unfold zBody w_does_cover
  walk_at "zz"
  refine need_ok hps ?_
  walk_at "zz"
  exact ⟨_, ps, rfl, rfl, hps.pos, by have := hps.len; omega, end_ h⟩
def sp_first_left : ZSp := fun vs S q => ∃ ps, vs = [psT ps] ∧ PsOk ps ∧ q (oN (leftIn ps)) S
def sp_cover_paper : ZSp := fun vs S q => ∃ ps, vs = [psT ps] ∧ PsOk ps ∧ ∀ t, IsPaper ps t → q t S
def sp_share_of : ZSp := fun vs S q => ∃ ps, vs = [psT ps] ∧ PsOk ps ∧ q (shareV ps) S
theorem rd_share_of : ∀ vs S q, sp_share_of vs S q → zBody (w_share_of sp_need_pairs sp_share_in) N_share_of vs S q := by
  rintro vs S q ⟨ps, rfl, hps, h⟩
  unfold zBody w_share_of
  walk_at "zz"
  refine need_ok hps ?_
  walk_at "zz"
  exact ⟨ps, _, rfl, rfl, hps, end_ h⟩
def sp_meet : ZSp := fun vs S k => ∃ p q : Pr, vs = [pV p, pV q] ∧ isPairB (pV p) = true ∧ isPairB (pV q) = true ∧ ∀ o, MeetOk p q o → k (oV o) S
theorem isPairB_pos {p : Pr} (h : isPairB (pV p) = true) : 0 ≤ p.1 ∧ p.1 < p.2 ∧ p.2 ≤ 60 := by
  simp only [pV, isPairB, wholeB, Bool.and_eq_true, decide_eq_true_eq] at h; omega
/-- which of the pairs have the number -/
def hasIx (ps : List Pr) (x : Int) : List Nat := (List.range ps.length).filter fun i => has (ps.getD i (0, 1)) x
theorem enumV_map {α : Type} (ps : List α) (f : α → Val) : enumV (ps.map f) = ps.zipIdx.map fun e => .tup [iV e.2, f e.1] := by
  unfold enumV
  rw [List.zipIdx_map, List.map_map]; rfl
def unE : Val → Nat × Val
  | .tup [.int i, v] => (i.toNat, v)
  | _ => (0, .non)
theorem enum_filter (c : Pr → Bool) (ps : List Pr) : (enumV (ps.map pV)).filterMap (fun w => if c (unP (unE w).2) then some (iV (unE w).1) else none) = ((List.range ps.length).filter fun i => c (ps.getD i (0, 1))).map iV := by
  rw [enumV_map, List.filterMap_map]
  refine rev_ind (P := fun ps => ps.zipIdx.filterMap ((fun w => if c (unP (unE w).2) then some (iV (unE w).1) else none) ∘ fun e : Pr × Nat => .tup [iV e.2, pV e.1]) = ((List.range ps.length).filter fun i => c (ps.getD i (0, 1))).map iV) rfl (fun l p ih => ?_) ps
  rw [List.zipIdx_append, List.filterMap_append, ih, List.length_append, List.length_singleton, List.range_succ, List.filter_append, List.map_append]
  congr 1
  · congr 1
    refine List.filter_congr fun i hi => ?_
    rw [List.mem_range] at hi
    rw [List.getD_eq_getElem?_getD, List.getD_eq_getElem?_getD, List.getElem?_append_left hi]
  · have e : (l ++ [p]).getD l.length (0, 1) = p := by rw [List.getD_eq_getElem?_getD]; simp
    simp only [List.filter_cons, List.filter_nil, e, Nat.zero_add, List.zipIdx_singleton, List.filterMap_cons, List.filterMap_nil, Function.comp]
    have e2 : unP (unE (.tup [iV l.length, pV p])).2 = p := rfl
    have e3 : (unE (.tup [iV l.length, pV p])).1 = l.length := Int.toNat_natCast _
    rw [e2, e3]
    cases c p <;> rfl
theorem enum_mem {ps : List Pr} {w : Val} (h : w ∈ enumV (ps.map pV)) : ∃ (i : Nat) (p : Pr), ps[i]? = some p ∧ w = .tup [.int (i : Nat), pV p] := by
  rw [enumV_map] at h
  obtain ⟨⟨p, i⟩, he, rfl⟩ := List.mem_map.mp h
  exact ⟨i, p, List.mem_zipIdx_iff_getElem?.mp he, rfl⟩
def sp_which_have : ZSp := fun vs S q => ∃ ps x, vs = [psT ps, .int x] ∧ PsOk ps ∧ -(10 ^ 30) < x ∧ x < 10 ^ 30 ∧ q (.tup ((hasIx ps x).map iV)) S
theorem IsPaper.okd {ps : List Pr} {t : Val} (h : IsPaper ps t) : ∃ w u, t = .tup [.str w, u] := by
  unfold IsPaper at h
  split at h
  · exact ⟨_, _, h⟩
  · obtain ⟨t', _, e⟩ := h; exact ⟨_, _, e⟩
def sp_shows_cover : ZSp := fun vs S q => ∃ ps t, vs = [psT ps, t] ∧ PsOk ps ∧ IsPaper ps t ∧ q (.bl true) S
/-! ### the law's own -/
def bagL (x y c : Int) : Mo := .lst [.int x, .int y, .int c]
/-- only the bag at b is another -/
def BagS (S : Sto) (b : Addr) (S' : Sto) : Prop := ∃ x y c : Int, Sub (S.upd b (bagL x y c)) S'
def Bag (S : Sto) (b : Addr) : Prop := ∃ x y c : Int, S b = some (bagL x y c)
theorem upd_self {S : Sto} {a : Addr} {o : Mo} (h : S a = some o) : S.upd a o = S := by
  funext c; unfold Sto.upd; split
  · rename_i e; rw [e, h]
  · rfl
theorem Bag.refl {S : Sto} {b : Addr} (h : Bag S b) : BagS S b S := let ⟨x, y, c, e⟩ := h; ⟨x, y, c, by rw [upd_self e]; exact Sub.refl S⟩
theorem BagS.bag {S S' : Sto} {b : Addr} (h : BagS S b S') : Bag S' b := let ⟨x, y, c, e⟩ := h; ⟨x, y, c, e _ _ Sto.upd_same⟩
theorem BagS.new {S S' : Sto} {b p : Addr} {o : Mo} (h : BagS S b S') (hp : S' p = none) : BagS S b (S'.upd p o) := let ⟨x, y, c, e⟩ := h; ⟨x, y, c, e.trans (Sub.new hp)⟩
theorem BagS.pull {S S' : Sto} {b : Addr} {x y c : Int} (h : BagS S b S') : BagS S b (S'.upd b (bagL x y c)) := let ⟨x', y', c', e⟩ := h; ⟨x, y, c, by
  have := e.upd (a := b) (o := bagL x y c)
  rw [Sto.upd_upd] at this; exact this⟩
theorem BagS.at_ {S S' : Sto} {b a : Addr} {o : Mo} (h : BagS S b S') (ha : S a = some o) (hb : a ≠ b) : S' a = some o := let ⟨x, y, c, e⟩ := h; e _ _ (by rw [Sto.upd_ne hb]; exact ha)
theorem BagS.set {S S' : Sto} {b a : Addr} {o : Mo} (h : BagS S b S') (ha : S a = none) (hb : a ≠ b) : BagS S b (S'.upd a o) := let ⟨x, y, c, e⟩ := h; ⟨x, y, c, e.skip (by rw [Sto.upd_ne hb]; exact ha)⟩
theorem BagS.trans {S S1 S2 : Sto} {b : Addr} (h : BagS S b S1) (k : BagS S1 b S2) : BagS S b S2 := let ⟨x, y, c, e⟩ := h; let ⟨x', y', c', e'⟩ := k; ⟨x', y', c', by
  have := e.upd (a := b) (o := bagL x' y' c')
  rw [Sto.upd_upd] at this
  exact this.trans e'⟩
theorem BagS.non {S S' : Sto} {b p : Addr} (h : BagS S b S') (hp : S' p = none) : S p = none ∧ p ≠ b := by
  obtain ⟨x, y, c, e⟩ := h
  have h1 : p ≠ b := fun z => by subst z; rw [e _ _ Sto.upd_same] at hp; cases hp
  have h2 := e.nn hp
  rw [Sto.upd_ne h1] at h2
  exact ⟨h2, h1⟩
theorem seqS_upne {S : Sto} {a : Addr} {o : Mo} {v : Val} (h : v ≠ .ref a) : seqS (S.upd a o) v = seqS S v := by
  cases v with
  | ref c =>
    have hc : c ≠ a := fun e => h (by rw [e])
    simp only [seqS, Sto.upd_ne hc]
  | _ => rfl
/-- what a call leaves: q at the bag's new things -/
def bagQ (S : Sto) (b : Addr) (k : Sto → Prop) : Prop := ∀ x y c : Int, k (S.upd b (bagL x y c))
theorem bag_end {S S' : Sto} {b : Addr} {q : ZQ} {v : Val} (h : BagS S b S') (k : bagQ S b (q v)) : ∃ S0, Sub S0 S' ∧ q v S0 := let ⟨x, y, c, e⟩ := h; ⟨_, e, k x y c⟩
def sp__law_bag : ZSp := fun vs S q => ∃ (v : Val) (ns : List Int) (i : Nat), vs = [v, .int i] ∧ seqS S v = some (ns.map Val.int) ∧ ∀ p x y c, S p = none → q (.ref p) (S.upd p (bagL x y c))
theorem rd__law_bag : ∀ vs S q, sp__law_bag vs S q → zBody w__law_bag N__law_bag vs S q := by
  rintro vs S q ⟨v, ns, i, rfl, hv, h⟩
  have tail : ∀ cell : Int, zSeq (zAsg (zOp zMod (zCall (z1 zInt) (zaCons (zCall (z1 zAbs) (zaCons (zVar 2) zaNil)) zaNil)) (zOp zPow (zOp zPow (zC (.int 10)) (zC (.int 39))) (zC (.int 8)))) (zgName 3))
      (zSeq (zAsg (zOp zAdd (zOp zAdd (zOp zAdd (zOp zMul (zOp zMod (zVar 3) (zC (.int 2305843009213693951))) (zC (.int 139))) (zOp zMul (zC (.int 587)) (zVar 1))) (zOp zMul (zC (.int 97)) (zCall (z1 zInt) (zaCons (zOp (zCmp fun i j => decide (i < j)) (zVar 2) (zC (.int 0))) zaNil)))) (zC (.int 53))) (zgName 4))
      (zRet (zLst (zaCons (zCall (z2 zMax2) (zaCons (zC (.int 0)) (zaCons (zOp zSub (zVar 3) (zOp zPow (zC (.int 10)) (zC (.int 16)))) zaNil))) (zaCons (zVar 4) (zaCons (zC (.int 0)) zaNil))))))
      { nx := fun _ S' => ∃ S0, Sub S0 S' ∧ q .non S0, rt := fun v S' => ∃ S0, Sub S0 S' ∧ q v S0 } [some v, some (.int i), some (.int cell), none, none] S := fun cell => by
    walk_at "zz"
    refine o_pow (powOk_of (a := 4) (by decide) (by decide) (by decide) (by decide)) ?_
    walk_at "zz"
    refine o_pow (powOk_of (a := 130) (by decide) (by decide +kernel) (by decide) (by decide)) ?_
    refine o_mod (by decide +kernel) ?_
    walk_at "zz"
    refine o_mod (by decide) ?_
    walk_at "zz"
    refine o_mul (mulOk_r (by decide) (by decide)) ?_
    walk_at "zz"
    refine o_mul (mulOk_l (by decide) (by decide)) ?_
    walk_at "zz"
    refine o_mul (mulOk_l (by decide) (by decide)) ?_
    walk_at "zz"
    refine o_pow (powOk_of (a := 4) (by decide) (by decide) (by decide) (by decide)) ?_
    walk_at "zz"
    exact ⟨len3, fun p hp => end_ (h p _ _ _ hp)⟩
  unfold zBody w__law_bag
  walk_at "zz"
  refine o_len hv ?_
  refine o_ite (fun hc => ?_) (fun hc => ?_)
  · have hi : i < ns.length := by simpa using hc
    walk_at "zz"
    refine o_ixS (i := (i : Nat)) (w := .int (ns[i])) hv (atI_nat (by rw [List.getElem?_map, List.getElem?_eq_getElem hi]; rfl)) ?_
    refine o_anil (o_z1 (o_int ?_))
    exact tail _
  · walk_at "zz"
    refine o_mul (mulOk_l (by decide) (by decide)) ?_
    refine o_c (o_add ?_)
    exact tail _
def sp__law_pull : ZSp := fun vs S q => ∃ (b : Addr) (t : Int), vs = [.ref b, .int t] ∧ 0 < t ∧ t < 2 ^ 200 ∧ Bag S b ∧ ∀ d : Int, 0 ≤ d → d < t → bagQ S b (q (.int d))
theorem rd__law_pull : ∀ vs S q, sp__law_pull vs S q → zBody w__law_pull N__law_pull vs S q := by
  rintro vs S q ⟨b, t, rfl, ht, ht2, ⟨x, y, c, hb⟩, h⟩
  have fin : ∀ i : Int, 0 ≤ i.fmod t ∧ i.fmod t < t := fun i => by rw [fmodp ht]; exact ⟨Int.emod_nonneg _ (by omega), Int.emod_lt_of_pos _ ht⟩
  unfold zBody w__law_pull
  walk_at "zz"
  refine o_ixL hb rfl ?_
  refine o_c (o_cmp ?_)
  refine o_ite (fun hc => ?_) (fun hc => ?_)
  · walk_at "zz"
    refine o_ixL hb rfl ?_
    walk_at "zz"
    refine o_mod (by omega) ?_
    walk_at "zz"
    refine o_ixL hb rfl ?_
    walk_at "zz"
    refine o_fdiv (divOk_small ht ht2) ?_
    walk_at "zz"
    refine o_gsubM (j := 0) hb rfl ?_
    walk_at "zz"
    exact end_ (h _ (fin x).1 (fin x).2 _ _ _)
  · walk_at "zz"
    refine o_ixL hb rfl ?_
    walk_at "zz"
    refine o_gsubM (j := 2) hb rfl ?_
    have hb2 : S.upd b (.lst ([Val.int x, .int y, .int c].set 2 (.int (c + 1)))) b = some (.lst [.int x, .int y, .int (c + 1)]) := Sto.upd_same
    walk_at "zz"
    refine o_ixL hb2 rfl ?_
    walk_at "zz"
    refine o_ixL hb2 rfl ?_
    refine o_mul (mulOk_l (by decide) (by decide)) ?_
    walk_at "zz"
    refine o_mod (by decide) ?_
    have r1 : ∀ i : Int, 0 ≤ i.fmod 2305843009213693951 ∧ i.fmod 2305843009213693951 < 2305843009213693951 := fun i => by rw [fmodp (by decide)]; exact ⟨Int.emod_nonneg _ (by decide), Int.emod_lt_of_pos _ (by decide)⟩
    have g := r1 (y + 10001431 * (c + 1))
    generalize (y + 10001431 * (c + 1)).fmod 2305843009213693951 = one at *
    walk_at "zz"
    refine o_mul (mulOk_l (by omega) (by omega)) ?_
    walk_at "zz"
    refine o_ixL hb2 rfl ?_
    refine o_mul (mulOk_l (by decide) (by decide)) ?_
    walk_at "zz"
    refine o_mod (by decide) ?_
    walk_at "zz"
    refine o_mul (mulOk_r (by decide) (by decide)) ?_
    walk_at "zz"
    refine o_fdiv (divOk_small (by decide) (by decide)) ?_
    walk_at "zz"
    refine o_mod (by omega) ?_
    exact end_ (h _ (fin _).1 (fin _).2 _ _ _)
def sp__law_choose : ZSp := fun vs S q => ∃ (b : Addr) (v : Val) (items : List Val), vs = [.ref b, v] ∧ seqS S v = some items ∧ items ≠ [] ∧ items.length ≤ 1000 ∧ v ≠ .ref b ∧ Bag S b ∧ ∀ w, w ∈ items → bagQ S b (q w)
theorem rd__law_choose : ∀ vs S q, sp__law_choose vs S q → zBody (w__law_choose sp__law_pull) N__law_choose vs S q := by
  rintro vs S q ⟨b, v, items, rfl, hv, hne, hl, hvb, hb, h⟩
  have hpos : 0 < items.length := List.length_pos_iff.mpr hne
  unfold zBody w__law_choose
  walk_at "zz"
  refine o_len hv ?_
  walk_at "zz"
  refine ⟨b, _, rfl, by omega, by omega, hb, fun d h0 h1 x y c => ?_⟩
  obtain ⟨n, rfl⟩ : ∃ n : Nat, d = n := ⟨d.toNat, by omega⟩
  have hn : n < items.length := by omega
  refine o_ixS (i := (n : Nat)) (w := items[n]) (by rw [seqS_upne hvb]; exact hv) (atI_nat (List.getElem?_eq_getElem hn)) ?_
  exact end_ (h _ (List.getElem_mem hn) x y c)
def sp__law_common : ZSp := fun vs S q => ∃ a b : Int, vs = [.int a, .int b] ∧ q (.int (Int.gcd a b)) S
theorem gcd_abs (a b : Int) : Int.gcd (if a < 0 then -a else a) (if b < 0 then -b else b) = Int.gcd a b := by
  unfold Int.gcd
  congr 1 <;> split <;> omega
theorem rd__law_common : ∀ vs S q, sp__law_common vs S q → zBody w__law_common N__law_common vs S q := by
  rintro vs S q ⟨a, b, rfl, h⟩
  rw [← gcd_abs] at h
  have ha : 0 ≤ (if a < 0 then -a else a) := by split <;> omega
  have hb : 0 ≤ (if b < 0 then -b else b) := by split <;> omega
  unfold zBody w__law_common
  walk_at "zz"
  generalize (if a < 0 then -a else a) = a at *
  generalize (if b < 0 then -b else b) = b at *
  refine o_while (fun m ζ S' => S' = S ∧ ∃ x y : Int, ζ = [some (.int x), some (.int y)] ∧ 0 ≤ x ∧ 0 ≤ y ∧ m = y.toNat ∧ Int.gcd x y = Int.gcd a b) b.toNat ⟨rfl, a, b, rfl, ha, hb, rfl, rfl⟩ ?_
  rintro m ζ S' ⟨rfl, x, y, rfl, hx, hy, rfl, hg⟩
  walk_at "zz"
  refine o_ite (fun hc => ?_) (fun hc => ?_)
  · have hy0 : 0 < y := by simpa using hc
    walk_at "zz"
    refine o_mod (by omega) ?_
    walk_at "zz"
    have h1 : 0 ≤ x.fmod y := by rw [fmodp (by omega)]; exact Int.emod_nonneg _ (by omega)
    have h2 : x.fmod y < y := by rw [fmodp (by omega)]; exact Int.emod_lt_of_pos _ (by omega)
    exact ⟨_, by omega, rfl, y, x.fmod y, rfl, hy, h1, rfl, by rw [gcd_step hx (by omega)]; exact hg⟩
  · have hy0 : y = 0 := by
      have : ¬ 0 < y := by simpa using hc
      omega
    subst hy0
    walk_at "zz"
    refine end_ ?_
    have e : (Int.gcd x 0 : Int) = x := by rw [Int.gcd_zero_right]; omega
    rw [hg] at e
    rw [← e]; exact h
def sp__law_fraction : ZSp := fun vs S q => ∃ t b : Int, vs = [.int t, .int b] ∧ 0 < b ∧ b < 2 ^ 199 ∧ q (.tup [.int (t / (Int.gcd t b : Int)), .int (b / (Int.gcd t b : Int))]) S
theorem rd__law_fraction : ∀ vs S q, sp__law_fraction vs S q → zBody (w__law_fraction sp__law_common) N__law_fraction vs S q := by
  rintro vs S q ⟨t, b, rfl, hb, hb2, h⟩
  have hg : 0 < Int.gcd t b := Int.gcd_pos_of_ne_zero_right _ (by omega)
  have hle : (Int.gcd t b : Int) ≤ b := Int.le_of_dvd hb (Int.gcd_dvd_right ..)
  unfold zBody w__law_fraction
  walk_at "zz"
  refine ⟨t, b, rfl, ?_⟩
  walk_at "zz"
  refine o_iteT (by simpa using hb) ?_
  walk_at "zz"
  refine o_fdiv (divOk_small (by omega) (by omega)) ?_
  walk_at "zz"
  refine o_fdiv (divOk_small (by omega) (by omega)) ?_
  rw [fdivp (by omega), fdivp (by omega)]
  exact ⟨len2, end_ h⟩
theorem lcm_eq2 {a b : Int} (ha : 0 < a) (hb : 0 < b) : a * b / (Int.gcd a b : Int) = Int.lcm a b := by
  have hg : 0 < Int.gcd a b := Int.gcd_pos_of_ne_zero_left _ (by omega)
  have e : Int.gcd a b * Int.lcm a b = a.natAbs * b.natAbs := Int.gcd_mul_lcm a b
  have e2 : (Int.gcd a b : Int) * (Int.lcm a b : Int) = a * b := by
    rw [← Int.natCast_mul, e, Int.natCast_mul]; congr 1 <;> omega
  rw [← e2]
  exact Int.mul_ediv_cancel_left _ (by omega)
def sp__law_whole_step : ZSp := fun vs S q => ∃ (v : Val) (ps : List Pr), vs = [v] ∧ seqS S v = some (ps.map pV) ∧ (∀ p ∈ ps, 0 < p.2 ∧ p.2 ≤ 60) ∧ q (.int (lcmL ps : Nat)) S
theorem rd__law_whole_step : ∀ vs S q, sp__law_whole_step vs S q → zBody (w__law_whole_step sp__law_common) N__law_whole_step vs S q := by
  rintro vs S q ⟨v, ps, rfl, hv, hp, h⟩
  unfold zBody w__law_whole_step
  walk_at "zz"
  refine o_iseqM hv fun G hG => ?_
  refine o_forGo (fun i ζ S' => S' = S ∧ ∃ o2 o3, ζ = [some v, some (.int (lcmL (ps.take i) : Nat)), o2, o3]) ⟨rfl, _, _, rfl⟩ (fun i ζ S' _ ⟨e, _⟩ => hG S' (by rw [e]; exact hv)) ?_ ?_
  · rintro i w ζ S' ew ⟨rfl, o2, o3, rfl⟩
    obtain ⟨p, ep, rfl⟩ := get_map ew
    have hpp := hp p (List.mem_of_getElem? ep)
    have h1 := (lcmL_facts (ps.take i) fun q hq => (hp q (List.take_subset _ _ hq)).1).1
    have hg : 0 < Int.gcd (lcmL (ps.take i) : Nat) p.2 := Int.gcd_pos_of_ne_zero_right _ (by omega)
    have hle : (Int.gcd (lcmL (ps.take i) : Nat) p.2 : Int) ≤ p.2 := Int.le_of_dvd hpp.1 (Int.gcd_dvd_right ..)
    walk_at "zz"
    refine o_mul (mulOk_r (by omega) (by omega)) ?_
    walk_at "zz"
    refine ⟨_, _, rfl, ?_⟩
    refine o_fdiv (divOk_small (by omega) (by omega)) ?_
    rw [fdivp (by omega), lcm_eq2 (by omega) hpp.1]
    walk_at "zz"
    exact ⟨rfl, _, _, by rw [take_snoc ep, lcmL_snoc]; rfl⟩
  · rintro ζ S' ⟨rfl, o2, o3, rfl⟩
    rw [List.length_map, List.take_length]
    walk_at "zz"
    exact end_ h
def sp__law_has : ZSp := fun vs S q => ∃ (v : Val) (ps : List Pr) (x : Int), vs = [v, .int x] ∧ seqS S v = some (ps.map pV) ∧ (∀ p ∈ ps, 0 < p.2) ∧ ps.length ≤ 1000 ∧ ∀ p, S p = none → q (.ref p) (S.upd p (.lst ((hasIx ps x).map iV)))
theorem rd__law_has : ∀ vs S q, sp__law_has vs S q → zBody w__law_has N__law_has vs S q := by
  rintro vs S q ⟨v, ps, x, rfl, hv, hp, hl, h⟩
  unfold zBody w__law_has
  walk_at "zz"
  refine o_lcE hv (fun w => if has (unP (unE w).2) x then some (iV (unE w).1) else none) (by have := szL; simp; omega) (fun w hw S2 k hS2 hk => ?_) fun D hD => ?_
  · obtain ⟨i, p, hi, rfl⟩ := enum_mem hw
    have e2 : unP (unE (.tup [.int (i : Nat), pV p])).2 = p := rfl
    have e3 : (unE (.tup [.int (i : Nat), pV p])).1 = i := Int.toNat_natCast _
    rw [e2, e3] at hk
    have hp0 := hp p (List.mem_of_getElem? hi)
    walk_at "zz"
    refine o_mod (by omega) ?_
    walk_at "zz"
    rw [fmodp hp0]
    refine o_ite (fun hc => ?_) (fun hc => ?_)
    · have e : has p x = true := hc
      rw [e] at hk
      walk_at "zz"
      exact hk
    · have e : has p x = false := by simpa [has] using hc
      rw [e] at hk
      exact hk
  · rw [enum_filter (fun p => has p x) ps]
    exact end_ (h D hD)

def GoodP (p : Pr) : Prop := 0 ≤ p.1 ∧ p.1 < p.2 ∧ p.2 ≤ 60 ∧ p.2 ∣ 4320
def GoodN (ns : List Int) : Prop := ns ≠ [] ∧ ns.length ≤ 10 ∧ ∀ n ∈ ns, 1 ≤ n ∧ n ≤ 60 ∧ n ∣ 4320
theorem len5 {α : Type} {a b c d e : α} : [a, b, c, d, e].length ≤ sizeLine := by show 5 ≤ sizeLine; decide
theorem len6 {α : Type} {a b c d e f : α} : [a, b, c, d, e, f].length ≤ sizeLine := by show 6 ≤ sizeLine; decide
theorem len7 {α : Type} {a b c d e f g : α} : [a, b, c, d, e, f, g].length ≤ sizeLine := by show 7 ≤ sizeLine; decide
theorem upd_of {S : Sto} {p a : Addr} {o m : Mo} (hp : S p = none) (h : S a = some o) : S.upd p m a = some o := Sub.new hp _ _ h
def sp__law_pairs : ZSp := fun vs S q => ∃ (b : Addr) (m : Int), vs = [.ref b, .int m] ∧ 0 < m ∧ m ≤ 7 ∧ Bag S b ∧ ∀ ps, PsOk ps → bagQ S b (q (psT ps))
theorem rd__law_pairs : ∀ vs S q, sp__law_pairs vs S q → zBody (w__law_pairs sp__law_choose sp__law_pull) N__law_pairs vs S q := by
  rintro vs S q ⟨b, m, rfl, hm0, hm7, hb, h⟩
  unfold zBody w__law_pairs
  walk_at "zz"
  refine ⟨len0, fun f hf => ?_⟩
  have B0 := (Bag.refl hb).new (o := .lst []) hf
  have hfb : f ≠ b := ((Bag.refl hb).non hf).2
  have F0 : S.upd f (.lst []) f = some (.lst []) := Sto.upd_same
  generalize S.upd f (.lst []) = S0 at *
  walk_at "zz"
  refine ⟨len5, fun l1 hl1 => ?_⟩
  have B1 := B0.new (o := .lst [.int 2, .int 3, .int 4, .int 6, .int 12]) hl1
  have F1 := upd_of (m := .lst [.int 2, .int 3, .int 4, .int 6, .int 12]) hl1 F0
  have L1 : S0.upd l1 (.lst [.int 2, .int 3, .int 4, .int 6, .int 12]) l1 = some (.lst ([2, 3, 4, 6, 12].map Val.int)) := Sto.upd_same
  have b1 := (B0.non hl1).2
  have f1 : l1 ≠ f := fun e => by rw [e, F0] at hl1; cases hl1
  generalize S0.upd l1 (.lst [.int 2, .int 3, .int 4, .int 6, .int 12]) = S1 at *
  walk_at "zz"
  refine ⟨len5, fun l2 hl2 => ?_⟩
  have B2 := B1.new (o := .lst [.int 2, .int 4, .int 8, .int 3, .int 6]) hl2
  have F2 := upd_of (m := .lst [.int 2, .int 4, .int 8, .int 3, .int 6]) hl2 F1
  have L12 := upd_of (m := .lst [.int 2, .int 4, .int 8, .int 3, .int 6]) hl2 L1
  have L2 : S1.upd l2 (.lst [.int 2, .int 4, .int 8, .int 3, .int 6]) l2 = some (.lst ([2, 4, 8, 3, 6].map Val.int)) := Sto.upd_same
  have b2 := (B1.non hl2).2
  have f2 : l2 ≠ f := fun e => by rw [e, F1] at hl2; cases hl2
  generalize S1.upd l2 (.lst [.int 2, .int 4, .int 8, .int 3, .int 6]) = S2 at *
  walk_at "zz"
  refine ⟨len5, fun l3 hl3 => ?_⟩
  have B3 := B2.new (o := .lst [.int 3, .int 9, .int 2, .int 6, .int 18]) hl3
  have F3 := upd_of (m := .lst [.int 3, .int 9, .int 2, .int 6, .int 18]) hl3 F2
  have L13 := upd_of (m := .lst [.int 3, .int 9, .int 2, .int 6, .int 18]) hl3 L12
  have L23 := upd_of (m := .lst [.int 3, .int 9, .int 2, .int 6, .int 18]) hl3 L2
  have L3 : S2.upd l3 (.lst [.int 3, .int 9, .int 2, .int 6, .int 18]) l3 = some (.lst ([3, 9, 2, 6, 18].map Val.int)) := Sto.upd_same
  have b3 := (B2.non hl3).2
  have f3 : l3 ≠ f := fun e => by rw [e, F2] at hl3; cases hl3
  generalize S2.upd l3 (.lst [.int 3, .int 9, .int 2, .int 6, .int 18]) = S3 at *
  walk_at "zz"
  refine ⟨len5, fun l4 hl4 => ?_⟩
  have B4 := B3.new (o := .lst [.int 1, .int 2, .int 5, .int 10, .int 4]) hl4
  have F4 := upd_of (m := .lst [.int 1, .int 2, .int 5, .int 10, .int 4]) hl4 F3
  have L14 := upd_of (m := .lst [.int 1, .int 2, .int 5, .int 10, .int 4]) hl4 L13
  have L24 := upd_of (m := .lst [.int 1, .int 2, .int 5, .int 10, .int 4]) hl4 L23
  have L34 := upd_of (m := .lst [.int 1, .int 2, .int 5, .int 10, .int 4]) hl4 L3
  have L4 : S3.upd l4 (.lst [.int 1, .int 2, .int 5, .int 10, .int 4]) l4 = some (.lst ([1, 2, 5, 10, 4].map Val.int)) := Sto.upd_same
  have b4 := (B3.non hl4).2
  have f4 : l4 ≠ f := fun e => by rw [e, F3] at hl4; cases hl4
  generalize S3.upd l4 (.lst [.int 1, .int 2, .int 5, .int 10, .int 4]) = S4 at *
  walk_at "zz"
  refine ⟨len6, fun l5 hl5 => ?_⟩
  have B5 := B4.new (o := .lst [.int 2, .int 3, .int 6, .int 6, .int 12, .int 24]) hl5
  have F5 := upd_of (m := .lst [.int 2, .int 3, .int 6, .int 6, .int 12, .int 24]) hl5 F4
  have L15 := upd_of (m := .lst [.int 2, .int 3, .int 6, .int 6, .int 12, .int 24]) hl5 L14
  have L25 := upd_of (m := .lst [.int 2, .int 3, .int 6, .int 6, .int 12, .int 24]) hl5 L24
  have L35 := upd_of (m := .lst [.int 2, .int 3, .int 6, .int 6, .int 12, .int 24]) hl5 L34
  have L45 := upd_of (m := .lst [.int 2, .int 3, .int 6, .int 6, .int 12, .int 24]) hl5 L4
  have L5 : S4.upd l5 (.lst [.int 2, .int 3, .int 6, .int 6, .int 12, .int 24]) l5 = some (.lst ([2, 3, 6, 6, 12, 24].map Val.int)) := Sto.upd_same
  have b5 := (B4.non hl5).2
  have f5 : l5 ≠ f := fun e => by rw [e, F4] at hl5; cases hl5
  generalize S4.upd l5 (.lst [.int 2, .int 3, .int 6, .int 6, .int 12, .int 24]) = S5 at *
  walk_at "zz"
  refine ⟨len5, fun lo hlo => ?_⟩
  have B6 := B5.new (o := .lst [.ref l1, .ref l2, .ref l3, .ref l4, .ref l5]) hlo
  have F6 := upd_of (m := .lst [.ref l1, .ref l2, .ref l3, .ref l4, .ref l5]) hlo F5
  have bo := (B5.non hlo).2
  have key : ∀ w, w ∈ [Val.ref l1, .ref l2, .ref l3, .ref l4, .ref l5] → ∃ l ns, w = .ref l ∧ l ≠ b ∧ l ≠ f ∧ GoodN ns ∧ S5 l = some (.lst (ns.map Val.int)) := by
    intro w hw
    simp only [List.mem_cons, List.not_mem_nil, or_false] at hw
    rcases hw with rfl | rfl | rfl | rfl | rfl
    · exact ⟨_, _, rfl, b1, f1, ⟨by decide, by decide, by decide⟩, L15⟩
    · exact ⟨_, _, rfl, b2, f2, ⟨by decide, by decide, by decide⟩, L25⟩
    · exact ⟨_, _, rfl, b3, f3, ⟨by decide, by decide, by decide⟩, L35⟩
    · exact ⟨_, _, rfl, b4, f4, ⟨by decide, by decide, by decide⟩, L45⟩
    · exact ⟨_, _, rfl, b5, f5, ⟨by decide, by decide, by decide⟩, L5⟩
  walk_at "zz"
  refine ⟨b, .ref lo, _, rfl, seqS_upd, by simp, by simp, fun e => bo (by cases e; rfl), B6.bag, fun w hw x y c => ?_⟩
  obtain ⟨l, ns, rfl, hlb, hlf, hns, hl⟩ := key w hw
  have B7 := B6.pull (x := x) (y := y) (c := c)
  have hl7 : (S5.upd lo (.lst [.ref l1, .ref l2, .ref l3, .ref l4, .ref l5])).upd b (bagL x y c) l = some (.lst (ns.map Val.int)) := by rw [Sto.upd_ne hlb]; exact upd_of hlo hl
  have F7 : (S5.upd lo (.lst [.ref l1, .ref l2, .ref l3, .ref l4, .ref l5])).upd b (bagL x y c) f = some (.lst []) := by rw [Sto.upd_ne hfb]; exact F6
  generalize (S5.upd lo (.lst [.ref l1, .ref l2, .ref l3, .ref l4, .ref l5])).upd b (bagL x y c) = S7 at *
  walk_at "zz"
  refine ⟨b, m, rfl, hm0, by omega, B7.bag, fun d h0 h1 x y c => ?_⟩
  have B8 := B7.pull (x := x) (y := y) (c := c)
  have hl8 : S7.upd b (bagL x y c) l = some (.lst (ns.map Val.int)) := by rw [Sto.upd_ne hlb]; exact hl7
  have F8 : S7.upd b (bagL x y c) f = some (.lst []) := by rw [Sto.upd_ne hfb]; exact F7
  generalize S7.upd b (bagL x y c) = S8 at *
  refine o_add ?_
  show RgOk2 _ ∧ _
  refine ⟨⟨by omega, by omega⟩, ?_⟩
  refine o_forGo (fun i ζ S' => ∃ ps : List Pr, ps.length = i ∧ (∀ p ∈ ps, GoodP p) ∧ BagS S b S' ∧ S' f = some (.lst (ps.map pV)) ∧ S' l = some (.lst (ns.map Val.int)) ∧ ∃ o4 o5, ζ = [some (.ref b), some (.int m), some (.ref f), some (.ref l), o4, o5])
    ⟨[], rfl, by simp, B8, F8, hl8, _, _, rfl⟩ (fun _ _ _ _ _ => trivial) ?_ ?_
  · rintro i w ζ S' ew ⟨ps, hpl, hpg, B, F, hlS, o4, o5, rfl⟩
    have hi : i < (1 + d).toNat := by
      have := (List.getElem?_eq_some_iff.mp ew).1
      rw [ints_length] at this; exact this
    walk_at "zz"
    refine ⟨b, .ref l, ns.map Val.int, rfl, by simp only [seqS, hlS], by simpa using hns.1, by have := hns.2.1; simp; omega, fun e => hlb (by cases e; rfl), B.bag, fun w hw x y c => ?_⟩
    obtain ⟨n, hn, rfl⟩ := List.mem_map.mp hw
    have gn := hns.2.2 n hn
    have B9 := B.pull (x := x) (y := y) (c := c)
    have F9 : S'.upd b (bagL x y c) f = some (.lst (ps.map pV)) := by rw [Sto.upd_ne hfb]; exact F
    have l9 : S'.upd b (bagL x y c) l = some (.lst (ns.map Val.int)) := by rw [Sto.upd_ne hlb]; exact hlS
    generalize S'.upd b (bagL x y c) = S9 at *
    walk_at "zz"
    refine ⟨⟨f, _, rfl, F9⟩, ?_⟩
    walk_at "zz"
    refine ⟨b, n, rfl, by omega, by omega, B9.bag, fun a h0 h1 x y c => ?_⟩
    have B10 := B9.pull (x := x) (y := y) (c := c)
    have F10 : S9.upd b (bagL x y c) f = some (.lst (ps.map pV)) := by rw [Sto.upd_ne hfb]; exact F9
    have l10 : S9.upd b (bagL x y c) l = some (.lst (ns.map Val.int)) := by rw [Sto.upd_ne hlb]; exact l9
    generalize S9.upd b (bagL x y c) = S10 at *
    walk_at "zz"
    refine ⟨len2, ?_⟩
    walk_at "zz"
    refine o_append F10 (by have := szL; simp; omega) ?_
    walk_at "zz"
    refine ⟨ps ++ [(a, n)], by simp [hpl], fun p hp => ?_, B10.set hf hfb, by rw [Sto.upd_same, List.map_append]; rfl, by rw [Sto.upd_ne hlf]; exact l10, _, _, rfl⟩
    rcases List.mem_append.mp hp with hp | hp
    · exact hpg p hp
    · simp only [List.mem_singleton] at hp
      subst hp
      exact ⟨h0, h1, gn.2.1, gn.2.2⟩
  · rintro ζ S' ⟨ps, hpl, hpg, B, F, hlS, o4, o5, rfl⟩
    rw [ints_length] at hpl
    walk_at "zz"
    refine o_tuple (vs := ps.map pV) (by simp only [seqS, F]) ?_
    exact bag_end B (h ps ⟨fun e => by subst e; simp at hpl; omega, by omega, hpg⟩)
/-! cuts -/
theorem cutZ_to {α : Type} (xs : List α) (k : Nat) : cutZ xs none (some (k : Int)) = xs.take k := by
  unfold cutZ
  rw [HT.sIx_none, HT.sIx_nat]
  simp only [List.drop_zero, Nat.sub_zero]
  by_cases h : k ≤ xs.length
  · rw [Nat.min_eq_left h]
  · rw [Nat.min_eq_right (by omega), List.take_length, List.take_of_length_le (by omega)]
theorem cutZ_from {α : Type} (xs : List α) (k : Nat) : cutZ xs (some (k : Int)) none = xs.drop k := by
  unfold cutZ
  rw [HT.sIx_none, HT.sIx_nat]
  by_cases h : k ≤ xs.length
  · rw [Nat.min_eq_left h, List.take_of_length_le (by rw [List.length_drop]; omega)]
  · rw [Nat.min_eq_right (by omega), List.drop_length, List.take_nil, List.drop_of_length_le (by omega)]
def CL : Nat → List Int
  | 0 => [1]
  | 1 => [1, 2, 3]
  | 2 => [1, 2, 3, 4, 6, 9]
  | _ => [1, 2, 3, 4, 6, 9, 8, 12, 18, 27]
theorem CL_up : ∀ i, i < 3 → ∀ n ∈ CL i, n ∈ CL (i + 1) ∧ n * 2 ∈ CL (i + 1) ∧ n * 3 ∈ CL (i + 1) := by decide
theorem CL_good : ∀ i, i < 4 → ∀ n ∈ CL i, 1 ≤ n ∧ n ≤ 60 ∧ n ∣ 4320 := by decide
structure Fd (S : Sto) (b : Addr) (S' : Sto) (f : Addr) (qs : List Pr) : Prop where
  non : S f = none
  ne : f ≠ b
  B : BagS S b S'
  F : S' f = some (.lst (qs.map pV))
theorem Fd.pull {S S' : Sto} {b f : Addr} {qs : List Pr} {x y c : Int} (h : Fd S b S' f qs) : Fd S b (S'.upd b (bagL x y c)) f qs := ⟨h.non, h.ne, h.B.pull, by rw [Sto.upd_ne h.ne]; exact h.F⟩
theorem Fd.new {S S' : Sto} {b f p : Addr} {o : Mo} {qs : List Pr} (h : Fd S b S' f qs) (hp : S' p = none) : Fd S b (S'.upd p o) f qs := ⟨h.non, h.ne, h.B.new hp, upd_of hp h.F⟩
theorem Fd.other {S S' : Sto} {b p : Addr} {qs : List Pr} (h : BagS S b S') (hp : S' p = none) : Fd S b (S'.upd p (.lst (qs.map pV))) p qs := ⟨(h.non hp).1, (h.non hp).2, h.new hp, Sto.upd_same⟩
def sp__law_cover : ZSp := fun vs S q => ∃ b : Addr, vs = [.ref b] ∧ Bag S b ∧ ∀ ps, PsOk ps → bagQ S b (q (psT ps))
theorem rd__law_cover : ∀ vs S q, sp__law_cover vs S q → zBody (w__law_cover sp__law_choose sp__law_pull) N__law_cover vs S q := by
  rintro vs S q ⟨b, rfl, hb, h⟩
  unfold zBody w__law_cover
  walk_at "zz"
  refine ⟨len2, ?_⟩
  walk_at "zz"
  refine ⟨len1, fun f0 hf0 => ?_⟩
  have D0 : Fd S b (S.upd f0 (.lst [.tup [.int 0, .int 1]])) f0 [(0, 1)] := Fd.other (qs := [(0, 1)]) (Bag.refl hb) hf0
  generalize S.upd f0 (.lst [.tup [.int 0, .int 1]]) = S0 at *
  walk_at "zz"
  refine ⟨b, 3, rfl, by decide, by decide, D0.B.bag, fun d h0 h1 x y c => ?_⟩
  have D1 := D0.pull (x := x) (y := y) (c := c)
  generalize S0.upd b (bagL x y c) = S1 at *
  refine o_add ?_
  show RgOk2 _ ∧ _
  refine ⟨⟨by omega, by omega⟩, ?_⟩
  refine o_forGo (fun i ζ S' => ∃ f qs, Fd S b S' f qs ∧ qs ≠ [] ∧ qs.length ≤ 8 ∧ (∀ p ∈ qs, 0 ≤ p.1 ∧ p.1 < p.2 ∧ p.2 ∈ CL i) ∧ ∃ o2 o3 o4 o5 o6 o7, ζ = [some (.ref b), some (.ref f), o2, o3, o4, o5, o6, o7])
    ⟨f0, _, D1, by decide, by decide, by decide, _, _, _, _, _, _, rfl⟩ (fun _ _ _ _ _ => trivial) ?_ ?_
  · rintro i w ζ S' ew ⟨f, qs, D, hne, hl8, hg, o2, o3, o4, o5, o6, o7, rfl⟩
    have hi : i < (1 + d).toNat := by
      have := (List.getElem?_eq_some_iff.mp ew).1
      rw [ints_length] at this; exact this
    have hi3 : i < 3 := by omega
    have hl0 : 0 < qs.length := List.length_pos_iff.mpr hne
    walk_at "zz"
    refine o_len (vs := qs.map pV) (by simp only [seqS, D.F]) ?_
    rw [List.length_map]
    walk_at "zz"
    refine ⟨b, _, rfl, by omega, by omega, D.B.bag, fun a a0 a1 x y c => ?_⟩
    have D2 := D.pull (x := x) (y := y) (c := c)
    generalize S'.upd b (bagL x y c) = S2 at *
    walk_at "zz"
    refine ⟨b, _, rfl, by decide, by decide, D2.B.bag, fun e e0 e1 x y c => ?_⟩
    have D3 := D2.pull (x := x) (y := y) (c := c)
    generalize S2.upd b (bagL x y c) = S3 at *
    obtain ⟨a, rfl⟩ : ∃ n : Nat, a = n := ⟨a.toNat, by omega⟩
    have ha : a < qs.length := by omega
    have hpm := hg (qs.getD a (0, 1)) (by rw [List.getD_eq_getElem?_getD, List.getElem?_eq_getElem ha]; exact List.getElem_mem ha)
    have hgood := CL_good i (by omega) _ hpm.2.2
    walk_at "zz"
    refine ⟨len2, ?_⟩
    walk_at "zz"
    refine o_ixS (i := (a : Nat)) (vs := qs.map pV) (by simp only [seqS, D3.F]) (atI_nat (get_pV ha)) ?_
    generalize hpp : qs.getD a (0, 1) = p at *
    walk_at "zz"
    have hm23 : 2 + e = 2 ∨ 2 + e = 3 := by omega
    refine o_mul (mulOk_l (by omega) (by omega)) ?_
    walk_at "zz"
    refine o_ite (fun hc => ?_) (fun hc => ?_)
    rotate_left
    · refine o_iteF (by simp) ?_
      walk_at "zz"
      exact ⟨f, qs, D3, hne, hl8, fun u hu => ⟨(hg u hu).1, (hg u hu).2.1, (CL_up i hi3 _ (hg u hu).2.2).1⟩, _, _, _, _, _, _, rfl⟩
    have hc60 : p.2 * (2 + e) ≤ 60 := by simpa using hc
    walk_at "zz"
    refine o_len (vs := qs.map pV) (by simp only [seqS, D3.F]) ?_
    rw [List.length_map]
    walk_at "zz"
    refine o_ite (fun hc2 => ?_) (fun hc2 => ?_)
    rotate_left
    · walk_at "zz"
      exact ⟨f, qs, D3, hne, hl8, fun u hu => ⟨(hg u hu).1, (hg u hu).2.1, (CL_up i hi3 _ (hg u hu).2.2).1⟩, _, _, _, _, _, _, rfl⟩
    have hc9 : (qs.length : Int) + (2 + e) < 9 := by simpa using hc2
    walk_at "zz"
    refine o_slL D3.F fun s1 hs1 => ?_
    rw [cutZ_to, ← List.map_take]
    have D4 := D3.new (o := .lst ((qs.take a).map pV)) hs1
    have K1 : S3.upd s1 (.lst ((qs.take a).map pV)) s1 = some (.lst ((qs.take a).map pV)) := Sto.upd_same
    generalize S3.upd s1 (.lst ((qs.take a).map pV)) = S4 at *
    walk_at "zz"
    show RgOk2 _ ∧ _
    refine ⟨⟨by omega, by omega⟩, ?_⟩
    refine lcGo_pure (fun v => some (pV (p.1 + p.2 * unI v, p.2 * (2 + e)))) (by have := szL; rw [ints_length]; omega) (fun _ _ => trivial) (fun w hw Sx k hSx hk => ?_) fun D5 hD5 => ?_
    · obtain ⟨j, hj, rfl⟩ := List.mem_map.mp hw
      walk_at "zz"
      refine o_mul (mulOk_l (by omega) (by omega)) ?_
      walk_at "zz"
      refine o_mul (mulOk_l (by omega) (by omega)) ?_
      exact ⟨len2, hk⟩
    · have en : (rgv 0 (2 + e).toNat).filterMap (fun v => some (pV (p.1 + p.2 * unI v, p.2 * (2 + e)))) = ((List.range (2 + e).toNat).map fun j => ((p.1 + p.2 * (j : Nat), p.2 * (2 + e)) : Pr)).map pV := by
        rw [fm_some, rgv_nat, List.map_map, List.map_map]; rfl
      rw [en]
      have hNg : ∀ u ∈ (List.range (2 + e).toNat).map fun j => ((p.1 + p.2 * (j : Nat), p.2 * (2 + e)) : Pr), 0 ≤ u.1 ∧ u.1 < u.2 ∧ u.2 ∈ CL (i + 1) := by
        intro u hu
        obtain ⟨j, hj, rfl⟩ := List.mem_map.mp hu
        rw [List.mem_range] at hj
        have hcl := CL_up i hi3 _ hpm.2.2
        have hjj : p.2 * (j : Int) + p.2 ≤ p.2 * (2 + e) := by
          have : p.2 * ((j : Int) + 1) ≤ p.2 * (2 + e) := Int.mul_le_mul_of_nonneg_left (by omega) (by omega)
          rw [Int.mul_add] at this; omega
        have hj0 : 0 ≤ p.2 * (j : Int) := Int.mul_nonneg (by omega) (by omega)
        refine ⟨by show 0 ≤ p.1 + _; omega, by show p.1 + _ < _; omega, ?_⟩
        rcases hm23 with e2 | e2
        · show p.2 * (2 + e) ∈ _; rw [e2]; exact hcl.2.1
        · show p.2 * (2 + e) ∈ _; rw [e2]; exact hcl.2.2
      have hNl : ((List.range (2 + e).toNat).map fun j => ((p.1 + p.2 * (j : Nat), p.2 * (2 + e)) : Pr)).length = (2 + e).toNat := by simp
      generalize (List.range (2 + e).toNat).map (fun j => ((p.1 + p.2 * (j : Nat), p.2 * (2 + e)) : Pr)) = N at *
      have D6 := D4.new (o := .lst (N.map pV)) hD5
      have K2 := upd_of (m := .lst (N.map pV)) hD5 K1
      have K3 : S4.upd D5 (.lst (N.map pV)) D5 = some (.lst (N.map pV)) := Sto.upd_same
      generalize S4.upd D5 (.lst (N.map pV)) = S6 at *
      have htl : (qs.take a).length ≤ 8 := by rw [List.length_take]; omega
      refine o_addL K2 K3 (by have := szL; simp only [List.length_map]; omega) fun c1 hc1 => ?_
      rw [← List.map_append]
      have D7 := D6.new (o := .lst ((qs.take a ++ N).map pV)) hc1
      have K4 : S6.upd c1 (.lst ((qs.take a ++ N).map pV)) c1 = some (.lst ((qs.take a ++ N).map pV)) := Sto.upd_same
      generalize S6.upd c1 (.lst ((qs.take a ++ N).map pV)) = S7 at *
      walk_at "zz"
      refine o_slL D7.F fun s2 hs2 => ?_
      have ea : ((a : Int) + 1) = ((a + 1 : Nat) : Int) := by omega
      rw [ea, cutZ_from, ← List.map_drop]
      have D8 := D7.new (o := .lst ((qs.drop (a + 1)).map pV)) hs2
      have K5 := upd_of (m := .lst ((qs.drop (a + 1)).map pV)) hs2 K4
      have K6 : S7.upd s2 (.lst ((qs.drop (a + 1)).map pV)) s2 = some (.lst ((qs.drop (a + 1)).map pV)) := Sto.upd_same
      generalize S7.upd s2 (.lst ((qs.drop (a + 1)).map pV)) = S8 at *
      refine o_addL K5 K6 (by have := szL; simp only [List.length_map, List.length_append, List.length_drop]; omega) fun c2 hc2 => ?_
      rw [← List.map_append]
      walk_at "zz"
      refine ⟨c2, _, Fd.other D8.B hc2, ?_, ?_, ?_, _, _, _, _, _, _, rfl⟩
      · intro e'
        have := congrArg List.length e'
        simp only [List.length_append, List.length_nil] at this
        omega
      · simp only [List.length_append, List.length_take, List.length_drop]; omega
      · intro u hu
        rcases List.mem_append.mp hu with hu | hu
        · rcases List.mem_append.mp hu with hu | hu
          · have := hg u (List.take_subset _ _ hu)
            exact ⟨this.1, this.2.1, (CL_up i hi3 _ this.2.2).1⟩
          · exact hNg u hu
        · have := hg u (List.drop_subset _ _ hu)
          exact ⟨this.1, this.2.1, (CL_up i hi3 _ this.2.2).1⟩
  · rintro ζ S' ⟨f, qs, D, hne, hl8, hg, o2, o3, o4, o5, o6, o7, rfl⟩
    rw [ints_length] at hg
    have hg' : ∀ p ∈ qs, GoodP p := fun p hp => by
      have h1 := hg p hp
      have h2 := CL_good _ (by omega) _ h1.2.2
      exact ⟨h1.1, h1.2.1, h2.2.1, h2.2.2⟩
    clear hg
    walk_at "zz"
    refine ⟨b, 3, rfl, by decide, by decide, D.B.bag, fun d1 _ _ x y c => ?_⟩
    have D2 := D.pull (x := x) (y := y) (c := c)
    generalize S'.upd b (bagL x y c) = S2 at *
    -- the end behind the appended pair
    have tail : ∀ f qs S2, Fd S b S2 f qs → qs ≠ [] → qs.length ≤ 8 → (∀ p ∈ qs, GoodP p) →
        zSeq (zIfS (zB (zOp (zEqG false) (zCall sp__law_pull (zaCons (zVar 0) (zaCons (zC (.int 4)) zaNil))) (zC (.int 0))))
          (zAsg (zIf (zB (zOp (zCmp fun i j => decide (j < i)) (zCall (z1 zLen) (zaCons (zVar 1) zaNil)) (zC (.int 1)))) (zSl (zVar 1) (zoSome (zC (.int 1))) zoNone) (zVar 1)) (zgName 1)) zNext)
          (zRet (zCall (z1 zTuple) (zaCons (zVar 1) zaNil)))
          { nx := fun _ S' => ∃ S0, Sub S0 S' ∧ q .non S0, rt := fun v S' => ∃ S0, Sub S0 S' ∧ q v S0 } [some (.ref b), some (.ref f), o2, o3, o4, o5, o6, o7] S2 := by
      intro f qs S2 D2 hne hl8 hg'
      walk_at "zz"
      refine ⟨b, 4, rfl, by decide, by decide, D2.B.bag, fun d2 _ _ x y c => ?_⟩
      have D3 := D2.pull (x := x) (y := y) (c := c)
      generalize S2.upd b (bagL x y c) = S3 at *
      walk_at "zz"
      refine o_ite (fun hc => ?_) (fun hc => ?_)
      rotate_left
      · walk_at "zz"
        refine o_tuple (vs := qs.map pV) (by simp only [seqS, D3.F]) ?_
        exact bag_end D3.B (h qs ⟨hne, hl8, hg'⟩)
      walk_at "zz"
      refine o_len (vs := qs.map pV) (by simp only [seqS, D3.F]) ?_
      rw [List.length_map]
      refine o_c (o_cmp ?_)
      refine o_ite (fun hc => ?_) (fun hc => ?_)
      · have h1 : 1 < qs.length := by
          have : (1 : Int) < qs.length := by simpa using hc
          omega
        walk_at "zz"
        refine o_slL D3.F fun s hs => ?_
        rw [cutZ_1, ← List.map_drop]
        walk_at "zz"
        refine o_tuple seqS_upd ?_
        exact bag_end (D3.B.new hs) (h _ ⟨fun e => by have := congrArg List.length e; simp at this; omega, by simp; omega, fun p hp => hg' p (List.drop_subset _ _ hp)⟩)
      · walk_at "zz"
        refine o_tuple (vs := qs.map pV) (by simp only [seqS, D3.F]) ?_
        exact bag_end D3.B (h qs ⟨hne, hl8, hg'⟩)
    walk_at "zz"
    refine o_ite (fun hc => ?_) (fun hc => ?_)
    rotate_left
    · refine o_iteF (by simp) ?_
      exact tail f qs S2 D2 hne hl8 hg'
    walk_at "zz"
    refine o_len (vs := qs.map pV) (by simp only [seqS, D2.F]) ?_
    rw [List.length_map]
    refine o_c (o_cmp ?_)
    refine o_ite (fun hc2 => ?_) (fun hc2 => ?_)
    rotate_left
    · exact tail f qs S2 D2 hne hl8 hg'
    have h8 : qs.length < 8 := by
      have : (qs.length : Int) < 8 := by simpa using hc2
      omega
    walk_at "zz"
    refine ⟨⟨f, _, rfl, D2.F⟩, ?_⟩
    walk_at "zz"
    refine ⟨len2, ?_⟩
    walk_at "zz"
    refine ⟨len2, ?_⟩
    walk_at "zz"
    refine ⟨len2, ?_⟩
    walk_at "zz"
    refine ⟨len2, ?_⟩
    walk_at "zz"
    refine ⟨len4, fun p hp => ?_⟩
    have D3 := D2.new (o := .lst ([((0, 2) : Pr), (1, 3), (0, 5), (3, 4)].map pV)) hp
    have hpb := (D2.B.non hp).2
    walk_at "zz"
    refine ⟨b, .ref p, [((0, 2) : Pr), (1, 3), (0, 5), (3, 4)].map pV, rfl, seqS_upd, by simp, by simp, fun e => hpb (by cases e; rfl), D3.B.bag, fun w hw x y c => ?_⟩
    obtain ⟨u, hu, rfl⟩ := List.mem_map.mp hw
    have hug : GoodP u := by
      simp only [List.mem_cons, List.not_mem_nil, or_false] at hu
      unfold GoodP
      rcases hu with rfl | rfl | rfl | rfl <;> decide
    have D4 := D3.pull (x := x) (y := y) (c := c)
    have e0 : (S2.upd p (.lst [.tup [.int 0, .int 2], .tup [.int 1, .int 3], .tup [.int 0, .int 5], .tup [.int 3, .int 4]])).upd b (bagL x y c) = (S2.upd p (.lst ([((0, 2) : Pr), (1, 3), (0, 5), (3, 4)].map pV))).upd b (bagL x y c) := rfl
    rw [e0]
    generalize (S2.upd p (.lst ([((0, 2) : Pr), (1, 3), (0, 5), (3, 4)].map pV))).upd b (bagL x y c) = S4 at *
    walk_at "zz"
    refine o_append D4.F (by have := szL; simp; omega) ?_
    walk_at "zz"
    refine tail f (qs ++ [u]) _ ⟨D4.non, D4.ne, D4.B.set D4.non D4.ne, by rw [Sto.upd_same, List.map_append]; rfl⟩ (by simp) (by simp; omega) fun p hp => ?_
    rcases List.mem_append.mp hp with hp | hp
    · exact hg' p hp
    · simp only [List.mem_singleton] at hp
      subst hp
      exact hug

theorem lcGo_sub {g : ZG} {tt : ZT} {te : ZE} {own : List Nat} {vs : List Val} {S1 : Sto} {ζ : Env} {q : ZQ} {G : Sto → Prop} (F : Val → Option Val) (hl : vs.length ≤ sizeLine) (hG : ∀ S, Sub S1 S → G S)
    (turn : ∀ v, v ∈ vs → ∀ S k, Sub S1 S → (∀ S2, Sub S S2 → k (F v) S2) → zTurn g tt te own ζ v S k)
    (fin : ∀ D S, S1 D = none → Sub (S1.upd D (.lst (vs.filterMap F))) S → q (.ref D) S) : lcGo g tt te own ζ q vs G S1 := by
  intro D hD
  refine ⟨fun i S => Sub (S1.upd D (.lst ((vs.take i).filterMap F))) S, Sub.refl _, fun i S _ e => hG S ((Sub.new hD).trans e), fun i v S ev e => ?_, fun S e => ?_⟩
  · have hi : i < vs.length := (List.getElem?_eq_some_iff.mp ev).1
    have et : vs.take (i + 1) = vs.take i ++ [v] := by rw [List.take_add_one, ev]; rfl
    refine turn v (List.mem_of_getElem? ev) _ _ ((Sub.new hD).trans e) fun S2 h2 => ?_
    have hlen : ((vs.take i).filterMap F).length ≤ i := Nat.le_trans (List.length_filterMap_le ..) (by rw [List.length_take]; exact Nat.min_le_left ..)
    cases hF : F v with
    | none => show Sub _ _; rw [et, List.filterMap_append]; simpa [hF] using e.trans h2
    | some y =>
      refine ⟨(vs.take i).filterMap F, (e.trans h2) _ _ Sto.upd_same, Nat.lt_of_le_of_lt hlen (Nat.lt_of_lt_of_le hi hl), ?_⟩
      show Sub _ _
      have := (e.trans h2).upd (a := D) (o := .lst ((vs.take i).filterMap F ++ [y]))
      rw [Sto.upd_upd] at this
      rw [et, List.filterMap_append]
      simpa [hF] using this
  · have e' : Sub (S1.upd D (.lst ((vs.take vs.length).filterMap F))) S := e
    rw [List.take_length] at e'
    exact fin D S hD e'
theorem hasIx_nil {ps : List Pr} {x : Int} : hasIx ps x = [] ↔ had ps x = false := by
  unfold hasIx had
  rw [List.filter_eq_nil_iff, List.any_eq_false]
  constructor
  · intro h p hp
    obtain ⟨i, hi, e⟩ := List.getElem_of_mem hp
    have := h i (List.mem_range.mpr hi)
    rw [List.getD_eq_getElem?_getD, List.getElem?_eq_getElem hi] at this
    rw [← e]; exact this
  · intro h i hi
    rw [List.mem_range] at hi
    rw [List.getD_eq_getElem?_getD, List.getElem?_eq_getElem hi]
    exact h _ (List.getElem_mem hi)
theorem okd_ints (l : List Nat) : (Val.fl (l.map iV)).okd = true := by
  have key : Val.pures (l.map iV) = true ∧ Val.deps (l.map iV) = 0 := by
    induction l with
    | nil => exact ⟨rfl, rfl⟩
    | cons i l ih => exact ⟨by simp only [List.map_cons, Val.pures, ih.1]; rfl, by simp only [List.map_cons, Val.deps, ih.2]; rfl⟩
  unfold Val.okd
  simp only [Val.pure, Val.dep, key.1, key.2]
  rfl
theorem okd_intsT (l : List Nat) : (Val.tup (l.map iV)).okd = true := okd_ints l
theorem okd_Ints (l : List Int) : (Val.fl (l.map Val.int)).okd = true := by
  have key : Val.pures (l.map Val.int) = true ∧ Val.deps (l.map Val.int) = 0 := by
    induction l with
    | nil => exact ⟨rfl, rfl⟩
    | cons i l ih => exact ⟨by simp only [List.map_cons, Val.pures, ih.1]; rfl, by simp only [List.map_cons, Val.deps, ih.2]; rfl⟩
  unfold Val.okd
  simp only [Val.pure, Val.dep, key.1, key.2]
  rfl
theorem eqb_nil (l : List Val) : (Val.fl l).eqb (.fl []) = l.isEmpty := by cases l <;> simp [Val.eqb, Val.eqbs]
/-- a == [], a != [] -/
theorem o_eqNil {ζ : Env} {S : Sto} {q : ZQ} {a : Addr} {vs : List Val} (ea : S a = some (.lst vs)) (hv : (Val.fl vs).okd = true) (h : ∀ p, S p = none → q (.bl vs.isEmpty) (S.upd p (.lst []))) : zLst zaNil ζ S fun u S2 => zEqG false (.ref a) u S2 q := by
  refine o_lst (o_anil ⟨len0, fun p hp => ?_⟩)
  refine o_eq (rdS_at (upd_of hp ea)) rdS_upd hv rfl ?_
  rw [eqb_nil]; exact h p hp
theorem o_neNil {ζ : Env} {S : Sto} {q : ZQ} {a : Addr} {vs : List Val} (ea : S a = some (.lst vs)) (hv : (Val.fl vs).okd = true) (h : ∀ p, S p = none → q (.bl !vs.isEmpty) (S.upd p (.lst []))) : zLst zaNil ζ S fun u S2 => zEqG true (.ref a) u S2 q := by
  refine o_lst (o_anil ⟨len0, fun p hp => ?_⟩)
  refine o_ne (rdS_at (upd_of hp ea)) rdS_upd hv rfl ?_
  rw [eqb_nil]; exact h p hp
abbrev zLeftT : ZT := zB (zOp (zEqG false) (zCall sp__law_has (zaCons (zVar 1) (zaCons (zVar 3) zaNil))) (zLst zaNil))
theorem turn_left {ps : List Pr} (hps : PsOk ps) {a0 a2 a3 : Option Val} {rest : Env} {x : Int} {S : Sto} {k : Option Val → Sto → Prop} (h : ∀ S2, Sub S S2 → k (if had ps x then none else some (.int x)) S2) :
    zTurn (zgName 3) zLeftT (zVar 3) [3] (a0 :: some (psT ps) :: a2 :: a3 :: rest) (.int x) S k := by
  unfold zLeftT
  walk_at "zz"
  refine ⟨_, ps, x, rfl, seqS_tup, hps.pos, by have := hps.len; omega, fun p hp => ?_⟩
  refine o_eqNil Sto.upd_same (okd_ints _) fun p2 hp2 => ?_
  have hs : Sub S ((S.upd p (.lst ((hasIx ps x).map iV))).upd p2 (.lst [])) := (Sub.new hp).trans (Sub.new hp2)
  have e : ((hasIx ps x).map iV).isEmpty = !had ps x := by
    rw [Bool.eq_iff_iff, List.isEmpty_iff, List.map_eq_nil_iff, hasIx_nil]; cases had ps x <;> simp
  rw [e]
  cases hh : had ps x with
  | true =>
    refine o_iteF (by simp) ?_
    have := h _ hs
    rw [hh] at this; exact this
  | false =>
    refine o_iteT (by simp) ?_
    walk_at "zz"
    have := h _ hs
    rw [hh] at this; exact this
theorem o_asgK {we : ZE} {g : ZG} {d : ZEnds} {ζ : Env} {S : Sto} (P : Val → Sto → Prop) (h1 : ∀ q : ZQ, (∀ v S1, P v S1 → q v S1) → we ζ S q) (h2 : ∀ v S1, P v S1 → g v ζ S1 d.nx) : zAsg we g d ζ S := h1 _ h2
theorem eqb_refl_tup2 (a b : Int) : (Val.tup [.int a, .int b]).eqb (.tup [.int a, .int b]) = true := by simp [Val.eqb, Val.eqbs]
theorem eqbs_refl_ints (l : List Nat) : Val.eqbs (l.map iV) (l.map iV) = true := by
  induction l with
  | nil => rfl
  | cons i l ih => simp only [List.map_cons, Val.eqbs, ih, Bool.and_true]; unfold iV; rw [eqb_int]; simp
theorem rdS_int {S : Sto} {i : Int} : rdS S (.int i) = some (.int i) := rfl
def leftL (ps : List Pr) (L : Nat) : List Nat := (List.range L).filter fun i => !had ps (i : Nat)
theorem fm_left (ps : List Pr) (s : Int) (n : Nat) : (rgv s n).filterMap (fun v => if had ps (unI v) then none else some v) = ((List.range n).filter fun i => !had ps (s + (i : Nat))).map fun i => .int (s + (i : Nat)) := by
  unfold rgv
  rw [List.filterMap_map]
  induction (List.range n) with
  | nil => rfl
  | cons i l ih =>
    rw [List.filterMap_cons, List.filter_cons]
    have e : ((fun v => if had ps (unI v) then none else some v) ∘ fun (i : Nat) => Val.int (s + (i : Int))) i = if had ps (s + (i : Nat)) then none else some (.int (s + (i : Nat))) := rfl
    rw [e]
    cases h : had ps (s + (i : Nat)) with
    | true => exact ih
    | false => show _ :: _ = _ :: _; rw [ih]
theorem leftL_0 (ps : List Pr) (n : Nat) : (rgv 0 n).filterMap (fun v => if had ps (unI v) then none else some v) = (leftL ps n).map iV := by
  rw [fm_left]
  unfold leftL iV
  simp only [Int.zero_add]
def sp__law_right : ZSp := fun vs S q => ∃ b : Addr, vs = [.ref b] ∧ Bag S b ∧ bagQ S b (q (.bl true))
theorem lcm2 (p q : Pr) : (lcmL [p, q] : Int) = Int.lcm p.2 q.2 := by
  unfold lcmL
  simp only [List.foldl_cons, List.foldl_nil]
  have e : ((Int.lcm ((1 : Nat) : Int) p.2 : Nat) : Int) = p.2.natAbs := by unfold Int.lcm; simp
  rw [e]
  unfold Int.lcm; simp
theorem hasIx2 (p q : Pr) (x : Int) : (hasIx [p, q] x).length = 2 ↔ has p x = true ∧ has q x = true := by
  unfold hasIx
  have e : List.range [p, q].length = [0, 1] := rfl
  rw [e]
  simp only [List.filter_cons, List.filter_nil]
  have e0 : [p, q].getD 0 (0, 1) = p := rfl
  have e1 : [p, q].getD 1 (0, 1) = q := rfl
  rw [e0, e1]
  cases has p x <;> cases has q x <;> simp
/-- the common numbers below the step: none, or just one -/
theorem both_of {p q : Pr} {o : Option Pr} (h : MeetOk p q o) (n : Nat) (hn : (n : Int) = Int.lcm p.2 q.2) : (List.range n).filter (fun (i : Nat) => has p i && has q i) = match o with | none => [] | some r => [r.1.toNat] := by
  cases o with
  | none =>
    show _ = []
    rw [List.filter_eq_nil_iff]
    intro i _ hi
    rw [Bool.and_eq_true] at hi
    exact h i hi
  | some r =>
    have h0 := h
    obtain ⟨h1, h2, h3, h4, h5⟩ := h0
    have key : ∀ i : Nat, i < n → ((has p i && has q i) = true ↔ i = r.1.toNat) := fun i hi => by
      rw [← meet_has h]
      constructor
      · intro hh
        rw [has_iff] at hh
        have := small_dvd hh (by omega) (by omega)
        omega
      · intro e
        have e2 : (i : Int) = r.1 := by omega
        rw [e2, has_iff]; simp
    show _ = [r.1.toNat]
    have hlt : r.1.toNat < n := by omega
    have e1 : (List.range n).filter (fun (i : Nat) => has p i && has q i) = (List.range n).filter (fun i => i == r.1.toNat) := List.filter_congr fun i hi => by
      rw [Bool.eq_iff_iff, key i (List.mem_range.mp hi)]; simp
    rw [e1]
    have aux : ∀ m, (List.range m).filter (fun i => i == r.1.toNat) = if r.1.toNat < m then [r.1.toNat] else [] := by
      intro m
      induction m with
      | zero => rfl
      | succ m ih =>
        rw [List.range_succ, List.filter_append, ih]
        by_cases e : m = r.1.toNat
        · subst e; simp
        · by_cases e2 : r.1.toNat < m
          · have : r.1.toNat < m + 1 := by omega
            simp [e, e2, this]
          · have : ¬ r.1.toNat < m + 1 := by omega
            simp [e, e2, this]
    rw [aux, if_pos hlt]
/-- a == [], a != [], the list being made -/
theorem w_eqNil {S : Sto} {q : ZQ} {a : Addr} {vs : List Val} (ea : S a = some (.lst vs)) (hv : (Val.fl vs).okd = true) (h : ∀ p, S p = none → q (.bl vs.isEmpty) (S.upd p (.lst []))) : ([] : List Val).length ≤ sizeLine ∧ ∀ p, S p = none → zEqG false (.ref a) (.ref p) (S.upd p (.lst [])) q := by
  refine ⟨len0, fun p hp => ?_⟩
  refine o_eq (rdS_at (upd_of hp ea)) rdS_upd hv rfl ?_
  rw [eqb_nil]; exact h p hp
theorem w_neNil {S : Sto} {q : ZQ} {a : Addr} {vs : List Val} (ea : S a = some (.lst vs)) (hv : (Val.fl vs).okd = true) (h : ∀ p, S p = none → q (.bl !vs.isEmpty) (S.upd p (.lst []))) : ([] : List Val).length ≤ sizeLine ∧ ∀ p, S p = none → zEqG true (.ref a) (.ref p) (S.upd p (.lst [])) q := by
  refine ⟨len0, fun p hp => ?_⟩
  refine o_ne (rdS_at (upd_of hp ea)) rdS_upd hv rfl ?_
  rw [eqb_nil]; exact h p hp
theorem fm_filter2 (l : List Nat) (c : Int → Bool) : (l.map iV).filterMap (fun v => if c (unI v) then some v else none) = (l.filter fun (i : Nat) => c (i : Nat)).map iV := by
  induction l with
  | nil => rfl
  | cons i l ih =>
    rw [List.map_cons, List.filterMap_cons, List.filter_cons]
    have e : c (unI (iV i)) = c (i : Nat) := rfl
    rw [e, ih]
    cases c (i : Nat) <;> rfl
theorem seqS_fl {S : Sto} {vs : List Val} : seqS S (.fl vs) = some vs := rfl
theorem dec_meets {p r : Pr} : decide ((p.1 - r.1).fmod (Int.gcd p.2 r.2 : Int) = 0) = meets p r := by
  unfold meets
  rw [Int.fmod_eq_emod_of_nonneg _ (by omega)]
  rw [decide_eq_decide, emod0, emod0]
  have e : r.1 - p.1 = -(p.1 - r.1) := by omega
  rw [e, Int.dvd_neg]
theorem bagS_sub {S S1 S2 : Sto} {b : Addr} (h : BagS S b S1) (k : Sub S1 S2) : BagS S b S2 := let ⟨x, y, c, e⟩ := h; ⟨x, y, c, e.trans k⟩
theorem okd_bl (b : Bool) : (Val.bl b).okd = true := rfl
theorem rdS_bl {S : Sto} {b : Bool} : rdS S (.bl b) = some (.bl b) := rfl
theorem eqb_bl (a b : Bool) : (Val.bl a).eqb (.bl b) = (a == b) := by simp [Val.eqb]
theorem share_eq {ps : List Pr} (hps : PsOk ps) {n : Nat} (hn : n = (leftL ps (lcmL ps)).length) :
    shareV ps = .tup [.int (((lcmL ps : Nat) - (n : Int)) / (Int.gcd ((lcmL ps : Nat) - (n : Int)) (lcmL ps : Nat) : Int)), .int ((lcmL ps : Nat) / (Int.gcd ((lcmL ps : Nat) - (n : Int)) (lcmL ps : Nat) : Int))] := by
  unfold shareV
  have e : hits ps (lcmL ps) = (lcmL ps : Nat) - (n : Int) := by rw [hn]; exact hits_left ps (lcmL ps)
  rw [e, Int.gcd_comm]
theorem leftIn_leftL {ps : List Pr} (hps : PsOk ps) : leftIn ps = (leftL ps (lcmL ps)).head? := leftIn_eq hps.n1080 hps.lcm.2.1 hps.lcm.1
theorem left_empty {ps : List Pr} (hps : PsOk ps) : (leftIn ps).isNone = (leftL ps (lcmL ps)).isEmpty := by
  rw [leftIn_leftL hps]; cases leftL ps (lcmL ps) <;> rfl
theorem neigh_empty {ps : List Pr} (hps : PsOk ps) (s : Int) : ((List.range (2 ^ ps.length)).filter fun (i : Nat) => !had ps (s + (i : Nat))).isEmpty = (leftL ps (lcmL ps)).isEmpty := by
  rw [← left_empty hps, Bool.eq_iff_iff, List.isEmpty_iff, List.filter_eq_nil_iff, Option.isNone_iff_eq_none, leftIn_none hps.n1080]
  constructor
  · intro h x
    refine neighbours hps.n1080 s (fun i hi => ?_) x
    have := h i (List.mem_range.mpr hi)
    simpa using this
  · intro h i _
    simp [h]

/-! ### exact, least: plain -/
def at0 (ps : List Pr) (i : Nat) : Pr := ps.getD i (0, 1)
def apartB (ps : List Pr) : Bool := (List.range ps.length).all fun i => (List.range i).all fun j => !meets (ps.getD i (0, 1)) (ps.getD j (0, 1))
def exactL (ps : List Pr) : Bool := (List.range (lcmL ps)).all fun x => decide ((hasIx ps (x : Nat)).length = 1)
theorem hasIx_snoc (l : List Pr) (p : Pr) (x : Int) : hasIx (l ++ [p]) x = hasIx l x ++ (if has p x then [l.length] else []) := by
  unfold hasIx
  rw [List.length_append, List.length_singleton, List.range_succ, List.filter_append]
  congr 1
  · refine List.filter_congr fun i hi => ?_
    rw [List.mem_range] at hi
    rw [List.getD_eq_getElem?_getD, List.getD_eq_getElem?_getD, List.getElem?_append_left hi]
  · have e : (l ++ [p]).getD l.length (0, 1) = p := by rw [List.getD_eq_getElem?_getD]; simp
    simp only [List.filter_cons, List.filter_nil, e]
theorem csum_hasIx (ps : List Pr) (x : Int) : csum ps x = ((hasIx ps x).length : Nat) := by
  refine rev_ind (P := fun ps => csum ps x = ((hasIx ps x).length : Nat)) rfl (fun l p ih => ?_) ps
  rw [hasIx_snoc, List.length_append]
  unfold csum at ih ⊢
  rw [List.map_append, List.sum_append, ih]
  by_cases h : has p x = true <;> simp [h]
theorem csum_emod {ps : List Pr} {L x : Int} (h : ∀ p ∈ ps, p.2 ∣ L) : csum ps (x % L) = csum ps x := by
  unfold csum
  congr 1
  refine List.map_congr_left fun p hp => ?_
  have e := Int.emod_add_mul_ediv x L
  have := has_add (x := x % L) (t := x / L) (h p hp)
  rw [e] at this
  rw [this]
theorem exactL_iff {ps : List Pr} (hps : PsOk ps) : exactL ps = true ↔ ∀ x : Int, csum ps x = 1 := by
  obtain ⟨h0, h1, _, _⟩ := hps.lcm
  unfold exactL
  rw [List.all_eq_true]
  constructor
  · intro h x
    rw [← csum_emod h1]
    have h2 : 0 ≤ x % (lcmL ps : Int) := Int.emod_nonneg _ (by omega)
    have h3 : x % (lcmL ps : Int) < lcmL ps := Int.emod_lt_of_pos _ (by omega)
    have h4 := h (x % (lcmL ps : Int)).toNat (List.mem_range.mpr (by omega))
    rw [decide_eq_true_iff] at h4
    have e : (((x % (lcmL ps : Int)).toNat : Nat) : Int) = x % (lcmL ps : Int) := by omega
    rw [e] at h4
    rw [csum_hasIx, h4]; rfl
  · intro h i _
    rw [decide_eq_true_iff]
    have := h i
    rw [csum_hasIx] at this
    omega
theorem getD_at {ps : List Pr} {i : Nat} (h : i < ps.length) : ps.getD i (0, 1) = ps[i] := by rw [List.getD_eq_getElem?_getD, List.getElem?_eq_getElem h]; rfl
theorem mem_hasIx {ps : List Pr} {x : Int} {i : Nat} : i ∈ hasIx ps x ↔ i < ps.length ∧ has (ps.getD i (0, 1)) x = true := by
  unfold hasIx; rw [List.mem_filter, List.mem_range]
theorem hasIx_nodup (ps : List Pr) (x : Int) : (hasIx ps x).Pairwise (· < ·) := by
  unfold hasIx
  exact List.Pairwise.filter _ List.pairwise_lt_range
theorem had_iff_ix {ps : List Pr} {x : Int} : had ps x = true ↔ hasIx ps x ≠ [] := by
  rw [Ne, hasIx_nil]; cases had ps x <;> simp
theorem exact_eq {ps : List Pr} (hps : PsOk ps) : ((leftIn ps).isNone && apartB ps) = exactL ps := by
  rw [Bool.eq_iff_iff, exactL_iff hps, Bool.and_eq_true, Option.isNone_iff_eq_none, leftIn_none hps.n1080]
  constructor
  · rintro ⟨h1, h2⟩ x
    rw [csum_hasIx]
    have hne := had_iff_ix.mp (h1 x)
    have hnd := hasIx_nodup ps x
    cases e : hasIx ps x with
    | nil => exact absurd e hne
    | cons i l =>
      cases l with
      | nil => rfl
      | cons j l =>
        exfalso
        rw [e] at hnd
        have hij : i < j := by cases hnd with | cons h _ => exact h j (List.mem_cons_self ..)
        have hi := mem_hasIx.mp (show i ∈ hasIx ps x by rw [e]; simp)
        have hj := mem_hasIx.mp (show j ∈ hasIx ps x by rw [e]; simp)
        unfold apartB at h2
        have := List.all_eq_true.mp (List.all_eq_true.mp h2 j (List.mem_range.mpr hj.1)) i (List.mem_range.mpr hij)
        rw [meets_of hj.2 hi.2] at this
        cases this
  · intro h
    refine ⟨fun x => ?_, ?_⟩
    · rw [had_iff_ix]
      intro e
      have := h x
      rw [csum_hasIx, e] at this
      cases this
    · unfold apartB
      rw [List.all_eq_true]
      intro i hi
      rw [List.all_eq_true]
      intro j hj
      rw [List.mem_range] at hi hj
      cases hm : meets (ps.getD i (0, 1)) (ps.getD j (0, 1)) with
      | false => rfl
      | true =>
        exfalso
        have pi := hps.at_ hi
        have pj := hps.at_ (show j < ps.length by omega)
        unfold meets at hm
        rw [decide_eq_true_iff] at hm
        obtain ⟨k, hk⟩ := solve pi.1 pj.1 hm
        have a1 : i ∈ hasIx ps ((ps.getD i (0, 1)).1 + k * (ps.getD i (0, 1)).2) := mem_hasIx.mpr ⟨hi, by
          rw [has_iff]; have e : (ps.getD i (0, 1)).1 + (k : Int) * (ps.getD i (0, 1)).2 - (ps.getD i (0, 1)).1 = (ps.getD i (0, 1)).2 * k := by rw [Int.mul_comm]; omega
          rw [e]; exact Int.dvd_mul_right ..⟩
        have a2 : j ∈ hasIx ps ((ps.getD i (0, 1)).1 + k * (ps.getD i (0, 1)).2) := mem_hasIx.mpr ⟨by omega, by rw [has_iff]; exact emod0.mp hk⟩
        have h3 := h ((ps.getD i (0, 1)).1 + k * (ps.getD i (0, 1)).2)
        rw [csum_hasIx] at h3
        cases e : hasIx ps ((ps.getD i (0, 1)).1 + k * (ps.getD i (0, 1)).2) with
        | nil => rw [e] at a1; cases a1
        | cons z l =>
          cases l with
          | nil => rw [e] at a1 a2; simp at a1 a2; omega
          | cons _ _ => rw [e] at h3; simp at h3; omega
/-! least -/
def drop1 (ps : List Pr) (i : Nat) : List Pr := ps.take i ++ ps.drop (i + 1)
def coversB (ps : List Pr) : Bool := (leftL ps (lcmL ps)).isEmpty
def leastL (ps : List Pr) : Bool := coversB ps && (List.range ps.length).all fun i => !(!(drop1 ps i).isEmpty && coversB (drop1 ps i))
theorem coversB_iff {ps : List Pr} (h : ∀ p ∈ ps, 0 < p.2 ∧ p.2 ∣ 4320) : coversB ps = true ↔ ∀ x, had ps x = true := by
  have hl := lcmL_facts ps fun p hp => (h p hp).1
  unfold coversB leftL
  rw [List.isEmpty_iff, List.filter_eq_nil_iff]
  constructor
  · intro q x
    rw [← had_emod hl.2.1]
    have h2 : 0 ≤ x % (lcmL ps : Int) := Int.emod_nonneg _ (by omega)
    have h3 : x % (lcmL ps : Int) < lcmL ps := Int.emod_lt_of_pos _ (by omega)
    have := q (x % (lcmL ps : Int)).toNat (List.mem_range.mpr (by omega))
    have e : (((x % (lcmL ps : Int)).toNat : Nat) : Int) = x % (lcmL ps : Int) := by omega
    rw [e] at this
    simpa using this
  · intro q i _
    simp [q]
theorem had_nil (x : Int) : had [] x = false := rfl
theorem had_mem {ps : List Pr} {x : Int} : had ps x = true ↔ ∃ p ∈ ps, has p x = true := by unfold had; rw [List.any_eq_true]
/-- without the i-th: by places -/
theorem had_drop1 {ps : List Pr} {i : Nat} (hi : i < ps.length) {x : Int} : had (drop1 ps i) x = true ↔ ∃ j, j < ps.length ∧ j ≠ i ∧ has (ps.getD j (0, 1)) x = true := by
  rw [had_mem]
  unfold drop1
  constructor
  · rintro ⟨p, hp, hx⟩
    rcases List.mem_append.mp hp with hp | hp
    · obtain ⟨j, hj, e⟩ := List.getElem_of_mem hp
      rw [List.length_take] at hj
      refine ⟨j, by omega, by omega, ?_⟩
      rw [getD_at (by omega)]
      rw [List.getElem_take] at e
      rw [e]; exact hx
    · obtain ⟨j, hj, e⟩ := List.getElem_of_mem hp
      rw [List.length_drop] at hj
      refine ⟨i + 1 + j, by omega, by omega, ?_⟩
      rw [getD_at (by omega)]
      rw [List.getElem_drop] at e
      rw [e]; exact hx
  · rintro ⟨j, hj, hne, hx⟩
    rw [getD_at hj] at hx
    rcases Nat.lt_or_ge j i with h | h
    · refine ⟨ps[j], List.mem_append_left _ ?_, hx⟩
      rw [List.mem_take_iff_getElem]
      exact ⟨j, by omega, rfl⟩
    · refine ⟨ps[j], List.mem_append_right _ ?_, hx⟩
      rw [List.mem_drop_iff_getElem]
      exact ⟨j - (i + 1), by omega, by congr 1; omega⟩
theorem had_sub {ps : List Pr} {l : List Nat} {x : Int} : had (sub ps l) x = true ↔ ∃ j ∈ l, has (ps.getD j (0, 1)) x = true := by
  rw [had_mem]
  unfold sub
  constructor
  · rintro ⟨p, hp, hx⟩
    obtain ⟨j, hj, rfl⟩ := List.mem_map.mp hp
    exact ⟨j, hj, hx⟩
  · rintro ⟨j, hj, hx⟩
    exact ⟨_, List.mem_map.mpr ⟨j, hj, rfl⟩, hx⟩
theorem drop1_sub {ps : List Pr} {p : Pr} {i : Nat} (h : p ∈ drop1 ps i) : p ∈ ps := by
  unfold drop1 at h
  rcases List.mem_append.mp h with h | h
  · exact List.take_subset _ _ h
  · exact List.drop_subset _ _ h
/-- by places: no one is idle -/
def idle (ps : List Pr) (i : Nat) : Prop := ∀ x, ∃ j, j < ps.length ∧ j ≠ i ∧ has (ps.getD j (0, 1)) x = true
theorem leastL_iff {ps : List Pr} (h : ∀ p ∈ ps, 0 < p.2 ∧ p.2 ∣ 4320) : leastL ps = true ↔ (∀ x, had ps x = true) ∧ ∀ i, i < ps.length → ¬ idle ps i := by
  unfold leastL
  rw [Bool.and_eq_true, coversB_iff h, List.all_eq_true]
  constructor
  · rintro ⟨h1, h2⟩
    refine ⟨h1, fun i hi hid => ?_⟩
    have h3 := h2 i (List.mem_range.mpr hi)
    have hc : coversB (drop1 ps i) = true := (coversB_iff fun p hp => h p (drop1_sub hp)).mpr fun x => (had_drop1 hi).mpr (hid x)
    have hne : (drop1 ps i).isEmpty = false := by
      cases e : drop1 ps i with
      | nil =>
        have := (had_drop1 hi).mpr (hid 0)
        rw [e] at this; cases this
      | cons _ _ => rfl
    rw [hc, hne] at h3
    cases h3
  · rintro ⟨h1, h2⟩
    refine ⟨h1, fun i hi => ?_⟩
    rw [List.mem_range] at hi
    cases hc : coversB (drop1 ps i) with
    | false => simp
    | true =>
      refine absurd (fun x => ?_) (h2 i hi)
      exact (had_drop1 hi).mp ((coversB_iff fun p hp => h p (drop1_sub hp)).mp hc x)
theorem lstep_mono {ps : List Pr} : ∀ (l f : List Nat), (l.foldl (lstep ps) f).length ≤ f.length := fun l f => (foldl_sub l f).length_le
theorem sub_none {ps : List Pr} (hps : PsOk ps) {l : List Nat} (hl : ∀ i ∈ l, i < ps.length) : (leftIn (sub ps l)).isNone = true ↔ ∀ x, ∃ j ∈ l, has (ps.getD j (0, 1)) x = true := by
  rw [Option.isNone_iff_eq_none, leftIn_none (sub_1080 hps hl)]
  constructor
  · intro h x; exact had_sub.mp (h x)
  · intro h x; exact had_sub.mpr (h x)
theorem least_eq {ps : List Pr} (hps : PsOk ps) : ((leftIn ps).isNone && decide ((leastIn ps).length = ps.length)) = leastL ps := by
  rw [Bool.eq_iff_iff, leastL_iff hps.n1080, Bool.and_eq_true, Option.isNone_iff_eq_none, leftIn_none hps.n1080, decide_eq_true_iff]
  have hflt : ∀ i x, (∃ j ∈ (List.range ps.length).filter (fun j => j != i), has (ps.getD j (0, 1)) x = true) ↔ ∃ j, j < ps.length ∧ j ≠ i ∧ has (ps.getD j (0, 1)) x = true := fun i x => by
    constructor
    · rintro ⟨j, hj, hx⟩
      rw [List.mem_filter, List.mem_range] at hj
      exact ⟨j, hj.1, by simpa using hj.2, hx⟩
    · rintro ⟨j, hj, hne, hx⟩
      exact ⟨j, List.mem_filter.mpr ⟨List.mem_range.mpr hj, by simpa using hne⟩, hx⟩
  have hstep : ∀ i, i < ps.length → (lstep ps (List.range ps.length) i = List.range ps.length ↔ ¬ idle ps i) := fun i hi => by
    have hs := sub_none hps (l := (List.range ps.length).filter fun j => j != i) fun j hj => List.mem_range.mp (List.mem_filter.mp hj).1
    unfold lstep
    split
    · rename_i hc
      constructor
      · intro e
        exfalso
        have h1 : i ∈ (List.range ps.length).filter fun j => j != i := by rw [e]; exact List.mem_range.mpr hi
        rw [List.mem_filter] at h1
        simp at h1
      · intro hni
        exact absurd (fun x => (hflt i x).mp (hs.mp hc x)) hni
    · rename_i hc
      constructor
      · intro _ hid
        exact hc (hs.mpr fun x => (hflt i x).mpr (hid x))
      · intro _; rfl
  refine and_congr_right fun _ => ?_
  constructor
  · intro hlen i hi hid
    -- the fold loses one at i at the latest
    have key : ∀ (l : List Nat), i ∈ l → (∀ j ∈ l, j < ps.length) → (l.foldl (lstep ps) (List.range ps.length)).length < ps.length := by
      intro l
      induction l with
      | nil => intro h; cases h
      | cons j l ih =>
        intro hm hl
        rw [List.foldl_cons]
        by_cases hj : lstep ps (List.range ps.length) j = List.range ps.length
        · rw [hj]
          refine ih ?_ fun k hk => hl k (List.mem_cons_of_mem _ hk)
          rcases List.mem_cons.mp hm with e | e
          · subst e; exact absurd hid ((hstep i hi).mp hj)
          · exact e
        · refine Nat.lt_of_le_of_lt (lstep_mono l _) ?_
          have h1 := lstep_sub (ps := ps) (f := List.range ps.length) (i := j)
          have h2 := h1.length_le
          rw [List.length_range] at h2
          rcases Nat.lt_or_ge (lstep ps (List.range ps.length) j).length ps.length with h3 | h3
          · exact h3
          · exact absurd (h1.eq_of_length (by rw [List.length_range]; omega)) hj
    have := key (List.range ps.length) (List.mem_range.mpr hi) fun j hj => List.mem_range.mp hj
    unfold leastIn at hlen
    omega
  · intro hid
    have key : ∀ (l : List Nat), (∀ j ∈ l, j < ps.length) → l.foldl (lstep ps) (List.range ps.length) = List.range ps.length := by
      intro l
      induction l with
      | nil => intro _; rfl
      | cons j l ih =>
        intro hl
        have hj := hl j (List.mem_cons_self ..)
        rw [List.foldl_cons, (hstep j hj).mpr (hid j hj)]
        exact ih fun k hk => hl k (List.mem_cons_of_mem _ hk)
    unfold leastIn
    rw [key _ fun j hj => List.mem_range.mp hj, List.length_range]
theorem nodup_inj {l : List Nat} (h : l.Nodup) {i j : Nat} (hi : i < l.length) (hj : j < l.length) (e : l[i] = l[j]) : i = j := by
  rcases Nat.lt_trichotomy i j with h1 | h1 | h1
  · exact absurd e (List.pairwise_iff_getElem.mp h i j hi hj h1)
  · exact h1
  · exact absurd e.symm (List.pairwise_iff_getElem.mp h j i hj hi h1)
/-- what is left of a cover is least -/
theorem least_rest {ps : List Pr} (hps : PsOk ps) (h : leftIn ps = none) : leastL (sub ps (leastIn ps)) = true := by
  have hlt := leastIn_lt (ps := ps)
  rw [leastL_iff (sub_1080 hps hlt)]
  refine ⟨fun x => ?_, fun i hi hid => ?_⟩
  · have := leastIn_covers h
    rw [leftIn_none (sub_1080 hps hlt)] at this
    exact this x
  · have hlen : (sub ps (leastIn ps)).length = (leastIn ps).length := by unfold sub; rw [List.length_map]
    rw [hlen] at hi
    -- the place t of the i-th that is left
    let t := (leastIn ps)[i]
    have ht : t ∈ leastIn ps := List.getElem_mem hi
    have hnd : (leastIn ps).Nodup := (foldl_sub (ps := ps) (List.range ps.length) (List.range ps.length)).nodup List.nodup_range
    -- without t the rest covers
    have hcov : ∀ x, ∃ j ∈ (leastIn ps).filter (fun j => j != t), has (ps.getD j (0, 1)) x = true := by
      intro x
      obtain ⟨j, hj, hne, hx⟩ := hid x
      rw [hlen] at hj
      have e : (sub ps (leastIn ps)).getD j (0, 1) = ps.getD (leastIn ps)[j] (0, 1) := by
        rw [getD_at (by rw [hlen]; exact hj)]
        unfold sub
        rw [List.getElem_map]
      rw [e] at hx
      refine ⟨(leastIn ps)[j], List.mem_filter.mpr ⟨List.getElem_mem hj, ?_⟩, hx⟩
      have : (leastIn ps)[j] ≠ t := fun e => hne (nodup_inj hnd hj hi e)
      simpa using this
    -- when t was looked at it was kept, of more
    have key : ∀ (l f : List Nat), t ∈ l → (∀ j ∈ f, j < ps.length) → (∀ j ∈ l, j < ps.length) → t ∈ l.foldl (lstep ps) f → (∀ j, j ∈ l.foldl (lstep ps) f → j ∈ leastIn ps) → (∀ j, j ∈ leastIn ps → j ∈ l.foldl (lstep ps) f) → False := by
      intro l
      induction l with
      | nil => intro f h; cases h
      | cons j l ih =>
        intro f hm hf hl h1 h2 h3
        rw [List.foldl_cons] at h1 h2 h3
        rcases List.mem_cons.mp hm with e | e
        · subst e
          -- here: the rest without t covered, so t went
          have hsubl := foldl_sub (ps := ps) l (lstep ps f t)
          have hin : t ∈ lstep ps f t := hsubl.subset h1
          unfold lstep at hin
          split at hin
          · rw [List.mem_filter] at hin; simp at hin
          · rename_i hc
            refine hc ((sub_none hps fun j hj => hf j (List.mem_filter.mp hj).1).mpr fun x => ?_)
            obtain ⟨j, hj, hx⟩ := hcov x
            rw [List.mem_filter] at hj
            have h4 : j ∈ lstep ps f t := hsubl.subset (h3 j hj.1)
            exact ⟨j, List.mem_filter.mpr ⟨(lstep_sub (ps := ps) (f := f) (i := t)).subset h4, hj.2⟩, hx⟩
        · exact ih _ e (fun k hk => hf k (lstep_sub.subset hk)) (fun k hk => hl k (List.mem_cons_of_mem _ hk)) h1 h2 h3
    exact key (List.range ps.length) (List.range ps.length) (List.mem_range.mpr (hlt t ht)) (fun j hj => List.mem_range.mp hj) (fun j hj => List.mem_range.mp hj) ht (fun j hj => hj) (fun j hj => hj)
theorem exact_least {ps : List Pr} (hps : PsOk ps) (h : exactL ps = true) : leastL ps = true := by
  rw [exactL_iff hps] at h
  rw [leastL_iff hps.n1080]
  refine ⟨fun x => ?_, fun i hi hid => ?_⟩
  · rw [had_iff_ix]
    intro e
    have := h x
    rw [csum_hasIx, e] at this
    cases this
  · obtain ⟨j, hj, hne, hx⟩ := hid (ps.getD i (0, 1)).1
    have a1 : i ∈ hasIx ps (ps.getD i (0, 1)).1 := mem_hasIx.mpr ⟨hi, by rw [has_iff]; simp⟩
    have a2 : j ∈ hasIx ps (ps.getD i (0, 1)).1 := mem_hasIx.mpr ⟨hj, hx⟩
    have h3 := h (ps.getD i (0, 1)).1
    rw [csum_hasIx] at h3
    cases e : hasIx ps (ps.getD i (0, 1)).1 with
    | nil => rw [e] at a1; cases a1
    | cons z l =>
      cases l with
      | nil => rw [e] at a1 a2; simp at a1 a2; omega
      | cons _ _ => rw [e] at h3; simp at h3; omega
/-- the bound by primes -/
theorem least_bound {ps : List Pr} (hps : PsOk ps) (h : leastL ps = true) : 1 + fb (lcmL ps) ≤ ps.length := by
  rw [leastL_iff hps.n1080] at h
  obtain ⟨h1, h2⟩ := h
  have hn : ∀ i, i < ps.length → (((ps.getD i (0, 1)).2.toNat : Nat) : Int) = (ps.getD i (0, 1)).2 := fun i hi => by have := (hps.at_ hi).1; omega
  have hcovx : ∀ (P : Nat → Bool), cov ps.length (fun i => (ps.getD i (0, 1)).1) (fun i => (ps.getD i (0, 1)).2.toNat) P ↔ ∀ x, ∃ i, i < ps.length ∧ P i = true ∧ has (ps.getD i (0, 1)) x = true := fun P => by
    unfold cov
    refine forall_congr' fun x => ?_
    constructor
    · rintro ⟨i, hi, hP, hd⟩
      rw [hn i hi] at hd
      exact ⟨i, hi, hP, has_iff.mpr hd⟩
    · rintro ⟨i, hi, hP, hx⟩
      refine ⟨i, hi, hP, ?_⟩
      rw [hn i hi]; exact has_iff.mp hx
  have hirr : irr ps.length (fun i => (ps.getD i (0, 1)).1) (fun i => (ps.getD i (0, 1)).2.toNat) (fun _ => true) := by
    refine ⟨(hcovx _).mpr fun x => ?_, fun i hi _ hc => h2 i hi fun x => ?_⟩
    · obtain ⟨p, hp, hx⟩ := had_mem.mp (h1 x)
      obtain ⟨i, hi, rfl⟩ := List.getElem_of_mem hp
      exact ⟨i, hi, rfl, by rw [getD_at hi]; exact hx⟩
    · obtain ⟨j, hj, hne, hx⟩ := (hcovx _).mp hc x
      exact ⟨j, hj, by simpa using hne, hx⟩
  have hlc : lc ps.length (fun i => (ps.getD i (0, 1)).2.toNat) (fun _ => true) = lcmL ps := by
    obtain ⟨f1, f2, f3⟩ := lcmL_facts ps hps.pos
    refine Nat.dvd_antisymm (lc_dvd fun i hi _ => ?_) ?_
    · have := f2 _ (List.getElem_mem hi)
      rw [← getD_at hi, ← hn i hi] at this
      exact Int.ofNat_dvd.mp this
    · have := f3 ((lc ps.length (fun i => (ps.getD i (0, 1)).2.toNat) (fun _ => true) : Nat) : Int) fun p hp => by
        obtain ⟨i, hi, rfl⟩ := List.getElem_of_mem hp
        rw [← getD_at hi, ← hn i hi]
        exact Int.ofNat_dvd.mpr (dvd_lc hi rfl)
      exact Int.ofNat_dvd.mp this
  have key := simpson ps.length (lcmL ps) _ _ (fun _ => true) (fun _ => false) (fun i hi => by
    have := hps.at_ hi
    refine ⟨by omega, ?_⟩
    have h3 := this.2.2
    rw [← hn i hi] at h3
    exact Int.ofNat_dvd.mp h3) hirr (fun i h => by cases h) ⟨0, List.length_pos_iff.mpr hps.ne, rfl, rfl⟩ hlc
  have e1 : Cov.cnt ps.length (fun i => true && !false) = ps.length := by
    unfold Cov.cnt
    rw [show (List.range ps.length).filter (fun i => true && !false) = List.range ps.length from List.filter_eq_self.mpr fun _ _ => rfl, List.length_range]
  have e2 : lc ps.length (fun i => (ps.getD i (0, 1)).2.toNat) (fun _ => false) = 1 := by
    unfold lc
    rw [show (List.range ps.length).filter (fun _ => false) = [] from List.filter_eq_nil_iff.mpr fun _ _ h => by cases h]; rfl
  have e3 : fb 1 = 0 := by decide
  rw [e1, e2, e3] at key
  omega

def sp_are_apart : ZSp := fun vs S q => ∃ ps, vs = [psT ps] ∧ PsOk ps ∧ q (.bl (apartB ps)) S
theorem take_map_get {ps : List Pr} {n : Nat} (h : n ≤ ps.length) : ps.take n = (List.range n).map fun j => ps.getD j (0, 1) := by
  refine List.ext_getElem? fun i => ?_
  rw [List.getElem?_map]
  by_cases hi : i < n
  · rw [List.getElem?_take, if_pos hi, List.getElem?_range hi, List.getElem?_eq_getElem (by omega)]
    simp [List.getD_eq_getElem?_getD, show i < ps.length by omega]
  · rw [List.getElem?_eq_none (by simp; omega), List.getElem?_eq_none (by simp; omega)]; rfl
theorem rd_are_apart : ∀ vs S q, sp_are_apart vs S q → zBody (w_are_apart sp_meet_in) N_are_apart vs S q := by
  rintro vs S q ⟨ps, rfl, hps, h⟩
  have hpl := hps.len
  unfold zBody w_are_apart
  walk_at "zz"
  refine o_ienumM seqS_tup fun G hG => ?_
  refine o_forGo (fun i ζ S' => S' = S ∧ (∃ o1 o2 o3, ζ = [some (psT ps), o1, o2, o3]) ∧ ∀ k, k < i → ((List.range k).all fun j => !meets (ps.getD k (0, 1)) (ps.getD j (0, 1))) = true) ⟨rfl, ⟨_, _, _, rfl⟩, fun k h => by omega⟩ (fun i ζ S' _ ⟨e, _⟩ => hG S' (by rw [e]; rfl)) ?_ ?_
  · rintro i w ζ S' ew ⟨rfl, ⟨o1, o2, o3, rfl⟩, hall⟩
    have hi : i < ps.length := by
      have := (List.getElem?_eq_some_iff.mp ew).1
      rw [enumV_length, List.length_map] at this; exact this
    rw [enumV_get (v := pV (ps.getD i (0, 1))) (get_pV hi)] at ew
    cases ew
    have hat := hps.at_ hi
    walk_at "zz"
    rw [cutZ_to, ← List.map_take]
    refine o_lcS seqS_tup (fun v => some (.bl (meets (ps.getD i (0, 1)) (unP v)))) (by have := szL; simp; omega) (fun w hw S2 k hS2 hk => ?_) fun D hD => ?_
    · obtain ⟨p, hp, rfl⟩ := List.mem_map.mp hw
      have hp' := hps.ok p (List.take_subset _ _ hp)
      walk_at "zz"
      refine ⟨ps.getD i (0, 1), p, rfl, hat.1, by omega, by omega, fun o ho => ?_⟩
      have e := meets_some hat.1 (by omega) ho
      rw [unP_pV, ← e] at hk
      cases o with
      | none => exact ⟨rfl, hk⟩
      | some r => exact ⟨rfl, hk⟩
    · walk_at "zz"
      refine o_bls (bs := (ps.take i).map fun p => meets (ps.getD i (0, 1)) p) ?_ ?_
      · rw [lstS_upd, fm_some, List.map_map, List.map_map]; rfl
      · refine ⟨S', Sub.new hD, ?_⟩
        have e : ((ps.take i).map fun p => meets (ps.getD i (0, 1)) p).any id = !((List.range i).all fun j => !meets (ps.getD i (0, 1)) (ps.getD j (0, 1))) := by
          rw [List.any_map, take_map_get (by omega), List.any_map, List.not_all_eq_any_not]
          congr 1
          funext j
          simp
        rw [e]
        refine o_ite (fun hc => ?_) (fun hc => ?_)
        · walk_at "zz"
          refine end_ ?_
          have e2 : apartB ps = false := by
            unfold apartB
            rw [List.all_eq_false]
            refine ⟨i, List.mem_range.mpr hi, ?_⟩
            simpa using hc
          rw [e2] at h; exact h
        · walk_at "zz"
          refine ⟨rfl, ⟨_, _, _, rfl⟩, fun k hk => ?_⟩
          by_cases e3 : k = i
          · rw [e3]; simpa using hc
          · exact hall k (by omega)
  · rintro ζ S' ⟨rfl, ⟨o1, o2, o3, rfl⟩, hall⟩
    rw [enumV_length, List.length_map] at hall
    walk_at "zz"
    refine end_ ?_
    have e2 : apartB ps = true := by
      unfold apartB
      rw [List.all_eq_true]
      intro k hk
      exact hall k (List.mem_range.mp hk)
    rw [e2] at h; exact h
def sp_is_exact : ZSp := fun vs S q => ∃ ps, vs = [psT ps] ∧ PsOk ps ∧ q (.bl (exactL ps)) S
theorem rd_is_exact : ∀ vs S q, sp_is_exact vs S q → zBody (w_is_exact sp_are_apart sp_does_cover_in sp_need_pairs) N_is_exact vs S q := by
  rintro vs S q ⟨ps, rfl, hps, h⟩
  rw [← exact_eq hps] at h
  unfold zBody w_is_exact
  walk_at "zz"
  refine need_ok hps ?_
  walk_at "zz"
  refine ⟨_, ps, rfl, seqS_tup, hps.pos, by have := hps.len; omega, ?_⟩
  cases e : (leftIn ps).isNone with
  | false =>
    rw [e] at h
    refine o_iteF (by simp) ?_
    exact end_ h
  | true =>
    rw [e] at h
    walk_at "zz"
    exact ⟨ps, rfl, hps, end_ h⟩
def sp_is_least_cover : ZSp := fun vs S q => ∃ ps, vs = [psT ps] ∧ PsOk ps ∧ q (.bl (leastL ps)) S
theorem rd_is_least_cover : ∀ vs S q, sp_is_least_cover vs S q → zBody (w_is_least_cover sp_does_cover_in sp_least_in sp_need_pairs) N_is_least_cover vs S q := by
  rintro vs S q ⟨ps, rfl, hps, h⟩
  rw [← least_eq hps] at h
  unfold zBody w_is_least_cover
  walk_at "zz"
  refine need_ok hps ?_
  walk_at "zz"
  refine ⟨_, ps, rfl, seqS_tup, hps.pos, by have := hps.len; omega, ?_⟩
  cases e : (leftIn ps).isNone with
  | false =>
    rw [e] at h
    refine o_iteF (by simp) ?_
    exact end_ h
  | true =>
    rw [e] at h
    walk_at "zz"
    refine ⟨_, ps, rfl, seqS_tup, hps.pos, by have := hps.len; omega, fun p hp => ?_⟩
    walk_at "zz"
    refine o_len seqS_upd ?_
    walk_at "zz"
    refine o_len seqS_tup ?_
    refine o_eqI ?_
    refine ⟨S, Sub.new hp, ?_⟩
    rw [List.length_map, List.length_map]
    have e2 : decide (((leastIn ps).length : Int) = (ps.length : Int)) = (true && decide ((leastIn ps).length = ps.length)) := by
      rw [Bool.true_and, decide_eq_decide]; omega
    rw [e2]; exact h
def sp_least_cover : ZSp := fun vs S q => ∃ ps, vs = [psT ps] ∧ PsOk ps ∧ q (if (leftIn ps).isNone then .tup ((leastIn ps).map iV) else .non) S
theorem rd_least_cover : ∀ vs S q, sp_least_cover vs S q → zBody (w_least_cover sp_does_cover_in sp_least_in sp_need_pairs) N_least_cover vs S q := by
  rintro vs S q ⟨ps, rfl, hps, h⟩
  unfold zBody w_least_cover
  walk_at "zz"
  refine need_ok hps ?_
  walk_at "zz"
  refine ⟨_, ps, rfl, seqS_tup, hps.pos, by have := hps.len; omega, ?_⟩
  cases e : (leftIn ps).isNone with
  | false =>
    rw [e] at h
    refine o_iteF (by simp) ?_
    exact end_ h
  | true =>
    rw [e] at h
    walk_at "zz"
    refine ⟨_, ps, rfl, seqS_tup, hps.pos, by have := hps.len; omega, fun p hp => ?_⟩
    walk_at "zz"
    refine o_tuple seqS_upd ?_
    exact ⟨S, Sub.new hp, h⟩
def splitL (ps : List Pr) (i m : Nat) : List Pr := ps.take i ++ ((List.range m).map fun j => (((ps.getD i (0, 1)).1 + (j : Nat) * (ps.getD i (0, 1)).2, (ps.getD i (0, 1)).2 * m) : Pr)) ++ ps.drop (i + 1)
def sp_split_at : ZSp := fun vs S q => ∃ ps i m, vs = [psT ps, .int (i : Nat), .int (m : Nat)] ∧ PsOk ps ∧ i < ps.length ∧ 2 ≤ m ∧ m ≤ 60 ∧ PsOk (splitL ps i m) ∧ q (psT (splitL ps i m)) S
theorem rd_split_at : ∀ vs S q, sp_split_at vs S q → zBody (w_split_at sp_is_whole sp_need_pairs) N_split_at vs S q := by
  rintro vs S q ⟨ps, i, m, rfl, hps, hi, hm2, hm60, hps2, h⟩
  have hpl := hps.len
  have hat := hps.at_ hi
  unfold zBody w_split_at
  walk_at "zz"
  refine need_ok hps ?_
  walk_at "zz"
  refine o_len seqS_tup ?_
  walk_at "zz"
  refine ⟨rfl, rfl, .int (i : Nat), some 0, some (_ - 1), rfl, rfl, ?_⟩
  have e1 : wholeB (.int (i : Nat)) (some 0) (some (((ps.map pV).length : Int) - 1)) = true := by
    simp only [wholeB, Bool.and_eq_true, decide_eq_true_eq, List.length_map]; omega
  rw [e1]
  refine o_iteF (by simp) ?_
  walk_at "zz"
  refine ⟨rfl, rfl, .int (m : Nat), some 2, some 60, rfl, rfl, ?_⟩
  have e2 : wholeB (.int (m : Nat)) (some 2) (some 60) = true := by
    simp only [wholeB, Bool.and_eq_true, decide_eq_true_eq]; omega
  rw [e2]
  refine o_iteF (by simp) ?_
  walk_at "zz"
  refine o_ixS (i := (i : Nat)) seqS_tup (atI_nat (get_pV hi)) ?_
  walk_at "zz"
  show RgOk2 _ ∧ _
  refine ⟨⟨by omega, by omega⟩, ?_⟩
  rw [Int.toNat_natCast]
  refine lcGo_pure (fun v => some (pV ((ps.getD i (0, 1)).1 + unI v * (ps.getD i (0, 1)).2, (ps.getD i (0, 1)).2 * m))) (by have := szL; rw [ints_length]; omega) (fun _ _ => trivial) (fun w hw Sx k hSx hk => ?_) fun D hD => ?_
  · obtain ⟨j, hj, rfl⟩ := List.mem_map.mp hw
    walk_at "zz"
    refine o_mul (mulOk_r (by omega) (by omega)) ?_
    walk_at "zz"
    refine o_mul (mulOk_l (by omega) (by omega)) ?_
    exact ⟨len2, hk⟩
  · have en : (rgv 0 m).filterMap (fun v => some (pV ((ps.getD i (0, 1)).1 + unI v * (ps.getD i (0, 1)).2, (ps.getD i (0, 1)).2 * m))) = ((List.range m).map fun j => (((ps.getD i (0, 1)).1 + (j : Nat) * (ps.getD i (0, 1)).2, (ps.getD i (0, 1)).2 * m) : Pr)).map pV := by
      rw [fm_some, rgv_nat, List.map_map, List.map_map]; rfl
    rw [en]
    walk_at "zz"
    refine o_tuple seqS_upd ?_
    refine ⟨S, Sub.new hD, ?_⟩
    walk_at "zz"
    rw [cutZ_to]
    refine o_addT (by have := szL; simp; omega) ?_
    walk_at "zz"
    have ea : ((i : Int) + 1) = ((i + 1 : Nat) : Int) := by omega
    rw [ea, cutZ_from]
    refine o_addT (by have := szL; simp; omega) ?_
    have es : ((ps.map pV).take i ++ ((List.range m).map fun j => (((ps.getD i (0, 1)).1 + (j : Nat) * (ps.getD i (0, 1)).2, (ps.getD i (0, 1)).2 * m) : Pr)).map pV) ++ (ps.map pV).drop (i + 1) = (splitL ps i m).map pV := by
      unfold splitL
      rw [List.map_append, List.map_append, List.map_take, List.map_drop]
    rw [es]
    walk_at "zz"
    refine need_ok hps2 ?_
    walk_at "zz"
    exact end_ h
def sp__law_plus : ZSp := fun vs S q => ∃ t b u c : Int, vs = [.tup [.int t, .int b], .tup [.int u, .int c]] ∧ 0 < b ∧ b < 2 ^ 64 ∧ 0 < c ∧ c < 2 ^ 64 ∧ q (.tup [.int ((t * c + u * b) / (Int.gcd (t * c + u * b) (b * c) : Int)), .int (b * c / (Int.gcd (t * c + u * b) (b * c) : Int))]) S
theorem rd__law_plus : ∀ vs S q, sp__law_plus vs S q → zBody (w__law_plus sp__law_fraction) N__law_plus vs S q := by
  rintro vs S q ⟨t, b, u, c, rfl, hb, hb2, hc, hc2, h⟩
  unfold zBody w__law_plus
  walk_at "zz"
  refine o_mul (mulOk_r (by omega) hc2) ?_
  walk_at "zz"
  refine o_mul (mulOk_r (by omega) hb2) ?_
  walk_at "zz"
  refine o_mul (mulOk_r (by omega) hc2) ?_
  walk_at "zz"
  refine ⟨_, _, rfl, Int.mul_pos hb hc, ?_, end_ h⟩
  have h1 : b * c < 2 ^ 64 * c := Int.mul_lt_mul_of_pos_right hb2 hc
  have h2 : (2 : Int) ^ 64 * c < 2 ^ 64 * 2 ^ 64 := Int.mul_lt_mul_of_pos_left hc2 (by decide)
  have h3 : (2 : Int) ^ 64 * 2 ^ 64 < 2 ^ 199 := by decide
  omega
structure PsN (ps : List Pr) : Prop where
  len : ps.length ≤ 8
  ok : ∀ p ∈ ps, 0 < p.2 ∧ p.2 ≤ 60 ∧ p.2 ∣ 4320
theorem PsOk.n {ps : List Pr} (h : PsOk ps) : PsN ps := ⟨h.len, fun p hp => by have := h.ok p hp; exact ⟨by omega, this.2.2.1, this.2.2.2⟩⟩
theorem PsN.lcm {ps : List Pr} (h : PsN ps) : 0 < lcmL ps ∧ lcmL ps ≤ 4320 := by
  obtain ⟨h1, h2, h3⟩ := lcmL_facts ps fun p hp => (h.ok p hp).1
  have h4 := h3 4320 fun p hp => (h.ok p hp).2.2
  exact ⟨h1, by have := Int.le_of_dvd (by decide) h4; omega⟩
theorem okd_ones (n : Nat) : (Val.fl (List.replicate n (Val.int 1))).okd = true := by
  have key : Val.pures (List.replicate n (Val.int 1)) = true ∧ Val.deps (List.replicate n (Val.int 1)) = 0 := by
    induction n with
    | zero => exact ⟨rfl, rfl⟩
    | succ n ih => exact ⟨by simp only [List.replicate_succ, Val.pures, ih.1]; rfl, by simp only [List.replicate_succ, Val.deps, ih.2]; rfl⟩
  unfold Val.okd
  simp only [Val.pure, Val.dep, key.1, key.2]
  rfl
/-- [1 for .. if ..]: how many -/
theorem fm_ones {α : Type} (l : List α) (f : α → Val) (g : Val → Bool) : (l.map f).filterMap (fun v => if g v then some (Val.int 1) else none) = List.replicate ((l.filter fun a => g (f a)).length) (Val.int 1) := by
  induction l with
  | nil => rfl
  | cons a l ih =>
    rw [List.map_cons, List.filterMap_cons, List.filter_cons]
    cases h : g (f a) with
    | true => simp [ih, List.replicate_succ]
    | false => simpa using ih
theorem ones_empty {α : Type} (l : List α) (p : α → Bool) : (List.replicate ((l.filter p).length) (Val.int 1)).isEmpty = (l.filter p).isEmpty := by
  cases l.filter p <;> rfl
def sp__law_does : ZSp := fun vs S q => ∃ (ps : List Pr), vs = [psT ps] ∧ PsN ps ∧ q (.bl (coversB ps)) S
theorem rd__law_does : ∀ vs S q, sp__law_does vs S q → zBody (w__law_does sp__law_has sp__law_whole_step) N__law_does vs S q := by
  rintro vs S q ⟨ps, rfl, hps, h⟩
  have hl := hps.lcm
  have hpl := hps.len
  unfold zBody w__law_does
  walk_at "zz"
  refine ⟨_, ps, rfl, seqS_tup, fun p hp => ⟨(hps.ok p hp).1, (hps.ok p hp).2.1⟩, ?_⟩
  show RgOk2 _ ∧ _
  refine ⟨⟨by omega, by omega⟩, ?_⟩
  rw [Int.toNat_natCast]
  refine lcGo_sub (fun v => if (!had ps (unI v)) then some (Val.int 1) else none) (by have := szL; rw [ints_length]; omega) (fun _ _ => trivial) (fun w hw S2 k hS2 hk => ?_) fun L S2 hL hs => ?_
  · obtain ⟨j, hj, rfl⟩ := List.mem_map.mp hw
    walk_at "zz"
    refine ⟨_, ps, _, rfl, seqS_tup, fun p hp => (hps.ok p hp).1, by omega, fun p hp => ?_⟩
    refine o_eqNil Sto.upd_same (okd_ints _) fun p2 hp2 => ?_
    have hk2 := hk _ ((Sub.new (o := .lst ((hasIx ps (0 + (j : Int))).map iV)) hp).trans (Sub.new (o := .lst []) hp2))
    have e : ((hasIx ps (0 + (j : Int))).map iV).isEmpty = !had ps (0 + (j : Int)) := by
      rw [Bool.eq_iff_iff, List.isEmpty_iff, List.map_eq_nil_iff, hasIx_nil]; cases had ps (0 + (j : Int)) <;> simp
    rw [e]
    rw [unI] at hk2
    refine o_ite (fun hc => ?_) (fun hc => ?_)
    · rw [if_pos hc] at hk2
      walk_at "zz"
      exact hk2
    · rw [if_neg hc] at hk2
      exact hk2
  · rw [rgv_nat, fm_ones (List.range (lcmL ps)) iV fun v => !had ps (unI v)] at hs
    have hl2 := hs L _ Sto.upd_same
    walk_at "zz"
    refine w_eqNil hl2 (okd_ones _) fun p hp => ?_
    rw [ones_empty]
    exact ⟨S, ((Sub.new hL).trans hs).trans (Sub.new hp), h⟩
def sp__law_is_exact : ZSp := fun vs S q => ∃ (ps : List Pr), vs = [psT ps] ∧ PsN ps ∧ q (.bl (exactL ps)) S
theorem rd__law_is_exact : ∀ vs S q, sp__law_is_exact vs S q → zBody (w__law_is_exact sp__law_has sp__law_whole_step) N__law_is_exact vs S q := by
  rintro vs S q ⟨ps, rfl, hps, h⟩
  have hl := hps.lcm
  have hpl := hps.len
  unfold zBody w__law_is_exact
  walk_at "zz"
  refine ⟨_, ps, rfl, seqS_tup, fun p hp => ⟨(hps.ok p hp).1, (hps.ok p hp).2.1⟩, ?_⟩
  show RgOk2 _ ∧ _
  refine ⟨⟨by omega, by omega⟩, ?_⟩
  rw [Int.toNat_natCast]
  refine lcGo_sub (fun v => if (!decide ((hasIx ps (unI v)).length = 1)) then some (Val.int 1) else none) (by have := szL; rw [ints_length]; omega) (fun _ _ => trivial) (fun w hw S2 k hS2 hk => ?_) fun L S2 hL hs => ?_
  · obtain ⟨j, hj, rfl⟩ := List.mem_map.mp hw
    walk_at "zz"
    refine ⟨_, ps, _, rfl, seqS_tup, fun p hp => (hps.ok p hp).1, by omega, fun p hp => ?_⟩
    walk_at "zz"
    refine o_len seqS_upd ?_
    rw [List.length_map]
    walk_at "zz"
    have hk2 := hk _ (Sub.new (o := .lst ((hasIx ps (0 + (j : Int))).map iV)) hp)
    rw [unI] at hk2
    refine o_ite (fun hc => ?_) (fun hc => ?_)
    · rw [if_pos (by simp at hc ⊢; omega)] at hk2
      walk_at "zz"
      exact hk2
    · rw [if_neg (by simp at hc ⊢; omega)] at hk2
      exact hk2
  · rw [rgv_nat, fm_ones (List.range (lcmL ps)) iV fun v => !decide ((hasIx ps (unI v)).length = 1)] at hs
    have hl2 := hs L _ Sto.upd_same
    walk_at "zz"
    refine w_eqNil hl2 (okd_ones _) fun p hp => ?_
    rw [ones_empty]
    refine ⟨S, ((Sub.new hL).trans hs).trans (Sub.new hp), ?_⟩
    have e : ((List.range (lcmL ps)).filter fun (a : Nat) => !decide ((hasIx ps (unI (iV a))).length = 1)).isEmpty = exactL ps := by
      unfold exactL
      rw [Bool.eq_iff_iff, List.isEmpty_iff, List.filter_eq_nil_iff, List.all_eq_true]
      refine forall_congr' fun a => forall_congr' fun _ => ?_
      rw [unI_iV]; simp
    rw [e]; exact h

def sp__law_is_least : ZSp := fun vs S q => ∃ (ps : List Pr), vs = [psT ps] ∧ PsN ps ∧ q (.bl (leastL ps)) S
theorem drop1_N {ps : List Pr} (h : PsN ps) (i : Nat) : PsN (drop1 ps i) := ⟨by unfold drop1; simp; have := h.len; omega, fun p hp => h.ok p (drop1_sub hp)⟩
theorem rd__law_is_least : ∀ vs S q, sp__law_is_least vs S q → zBody (w__law_is_least sp__law_does) N__law_is_least vs S q := by
  rintro vs S q ⟨ps, rfl, hps, h⟩
  have hpl := hps.len
  unfold zBody w__law_is_least
  walk_at "zz"
  refine ⟨ps, rfl, hps, ?_⟩
  cases hc : coversB ps with
  | false =>
    walk_at "zz"
    refine end_ ?_
    have e : leastL ps = false := by unfold leastL; rw [hc]; rfl
    rw [e] at h; exact h
  | true =>
    refine o_iteF (by simp) ?_
    walk_at "zz"
    refine o_len seqS_tup ?_
    rw [List.length_map]
    show RgOk2 _ ∧ _
    refine ⟨⟨by omega, by omega⟩, ?_⟩
    rw [Int.toNat_natCast]
    refine lcGo_pure (fun v => some (psT (drop1 ps (unI v).toNat))) (by have := szL; rw [ints_length]; omega) (fun _ _ => trivial) (fun w hw Sx k hSx hk => ?_) fun D hD => ?_
    · obtain ⟨j, hj, rfl⟩ := List.mem_map.mp hw
      rw [Int.zero_add] at hk ⊢
      walk_at "zz"
      have ea : ((j : Int) + 1) = ((j + 1 : Nat) : Int) := by omega
      rw [cutZ_to, ea, cutZ_from, ← List.map_take, ← List.map_drop]
      refine o_addT (by have := szL; simp; omega) ?_
      rw [← List.map_append]
      exact hk
    · have en : (rgv 0 ps.length).filterMap (fun v => some (psT (drop1 ps (unI v).toNat))) = (List.range ps.length).map fun i => psT (drop1 ps i) := by
        rw [fm_some, rgv_nat, List.map_map]; rfl
      rw [en]
      walk_at "zz"
      refine o_lcS seqS_upd (fun v => if (match v with | .tup us => !us.isEmpty && coversB (us.map unP) | _ => false) then some (Val.int 1) else none) (by have := szL; simp; omega) (fun w hw Sx k hSx hk => ?_) fun E hE => ?_
      · obtain ⟨i, hi, rfl⟩ := List.mem_map.mp hw
        have hm : ((drop1 ps i).map pV).map unP = drop1 ps i := by rw [List.map_map]; exact List.map_id' _
        simp only [hm] at hk
        walk_at "zz"
        refine ⟨len0, ?_⟩
        have okp : (psT (drop1 ps i)).okd = true := by
          have key : ∀ l : List Pr, Val.pures (l.map pV) = true ∧ Val.deps (l.map pV) ≤ 1 := by
            intro l
            induction l with
            | nil => exact ⟨rfl, Nat.zero_le _⟩
            | cons p l ih => exact ⟨by simp only [List.map_cons, Val.pures, Val.pure, pV, ih.1]; rfl, by simp only [List.map_cons, Val.deps, Val.dep, pV]; omega⟩
          obtain ⟨a, b⟩ := key (drop1 ps i)
          unfold Val.okd
          simp only [Val.pure, Val.dep, a, Bool.true_and]
          exact decide_eq_true (by omega)
        refine o_ne rfl rfl okp rfl ?_
        cases ed : drop1 ps i with
        | nil =>
          rw [ed] at hk
          refine o_iteF (by simp [Val.eqb, Val.eqbs]) ?_
          refine o_iteF (by simp) ?_
          exact hk
        | cons p l =>
          rw [← ed]
          have hne : ((drop1 ps i).map pV).isEmpty = false := by rw [ed]; rfl
          refine o_iteT (by rw [ed]; simp [Val.eqb, Val.eqbs]) ?_
          walk_at "zz"
          refine ⟨drop1 ps i, rfl, drop1_N hps i, ?_⟩
          rw [hne] at hk
          cases hcc : coversB (drop1 ps i) with
          | true => rw [hcc] at hk; refine o_iteT rfl ?_; walk_at "zz"; exact hk
          | false => rw [hcc] at hk; refine o_iteF (by simp) ?_; exact hk
      · rw [fm_ones (List.range ps.length) (fun i => psT (drop1 ps i)) fun v => (match v with | .tup us => !us.isEmpty && coversB (us.map unP) | _ => false)]
        walk_at "zz"
        refine w_eqNil Sto.upd_same (okd_ones _) fun p hp => ?_
        rw [ones_empty]
        refine ⟨S, ((Sub.new hD).trans (Sub.new hE)).trans (Sub.new hp), ?_⟩
        have e : ((List.range ps.length).filter fun i => (match psT (drop1 ps i) with | .tup us => !us.isEmpty && coversB (us.map unP) | _ => false)).isEmpty = leastL ps := by
          unfold leastL
          rw [hc, Bool.true_and, Bool.eq_iff_iff, List.isEmpty_iff, List.filter_eq_nil_iff, List.all_eq_true]
          refine forall_congr' fun i => forall_congr' fun _ => ?_
          have hm : ((drop1 ps i).map pV).map unP = drop1 ps i := by rw [List.map_map]; exact List.map_id' _
          have hme : ((drop1 ps i).map pV).isEmpty = (drop1 ps i).isEmpty := by cases drop1 ps i <;> rfl
          simp only [hm, hme]
          cases (!(drop1 ps i).isEmpty && coversB (drop1 ps i)) <;> simp
        rw [e]; exact h
def sp__law_bound : ZSp := fun vs S q => ∃ (ps : List Pr), vs = [psT ps] ∧ PsN ps ∧ q (.int (1 + fb (lcmL ps) : Nat)) S
theorem PsN.dvd {ps : List Pr} (h : PsN ps) : lcmL ps ∣ 4320 := by
  obtain ⟨h1, h2, h3⟩ := lcmL_facts ps fun p hp => (h.ok p hp).1
  exact Int.ofNat_dvd.mp (h3 4320 fun p hp => (h.ok p hp).2.2)
/-- the least divisor but 1 of a divisor of 4320 is 2, 3 or 5 -/
theorem least_235 {p left : Nat} (hd : left ∣ 4320) (hp : 2 ≤ p) (hpl : p ∣ left) (hno : ∀ d, 2 ≤ d → d < p → ¬ d ∣ left) : p ∈ [2, 3, 5] := by
  obtain ⟨z, hz, hzp⟩ := f_prime (Nat.dvd_trans hpl hd) (by omega)
  have hz2 : 2 ≤ z := by simp at hz; omega
  have hle := Nat.le_of_dvd (by omega) hzp
  rcases Nat.lt_or_ge z p with h | h
  · exact absurd (Nat.dvd_trans hzp hpl) (hno z hz2 h)
  · have : z = p := by omega
    rw [← this]; exact hz
theorem rd__law_bound : ∀ vs S q, sp__law_bound vs S q → zBody (w__law_bound sp__law_whole_step) N__law_bound vs S q := by
  rintro vs S q ⟨ps, rfl, hps, h⟩
  have hl := hps.lcm
  have hd0 := hps.dvd
  unfold zBody w__law_bound
  walk_at "zz"
  refine ⟨_, ps, rfl, seqS_tup, fun p hp => ⟨(hps.ok p hp).1, (hps.ok p hp).2.1⟩, ?_⟩
  walk_at "zz"
  refine o_while (fun m ζ S' => S' = S ∧ ∃ left found prime : Nat, m = 6 - prime ∧ left ∣ 4320 ∧ found + fb left = 1 + fb (lcmL ps) ∧ 2 ≤ prime ∧ (∀ d, 2 ≤ d → d < prime → ¬ d ∣ left) ∧ ζ = [some (psT ps), some (.int (left : Nat)), some (.int (found : Nat)), some (.int (prime : Nat))])
    4 ⟨rfl, lcmL ps, 1, 2, rfl, hd0, rfl, Nat.le_refl 2, fun d h1 h2 => by omega, rfl⟩ ?_
  rintro m ζ S' ⟨rfl, left, found, prime, rfl, hld, hf, hp2, hno, rfl⟩
  have hl0 : 0 < left := Nat.pos_of_dvd_of_pos hld (by decide)
  walk_at "zz"
  refine o_ite (fun hc => ?_) (fun hc => ?_)
  · have h1 : 1 < left := by
      have : (1 : Int) < left := by simpa using hc
      omega
    obtain ⟨z, hz, hzl⟩ := f_prime hld (by omega)
    have hz2 : 2 ≤ z ∧ z ≤ 5 := by simp at hz; omega
    have hp5 : prime ≤ 5 := by
      rcases Nat.lt_or_ge z prime with h | h
      · exact absurd hzl (hno z hz2.1 h)
      · omega
    walk_at "zz"
    refine o_while (fun m ζ S2 => S2 = S' ∧ ∃ left found : Nat, m = left ∧ left ∣ 4320 ∧ found + fb left = 1 + fb (lcmL ps) ∧ (∀ d, 2 ≤ d → d < prime → ¬ d ∣ left) ∧ ζ = [some (psT ps), some (.int (left : Nat)), some (.int (found : Nat)), some (.int (prime : Nat))])
      left ⟨rfl, left, found, rfl, hld, hf, hno, rfl⟩ ?_
    rintro m ζ S2 ⟨rfl, left, found, hml, hld, hf, hno, rfl⟩
    have hl0 : 0 < left := Nat.pos_of_dvd_of_pos hld (by decide)
    walk_at "zz"
    refine o_mod (by omega) ?_
    walk_at "zz"
    rw [fmodp (by omega)]
    refine o_ite (fun hc => ?_) (fun hc => ?_)
    · have hdv : prime ∣ left := by
        have : (left : Int) % prime = 0 := by simpa using hc
        exact Int.ofNat_dvd.mp (emod0.mp this)
      have hp3 := least_235 hld hp2 hdv hno
      obtain ⟨y, hy⟩ := hdv
      have hfm := f_mul (a := y) hp3 (by rw [← hy]; exact hld)
      rw [← hy] at hfm
      walk_at "zz"
      refine o_fdiv (divOk_small (by omega) (by omega)) ?_
      rw [fdivp (by omega)]
      walk_at "zz"
      have ey : (left : Int) / prime = (y : Nat) := by rw [hy, Int.natCast_mul]; exact Int.mul_ediv_cancel_left _ (by omega)
      rw [ey]
      have hylt : y < left := by
        rw [hy]
        have hy0 : 0 < y := by
          rcases Nat.eq_zero_or_pos y with e | e
          · rw [e] at hy; omega
          · exact e
        have : 2 * y ≤ prime * y := Nat.mul_le_mul_right y hp2
        omega
      have ef : ((found : Int) + prime - 1) = ((found + (prime - 1) : Nat) : Int) := by omega
      rw [ef]
      exact ⟨y, by omega, rfl, y, found + (prime - 1), rfl, Nat.dvd_trans ⟨prime, by rw [hy, Nat.mul_comm]⟩ hld, by omega, fun d h1 h2 h3 => hno d h1 h2 (Nat.dvd_trans h3 ⟨prime, by rw [hy, Nat.mul_comm]⟩), rfl⟩
    · have hdv : ¬ prime ∣ left := fun hd => hc (by
        have : (left : Int) % prime = 0 := emod0.mpr (Int.ofNat_dvd.mpr hd)
        simpa using this)
      walk_at "zz"
      have ep : ((prime : Int) + 1) = ((prime + 1 : Nat) : Int) := by omega
      rw [ep]
      refine ⟨6 - (prime + 1), by omega, rfl, left, found, prime + 1, rfl, hld, hf, by omega, fun d h1 h2 => ?_, rfl⟩
      by_cases e : d = prime
      · rw [e]; exact hdv
      · exact hno d h1 (by omega)
  · have h1 : left = 1 := by
      have : ¬ (1 : Int) < left := by simpa using hc
      omega
    subst h1
    have e1 : fb 1 = 0 := by decide
    walk_at "zz"
    refine end_ ?_
    have e : found = 1 + fb (lcmL ps) := by omega
    rw [e]; exact h

/-! ### splits -/
theorem csum_app (l k : List Pr) (x : Int) : csum (l ++ k) x = csum l x + csum k x := by unfold csum; rw [List.map_append, List.sum_append]
theorem sum_range (f : Nat → Int) : ∀ n, ((List.range n).map f).sum = sumR f n
  | 0 => rfl
  | n + 1 => by rw [List.range_succ, List.map_append, List.sum_append, sum_range f n]; simp [sumR]
theorem csum_parts {a n : Int} (hn : 0 < n) {m : Nat} (hm : 0 < m) (x : Int) : csum ((List.range m).map fun j => ((a + (j : Nat) * n, n * m) : Pr)) x = if has (a, n) x then 1 else 0 := by
  unfold csum
  rw [List.map_map]
  show ((List.range m).map fun j => if has ((a + (j : Nat) * n, n * m) : Pr) x then (1 : Int) else 0).sum = _
  rw [sum_range]
  by_cases h : has (a, n) x = true
  · rw [if_pos h]
    rw [has_iff] at h
    obtain ⟨y, hy⟩ := h
    have hy' : x - a = n * y := hy
    have w := window (p := (y, (m : Int))) (by show (0 : Int) < m; omega) 0
    have e : ((y, (m : Int)) : Pr).2.toNat = m := Int.toNat_natCast m
    rw [e] at w
    refine Eq.trans (sumR_congr m fun j _ => ?_) w
    have k : has ((a + (j : Nat) * n, n * m) : Pr) x = has ((y, (m : Int)) : Pr) (0 + (j : Nat)) := by
      rw [Bool.eq_iff_iff, has_iff, has_iff]
      show n * (m : Int) ∣ x - (a + (j : Int) * n) ↔ (m : Int) ∣ 0 + (j : Int) - y
      have e1 : x - (a + (j : Int) * n) = n * (y - j) := by rw [Int.mul_sub, ← hy', Int.mul_comm n (j : Int)]; omega
      rw [e1, Int.mul_dvd_mul_iff_left (by omega)]
      have e2 : 0 + (j : Int) - y = -(y - j) := by omega
      rw [e2, Int.dvd_neg]
    rw [k]
  · rw [if_neg h]
    rw [sumR_congr (g := fun _ => 0), sumR_zero]
    intro j _
    rw [if_neg]
    intro hh
    refine h ?_
    rw [has_iff] at hh ⊢
    have h1 : n ∣ x - (a + (j : Int) * n) := Int.dvd_trans (Int.dvd_mul_right n (m : Int)) hh
    have e : x - a = (x - (a + (j : Int) * n)) + n * j := by rw [Int.mul_comm n (j : Int)]; omega
    show n ∣ x - a
    rw [e]
    exact Int.dvd_add h1 (Int.dvd_mul_right ..)
theorem split_parts {ps : List Pr} {i : Nat} (hi : i < ps.length) : ps = ps.take i ++ ps.getD i (0, 1) :: ps.drop (i + 1) := by
  rw [getD_at hi]
  rw [← List.drop_eq_getElem_cons hi, List.take_append_drop]
theorem csum_split {ps : List Pr} (hps : PsOk ps) {i m : Nat} (hi : i < ps.length) (hm : 0 < m) (x : Int) : csum (splitL ps i m) x = csum ps x := by
  have hat := hps.at_ hi
  unfold splitL
  conv => rhs; rw [split_parts hi]
  rw [csum_app, csum_app, csum_app, csum_parts hat.1 hm]
  have e : csum (ps.getD i (0, 1) :: ps.drop (i + 1)) x = (if has (ps.getD i (0, 1)) x then 1 else 0) + csum (ps.drop (i + 1)) x := by unfold csum; rw [List.map_cons, List.sum_cons]
  rw [e]
  have e2 : has ((ps.getD i (0, 1)).1, (ps.getD i (0, 1)).2) x = has (ps.getD i (0, 1)) x := rfl
  rw [e2]
  omega
theorem had_csum (ps : List Pr) (x : Int) : had ps x = true ↔ csum ps x ≠ 0 := by
  rw [had_iff_ix, csum_hasIx]
  cases hasIx ps x with
  | nil => simp
  | cons i l => simp; omega
theorem had_split {ps : List Pr} (hps : PsOk ps) {i m : Nat} (hi : i < ps.length) (hm : 0 < m) (x : Int) : had (splitL ps i m) x = had ps x := by
  rw [Bool.eq_iff_iff, had_csum, had_csum, csum_split hps hi hm]
theorem step_4320 : ∀ n, n < 61 → ∀ m ∈ [2, 3, 4], 4320 % n = 0 → n * m ≤ 60 → 4320 % (n * m) = 0 := by decide +kernel
theorem split_ok {ps : List Pr} (hps : PsOk ps) {i m : Nat} (hi : i < ps.length) (hm : m ∈ [2, 3, 4]) (h60 : (ps.getD i (0, 1)).2 * m ≤ 60) (h9 : ps.length + m ≤ 9) : PsOk (splitL ps i m) := by
  have hat := hps.at_ hi
  have hm2 : 2 ≤ m := by simp at hm; omega
  have hgi := hps.ok _ (by rw [getD_at hi]; exact List.getElem_mem hi : ps.getD i (0, 1) ∈ ps)
  obtain ⟨n, hn⟩ : ∃ n : Nat, (ps.getD i (0, 1)).2 = n := ⟨(ps.getD i (0, 1)).2.toNat, by omega⟩
  have hd : (n * m : Nat) ∣ 4320 := by
    have h1 : n ∣ 4320 := by have := hat.2.2; rw [hn] at this; exact Int.ofNat_dvd.mp this
    have h2 : n * m ≤ 60 := by rw [hn] at h60; have : ((n * m : Nat) : Int) ≤ 60 := by rw [Int.natCast_mul]; exact h60
                               omega
    exact Nat.dvd_of_mod_eq_zero (step_4320 n (by omega) m hm (Nat.mod_eq_zero_of_dvd h1) h2)
  refine ⟨fun e => ?_, ?_, fun p hp => ?_⟩
  · have := congrArg List.length e
    unfold splitL at this
    simp at this; omega
  · unfold splitL
    simp; omega
  · unfold splitL at hp
    rcases List.mem_append.mp hp with hp | hp
    · rcases List.mem_append.mp hp with hp | hp
      · exact hps.ok p (List.take_subset _ _ hp)
      · obtain ⟨j, hj, rfl⟩ := List.mem_map.mp hp
        rw [List.mem_range] at hj
        have hjj : (j : Int) * (ps.getD i (0, 1)).2 + (ps.getD i (0, 1)).2 ≤ (ps.getD i (0, 1)).2 * m := by
          have : ((j : Int) + 1) * (ps.getD i (0, 1)).2 ≤ m * (ps.getD i (0, 1)).2 := Int.mul_le_mul_of_nonneg_right (by omega) (by omega)
          rw [Int.add_mul, Int.mul_comm (m : Int)] at this; omega
        have hj0 : 0 ≤ (j : Int) * (ps.getD i (0, 1)).2 := Int.mul_nonneg (by omega) (by omega)
        refine ⟨by show 0 ≤ _ + _; omega, by show _ + _ < _ * _; omega, h60, ?_⟩
        show (ps.getD i (0, 1)).2 * m ∣ 4320
        rw [hn, ← Int.natCast_mul]
        exact Int.ofNat_dvd.mpr hd
    · exact hps.ok p (List.drop_subset _ _ hp)
theorem geo_1 : ∀ k : Nat, geo 1 k = k
  | 0 => rfl
  | k + 1 => by show geo 1 k + 1 ^ k = _; rw [geo_1 k, Int.one_pow]; omega
theorem hits_mul {ps : List Pr} {L : Nat} (hL : ∀ p ∈ ps, p.2 ∣ (L : Int)) (c : Nat) : hits ps (L * c) = hits ps L * c := by
  unfold hits
  rw [sumR_blocks (fun i => if had ps (i : Nat) then (1 : Int) else 0) 1 L (fun x => ?_) c, geo_1]
  have e : had ps ((x + L : Nat) : Int) = had ps x := by
    have e1 : ((x + L : Nat) : Int) = (x : Int) + L * 1 := by omega
    rw [e1]; exact had_add hL
  rw [e]; simp
theorem frac_mul {h l c : Int} (hl : 0 < l) (hc : 0 < c) : h * c / (Int.gcd (l * c) (h * c) : Int) = h / (Int.gcd l h : Int) ∧ l * c / (Int.gcd (l * c) (h * c) : Int) = l / (Int.gcd l h : Int) := by
  have hg : 0 < Int.gcd l h := Int.gcd_pos_of_ne_zero_left _ (by omega)
  have e : ((Int.gcd (l * c) (h * c) : Nat) : Int) = (Int.gcd l h : Int) * c := by
    rw [Int.gcd_mul_right, Int.natCast_mul]; congr 1; omega
  rw [e]
  exact ⟨Int.mul_ediv_mul_of_pos_left _ _ hc, Int.mul_ediv_mul_of_pos_left _ _ hc⟩
theorem share_split {ps : List Pr} (hps : PsOk ps) {i m : Nat} (hi : i < ps.length) (hm : 0 < m) (h2 : PsOk (splitL ps i m)) : shareV (splitL ps i m) = shareV ps := by
  obtain ⟨a0, a1, _, _⟩ := hps.lcm
  obtain ⟨b0, b1, _, _⟩ := h2.lcm
  have f3 := (lcmL_facts ps hps.pos).2.2
  have hd : (lcmL ps : Int) ∣ (lcmL (splitL ps i m) : Int) := f3 _ fun p hp => by
    rw [split_parts hi] at hp
    rcases List.mem_append.mp hp with hp | hp
    · exact b1 p (by unfold splitL; exact List.mem_append_left _ (List.mem_append_left _ hp))
    · rcases List.mem_cons.mp hp with e | hp
      · rw [e]
        refine Int.dvd_trans (Int.dvd_mul_right _ (m : Int)) (b1 ((ps.getD i (0, 1)).1 + ((0 : Nat) : Int) * (ps.getD i (0, 1)).2, (ps.getD i (0, 1)).2 * m) ?_)
        unfold splitL
        exact List.mem_append_left _ (List.mem_append_right _ (List.mem_map.mpr ⟨0, List.mem_range.mpr hm, rfl⟩))
      · exact b1 p (by unfold splitL; exact List.mem_append_right _ hp)
  obtain ⟨c, hc⟩ := Int.ofNat_dvd.mp hd
  have hc0 : 0 < c := by
    rcases Nat.eq_zero_or_pos c with e | e
    · rw [e] at hc; omega
    · exact e
  have hh : hits (splitL ps i m) (lcmL (splitL ps i m)) = hits ps (lcmL ps) * c := by
    have e : hits (splitL ps i m) (lcmL (splitL ps i m)) = hits ps (lcmL (splitL ps i m)) := by
      unfold hits
      exact sumR_congr _ fun x _ => by rw [had_split hps hi hm]
    rw [e, hc, hits_mul a1]
  unfold shareV
  rw [hh, hc, Int.natCast_mul]
  obtain ⟨e1, e2⟩ := frac_mul (h := hits ps (lcmL ps)) (l := (lcmL ps : Int)) (c := (c : Int)) (by omega) (by omega)
  rw [e1, e2]
theorem covers_split {ps : List Pr} (hps : PsOk ps) {i m : Nat} (hi : i < ps.length) (hm : 0 < m) (h2 : PsOk (splitL ps i m)) : (leftIn (splitL ps i m)).isNone = (leftIn ps).isNone := by
  rw [Bool.eq_iff_iff, Option.isNone_iff_eq_none, Option.isNone_iff_eq_none, leftIn_none h2.n1080, leftIn_none hps.n1080]
  exact forall_congr' fun x => by rw [had_split hps hi hm]
theorem exact_split {ps : List Pr} (hps : PsOk ps) {i m : Nat} (hi : i < ps.length) (hm : 0 < m) (h2 : PsOk (splitL ps i m)) : exactL (splitL ps i m) = exactL ps := by
  rw [Bool.eq_iff_iff, exactL_iff h2, exactL_iff hps]
  exact forall_congr' fun x => by rw [csum_split hps hi hm]
theorem covers_left {ps : List Pr} (hps : PsOk ps) : (leftIn ps).isNone = coversB ps := left_empty hps
/-- the greatest step of an exact cover of more than one -/
theorem exact_count {ps : List Pr} (hps : PsOk ps) (hex : exactL ps = true) (h1 : 1 < ps.length) {m : Int} (hm : m ∈ ps.map (·.2)) (hmax : ∀ y, y ∈ ps.map (·.2) → y ≤ m) : 2 ≤ (ps.map (·.2)).count m := by
  rw [exactL_iff hps] at hex
  refine Classical.byContradiction fun hlt => ?_
  obtain ⟨p, hp, rfl⟩ := List.mem_map.mp hm
  obtain ⟨l1, l2, e⟩ := List.append_of_mem hp
  subst e
  rw [List.map_append, List.map_cons, List.count_append, List.count_cons_self] at hlt
  have c1 : (l1.map (·.2)).count p.2 = 0 := by omega
  have c2 : (l2.map (·.2)).count p.2 = 0 := by omega
  rw [List.count_eq_zero] at c1 c2
  have hlts : ∀ q ∈ l1 ++ l2, q.2 < p.2 := fun q hq => by
    have hle := hmax q.2 (by
      rcases List.mem_append.mp hq with h | h
      · exact List.mem_map.mpr ⟨q, List.mem_append_left _ h, rfl⟩
      · exact List.mem_map.mpr ⟨q, List.mem_append_right _ (List.mem_cons_of_mem _ h), rfl⟩)
    have hne : q.2 ≠ p.2 := fun e => by
      rcases List.mem_append.mp hq with h | h
      · exact c1 (e ▸ List.mem_map.mpr ⟨q, h, rfl⟩)
      · exact c2 (e ▸ List.mem_map.mpr ⟨q, h, rfl⟩)
    omega
  have hne : l1 ++ l2 ≠ [] := fun e => by
    have := congrArg List.length e
    simp at this h1
    rw [this.1, this.2] at h1
    simp at h1
  obtain ⟨q, hq⟩ := List.exists_mem_of_ne_nil _ hne
  have hqp := hlts q hq
  have hq0 : 0 < q.2 := hps.pos q (by
    rcases List.mem_append.mp hq with h | h
    · exact List.mem_append_left _ h
    · exact List.mem_append_right _ (List.mem_cons_of_mem _ h))
  exact mirsky (fun q hq => by have := hps.ok q hq; exact ⟨this.1, this.2.1, this.2.2.2⟩) (fun x => hex x) (by omega) hlts
/-- one more part is added -/
structure Fr (L s t b : Int) : Prop where
  pos : 0 < b
  cop : Int.gcd t b = 1
  eq : t * L = b * s
theorem Fr.le {L s t b : Int} (h : Fr L s t b) (hL : 0 < L) : b ≤ L := by
  refine Int.le_of_dvd hL ?_
  have hd : b ∣ t * L := ⟨s, h.eq⟩
  have hc : Nat.Coprime b.natAbs t.natAbs := by have := h.cop; rw [Int.gcd_comm] at this; exact this
  have h2 : b.natAbs ∣ t.natAbs * L.natAbs := by rw [← Int.natAbs_mul]; exact Int.natAbs_dvd_natAbs.mpr hd
  exact Int.natAbs_dvd_natAbs.mp (hc.dvd_of_dvd_mul_left h2)
theorem Fr.plus {L s t b n : Int} (h : Fr L s t b) (hn : 0 < n) (hd : n ∣ L) : Fr L (s + L / n) ((t * n + 1 * b) / (Int.gcd (t * n + 1 * b) (b * n) : Int)) (b * n / (Int.gcd (t * n + 1 * b) (b * n) : Int)) := by
  have hbn : 0 < b * n := Int.mul_pos h.pos hn
  have hg : 0 < Int.gcd (t * n + 1 * b) (b * n) := Int.gcd_pos_of_ne_zero_right _ (by omega)
  have d1 : (Int.gcd (t * n + 1 * b) (b * n) : Int) ∣ t * n + 1 * b := Int.gcd_dvd_left ..
  have d2 : (Int.gcd (t * n + 1 * b) (b * n) : Int) ∣ b * n := Int.gcd_dvd_right ..
  refine ⟨Int.ediv_pos_of_pos_of_dvd hbn (by omega) d2, Int.gcd_ediv_gcd_ediv_gcd hg, ?_⟩
  have e0 : n * (L / n) = L := Int.mul_ediv_cancel' hd
  have e1 : (t * n + 1 * b) * L = b * n * (s + L / n) := by
    have := h.eq
    rw [Int.mul_add, Int.add_mul]
    have a1 : t * n * L = b * n * s := by rw [Int.mul_assoc, Int.mul_comm n L, ← Int.mul_assoc, this]; grind
    have a2 : 1 * b * L = b * n * (L / n) := by rw [Int.mul_assoc b n, e0, Int.one_mul]
    rw [a1, a2]
  have hg' : (0 : Int) < (Int.gcd (t * n + 1 * b) (b * n) : Int) := by omega
  clear hg
  generalize (Int.gcd (t * n + 1 * b) (b * n) : Int) = g at *
  obtain ⟨x, hx⟩ := d1
  obtain ⟨y, hy⟩ := d2
  rw [hx, hy] at e1 ⊢
  rw [Int.mul_ediv_cancel_left _ (by omega), Int.mul_ediv_cancel_left _ (by omega)]
  refine Int.eq_of_mul_eq_mul_left (a := g) (by omega) ?_
  rw [← Int.mul_assoc, ← Int.mul_assoc]; exact e1
theorem Fr.one {L t b : Int} (h : Fr L L t b) (hL : 0 < L) : t = 1 ∧ b = 1 := by
  have e : t = b := Int.eq_of_mul_eq_mul_right (a := L) (by omega) h.eq
  have hc := h.cop
  subst e
  rw [Int.gcd_self] at hc
  have := h.pos
  omega

theorem o_seqK {t u : ZS} {d : ZEnds} {ζ : Env} {S : Sto} (I : Env → Sto → Prop) (h1 : ∀ nx : Env → Sto → Prop, (∀ ζ S, I ζ S → nx ζ S) → t { d with nx := nx } ζ S) (h2 : ∀ ζ S, I ζ S → u d ζ S) : zSeq t u d ζ S := h1 _ h2
theorem eqbs_refl_ps (l : List Pr) : (psT l).okd = true ∧ (psT l).eqb (psT l) = true := by
  have key : Val.pures (l.map pV) = true ∧ Val.deps (l.map pV) ≤ 1 ∧ Val.eqbs (l.map pV) (l.map pV) = true := by
    induction l with
    | nil => exact ⟨rfl, Nat.zero_le _, rfl⟩
    | cons p l ih => exact ⟨by simp only [List.map_cons, Val.pures, Val.pure, pV, ih.1]; rfl, by simp only [List.map_cons, Val.deps, Val.dep, pV]; have := ih.2.1; omega, by simp only [List.map_cons, Val.eqbs, ih.2.2, Bool.and_true]; exact eqb_refl_tup2 _ _⟩
  refine ⟨?_, by simp only [Val.eqb]; exact key.2.2⟩
  unfold Val.okd
  simp only [Val.pure, Val.dep, key.1, Bool.true_and]
  exact decide_eq_true (by have := key.2.1; omega)
theorem eqbs_refl_intsV (l : List Int) : Val.eqbs (l.map Val.int) (l.map Val.int) = true := by
  induction l with
  | nil => rfl
  | cons i l ih => simp only [List.map_cons, Val.eqbs, ih, Bool.and_true]; rw [eqb_int]; simp
/-- a rising list is told by its members -/
theorem rising_uniq : ∀ {l k : List Int}, l.Pairwise (· < ·) → k.Pairwise (· < ·) → (∀ x, x ∈ l ↔ x ∈ k) → l = k
  | [], [], _, _, _ => rfl
  | [], b :: k, _, _, h => by have := (h b).mpr (List.mem_cons_self ..); cases this
  | a :: l, [], _, _, h => by have := (h a).mp (List.mem_cons_self ..); cases this
  | a :: l, b :: k, h1, h2, h => by
    rw [List.pairwise_cons] at h1 h2
    have e : a = b := by
      have m1 := (h a).mp (List.mem_cons_self ..)
      have m2 := (h b).mpr (List.mem_cons_self ..)
      rcases List.mem_cons.mp m1 with e | m1
      · exact e
      · rcases List.mem_cons.mp m2 with e | m2
        · exact e.symm
        · have := h2.1 a m1; have := h1.1 b m2; omega
    subst e
    congr 1
    refine rising_uniq h1.2 h2.2 fun x => ?_
    constructor
    · intro hx
      rcases List.mem_cons.mp ((h x).mp (List.mem_cons_of_mem _ hx)) with e | e
      · have := h1.1 x hx; omega
      · exact e
    · intro hx
      rcases List.mem_cons.mp ((h x).mpr (List.mem_cons_of_mem _ hx)) with e | e
      · have := h2.1 x hx; omega
      · exact e
theorem leastIn_rising (ps : List Pr) : ((leastIn ps).map fun (i : Nat) => (i : Int)).Pairwise (· < ·) := by
  rw [List.pairwise_map]
  have h : (leastIn ps).Pairwise (· < ·) := List.Pairwise.sublist (foldl_sub _ _) List.pairwise_lt_range
  exact h.imp fun h => by omega
theorem iV_map (l : List Nat) : l.map iV = (l.map fun (i : Nat) => (i : Int)).map Val.int := by rw [List.map_map]; rfl
theorem rd__law_right : ∀ vs S q, sp__law_right vs S q → zBody (w__law_right sp__law_bound sp__law_cover sp__law_does sp__law_is_exact sp__law_is_least sp__law_pairs sp__law_plus sp__law_pull sp_does_cover sp_is_exact sp_is_least_cover sp_least_cover sp_share_of sp_split_at) N__law_right vs S q := by
  rintro vs S q ⟨b, rfl, hb, h⟩
  unfold zBody w__law_right
  refine o_seq ?_
  refine o_asgK (fun v S1 => ∃ ps, v = psT ps ∧ PsOk ps ∧ BagS S b S1) (fun k hk => ?_) ?_
  · walk_at "zz"
    refine ⟨b, 4, rfl, by decide, by decide, hb, fun d _ _ x y c => ?_⟩
    have B := (Bag.refl hb).pull (x := x) (y := y) (c := c)
    generalize S.upd b (bagL x y c) = S1 at *
    walk_at "zz"
    refine o_ite (fun _ => ?_) (fun _ => ?_)
    · walk_at "zz"
      exact ⟨b, rfl, B.bag, fun ps hps x y c => hk _ _ ⟨ps, rfl, hps, B.pull⟩⟩
    · walk_at "zz"
      exact ⟨b, 6, rfl, by decide, by decide, B.bag, fun ps hps x y c => hk _ _ ⟨ps, rfl, hps, B.pull⟩⟩
  rintro v S1 ⟨ps, rfl, hps, B⟩
  obtain ⟨hL0, hL1, hL2, hL3⟩ := hps.lcm
  have hpl := hps.len
  have hne := List.length_pos_iff.mpr hps.ne
  walk_at "zz"
  refine ⟨ps, rfl, hps.n, ?_⟩
  walk_at "zz"
  refine ⟨ps, rfl, hps.n, ?_⟩
  walk_at "zz"
  refine ⟨ps, rfl, hps.n, ?_⟩
  walk_at "zz"
  refine ⟨ps, rfl, hps, ?_⟩
  walk_at "zz"
  refine o_ne rdS_bl rdS_bl (okd_bl _) (okd_bl _) ?_
  rw [eqb_bl]
  refine o_iteF (by simp) ?_
  walk_at "zz"
  refine ⟨ps, rfl, hps, ?_⟩
  walk_at "zz"
  refine o_ne rdS_bl rdS_bl (okd_bl _) (okd_bl _) ?_
  rw [eqb_bl]
  refine o_iteF (by simp) ?_
  walk_at "zz"
  refine ⟨ps, rfl, hps, ?_⟩
  walk_at "zz"
  refine o_ne rdS_bl rdS_bl (okd_bl _) (okd_bl _) ?_
  rw [eqb_bl, covers_left hps]
  refine o_iteF (by simp) ?_
  refine o_next ?_
  with_reducible refine o_seqK (fun ζ S2 => BagS S b S2 ∧ ∃ o5 o6 o7 o8, ζ = [some (.ref b), some (psT ps), some (.bl (exactL ps)), some (.bl (leastL ps)), some (.bl (coversB ps)), o5, o6, o7, o8, none, none, none, none, none, none]) (fun nx hnx => ?_) ?_
  · -- an exact one
    walk_at "zz"
    refine o_ite (fun hx => ?_) (fun hx => ?_)
    rotate_left
    · refine hnx _ _ ⟨B, _, _, _, _, rfl⟩
    have hlst := exact_least hps hx
    have hexi := (exactL_iff hps).mp hx
    walk_at "zz"
    refine ⟨len2, ?_⟩
    walk_at "zz"
    refine o_iseqM seqS_tup fun G hG => ?_
    refine o_forGo (fun i ζ S2 => S2 = S1 ∧ ∃ t c o6 o7, Fr (lcmL ps) (((ps.take i).map fun p => (lcmL ps : Int) / p.2).sum) t c ∧ ζ = [some (.ref b), some (psT ps), some (.bl (exactL ps)), some (.bl (leastL ps)), some (.bl (coversB ps)), some (.tup [.int t, .int c]), o6, o7, none, none, none, none, none, none, none])
      ⟨rfl, 0, 1, _, _, ⟨by decide, by decide, by simp⟩, rfl⟩ (fun i ζ S' _ _ => hG S' rfl) ?_ ?_
    · rintro i w ζ S2 ew ⟨rfl, t, c, o6, o7, hfr, rfl⟩
      obtain ⟨p, ep, rfl⟩ := get_map ew
      have hpo := hps.ok p (List.mem_of_getElem? ep)
      have hcl := hfr.le (by omega)
      have hc0 := hfr.pos
      walk_at "zz"
      refine ⟨len2, ?_⟩
      walk_at "zz"
      refine ⟨t, c, 1, p.2, rfl, hc0, by omega, by omega, by omega, ?_⟩
      walk_at "zz"
      refine ⟨rfl, _, _, _, _, ?_, rfl⟩
      rw [take_snoc ep, List.map_append, List.sum_append]
      have := hfr.plus (n := p.2) (by omega) (hL1 p (List.mem_of_getElem? ep))
      simpa using this
    rintro ζ S2 ⟨rfl, t, c, o6, o7, hfr, rfl⟩
    rw [List.length_map, List.take_length, exact_sum (fun p hp => ⟨hps.pos p hp, hL1 p hp⟩) fun x => hexi x] at hfr
    obtain ⟨rfl, rfl⟩ := hfr.one (by omega)
    walk_at "zz"
    refine o_lcS seqS_tup (fun v => some (.int (unP v).2)) (by have := szL; simp; omega) (fun w hw Sx k hSx hk => ?_) fun D hD => ?_
    · obtain ⟨p, hp, rfl⟩ := List.mem_map.mp hw
      walk_at "zz"
      exact hk
    have en : (ps.map pV).filterMap (fun v => some (.int (unP v).2)) = (ps.map (·.2)).map Val.int := by
      rw [fm_some, List.map_map, List.map_map]; rfl
    rw [en]
    have hD2 : S2.upd D (.lst ((ps.map (·.2)).map Val.int)) D = some (.lst ((ps.map (·.2)).map Val.int)) := Sto.upd_same
    have B2 := B.new (o := .lst ((ps.map (·.2)).map Val.int)) hD
    generalize S2.upd D (.lst ((ps.map (·.2)).map Val.int)) = S3 at *
    walk_at "zz"
    refine ⟨len2, ?_⟩
    refine o_ne rfl rfl rfl rfl ?_
    rw [eqb_refl_tup2]
    refine o_iteF (by simp) ?_
    walk_at "zz"
    rw [hlst]
    refine o_iteF (by simp) ?_
    walk_at "zz"
    refine o_len seqS_tup ?_
    rw [List.length_map]
    walk_at "zz"
    refine o_ite (fun h1 => ?_) (fun h1 => ?_)
    · have h1' : 1 < ps.length := by
        have : (1 : Int) < ps.length := by simpa using h1
        omega
      walk_at "zz"
      refine ⟨⟨D, _, rfl, hD2⟩, ?_⟩
      walk_at "zz"
      refine o_minL (ns := ps.map (·.2)) (by simp only [lstS, hD2]) (by rw [List.length_map]; exact hne) fun m hm hmax => ?_
      refine o_anil ?_
      refine o_count hD2 ?_
      have hcnt := exact_count hps hx h1' hm hmax
      walk_at "zz"
      refine o_iteF (by simp; omega) ?_
      refine hnx _ _ ⟨B2, _, _, _, _, by rw [hlst]; rfl⟩
    · refine o_iteF (by simp) ?_
      refine hnx _ _ ⟨B2, _, _, _, _, by rw [hlst]; rfl⟩
  rintro ζ S2 ⟨B2, o5, o6, o7, o8, rfl⟩
  clear B
  -- the bound
  with_reducible refine o_seqK (fun ζ S3 => S3 = S2 ∧ ζ = [some (.ref b), some (psT ps), some (.bl (exactL ps)), some (.bl (leastL ps)), some (.bl (coversB ps)), o5, o6, o7, o8, none, none, none, none, none, none]) (fun nx hnx => ?_) ?_
  · walk_at "zz"
    cases hl : leastL ps with
    | false => exact hnx _ _ ⟨rfl, by rw [hl]⟩
    | true =>
      walk_at "zz"
      refine o_len seqS_tup ?_
      rw [List.length_map]
      walk_at "zz"
      refine ⟨ps, rfl, hps.n, ?_⟩
      have hbd := least_bound hps hl
      refine o_cmp ?_
      refine o_iteF (by simp; omega) ?_
      exact hnx _ _ ⟨rfl, by rw [hl]⟩
  rintro ζ S3 ⟨rfl, rfl⟩
  walk_at "zz"
  refine ⟨ps, rfl, hps, ?_⟩
  rw [covers_left hps]
  generalize hfv : (if coversB ps = true then Val.tup ((leastIn ps).map iV) else Val.non) = fv
  walk_at "zz"
  have hraw : fv.isRaw = false ∧ fv.isNon = !coversB ps := by
    rw [← hfv]; cases coversB ps <;> exact ⟨rfl, rfl⟩
  refine ⟨hraw.1, ?_⟩
  walk_at "zz"
  refine o_eq rdS_bl rdS_bl (okd_bl _) (okd_bl _) ?_
  rw [eqb_bl, hraw.2]
  refine o_iteF (by cases coversB ps <;> simp) ?_
  refine o_next ?_
  -- the least cover told
  with_reducible refine o_seqK (fun ζ S4 => BagS S b S4 ∧ ∃ o10, ζ = [some (.ref b), some (psT ps), some (.bl (exactL ps)), some (.bl (leastL ps)), some (.bl (coversB ps)), o5, o6, o7, o8, some fv, o10, none, none, none, none]) (fun nx hnx => ?_) ?_
  · walk_at "zz"
    cases hc : coversB ps with
    | false => exact hnx _ _ ⟨B2, none, by rw [hc]; rfl⟩
    | true =>
      rw [hc] at hfv
      subst hfv
      have hnone : leftIn ps = none := by
        have := covers_left hps
        rw [hc] at this
        simpa using this
      have hlt := leastIn_lt (ps := ps)
      have hlen : (leastIn ps).length ≤ 8 := by
        have := (foldl_sub (ps := ps) (List.range ps.length) (List.range ps.length)).length_le
        unfold leastIn
        rw [List.length_range] at this
        omega
      show (if true = true then _ else _)
      refine o_iteT rfl ?_
      walk_at "zz"
      refine o_list seqS_tup fun p1 hp1 => ?_
      have B3 := B2.new (o := .lst ((leastIn ps).map iV)) hp1
      have F3 : S3.upd p1 (.lst ((leastIn ps).map iV)) p1 = some (.lst ((leastIn ps).map iV)) := Sto.upd_same
      generalize S3.upd p1 (.lst ((leastIn ps).map iV)) = S4 at *
      walk_at "zz"
      rw [iV_map]
      refine o_sortSet (by rw [List.length_map]; omega) fun ms p2 hms hmem hp2 => ?_
      have ems : ms = (leastIn ps).map fun (i : Nat) => (i : Int) := rising_uniq hms (leastIn_rising ps) hmem
      subst ems
      have B4 := B3.new (o := .lst (((leastIn ps).map fun (i : Nat) => (i : Int)).map Val.int)) hp2
      have F4 := upd_of (m := .lst (((leastIn ps).map fun (i : Nat) => (i : Int)).map Val.int)) hp2 F3
      have F5 : S4.upd p2 (.lst (((leastIn ps).map fun (i : Nat) => (i : Int)).map Val.int)) p2 = some (.lst (((leastIn ps).map fun (i : Nat) => (i : Int)).map Val.int)) := Sto.upd_same
      generalize S4.upd p2 (.lst (((leastIn ps).map fun (i : Nat) => (i : Int)).map Val.int)) = S5 at *
      rw [iV_map] at F4
      refine o_ne (rdS_at F4) (rdS_at F5) (okd_Ints _) (okd_Ints _) ?_
      have er : (Val.fl (((leastIn ps).map fun (i : Nat) => (i : Int)).map Val.int)).eqb (.fl (((leastIn ps).map fun (i : Nat) => (i : Int)).map Val.int)) = true := by simp only [Val.eqb]; exact eqbs_refl_intsV _
      rw [er]
      refine o_iteF (by simp) ?_
      rw [← iV_map]
      walk_at "zz"
      refine o_lcS seqS_tup (fun v => some (pV (ps.getD (unI v).toNat (0, 1)))) (by have := szL; simp; omega) (fun w hw Sx k hSx hk => ?_) fun D hD => ?_
      · obtain ⟨j, hj, rfl⟩ := iV_mem hw
        walk_at "zz"
        refine o_ixS (i := (j : Nat)) seqS_tup (atI_nat (get_pV (hlt j hj))) ?_
        exact hk
      have ee : ((leastIn ps).map iV).filterMap (fun v => some (pV (ps.getD (unI v).toNat (0, 1)))) = (sub ps (leastIn ps)).map pV := by
        rw [fm_some, List.map_map]; unfold sub; rw [List.map_map]; rfl
      rw [ee]
      walk_at "zz"
      refine o_tuple seqS_upd ?_
      refine ⟨S5, Sub.new hD, ?_⟩
      walk_at "zz"
      refine ⟨sub ps (leastIn ps), rfl, ⟨by unfold sub; rw [List.length_map]; exact hlen, fun p hp => ?_⟩, ?_⟩
      · obtain ⟨j, hj, rfl⟩ := List.mem_map.mp hp
        exact hps.at_ (hlt j hj)
      rw [least_rest hps hnone]
      refine o_iteF (by simp) ?_
      refine hnx _ _ ⟨B4, none, ?_⟩
      rw [hc]; rfl
  rintro ζ S4 ⟨B4, o10, rfl⟩
  clear B2
  walk_at "zz"
  refine o_len seqS_tup ?_
  rw [List.length_map]
  walk_at "zz"
  refine ⟨b, _, rfl, by omega, by omega, B4.bag, fun i i0 i1 x y c => ?_⟩
  have B5 := B4.pull (x := x) (y := y) (c := c)
  generalize S4.upd b (bagL x y c) = S5 at *
  walk_at "zz"
  refine ⟨b, _, rfl, by decide, by decide, B5.bag, fun e e0 e1 x y c => ?_⟩
  have B6 := B5.pull (x := x) (y := y) (c := c)
  generalize S5.upd b (bagL x y c) = S6 at *
  obtain ⟨i, rfl⟩ : ∃ n : Nat, i = n := ⟨i.toNat, by omega⟩
  obtain ⟨m, hm⟩ : ∃ m : Nat, 2 + e = m := ⟨(2 + e).toNat, by omega⟩
  have hm3 : m ∈ [2, 3, 4] := by simp; omega
  have hi : i < ps.length := by omega
  have hat := hps.at_ hi
  walk_at "zz"
  refine ⟨len2, ?_⟩
  rw [hm]
  walk_at "zz"
  refine o_ixS (i := (i : Nat)) seqS_tup (atI_nat (get_pV hi)) ?_
  walk_at "zz"
  refine o_mul (mulOk_l (by omega) (by omega)) ?_
  walk_at "zz"
  have fin : q (.bl true) S6 → True := fun _ => trivial
  refine o_ite (fun hc1 => ?_) (fun hc1 => ?_)
  rotate_left
  · refine o_iteF (by simp) ?_
    walk_at "zz"
    exact bag_end B6 h
  have h60 : (ps.getD i (0, 1)).2 * m ≤ 60 := by simpa using hc1
  walk_at "zz"
  refine o_len seqS_tup ?_
  rw [List.length_map]
  walk_at "zz"
  refine o_ite (fun hc2 => ?_) (fun hc2 => ?_)
  rotate_left
  · walk_at "zz"
    exact bag_end B6 h
  have h9 : ps.length + m ≤ 9 := by
    have : (ps.length : Int) + m ≤ 9 := by simpa using hc2
    omega
  have h2 := split_ok hps hi hm3 h60 h9
  have hm0 : 0 < m := by simp at hm3; omega
  walk_at "zz"
  rw [cutZ_to]
  show RgOk2 _ ∧ _
  refine ⟨⟨by omega, by omega⟩, ?_⟩
  rw [Int.toNat_natCast]
  refine lcGo_pure (fun v => some (pV ((ps.getD i (0, 1)).1 + unI v * (ps.getD i (0, 1)).2, (ps.getD i (0, 1)).2 * m))) (by have := szL; rw [ints_length]; omega) (fun _ _ => trivial) (fun w hw Sx k hSx hk => ?_) fun D hD => ?_
  · obtain ⟨j, hj, rfl⟩ := List.mem_map.mp hw
    walk_at "zz"
    refine o_mul (mulOk_l (by omega) (by omega)) ?_
    walk_at "zz"
    refine o_mul (mulOk_l (by omega) (by omega)) ?_
    refine ⟨len2, ?_⟩
    rw [Int.mul_comm (ps.getD i (0, 1)).2 (0 + (j : Int))]
    exact hk
  have en : (rgv 0 m).filterMap (fun v => some (pV ((ps.getD i (0, 1)).1 + unI v * (ps.getD i (0, 1)).2, (ps.getD i (0, 1)).2 * m))) = ((List.range m).map fun j => (((ps.getD i (0, 1)).1 + (j : Nat) * (ps.getD i (0, 1)).2, (ps.getD i (0, 1)).2 * m) : Pr)).map pV := by
    rw [fm_some, rgv_nat, List.map_map, List.map_map]; rfl
  rw [en]
  walk_at "zz"
  refine o_tuple seqS_upd ?_
  refine ⟨S6, Sub.new hD, ?_⟩
  refine o_addT (by have := szL; simp; omega) ?_
  walk_at "zz"
  have ea : ((i : Int) + 1) = ((i + 1 : Nat) : Int) := by omega
  rw [ea, cutZ_from]
  refine o_addT (by have := szL; simp; omega) ?_
  have es : ((ps.map pV).take i ++ ((List.range m).map fun j => (((ps.getD i (0, 1)).1 + (j : Nat) * (ps.getD i (0, 1)).2, (ps.getD i (0, 1)).2 * m) : Pr)).map pV) ++ (ps.map pV).drop (i + 1) = (splitL ps i m).map pV := by
    unfold splitL
    rw [List.map_append, List.map_append, List.map_take, List.map_drop]
  rw [es]
  walk_at "zz"
  refine ⟨ps, i, m, rfl, hps, hi, by simp at hm3; omega, by simp at hm3; omega, h2, ?_⟩
  walk_at "zz"
  have er := eqbs_refl_ps (splitL ps i m)
  refine o_ne rfl rfl er.1 er.1 ?_
  rw [er.2]
  refine o_iteF (by simp) ?_
  walk_at "zz"
  refine ⟨_, rfl, h2, ?_⟩
  rw [covers_split hps hi hm0 h2, covers_left hps]
  walk_at "zz"
  refine o_ne rdS_bl rdS_bl (okd_bl _) (okd_bl _) ?_
  rw [eqb_bl]
  refine o_iteF (by simp) ?_
  walk_at "zz"
  refine ⟨_, rfl, h2, ?_⟩
  rw [exact_split hps hi hm0 h2]
  walk_at "zz"
  refine o_ne rdS_bl rdS_bl (okd_bl _) (okd_bl _) ?_
  rw [eqb_bl]
  refine o_iteF (by simp) ?_
  walk_at "zz"
  refine ⟨_, rfl, h2, ?_⟩
  walk_at "zz"
  refine ⟨_, rfl, hps, ?_⟩
  rw [share_split hps hi hm0 h2]
  refine o_ne rfl rfl rfl rfl ?_
  have esh : (shareV ps).eqb (shareV ps) = true := eqb_refl_tup2 _ _
  rw [esh]
  refine o_iteF (by simp) ?_
  walk_at "zz"
  exact bag_end B6 h

def sp_law : ZSp := fun vs S q => ∃ ns : List Int, vs = [.fl (ns.map Val.int)] ∧ q (.bl true) S
def five : List Pr := [(0, 2), (0, 3), (1, 4), (5, 6), (7, 12)]
theorem five_ok : PsOk five := ⟨by decide, by decide, by decide⟩
theorem t1_ok : PsOk [(0, 2), (1, 4), (3, 4)] := ⟨by decide, by decide, by decide⟩
theorem t2_ok : PsOk [(0, 2), (0, 1), (1, 3)] := ⟨by decide, by decide, by decide⟩
theorem t3_ok : PsOk [(0, 2), (1, 2)] := ⟨by decide, by decide, by decide⟩
theorem t4_ok : PsOk [(0, 1)] := ⟨by decide, by decide, by decide⟩
theorem t5_ok : PsOk [(0, 1), (0, 2)] := ⟨by decide, by decide, by decide⟩
theorem v1 : exactL five = false := by decide +kernel
theorem v2 : leastL five = true := by decide +kernel
theorem v3 : exactL [(0, 2), (1, 4), (3, 4)] = true := by decide +kernel
theorem v4 : (leftIn [(0, 2), (0, 1), (1, 3)]).isNone = true ∧ leastIn [(0, 2), (0, 1), (1, 3)] = [1] := by decide +kernel
theorem v5 : splitL [(0, 2), (1, 2)] 1 2 = [(0, 2), (1, 4), (3, 4)] := by decide +kernel
theorem v6 : exactL [(0, 1)] = true := by decide +kernel
theorem v7 : exactL [(0, 1), (0, 2)] = false := by decide +kernel
theorem rd_law : ∀ vs S q, sp_law vs S q → zBody (w_law sp__law_bag sp__law_right sp_is_exact sp_is_least_cover sp_least_cover sp_split_at) N_law vs S q := by
  rintro vs S q ⟨ns, rfl, h⟩
  unfold zBody w_law
  walk_at "zz"
  refine o_len seqS_fl ?_
  rw [List.length_map]
  walk_at "zz"
  have hR : ∃ n : Int, (if (if (ns.length : Int) < 3 then (ns.length : Int) else 3) > 1 then (if (ns.length : Int) < 3 then (ns.length : Int) else 3) else 1) = n ∧ 1 ≤ n ∧ n ≤ 3 := ⟨_, rfl, by split <;> split <;> omega, by split <;> split <;> omega⟩
  obtain ⟨n, en, hn1, hn3⟩ := hR
  rw [en]
  show RgOk2 _ ∧ _
  refine ⟨⟨by omega, by omega⟩, ?_⟩
  refine o_forGo (fun i ζ S' => Sub S S' ∧ ∃ o1 o2 o3, ζ = [some (.fl (ns.map Val.int)), o1, o2, o3, none, none]) ⟨Sub.refl S, _, _, _, rfl⟩ (fun _ _ _ _ _ => trivial) ?_ ?_
  · rintro i w ζ S' ew ⟨hs, o1, o2, o3, rfl⟩
    have hi : i < n.toNat := by
      have := (List.getElem?_eq_some_iff.mp ew).1
      rw [ints_length] at this; exact this
    rw [ints_get hi, Int.zero_add] at ew
    cases ew
    walk_at "zz"
    refine ⟨_, ns, i, rfl, seqS_fl, fun p x y c hp => ?_⟩
    have hSp := hs.nn hp
    have hs2 : Sub S (S'.upd p (bagL x y c)) := hs.trans (Sub.new hp)
    have hb2 : Bag (S'.upd p (bagL x y c)) p := ⟨x, y, c, Sto.upd_same⟩
    generalize S'.upd p (bagL x y c) = S2 at *
    walk_at "zz"
    refine ⟨⟨by decide, by decide⟩, ?_⟩
    refine o_forGo (fun j ζ S3 => Sub S S3 ∧ Bag S3 p ∧ ∃ o3, ζ = [some (.fl (ns.map Val.int)), some (.int (i : Nat)), some (.ref p), o3, none, none]) ⟨hs2, hb2, _, rfl⟩ (fun _ _ _ _ _ => trivial) ?_ ?_
    · rintro j w ζ S3 _ ⟨hs3, hb3, o3, rfl⟩
      walk_at "zz"
      refine ⟨p, rfl, hb3, fun x y c => ?_⟩
      refine o_iteF (by simp) ?_
      walk_at "zz"
      exact ⟨hs3.skip hSp, ⟨x, y, c, Sto.upd_same⟩, _, rfl⟩
    · rintro ζ S3 ⟨hs3, hb3, o3, rfl⟩
      exact ⟨hs3, _, _, _, rfl⟩
  · rintro ζ S' ⟨hs, o1, o2, o3, rfl⟩
    walk_at "zz"
    iterate 5 (refine ⟨len2, ?_⟩; walk_at "zz")
    refine ⟨len5, ?_⟩
    walk_at "zz"
    refine ⟨five, rfl, five_ok, ?_⟩
    rw [v1]
    walk_at "zz"
    refine ⟨five, rfl, five_ok, ?_⟩
    rw [v2]
    walk_at "zz"
    iterate 3 (refine ⟨len2, ?_⟩; walk_at "zz")
    refine ⟨len3, ?_⟩
    walk_at "zz"
    refine ⟨_, rfl, t1_ok, ?_⟩
    rw [v3]
    walk_at "zz"
    iterate 3 (refine ⟨len2, ?_⟩; walk_at "zz")
    refine ⟨len3, ?_⟩
    walk_at "zz"
    refine ⟨_, rfl, t2_ok, ?_⟩
    rw [v4.1, v4.2]
    walk_at "zz"
    iterate 2 (refine ⟨len2, ?_⟩; walk_at "zz")
    refine ⟨len2, ?_⟩
    walk_at "zz"
    refine ⟨[(0, 2), (1, 2)], 1, 2, rfl, t3_ok, by decide, by decide, by decide, by rw [v5]; exact t1_ok, ?_⟩
    rw [v5]
    walk_at "zz"
    refine ⟨len2, ?_⟩
    walk_at "zz"
    refine ⟨len1, ?_⟩
    walk_at "zz"
    refine ⟨_, rfl, t4_ok, ?_⟩
    rw [v6]
    walk_at "zz"
    refine ⟨len6, fun p hp => ?_⟩
    walk_at "zz"
    refine ⟨len1, ?_⟩
    walk_at "zz"
    iterate 3 (refine ⟨len2, ?_⟩; walk_at "zz")
    refine ⟨len3, ?_⟩
    walk_at "zz"
    refine ⟨len6, fun p2 hp2 => ?_⟩
    refine o_eq (rdS_at (upd_of hp2 Sto.upd_same)) rdS_upd (by decide) (by decide) ?_
    refine o_iteT (by decide) ?_
    walk_at "zz"
    iterate 2 (refine ⟨len2, ?_⟩; walk_at "zz")
    refine ⟨len2, ?_⟩
    walk_at "zz"
    refine ⟨_, rfl, t5_ok, ?_⟩
    rw [v7]
    walk_at "zz"
    exact ⟨S, (hs.trans (Sub.new hp)).trans (Sub.new hp2), h⟩

end Z

namespace Z
open PySem PySem.Spec PyProof.Rows L2
def topS (i : Nat) : Stmt := PySem.Challenge.pw_countwide_k59_whole_exact_and_least_cove.main.body.getD i (.Pass ⟨0, 0, 0, 0⟩)
structure Tx (K : PySem.W.Frag) (mg : Str → Option Value) : Prop where
  abs : mg "abs" = none
  all : mg "all" = none
  any : mg "any" = none
  bool : mg "bool" = none
  enumerate : mg "enumerate" = none
  int : mg "int" = none
  isinstance : mg "isinstance" = none
  len : mg "len" = none
  list : mg "list" = none
  max : mg "max" = none
  min : mg "min" = none
  range : mg "range" = none
  set : mg "set" = none
  sorted : mg "sorted" = none
  sum : mg "sum" = none
  tuple : mg "tuple" = none
  c_MOST_PAIRS : ∃ u, mg "MOST_PAIRS" = some u ∧ RelV (.int 8) u
  c_MOST_STEP : ∃ u, mg "MOST_STEP" = some u ∧ RelV (.int 60) u
abbrev s_is_whole : Stmt := topS 6
theorem sc_is_whole : FnScope ["thing", "least", "most"] ["thing", "least", "most"] (defScope s_is_whole) := ⟨rfl, rfl, rfl, by decide +kernel, rfl, by decide +kernel, by decide +kernel⟩
theorem d_is_whole {P : Program} {w : World} {K : PySem.W.Frag} {mg : Str → Option Value} {base : Heap} {k : Nat} {f : Addr} {fd : FuncData} (T : Tx K mg) (F : FunD K "is_whole" "is_whole" (defArgs s_is_whole) (defBody s_is_whole) (defScope s_is_whole) [] [("least", V.non), ("most", V.non)] f fd)
    {sp : ZSp} (len : ∀ vs S q, sp vs S q → vs.length = 3) (rd : ∀ vs S q, sp vs S q → zBody (w_is_whole) N_is_whole vs S q) : FnOk P w K mg base CX0 (k + 1) f fd ["thing", "least", "most"] (LF K sp) :=
  have nd := sc_is_whole.nd
  zfn F sc_is_whole len fun cdv A outer s H E hr => ⟨w_is_whole, (zss_cons (zs_if (PZW.pt (zw_or (zt_not (zt_val (z_isi (by decide) rfl T.isinstance (zv 0) rfl T.int zb_int))) (zw_or1 (zt_val (z_isi (by decide) rfl T.isinstance (zv 0) rfl T.bool zb_bool)))))
    (zss_one (zs_ret z_bl))
    zss_nil)
    (zss_cons (zs_if (PZW.pt (zw_and (zt_notN (zv 1)) (zw_and1 (zt_lt (zv 0) (zv 1)))))
    (zss_one (zs_ret z_bl))
    zss_nil)
    (zss_one (zs_ret (z_or (z_isN (zv 2)) (z_one (z_le (zv 0) (zv 2)))))))), rd⟩

abbrev s_has_number : Stmt := topS 10
theorem sc_has_number : FnScope ["pair", "number"] ["pair", "number"] (defScope s_has_number) := ⟨rfl, rfl, rfl, by decide +kernel, rfl, by decide +kernel, by decide +kernel⟩
theorem d_has_number {P : Program} {w : World} {K : PySem.W.Frag} {mg : Str → Option Value} {base : Heap} {k : Nat} {f : Addr} {fd : FuncData} (T : Tx K mg) (F : FunD K "has_number" "has_number" (defArgs s_has_number) (defBody s_has_number) (defScope s_has_number) [] [] f fd) (hm : mg "has_number" = some (.ref f))
    {sp : ZSp} (len : ∀ vs S q, sp vs S q → vs.length = 2) (rd : ∀ vs S q, sp vs S q → zBody (w_has_number) N_has_number vs S q) : ZCal P w K mg base (k + 1) "has_number" sp :=
  have nd := sc_has_number.nd
  zcal F hm (F.bindsN (ps := ["pair", "number"]) fun _ _ _ _ _ _ us hl => match us, hl with | [_, _], _ => rfl) sc_has_number len fun cdv A outer s H E hr => ⟨w_has_number, (zss_one (zs_ret (z_eq hr (z_mod (z_sub (zv 1) (z_ix (zv 0) z_int)) (z_ix (zv 0) z_int)) z_int))), rd⟩

abbrev s_greatest_shared : Stmt := topS 11
theorem sc_greatest_shared : FnScope ["one", "other"] ["one", "other"] (defScope s_greatest_shared) := ⟨rfl, rfl, rfl, by decide +kernel, rfl, by decide +kernel, by decide +kernel⟩
theorem d_greatest_shared {P : Program} {w : World} {K : PySem.W.Frag} {mg : Str → Option Value} {base : Heap} {k : Nat} {f : Addr} {fd : FuncData} (T : Tx K mg) (F : FunD K "greatest_shared" "greatest_shared" (defArgs s_greatest_shared) (defBody s_greatest_shared) (defScope s_greatest_shared) [] [] f fd) (hm : mg "greatest_shared" = some (.ref f))
    {sp : ZSp} (len : ∀ vs S q, sp vs S q → vs.length = 2) (rd : ∀ vs S q, sp vs S q → zBody (w_greatest_shared) N_greatest_shared vs S q) : ZCal P w K mg base (k + 1) "greatest_shared" sp :=
  have nd := sc_greatest_shared.nd
  zcal F hm (F.bindsN (ps := ["one", "other"]) fun _ _ _ _ _ _ us hl => match us, hl with | [_, _], _ => rfl) sc_greatest_shared len fun cdv A outer s H E hr => ⟨w_greatest_shared, (zss_cons (zs_while PassesOwn.never (zt_ne hr (zv 1) z_int)
    (zss_one (zs_par (i := 0) (j := 1) rfl nd rfl rfl (by decide) rfl rfl (za_cons (zv 1) (za_cons (z_mod (zv 0) (zv 1)) za_nil)) rfl)))
    (zss_one (zs_ret (zv 0)))), rd⟩

abbrev s_least_common : Stmt := topS 12
theorem sc_least_common : FnScope ["one", "other"] ["one", "other"] (defScope s_least_common) := ⟨rfl, rfl, rfl, by decide +kernel, rfl, by decide +kernel, by decide +kernel⟩
theorem d_least_common {P : Program} {w : World} {K : PySem.W.Frag} {mg : Str → Option Value} {base : Heap} {k : Nat} {f : Addr} {fd : FuncData} (T : Tx K mg) (F : FunD K "least_common" "least_common" (defArgs s_least_common) (defBody s_least_common) (defScope s_least_common) [] [] f fd) (hm : mg "least_common" = some (.ref f)) (g_greatest_shared : ZSp) (c_greatest_shared : ZCal P w K mg base k "greatest_shared" g_greatest_shared)
    {sp : ZSp} (len : ∀ vs S q, sp vs S q → vs.length = 2) (rd : ∀ vs S q, sp vs S q → zBody (w_least_common g_greatest_shared) N_least_common vs S q) : ZCal P w K mg base (k + 1) "least_common" sp :=
  have nd := sc_least_common.nd
  zcal F hm (F.bindsN (ps := ["one", "other"]) fun _ _ _ _ _ _ us hl => match us, hl with | [_, _], _ => rfl) sc_least_common len fun cdv A outer s H E hr => ⟨w_least_common g_greatest_shared, (zss_one (zs_ret (z_mul (z_fdiv (zv 0) (z_call c_greatest_shared hr (Nat.le_refl _) rfl (za_cons (zv 0) (za_cons (zv 1) za_nil)))) (zv 1)))), rd⟩

abbrev s_meet_in : Stmt := topS 13
theorem sc_meet_in : FnScope ["pair", "other", "part", "step", "rest"] ["pair", "other"] (defScope s_meet_in) := ⟨rfl, rfl, rfl, by decide +kernel, rfl, by decide +kernel, by decide +kernel⟩
theorem d_meet_in {P : Program} {w : World} {K : PySem.W.Frag} {mg : Str → Option Value} {base : Heap} {k : Nat} {f : Addr} {fd : FuncData} (T : Tx K mg) (F : FunD K "meet_in" "meet_in" (defArgs s_meet_in) (defBody s_meet_in) (defScope s_meet_in) [] [] f fd) (hm : mg "meet_in" = some (.ref f)) (g_greatest_shared : ZSp) (g_least_common : ZSp) (c_greatest_shared : ZCal P w K mg base k "greatest_shared" g_greatest_shared) (c_least_common : ZCal P w K mg base k "least_common" g_least_common)
    {sp : ZSp} (len : ∀ vs S q, sp vs S q → vs.length = 2) (rd : ∀ vs S q, sp vs S q → zBody (w_meet_in g_greatest_shared g_least_common) N_meet_in vs S q) : ZCal P w K mg base (k + 1) "meet_in" sp :=
  have nd := sc_meet_in.nd
  zcal F hm (F.bindsN (ps := ["pair", "other"]) fun _ _ _ _ _ _ us hl => match us, hl with | [_, _], _ => rfl) sc_meet_in len fun cdv A outer s H E hr => ⟨w_meet_in g_greatest_shared g_least_common, (zss_cons (zs_set (i := 2) nd rfl (by first | exact .inl rfl | exact .inr rfl) (z_call c_greatest_shared hr (Nat.le_refl _) rfl (za_cons (z_ix (zv 0) z_int) (za_cons (z_ix (zv 1) z_int) za_nil))))
    (zss_cons (zs_if (zt_ne hr (z_mod (z_sub (z_ix (zv 1) z_int) (z_ix (zv 0) z_int)) (zv 2)) z_int)
    (zss_one (zs_ret z_non))
    zss_nil)
    (zss_cons (zs_par (i := 3) (j := 4) rfl nd rfl rfl (by decide) rfl rfl (za_cons (z_call c_least_common hr (Nat.le_refl _) rfl (za_cons (z_ix (zv 0) z_int) (za_cons (z_ix (zv 1) z_int) za_nil))) (za_cons (z_ix (zv 0) z_int) za_nil)) rfl)
    (zss_cons (zs_while PassesOwn.never (zt_ne hr (z_mod (z_sub (zv 4) (z_ix (zv 1) z_int)) (z_ix (zv 1) z_int)) z_int)
    (zss_one (zs_aug (i := 4) nd rfl (by first | exact .inl rfl | exact .inr rfl) (z_ix (zv 0) z_int) ip_add zip_add)))
    (zss_one (zs_ret (z_tup (za_cons (z_mod (zv 4) (zv 3)) (za_cons (zv 3) za_nil))))))))), rd⟩

abbrev s_is_had : Stmt := topS 14
theorem sc_is_had : FnScope ["pairs", "number", "pair"] ["pairs", "number"] (defScope s_is_had) := ⟨rfl, rfl, rfl, by decide +kernel, rfl, by decide +kernel, by decide +kernel⟩
theorem d_is_had {P : Program} {w : World} {K : PySem.W.Frag} {mg : Str → Option Value} {base : Heap} {k : Nat} {f : Addr} {fd : FuncData} (T : Tx K mg) (F : FunD K "is_had" "is_had" (defArgs s_is_had) (defBody s_is_had) (defScope s_is_had) [] [] f fd) (hm : mg "is_had" = some (.ref f)) (g_has_number : ZSp) (c_has_number : ZCal P w K mg base k "has_number" g_has_number)
    {sp : ZSp} (len : ∀ vs S q, sp vs S q → vs.length = 2) (rd : ∀ vs S q, sp vs S q → zBody (w_is_had g_has_number) N_is_had vs S q) : ZCal P w K mg base (k + 1) "is_had" sp :=
  have nd := sc_is_had.nd
  zcal F hm (F.bindsN (ps := ["pairs", "number"]) fun _ _ _ _ _ _ us hl => match us, hl with | [_, _], _ => rfl) sc_is_had len fun cdv A outer s H E hr => ⟨w_is_had g_has_number, (zss_one (zs_ret (z_dr (z_callB (cr_any rfl) zBls_ok rfl T.any zb_any (za_cons (z_lc (own := [("pair", 2)]) rfl nd (zi_seq (zv 0)) (blkOk_by (by kernel_rfl)) (fun _ _ _ _ _ => (zn 2 nd)) (fun _ _ _ _ _ => zts_nil) (fun _ _ _ _ _ => (z_call c_has_number hr (Nat.le_refl _) rfl (za_cons (zv 2) (za_cons (zv 1) za_nil))))) za_nil))))), rd⟩

abbrev s_left_in : Stmt := topS 15
theorem sc_left_in : FnScope ["pairs", "number"] ["pairs"] (defScope s_left_in) := ⟨rfl, rfl, rfl, by decide +kernel, rfl, by decide +kernel, by decide +kernel⟩
theorem d_left_in {P : Program} {w : World} {K : PySem.W.Frag} {mg : Str → Option Value} {base : Heap} {k : Nat} {f : Addr} {fd : FuncData} (T : Tx K mg) (F : FunD K "left_in" "left_in" (defArgs s_left_in) (defBody s_left_in) (defScope s_left_in) [] [] f fd) (hm : mg "left_in" = some (.ref f)) (g_is_had : ZSp) (c_is_had : ZCal P w K mg base k "is_had" g_is_had)
    {sp : ZSp} (len : ∀ vs S q, sp vs S q → vs.length = 1) (rd : ∀ vs S q, sp vs S q → zBody (w_left_in g_is_had) N_left_in vs S q) : ZCal P w K mg base (k + 1) "left_in" sp :=
  have nd := sc_left_in.nd
  zcal F hm (F.bindsN (ps := ["pairs"]) fun _ _ _ _ _ _ us hl => match us, hl with | [_], _ => rfl) sc_left_in len fun cdv A outer s H E hr => ⟨w_left_in g_is_had, (zss_cons (zs_for PassesOwn.never rfl (zi_range1 rfl T.range (z_shl z_int (z_callB call_len zLen_ok rfl T.len zb_len (za_cons (zv 0) za_nil)))) (PZGo.g (own := [1]) (zn 1 nd))
    (zss_one (zs_if (zt_not (zt_val (z_call c_is_had hr (Nat.le_refl _) rfl (za_cons (zv 0) (za_cons (zv 1) za_nil)))))
    (zss_one (zs_ret (zv 1)))
    zss_nil)))
    (zss_one (zs_ret z_non))), rd⟩

abbrev s_does_cover_in : Stmt := topS 16
theorem sc_does_cover_in : FnScope ["pairs"] ["pairs"] (defScope s_does_cover_in) := ⟨rfl, rfl, rfl, by decide +kernel, rfl, by decide +kernel, by decide +kernel⟩
theorem d_does_cover_in {P : Program} {w : World} {K : PySem.W.Frag} {mg : Str → Option Value} {base : Heap} {k : Nat} {f : Addr} {fd : FuncData} (T : Tx K mg) (F : FunD K "does_cover_in" "does_cover_in" (defArgs s_does_cover_in) (defBody s_does_cover_in) (defScope s_does_cover_in) [] [] f fd) (hm : mg "does_cover_in" = some (.ref f)) (g_left_in : ZSp) (c_left_in : ZCal P w K mg base k "left_in" g_left_in)
    {sp : ZSp} (len : ∀ vs S q, sp vs S q → vs.length = 1) (rd : ∀ vs S q, sp vs S q → zBody (w_does_cover_in g_left_in) N_does_cover_in vs S q) : ZCal P w K mg base (k + 1) "does_cover_in" sp :=
  have nd := sc_does_cover_in.nd
  zcal F hm (F.bindsN (ps := ["pairs"]) fun _ _ _ _ _ _ us hl => match us, hl with | [_], _ => rfl) sc_does_cover_in len fun cdv A outer s H E hr => ⟨w_does_cover_in g_left_in, (zss_one (zs_ret (z_isN (z_call c_left_in hr (Nat.le_refl _) rfl (za_cons (zv 0) za_nil))))), rd⟩

abbrev s_least_in : Stmt := topS 17
theorem sc_least_in : FnScope ["pairs", "found", "index", "rest", "one"] ["pairs"] (defScope s_least_in) := ⟨rfl, rfl, rfl, by decide +kernel, rfl, by decide +kernel, by decide +kernel⟩
theorem d_least_in {P : Program} {w : World} {K : PySem.W.Frag} {mg : Str → Option Value} {base : Heap} {k : Nat} {f : Addr} {fd : FuncData} (T : Tx K mg) (F : FunD K "least_in" "least_in" (defArgs s_least_in) (defBody s_least_in) (defScope s_least_in) [] [] f fd) (hm : mg "least_in" = some (.ref f)) (g_does_cover_in : ZSp) (c_does_cover_in : ZCal P w K mg base k "does_cover_in" g_does_cover_in)
    {sp : ZSp} (len : ∀ vs S q, sp vs S q → vs.length = 1) (rd : ∀ vs S q, sp vs S q → zBody (w_least_in g_does_cover_in) N_least_in vs S q) : ZCal P w K mg base (k + 1) "least_in" sp :=
  have nd := sc_least_in.nd
  zcal F hm (F.bindsN (ps := ["pairs"]) fun _ _ _ _ _ _ us hl => match us, hl with | [_], _ => rfl) sc_least_in len fun cdv A outer s H E hr => ⟨w_least_in g_does_cover_in, (zss_cons (zs_set (i := 1) nd rfl (by first | exact .inl rfl | exact .inr rfl) (z_listRg T.list T.range (z_callB call_len zLen_ok rfl T.len zb_len (za_cons (zv 0) za_nil))))
    (zss_cons (zs_for PassesOwn.never rfl (zi_range1 rfl T.range (z_callB call_len zLen_ok rfl T.len zb_len (za_cons (zv 0) za_nil))) (PZGo.g (own := [2]) (zn 2 nd))
    (zss_cons (zs_setLc (i := 3) (hy := rfl) (hyl := rfl) (hsw := sw_true rfl rfl rfl (by decide +kernel)) (own := [("one", 4)]) rfl nd (zi_seq (zv 1)) (blkOk_by (by kernel_rfl)) (fun _ _ _ _ _ => (zn 4 nd)) (fun _ _ _ _ _ => (zts_one (zt_ne hr (zv 4) (zv 2)))) (fun _ _ _ _ _ => (zv 4)))
    (zss_one (zs_if (zt_val (z_call c_does_cover_in hr (Nat.le_refl _) rfl (za_cons (z_lc (own := [("one", 4)]) rfl nd (zi_seq (zv 3)) (blkOk_by (by kernel_rfl)) (fun _ _ _ _ _ => (zn 4 nd)) (fun _ _ _ _ _ => zts_nil) (fun _ _ _ _ _ => (z_ix (zv 0) (zv 4)))) za_nil)))
    (zss_one (zs_set (i := 1) nd rfl (by first | exact .inl rfl | exact .inr rfl) (zv 3)))
    zss_nil))))
    (zss_one (zs_ret (zv 1))))), rd⟩

abbrev s_share_in : Stmt := topS 18
theorem sc_share_in : FnScope ["pairs", "meets", "pair", "more", "here", "sign", "later", "bottom", "top", "part"] ["pairs"] (defScope s_share_in) := ⟨rfl, rfl, rfl, by decide +kernel, rfl, by decide +kernel, by decide +kernel⟩
theorem d_share_in {P : Program} {w : World} {K : PySem.W.Frag} {mg : Str → Option Value} {base : Heap} {k : Nat} {f : Addr} {fd : FuncData} (T : Tx K mg) (F : FunD K "share_in" "share_in" (defArgs s_share_in) (defBody s_share_in) (defScope s_share_in) [] [] f fd) (hm : mg "share_in" = some (.ref f)) (g_greatest_shared : ZSp) (g_least_common : ZSp) (g_meet_in : ZSp) (c_greatest_shared : ZCal P w K mg base k "greatest_shared" g_greatest_shared) (c_least_common : ZCal P w K mg base k "least_common" g_least_common) (c_meet_in : ZCal P w K mg base k "meet_in" g_meet_in)
    {sp : ZSp} (len : ∀ vs S q, sp vs S q → vs.length = 1) (rd : ∀ vs S q, sp vs S q → zBody (w_share_in g_greatest_shared g_least_common g_meet_in) N_share_in vs S q) : ZCal P w K mg base (k + 1) "share_in" sp :=
  have nd := sc_share_in.nd
  zcal F hm (F.bindsN (ps := ["pairs"]) fun _ _ _ _ _ _ us hl => match us, hl with | [_], _ => rfl) sc_share_in len fun cdv A outer s H E hr => ⟨w_share_in g_greatest_shared g_least_common g_meet_in, (zss_cons (zs_set (i := 1) nd rfl (by first | exact .inl rfl | exact .inr rfl) (z_lst (za_cons (z_tup (za_cons (z_tup (za_cons z_int (za_cons z_int za_nil))) (za_cons (z_neg z_int) za_nil))) za_nil)))
    (zss_cons (zs_for PassesOwn.never rfl (zi_seq (zv 0)) (PZGo.g (own := [2]) (zn 2 nd))
    (zss_cons (zs_set (i := 3) nd rfl (by first | exact .inl rfl | exact .inr rfl) (z_lst za_nil))
    (zss_cons (zs_for PassesOwn.never rfl (zi_seq (zv 1)) (PZGo.g (own := [4, 5]) (zg_tup rfl (zgs_cons (zn 4 nd) (zgs_cons (zn 5 nd) zgs_nil))))
    (zss_cons (zs_set (i := 6) nd rfl (by first | exact .inl rfl | exact .inr rfl) (z_call c_meet_in hr (Nat.le_refl _) rfl (za_cons (zv 4) (za_cons (zv 2) za_nil))))
    (zss_one (zs_if (zt_notN (zv 6))
    (zss_one (zs_expr (z_append (zv 3) (za_cons (z_tup (za_cons (zv 6) (za_cons (z_neg (zv 5)) za_nil))) za_nil) (fun ho ha => pe_bm PySem.F.plainAttrs_list PySem.F.slot_list_append PySem.F.type_list_append mt_append ho ha))))
    zss_nil))))
    (zss_one (zs_set (i := 1) nd rfl (by first | exact .inl rfl | exact .inr rfl) (z_add (zv 1) (zv 3)))))))
    (zss_cons (zs_set (i := 7) nd rfl (by first | exact .inl rfl | exact .inr rfl) z_int)
    (zss_cons (zs_for PassesOwn.never rfl (zi_seq (zv 0)) (PZGo.g (own := [2]) (zn 2 nd))
    (zss_one (zs_set (i := 7) nd rfl (by first | exact .inl rfl | exact .inr rfl) (z_call c_least_common hr (Nat.le_refl _) rfl (za_cons (zv 7) (za_cons (z_ix (zv 2) z_int) za_nil))))))
    (zss_cons (zs_set (i := 8) nd rfl (by first | exact .inl rfl | exact .inr rfl) (z_dr (z_callB (cr_sum rfl) zSum_ok rfl T.sum zb_sum (za_cons (z_lc (own := [("here", 4), ("sign", 5)]) rfl nd (zi_seq (z_sl (zv 1) (zo_some z_int) zo_none)) (blkOk_by (by kernel_rfl)) (fun _ _ _ _ _ => (zg_tup rfl (zgs_cons (zn 4 nd) (zgs_cons (zn 5 nd) zgs_nil)))) (fun _ _ _ _ _ => zts_nil) (fun _ _ _ _ _ => (z_mul (zv 5) (z_fdiv (zv 7) (z_ix (zv 4) z_int))))) za_nil))))
    (zss_cons (zs_set (i := 9) nd rfl (by first | exact .inl rfl | exact .inr rfl) (z_call c_greatest_shared hr (Nat.le_refl _) rfl (za_cons (zv 7) (za_cons (zv 8) za_nil))))
    (zss_one (zs_ret (z_tup (za_cons (z_fdiv (zv 8) (zv 9)) (za_cons (z_fdiv (zv 7) (zv 9)) za_nil))))))))))), rd⟩

abbrev s_are_apart : Stmt := topS 19
theorem sc_are_apart : FnScope ["pairs", "at", "pair", "other"] ["pairs"] (defScope s_are_apart) := ⟨rfl, rfl, rfl, by decide +kernel, rfl, by decide +kernel, by decide +kernel⟩
theorem d_are_apart {P : Program} {w : World} {K : PySem.W.Frag} {mg : Str → Option Value} {base : Heap} {k : Nat} {f : Addr} {fd : FuncData} (T : Tx K mg) (F : FunD K "are_apart" "are_apart" (defArgs s_are_apart) (defBody s_are_apart) (defScope s_are_apart) [] [] f fd) (hm : mg "are_apart" = some (.ref f)) (g_meet_in : ZSp) (c_meet_in : ZCal P w K mg base k "meet_in" g_meet_in)
    {sp : ZSp} (len : ∀ vs S q, sp vs S q → vs.length = 1) (rd : ∀ vs S q, sp vs S q → zBody (w_are_apart g_meet_in) N_are_apart vs S q) : ZCal P w K mg base (k + 1) "are_apart" sp :=
  have nd := sc_are_apart.nd
  zcal F hm (F.bindsN (ps := ["pairs"]) fun _ _ _ _ _ _ us hl => match us, hl with | [_], _ => rfl) sc_are_apart len fun cdv A outer s H E hr => ⟨w_are_apart g_meet_in, (zss_cons (zs_for PassesOwn.never rfl (zi_enum rfl T.enumerate (zv 0)) (PZGo.g (own := [1, 2]) (zg_tup rfl (zgs_cons (zn 1 nd) (zgs_cons (zn 2 nd) zgs_nil))))
    (zss_one (zs_if (zt_val (z_dr (z_callB (cr_any rfl) zBls_ok rfl T.any zb_any (za_cons (z_lc (own := [("other", 3)]) rfl nd (zi_seq (z_sl (zv 0) zo_none (zo_some (zv 1)))) (blkOk_by (by kernel_rfl)) (fun _ _ _ _ _ => (zn 3 nd)) (fun _ _ _ _ _ => zts_nil) (fun _ _ _ _ _ => (z_notN (z_call c_meet_in hr (Nat.le_refl _) rfl (za_cons (zv 2) (za_cons (zv 3) za_nil)))))) za_nil))))
    (zss_one (zs_ret z_bl))
    zss_nil)))
    (zss_one (zs_ret z_bl))), rd⟩

abbrev s_is_pair : Stmt := topS 20
theorem sc_is_pair : FnScope ["thing"] ["thing"] (defScope s_is_pair) := ⟨rfl, rfl, rfl, by decide +kernel, rfl, by decide +kernel, by decide +kernel⟩
theorem d_is_pair {P : Program} {w : World} {K : PySem.W.Frag} {mg : Str → Option Value} {base : Heap} {k : Nat} {f : Addr} {fd : FuncData} (T : Tx K mg) (F : FunD K "is_pair" "is_pair" (defArgs s_is_pair) (defBody s_is_pair) (defScope s_is_pair) [] [] f fd) (hm : mg "is_pair" = some (.ref f)) (g_is_whole : ZSp) (c_is_whole_least_most : ZCalK P w K mg base k "is_whole" 1 ["least", "most"] (fun vs us => vs ++ us) g_is_whole)
    {sp : ZSp} (len : ∀ vs S q, sp vs S q → vs.length = 1) (rd : ∀ vs S q, sp vs S q → zBody (w_is_pair g_is_whole) N_is_pair vs S q) : ZCal P w K mg base (k + 1) "is_pair" sp :=
  have nd := sc_is_pair.nd
  zcal F hm (F.bindsN (ps := ["thing"]) fun _ _ _ _ _ _ us hl => match us, hl with | [_], _ => rfl) sc_is_pair len fun cdv A outer s H E hr => ⟨w_is_pair g_is_whole, (zss_cons (zs_if (PZW.pt (zw_or (zt_not (zt_val (z_isi (by decide) rfl T.isinstance (zv 0) rfl T.tuple zb_tuple))) (zw_or (zt_ne hr (z_callB call_len zLen_ok rfl T.len zb_len (za_cons (zv 0) za_nil)) z_int) (zw_or1 (zt_not (zt_val (z_callK c_is_whole_least_most hr (Nat.le_refl _) rfl (za_cons (z_ix (zv 0) z_int) za_nil) (zk_cons z_int (zk_cons (z_gc rfl T.c_MOST_STEP (fun _ => .int _)) zk_nil)))))))))
    (zss_one (zs_ret z_bl))
    zss_nil)
    (zss_one (zs_ret (z_callK c_is_whole_least_most hr (Nat.le_refl _) rfl (za_cons (z_ix (zv 0) z_int) za_nil) (zk_cons z_int (zk_cons (z_sub (z_ix (zv 0) z_int) z_int) zk_nil)))))), rd⟩

abbrev s_are_pairs_in : Stmt := topS 21
theorem sc_are_pairs_in : FnScope ["thing", "pair"] ["thing"] (defScope s_are_pairs_in) := ⟨rfl, rfl, rfl, by decide +kernel, rfl, by decide +kernel, by decide +kernel⟩
theorem d_are_pairs_in {P : Program} {w : World} {K : PySem.W.Frag} {mg : Str → Option Value} {base : Heap} {k : Nat} {f : Addr} {fd : FuncData} (T : Tx K mg) (F : FunD K "are_pairs_in" "are_pairs_in" (defArgs s_are_pairs_in) (defBody s_are_pairs_in) (defScope s_are_pairs_in) [] [] f fd) (hm : mg "are_pairs_in" = some (.ref f)) (g_is_pair : ZSp) (c_is_pair : ZCal P w K mg base k "is_pair" g_is_pair)
    {sp : ZSp} (len : ∀ vs S q, sp vs S q → vs.length = 1) (rd : ∀ vs S q, sp vs S q → zBody (w_are_pairs_in g_is_pair) N_are_pairs_in vs S q) : ZCal P w K mg base (k + 1) "are_pairs_in" sp :=
  have nd := sc_are_pairs_in.nd
  zcal F hm (F.bindsN (ps := ["thing"]) fun _ _ _ _ _ _ us hl => match us, hl with | [_], _ => rfl) sc_are_pairs_in len fun cdv A outer s H E hr => ⟨w_are_pairs_in g_is_pair, (zss_one (zs_ret (z_and (z_isi (by decide) rfl T.isinstance (zv 0) rfl T.tuple zb_tuple) (z_and (z_ch op_le op_le z_int (z_callB call_len zLen_ok rfl T.len zb_len (za_cons (zv 0) za_nil)) (z_gc rfl T.c_MOST_PAIRS (fun _ => .int _))) (z_one (z_dr (z_callB (cr_all rfl) zBls_ok rfl T.all zb_all (za_cons (z_lc (own := [("pair", 1)]) rfl nd (zi_seq (zv 0)) (blkOk_by (by kernel_rfl)) (fun _ _ _ _ _ => (zn 1 nd)) (fun _ _ _ _ _ => zts_nil) (fun _ _ _ _ _ => (z_call c_is_pair hr (Nat.le_refl _) rfl (za_cons (zv 1) za_nil)))) za_nil)))))))), rd⟩

abbrev s_need_pairs : Stmt := topS 22
theorem sc_need_pairs : FnScope ["thing"] ["thing"] (defScope s_need_pairs) := ⟨rfl, rfl, rfl, by decide +kernel, rfl, by decide +kernel, by decide +kernel⟩
theorem d_need_pairs {P : Program} {w : World} {K : PySem.W.Frag} {mg : Str → Option Value} {base : Heap} {k : Nat} {f : Addr} {fd : FuncData} (T : Tx K mg) (F : FunD K "need_pairs" "need_pairs" (defArgs s_need_pairs) (defBody s_need_pairs) (defScope s_need_pairs) [] [] f fd) (hm : mg "need_pairs" = some (.ref f)) (g_are_pairs_in : ZSp) (c_are_pairs_in : ZCal P w K mg base k "are_pairs_in" g_are_pairs_in)
    {sp : ZSp} (len : ∀ vs S q, sp vs S q → vs.length = 1) (rd : ∀ vs S q, sp vs S q → zBody (w_need_pairs g_are_pairs_in) N_need_pairs vs S q) : ZCal P w K mg base (k + 1) "need_pairs" sp :=
  have nd := sc_need_pairs.nd
  zcal F hm (F.bindsN (ps := ["thing"]) fun _ _ _ _ _ _ us hl => match us, hl with | [_], _ => rfl) sc_need_pairs len fun cdv A outer s H E hr => ⟨w_need_pairs g_are_pairs_in, (zss_one (zs_if (zt_not (zt_val (z_call c_are_pairs_in hr (Nat.le_refl _) rfl (za_cons (zv 0) za_nil))))
    (zss_one zs_never)
    zss_nil)), rd⟩

abbrev s_does_cover : Stmt := topS 23
theorem sc_does_cover : FnScope ["pairs"] ["pairs"] (defScope s_does_cover) := ⟨rfl, rfl, rfl, by decide +kernel, rfl, by decide +kernel, by decide +kernel⟩
theorem d_does_cover {P : Program} {w : World} {K : PySem.W.Frag} {mg : Str → Option Value} {base : Heap} {k : Nat} {f : Addr} {fd : FuncData} (T : Tx K mg) (F : FunD K "does_cover" "does_cover" (defArgs s_does_cover) (defBody s_does_cover) (defScope s_does_cover) [] [] f fd) (hm : mg "does_cover" = some (.ref f)) (g_does_cover_in : ZSp) (g_need_pairs : ZSp) (c_does_cover_in : ZCal P w K mg base k "does_cover_in" g_does_cover_in) (c_need_pairs : ZCal P w K mg base k "need_pairs" g_need_pairs)
    {sp : ZSp} (len : ∀ vs S q, sp vs S q → vs.length = 1) (rd : ∀ vs S q, sp vs S q → zBody (w_does_cover g_does_cover_in g_need_pairs) N_does_cover vs S q) : ZCal P w K mg base (k + 1) "does_cover" sp :=
  have nd := sc_does_cover.nd
  zcal F hm (F.bindsN (ps := ["pairs"]) fun _ _ _ _ _ _ us hl => match us, hl with | [_], _ => rfl) sc_does_cover len fun cdv A outer s H E hr => ⟨w_does_cover g_does_cover_in g_need_pairs, (zss_cons (zs_expr (z_call c_need_pairs hr (Nat.le_refl _) rfl (za_cons (zv 0) za_nil)))
    (zss_one (zs_ret (z_call c_does_cover_in hr (Nat.le_refl _) rfl (za_cons (zv 0) za_nil))))), rd⟩

abbrev s_share_of : Stmt := topS 24
theorem sc_share_of : FnScope ["pairs"] ["pairs"] (defScope s_share_of) := ⟨rfl, rfl, rfl, by decide +kernel, rfl, by decide +kernel, by decide +kernel⟩
theorem d_share_of {P : Program} {w : World} {K : PySem.W.Frag} {mg : Str → Option Value} {base : Heap} {k : Nat} {f : Addr} {fd : FuncData} (T : Tx K mg) (F : FunD K "share_of" "share_of" (defArgs s_share_of) (defBody s_share_of) (defScope s_share_of) [] [] f fd) (hm : mg "share_of" = some (.ref f)) (g_need_pairs : ZSp) (g_share_in : ZSp) (c_need_pairs : ZCal P w K mg base k "need_pairs" g_need_pairs) (c_share_in : ZCal P w K mg base k "share_in" g_share_in)
    {sp : ZSp} (len : ∀ vs S q, sp vs S q → vs.length = 1) (rd : ∀ vs S q, sp vs S q → zBody (w_share_of g_need_pairs g_share_in) N_share_of vs S q) : ZCal P w K mg base (k + 1) "share_of" sp :=
  have nd := sc_share_of.nd
  zcal F hm (F.bindsN (ps := ["pairs"]) fun _ _ _ _ _ _ us hl => match us, hl with | [_], _ => rfl) sc_share_of len fun cdv A outer s H E hr => ⟨w_share_of g_need_pairs g_share_in, (zss_cons (zs_expr (z_call c_need_pairs hr (Nat.le_refl _) rfl (za_cons (zv 0) za_nil)))
    (zss_one (zs_ret (z_call c_share_in hr (Nat.le_refl _) rfl (za_cons (zv 0) za_nil))))), rd⟩

abbrev s_is_exact : Stmt := topS 25
theorem sc_is_exact : FnScope ["pairs"] ["pairs"] (defScope s_is_exact) := ⟨rfl, rfl, rfl, by decide +kernel, rfl, by decide +kernel, by decide +kernel⟩
theorem d_is_exact {P : Program} {w : World} {K : PySem.W.Frag} {mg : Str → Option Value} {base : Heap} {k : Nat} {f : Addr} {fd : FuncData} (T : Tx K mg) (F : FunD K "is_exact" "is_exact" (defArgs s_is_exact) (defBody s_is_exact) (defScope s_is_exact) [] [] f fd) (hm : mg "is_exact" = some (.ref f)) (g_are_apart : ZSp) (g_does_cover_in : ZSp) (g_need_pairs : ZSp) (c_are_apart : ZCal P w K mg base k "are_apart" g_are_apart) (c_does_cover_in : ZCal P w K mg base k "does_cover_in" g_does_cover_in) (c_need_pairs : ZCal P w K mg base k "need_pairs" g_need_pairs)
    {sp : ZSp} (len : ∀ vs S q, sp vs S q → vs.length = 1) (rd : ∀ vs S q, sp vs S q → zBody (w_is_exact g_are_apart g_does_cover_in g_need_pairs) N_is_exact vs S q) : ZCal P w K mg base (k + 1) "is_exact" sp :=
  have nd := sc_is_exact.nd
  zcal F hm (F.bindsN (ps := ["pairs"]) fun _ _ _ _ _ _ us hl => match us, hl with | [_], _ => rfl) sc_is_exact len fun cdv A outer s H E hr => ⟨w_is_exact g_are_apart g_does_cover_in g_need_pairs, (zss_cons (zs_expr (z_call c_need_pairs hr (Nat.le_refl _) rfl (za_cons (zv 0) za_nil)))
    (zss_one (zs_ret (z_and (z_call c_does_cover_in hr (Nat.le_refl _) rfl (za_cons (zv 0) za_nil)) (z_one (z_call c_are_apart hr (Nat.le_refl _) rfl (za_cons (zv 0) za_nil))))))), rd⟩

abbrev s_is_least_cover : Stmt := topS 26
theorem sc_is_least_cover : FnScope ["pairs"] ["pairs"] (defScope s_is_least_cover) := ⟨rfl, rfl, rfl, by decide +kernel, rfl, by decide +kernel, by decide +kernel⟩
theorem d_is_least_cover {P : Program} {w : World} {K : PySem.W.Frag} {mg : Str → Option Value} {base : Heap} {k : Nat} {f : Addr} {fd : FuncData} (T : Tx K mg) (F : FunD K "is_least_cover" "is_least_cover" (defArgs s_is_least_cover) (defBody s_is_least_cover) (defScope s_is_least_cover) [] [] f fd) (hm : mg "is_least_cover" = some (.ref f)) (g_does_cover_in : ZSp) (g_least_in : ZSp) (g_need_pairs : ZSp) (c_does_cover_in : ZCal P w K mg base k "does_cover_in" g_does_cover_in) (c_least_in : ZCal P w K mg base k "least_in" g_least_in) (c_need_pairs : ZCal P w K mg base k "need_pairs" g_need_pairs)
    {sp : ZSp} (len : ∀ vs S q, sp vs S q → vs.length = 1) (rd : ∀ vs S q, sp vs S q → zBody (w_is_least_cover g_does_cover_in g_least_in g_need_pairs) N_is_least_cover vs S q) : ZCal P w K mg base (k + 1) "is_least_cover" sp :=
  have nd := sc_is_least_cover.nd
  zcal F hm (F.bindsN (ps := ["pairs"]) fun _ _ _ _ _ _ us hl => match us, hl with | [_], _ => rfl) sc_is_least_cover len fun cdv A outer s H E hr => ⟨w_is_least_cover g_does_cover_in g_least_in g_need_pairs, (zss_cons (zs_expr (z_call c_need_pairs hr (Nat.le_refl _) rfl (za_cons (zv 0) za_nil)))
    (zss_one (zs_ret (z_and (z_call c_does_cover_in hr (Nat.le_refl _) rfl (za_cons (zv 0) za_nil)) (z_one (z_eq hr (z_callB call_len zLen_ok rfl T.len zb_len (za_cons (z_call c_least_in hr (Nat.le_refl _) rfl (za_cons (zv 0) za_nil)) za_nil)) (z_callB call_len zLen_ok rfl T.len zb_len (za_cons (zv 0) za_nil)))))))), rd⟩

abbrev s_least_cover : Stmt := topS 27
theorem sc_least_cover : FnScope ["pairs"] ["pairs"] (defScope s_least_cover) := ⟨rfl, rfl, rfl, by decide +kernel, rfl, by decide +kernel, by decide +kernel⟩
theorem d_least_cover {P : Program} {w : World} {K : PySem.W.Frag} {mg : Str → Option Value} {base : Heap} {k : Nat} {f : Addr} {fd : FuncData} (T : Tx K mg) (F : FunD K "least_cover" "least_cover" (defArgs s_least_cover) (defBody s_least_cover) (defScope s_least_cover) [] [] f fd) (hm : mg "least_cover" = some (.ref f)) (g_does_cover_in : ZSp) (g_least_in : ZSp) (g_need_pairs : ZSp) (c_does_cover_in : ZCal P w K mg base k "does_cover_in" g_does_cover_in) (c_least_in : ZCal P w K mg base k "least_in" g_least_in) (c_need_pairs : ZCal P w K mg base k "need_pairs" g_need_pairs)
    {sp : ZSp} (len : ∀ vs S q, sp vs S q → vs.length = 1) (rd : ∀ vs S q, sp vs S q → zBody (w_least_cover g_does_cover_in g_least_in g_need_pairs) N_least_cover vs S q) : ZCal P w K mg base (k + 1) "least_cover" sp :=
  have nd := sc_least_cover.nd
  zcal F hm (F.bindsN (ps := ["pairs"]) fun _ _ _ _ _ _ us hl => match us, hl with | [_], _ => rfl) sc_least_cover len fun cdv A outer s H E hr => ⟨w_least_cover g_does_cover_in g_least_in g_need_pairs, (zss_cons (zs_expr (z_call c_need_pairs hr (Nat.le_refl _) rfl (za_cons (zv 0) za_nil)))
    (zss_one (zs_ret (z_ifExp (zt_val (z_call c_does_cover_in hr (Nat.le_refl _) rfl (za_cons (zv 0) za_nil))) (z_callTy call_tuple_of zTuple_ok rfl T.tuple zb_tuple (za_cons (z_call c_least_in hr (Nat.le_refl _) rfl (za_cons (zv 0) za_nil)) za_nil)) z_non)))), rd⟩

abbrev s_split_at : Stmt := topS 28
theorem sc_split_at : FnScope ["pairs", "index", "many", "start", "step", "parts", "found", "at"] ["pairs", "index", "many"] (defScope s_split_at) := ⟨rfl, rfl, rfl, by decide +kernel, rfl, by decide +kernel, by decide +kernel⟩
theorem d_split_at {P : Program} {w : World} {K : PySem.W.Frag} {mg : Str → Option Value} {base : Heap} {k : Nat} {f : Addr} {fd : FuncData} (T : Tx K mg) (F : FunD K "split_at" "split_at" (defArgs s_split_at) (defBody s_split_at) (defScope s_split_at) [] [] f fd) (hm : mg "split_at" = some (.ref f)) (g_is_whole : ZSp) (g_need_pairs : ZSp) (c_is_whole_least_most : ZCalK P w K mg base k "is_whole" 1 ["least", "most"] (fun vs us => vs ++ us) g_is_whole) (c_need_pairs : ZCal P w K mg base k "need_pairs" g_need_pairs)
    {sp : ZSp} (len : ∀ vs S q, sp vs S q → vs.length = 3) (rd : ∀ vs S q, sp vs S q → zBody (w_split_at g_is_whole g_need_pairs) N_split_at vs S q) : ZCal P w K mg base (k + 1) "split_at" sp :=
  have nd := sc_split_at.nd
  zcal F hm (F.bindsN (ps := ["pairs", "index", "many"]) fun _ _ _ _ _ _ us hl => match us, hl with | [_, _, _], _ => rfl) sc_split_at len fun cdv A outer s H E hr => ⟨w_split_at g_is_whole g_need_pairs, (zss_cons (zs_expr (z_call c_need_pairs hr (Nat.le_refl _) rfl (za_cons (zv 0) za_nil)))
    (zss_cons (zs_if (zt_not (zt_val (z_callK c_is_whole_least_most hr (Nat.le_refl _) rfl (za_cons (zv 1) za_nil) (zk_cons z_int (zk_cons (z_sub (z_callB call_len zLen_ok rfl T.len zb_len (za_cons (zv 0) za_nil)) z_int) zk_nil)))))
    (zss_one zs_never)
    zss_nil)
    (zss_cons (zs_if (zt_not (zt_val (z_callK c_is_whole_least_most hr (Nat.le_refl _) rfl (za_cons (zv 2) za_nil) (zk_cons z_int (zk_cons (z_gc rfl T.c_MOST_STEP (fun _ => .int _)) zk_nil)))))
    (zss_one zs_never)
    zss_nil)
    (zss_cons (zs_asg (z_ix (zv 0) (zv 1)) (PZGo.g (own := [3, 4]) (zg_tup rfl (zgs_cons (zn 3 nd) (zgs_cons (zn 4 nd) zgs_nil)))))
    (zss_cons (zs_set (i := 5) nd rfl (by first | exact .inl rfl | exact .inr rfl) (z_dr (z_callTy call_tuple_of zTuple_ok rfl T.tuple zb_tuple (za_cons (z_lc (own := [("at", 7)]) rfl nd (zi_range1 rfl T.range (zv 2)) (blkOk_by (by kernel_rfl)) (fun _ _ _ _ _ => (zn 7 nd)) (fun _ _ _ _ _ => zts_nil) (fun _ _ _ _ _ => (z_tup (za_cons (z_add (zv 3) (z_mul (zv 7) (zv 4))) (za_cons (z_mul (zv 4) (zv 2)) za_nil))))) za_nil))))
    (zss_cons (zs_set (i := 6) nd rfl (by first | exact .inl rfl | exact .inr rfl) (z_add (z_add (z_sl (zv 0) zo_none (zo_some (zv 1))) (zv 5)) (z_sl (zv 0) (zo_some (z_add (zv 1) z_int)) zo_none)))
    (zss_cons (zs_expr (z_call c_need_pairs hr (Nat.le_refl _) rfl (za_cons (zv 6) za_nil)))
    (zss_one (zs_ret (zv 6)))))))))), rd⟩

abbrev s__law_bag : Stmt := topS 30
theorem sc__law_bag : FnScope ["script", "spot", "cell", "great", "mixed"] ["script", "spot"] (defScope s__law_bag) := ⟨rfl, rfl, rfl, by decide +kernel, rfl, by decide +kernel, by decide +kernel⟩
theorem d__law_bag {P : Program} {w : World} {K : PySem.W.Frag} {mg : Str → Option Value} {base : Heap} {k : Nat} {f : Addr} {fd : FuncData} (T : Tx K mg) (F : FunD K "_law_bag" "_law_bag" (defArgs s__law_bag) (defBody s__law_bag) (defScope s__law_bag) [] [] f fd) (hm : mg "_law_bag" = some (.ref f))
    {sp : ZSp} (len : ∀ vs S q, sp vs S q → vs.length = 2) (rd : ∀ vs S q, sp vs S q → zBody (w__law_bag) N__law_bag vs S q) : ZCal P w K mg base (k + 1) "_law_bag" sp :=
  have nd := sc__law_bag.nd
  zcal F hm (F.bindsN (ps := ["script", "spot"]) fun _ _ _ _ _ _ us hl => match us, hl with | [_, _], _ => rfl) sc__law_bag len fun cdv A outer s H E hr => ⟨w__law_bag, (zss_cons (zs_set (i := 2) nd rfl (by first | exact .inl rfl | exact .inr rfl) (z_ifExp (zt_lt (zv 1) (z_callB call_len zLen_ok rfl T.len zb_len (za_cons (zv 0) za_nil))) (z_callTy call_int1 zInt_ok rfl T.int zb_int (za_cons (z_ix (zv 0) (zv 1)) za_nil)) (z_add (z_mul z_int (zv 1)) z_int)))
    (zss_cons (zs_set (i := 3) nd rfl (by first | exact .inl rfl | exact .inr rfl) (z_mod (z_callTy call_int1 zInt_ok rfl T.int zb_int (za_cons (z_callB call_abs zAbs_ok rfl T.abs zb_abs (za_cons (zv 2) za_nil)) za_nil)) (z_pow (z_pow z_int z_int) z_int)))
    (zss_cons (zs_set (i := 4) nd rfl (by first | exact .inl rfl | exact .inr rfl) (z_add (z_add (z_add (z_mul (z_mod (zv 3) z_int) z_int) (z_mul z_int (zv 1))) (z_mul z_int (z_callTy call_int1 zInt_ok rfl T.int zb_int (za_cons (z_lt (zv 2) z_int) za_nil)))) z_int))
    (zss_one (zs_ret (z_lst (za_cons (z_callB (call_max2 rfl) zMax2_ok rfl T.max zb_max (za_cons z_int (za_cons (z_sub (zv 3) (z_pow z_int z_int)) za_nil))) (za_cons (zv 4) (za_cons z_int za_nil))))))))), rd⟩

abbrev s__law_pull : Stmt := topS 31
theorem sc__law_pull : FnScope ["bag", "total", "found", "one", "two"] ["bag", "total"] (defScope s__law_pull) := ⟨rfl, rfl, rfl, by decide +kernel, rfl, by decide +kernel, by decide +kernel⟩
theorem d__law_pull {P : Program} {w : World} {K : PySem.W.Frag} {mg : Str → Option Value} {base : Heap} {k : Nat} {f : Addr} {fd : FuncData} (T : Tx K mg) (F : FunD K "_law_pull" "_law_pull" (defArgs s__law_pull) (defBody s__law_pull) (defScope s__law_pull) [] [] f fd) (hm : mg "_law_pull" = some (.ref f))
    {sp : ZSp} (len : ∀ vs S q, sp vs S q → vs.length = 2) (rd : ∀ vs S q, sp vs S q → zBody (w__law_pull) N__law_pull vs S q) : ZCal P w K mg base (k + 1) "_law_pull" sp :=
  have nd := sc__law_pull.nd
  zcal F hm (F.bindsN (ps := ["bag", "total"]) fun _ _ _ _ _ _ us hl => match us, hl with | [_, _], _ => rfl) sc__law_pull len fun cdv A outer s H E hr => ⟨w__law_pull, (zss_cons (zs_if (zt_gt (z_ix (zv 0) z_int) z_int)
    (zss_cons (zs_set (i := 2) nd rfl (by first | exact .inl rfl | exact .inr rfl) (z_mod (z_callTy call_int1 zInt_ok rfl T.int zb_int (za_cons (z_ix (zv 0) z_int) za_nil)) (zv 1)))
    (zss_cons (zs_asg (z_fdiv (z_ix (zv 0) z_int) (zv 1)) (zg_sub (zv 0) z_int))
    (zss_one (zs_ret (zv 2)))))
    zss_nil)
    (zss_cons (zs_asg (z_add (z_ix (zv 0) z_int) z_int) (zg_sub (zv 0) z_int))
    (zss_cons (zs_set (i := 3) nd rfl (by first | exact .inl rfl | exact .inr rfl) (z_mod (z_callTy call_int1 zInt_ok rfl T.int zb_int (za_cons (z_add (z_ix (zv 0) z_int) (z_mul z_int (z_ix (zv 0) z_int))) za_nil)) z_int))
    (zss_cons (zs_set (i := 4) nd rfl (by first | exact .inl rfl | exact .inr rfl) (z_add (z_mul (z_mod (z_callTy call_int1 zInt_ok rfl T.int zb_int (za_cons (z_add (z_mul (zv 3) (zv 3)) (z_mul z_int (z_ix (zv 0) z_int))) za_nil)) z_int) z_int) (zv 3)))
    (zss_one (zs_ret (z_mod (z_callTy call_int1 zInt_ok rfl T.int zb_int (za_cons (z_fdiv (zv 4) z_int) za_nil)) (zv 1)))))))), rd⟩

abbrev s__law_choose : Stmt := topS 32
theorem sc__law_choose : FnScope ["bag", "items"] ["bag", "items"] (defScope s__law_choose) := ⟨rfl, rfl, rfl, by decide +kernel, rfl, by decide +kernel, by decide +kernel⟩
theorem d__law_choose {P : Program} {w : World} {K : PySem.W.Frag} {mg : Str → Option Value} {base : Heap} {k : Nat} {f : Addr} {fd : FuncData} (T : Tx K mg) (F : FunD K "_law_choose" "_law_choose" (defArgs s__law_choose) (defBody s__law_choose) (defScope s__law_choose) [] [] f fd) (hm : mg "_law_choose" = some (.ref f)) (g__law_pull : ZSp) (c__law_pull : ZCal P w K mg base k "_law_pull" g__law_pull)
    {sp : ZSp} (len : ∀ vs S q, sp vs S q → vs.length = 2) (rd : ∀ vs S q, sp vs S q → zBody (w__law_choose g__law_pull) N__law_choose vs S q) : ZCal P w K mg base (k + 1) "_law_choose" sp :=
  have nd := sc__law_choose.nd
  zcal F hm (F.bindsN (ps := ["bag", "items"]) fun _ _ _ _ _ _ us hl => match us, hl with | [_, _], _ => rfl) sc__law_choose len fun cdv A outer s H E hr => ⟨w__law_choose g__law_pull, (zss_one (zs_ret (z_ix (zv 1) (z_call c__law_pull hr (Nat.le_refl _) rfl (za_cons (zv 0) (za_cons (z_callB call_len zLen_ok rfl T.len zb_len (za_cons (zv 1) za_nil)) za_nil)))))), rd⟩

abbrev s__law_common : Stmt := topS 33
theorem sc__law_common : FnScope ["one", "other"] ["one", "other"] (defScope s__law_common) := ⟨rfl, rfl, rfl, by decide +kernel, rfl, by decide +kernel, by decide +kernel⟩
theorem d__law_common {P : Program} {w : World} {K : PySem.W.Frag} {mg : Str → Option Value} {base : Heap} {k : Nat} {f : Addr} {fd : FuncData} (T : Tx K mg) (F : FunD K "_law_common" "_law_common" (defArgs s__law_common) (defBody s__law_common) (defScope s__law_common) [] [] f fd) (hm : mg "_law_common" = some (.ref f))
    {sp : ZSp} (len : ∀ vs S q, sp vs S q → vs.length = 2) (rd : ∀ vs S q, sp vs S q → zBody (w__law_common) N__law_common vs S q) : ZCal P w K mg base (k + 1) "_law_common" sp :=
  have nd := sc__law_common.nd
  zcal F hm (F.bindsN (ps := ["one", "other"]) fun _ _ _ _ _ _ us hl => match us, hl with | [_, _], _ => rfl) sc__law_common len fun cdv A outer s H E hr => ⟨w__law_common, (zss_cons (zs_par (i := 0) (j := 1) rfl nd rfl rfl (by decide) rfl rfl (za_cons (z_callB call_abs zAbs_ok rfl T.abs zb_abs (za_cons (zv 0) za_nil)) (za_cons (z_callB call_abs zAbs_ok rfl T.abs zb_abs (za_cons (zv 1) za_nil)) za_nil)) rfl)
    (zss_cons (zs_while PassesOwn.never (zt_gt (zv 1) z_int)
    (zss_one (zs_par (i := 0) (j := 1) rfl nd rfl rfl (by decide) rfl rfl (za_cons (zv 1) (za_cons (z_mod (z_callTy call_int1 zInt_ok rfl T.int zb_int (za_cons (zv 0) za_nil)) (zv 1)) za_nil)) rfl)))
    (zss_one (zs_ret (zv 0))))), rd⟩

abbrev s__law_fraction : Stmt := topS 34
theorem sc__law_fraction : FnScope ["top", "bottom", "part"] ["top", "bottom"] (defScope s__law_fraction) := ⟨rfl, rfl, rfl, by decide +kernel, rfl, by decide +kernel, by decide +kernel⟩
theorem d__law_fraction {P : Program} {w : World} {K : PySem.W.Frag} {mg : Str → Option Value} {base : Heap} {k : Nat} {f : Addr} {fd : FuncData} (T : Tx K mg) (F : FunD K "_law_fraction" "_law_fraction" (defArgs s__law_fraction) (defBody s__law_fraction) (defScope s__law_fraction) [] [] f fd) (hm : mg "_law_fraction" = some (.ref f)) (g__law_common : ZSp) (c__law_common : ZCal P w K mg base k "_law_common" g__law_common)
    {sp : ZSp} (len : ∀ vs S q, sp vs S q → vs.length = 2) (rd : ∀ vs S q, sp vs S q → zBody (w__law_fraction g__law_common) N__law_fraction vs S q) : ZCal P w K mg base (k + 1) "_law_fraction" sp :=
  have nd := sc__law_fraction.nd
  zcal F hm (F.bindsN (ps := ["top", "bottom"]) fun _ _ _ _ _ _ us hl => match us, hl with | [_, _], _ => rfl) sc__law_fraction len fun cdv A outer s H E hr => ⟨w__law_fraction g__law_common, (zss_cons (zs_set (i := 2) nd rfl (by first | exact .inl rfl | exact .inr rfl) (z_call c__law_common hr (Nat.le_refl _) rfl (za_cons (zv 0) (za_cons (zv 1) za_nil))))
    (zss_cons (zs_set (i := 2) nd rfl (by first | exact .inl rfl | exact .inr rfl) (z_ifExp (zt_gt (zv 1) z_int) (zv 2) (z_sub z_int (zv 2))))
    (zss_one (zs_ret (z_tup (za_cons (z_fdiv (zv 0) (zv 2)) (za_cons (z_fdiv (zv 1) (zv 2)) za_nil))))))), rd⟩

abbrev s__law_plus : Stmt := topS 35
theorem sc__law_plus : FnScope ["one", "other"] ["one", "other"] (defScope s__law_plus) := ⟨rfl, rfl, rfl, by decide +kernel, rfl, by decide +kernel, by decide +kernel⟩
theorem d__law_plus {P : Program} {w : World} {K : PySem.W.Frag} {mg : Str → Option Value} {base : Heap} {k : Nat} {f : Addr} {fd : FuncData} (T : Tx K mg) (F : FunD K "_law_plus" "_law_plus" (defArgs s__law_plus) (defBody s__law_plus) (defScope s__law_plus) [] [] f fd) (hm : mg "_law_plus" = some (.ref f)) (g__law_fraction : ZSp) (c__law_fraction : ZCal P w K mg base k "_law_fraction" g__law_fraction)
    {sp : ZSp} (len : ∀ vs S q, sp vs S q → vs.length = 2) (rd : ∀ vs S q, sp vs S q → zBody (w__law_plus g__law_fraction) N__law_plus vs S q) : ZCal P w K mg base (k + 1) "_law_plus" sp :=
  have nd := sc__law_plus.nd
  zcal F hm (F.bindsN (ps := ["one", "other"]) fun _ _ _ _ _ _ us hl => match us, hl with | [_, _], _ => rfl) sc__law_plus len fun cdv A outer s H E hr => ⟨w__law_plus g__law_fraction, (zss_one (zs_ret (z_call c__law_fraction hr (Nat.le_refl _) rfl (za_cons (z_add (z_mul (z_ix (zv 0) z_int) (z_ix (zv 1) z_int)) (z_mul (z_ix (zv 1) z_int) (z_ix (zv 0) z_int))) (za_cons (z_mul (z_ix (zv 0) z_int) (z_ix (zv 1) z_int)) za_nil))))), rd⟩

abbrev s__law_pairs : Stmt := topS 36
theorem sc__law_pairs : FnScope ["bag", "most", "found", "steps", "turn", "n"] ["bag", "most"] (defScope s__law_pairs) := ⟨rfl, rfl, rfl, by decide +kernel, rfl, by decide +kernel, by decide +kernel⟩
theorem d__law_pairs {P : Program} {w : World} {K : PySem.W.Frag} {mg : Str → Option Value} {base : Heap} {k : Nat} {f : Addr} {fd : FuncData} (T : Tx K mg) (F : FunD K "_law_pairs" "_law_pairs" (defArgs s__law_pairs) (defBody s__law_pairs) (defScope s__law_pairs) [] [] f fd) (hm : mg "_law_pairs" = some (.ref f)) (g__law_choose : ZSp) (g__law_pull : ZSp) (c__law_choose : ZCal P w K mg base k "_law_choose" g__law_choose) (c__law_pull : ZCal P w K mg base k "_law_pull" g__law_pull)
    {sp : ZSp} (len : ∀ vs S q, sp vs S q → vs.length = 2) (rd : ∀ vs S q, sp vs S q → zBody (w__law_pairs g__law_choose g__law_pull) N__law_pairs vs S q) : ZCal P w K mg base (k + 1) "_law_pairs" sp :=
  have nd := sc__law_pairs.nd
  zcal F hm (F.bindsN (ps := ["bag", "most"]) fun _ _ _ _ _ _ us hl => match us, hl with | [_, _], _ => rfl) sc__law_pairs len fun cdv A outer s H E hr => ⟨w__law_pairs g__law_choose g__law_pull, (zss_cons (zs_set (i := 2) nd rfl (by first | exact .inl rfl | exact .inr rfl) (z_lst za_nil))
    (zss_cons (zs_set (i := 3) nd rfl (by first | exact .inl rfl | exact .inr rfl) (z_lst (za_cons (z_lst (za_cons z_int (za_cons z_int (za_cons z_int (za_cons z_int (za_cons z_int za_nil)))))) (za_cons (z_lst (za_cons z_int (za_cons z_int (za_cons z_int (za_cons z_int (za_cons z_int za_nil)))))) (za_cons (z_lst (za_cons z_int (za_cons z_int (za_cons z_int (za_cons z_int (za_cons z_int za_nil)))))) (za_cons (z_lst (za_cons z_int (za_cons z_int (za_cons z_int (za_cons z_int (za_cons z_int za_nil)))))) (za_cons (z_lst (za_cons z_int (za_cons z_int (za_cons z_int (za_cons z_int (za_cons z_int (za_cons z_int za_nil))))))) za_nil)))))))
    (zss_cons (zs_set (i := 3) nd rfl (by first | exact .inl rfl | exact .inr rfl) (z_call c__law_choose hr (Nat.le_refl _) rfl (za_cons (zv 0) (za_cons (zv 3) za_nil))))
    (zss_cons (zs_for PassesOwn.never rfl (zi_range1 rfl T.range (z_add z_int (z_call c__law_pull hr (Nat.le_refl _) rfl (za_cons (zv 0) (za_cons (zv 1) za_nil))))) (PZGo.g (own := [4]) (zn 4 nd))
    (zss_cons (zs_set (i := 5) nd rfl (by first | exact .inl rfl | exact .inr rfl) (z_call c__law_choose hr (Nat.le_refl _) rfl (za_cons (zv 0) (za_cons (zv 3) za_nil))))
    (zss_one (zs_expr (z_append (zv 2) (za_cons (z_tup (za_cons (z_call c__law_pull hr (Nat.le_refl _) rfl (za_cons (zv 0) (za_cons (zv 5) za_nil))) (za_cons (zv 5) za_nil))) za_nil) (fun ho ha => pe_bm PySem.F.plainAttrs_list PySem.F.slot_list_append PySem.F.type_list_append mt_append ho ha))))))
    (zss_one (zs_ret (z_callTy call_tuple_of zTuple_ok rfl T.tuple zb_tuple (za_cons (zv 2) za_nil)))))))), rd⟩

abbrev s__law_whole_step : Stmt := topS 37
theorem sc__law_whole_step : FnScope ["pairs", "found", "a", "n"] ["pairs"] (defScope s__law_whole_step) := ⟨rfl, rfl, rfl, by decide +kernel, rfl, by decide +kernel, by decide +kernel⟩
theorem d__law_whole_step {P : Program} {w : World} {K : PySem.W.Frag} {mg : Str → Option Value} {base : Heap} {k : Nat} {f : Addr} {fd : FuncData} (T : Tx K mg) (F : FunD K "_law_whole_step" "_law_whole_step" (defArgs s__law_whole_step) (defBody s__law_whole_step) (defScope s__law_whole_step) [] [] f fd) (hm : mg "_law_whole_step" = some (.ref f)) (g__law_common : ZSp) (c__law_common : ZCal P w K mg base k "_law_common" g__law_common)
    {sp : ZSp} (len : ∀ vs S q, sp vs S q → vs.length = 1) (rd : ∀ vs S q, sp vs S q → zBody (w__law_whole_step g__law_common) N__law_whole_step vs S q) : ZCal P w K mg base (k + 1) "_law_whole_step" sp :=
  have nd := sc__law_whole_step.nd
  zcal F hm (F.bindsN (ps := ["pairs"]) fun _ _ _ _ _ _ us hl => match us, hl with | [_], _ => rfl) sc__law_whole_step len fun cdv A outer s H E hr => ⟨w__law_whole_step g__law_common, (zss_cons (zs_set (i := 1) nd rfl (by first | exact .inl rfl | exact .inr rfl) z_int)
    (zss_cons (zs_for PassesOwn.never rfl (zi_seq (zv 0)) (PZGo.g (own := [2, 3]) (zg_tup rfl (zgs_cons (zn 2 nd) (zgs_cons (zn 3 nd) zgs_nil))))
    (zss_one (zs_set (i := 1) nd rfl (by first | exact .inl rfl | exact .inr rfl) (z_fdiv (z_mul (zv 1) (zv 3)) (z_call c__law_common hr (Nat.le_refl _) rfl (za_cons (zv 1) (za_cons (zv 3) za_nil)))))))
    (zss_one (zs_ret (zv 1))))), rd⟩

abbrev s__law_has : Stmt := topS 38
theorem sc__law_has : FnScope ["pairs", "number", "at", "pair"] ["pairs", "number"] (defScope s__law_has) := ⟨rfl, rfl, rfl, by decide +kernel, rfl, by decide +kernel, by decide +kernel⟩
theorem d__law_has {P : Program} {w : World} {K : PySem.W.Frag} {mg : Str → Option Value} {base : Heap} {k : Nat} {f : Addr} {fd : FuncData} (T : Tx K mg) (F : FunD K "_law_has" "_law_has" (defArgs s__law_has) (defBody s__law_has) (defScope s__law_has) [] [] f fd) (hm : mg "_law_has" = some (.ref f))
    {sp : ZSp} (len : ∀ vs S q, sp vs S q → vs.length = 2) (rd : ∀ vs S q, sp vs S q → zBody (w__law_has) N__law_has vs S q) : ZCal P w K mg base (k + 1) "_law_has" sp :=
  have nd := sc__law_has.nd
  zcal F hm (F.bindsN (ps := ["pairs", "number"]) fun _ _ _ _ _ _ us hl => match us, hl with | [_, _], _ => rfl) sc__law_has len fun cdv A outer s H E hr => ⟨w__law_has, (zss_one (zs_ret (z_lc (own := [("at", 2), ("pair", 3)]) rfl nd (zi_enum rfl T.enumerate (zv 0)) (blkOk_by (by kernel_rfl)) (fun _ _ _ _ _ => (zg_tup rfl (zgs_cons (zn 2 nd) (zgs_cons (zn 3 nd) zgs_nil)))) (fun _ _ _ _ _ => (zts_one (zt_eq hr (z_mod (z_callTy call_int1 zInt_ok rfl T.int zb_int (za_cons (z_sub (zv 1) (z_ix (zv 3) z_int)) za_nil)) (z_ix (zv 3) z_int)) z_int))) (fun _ _ _ _ _ => (zv 2))))), rd⟩

abbrev s__law_cover : Stmt := topS 39
theorem sc__law_cover : FnScope ["bag", "found", "turn", "at", "many", "a", "n", "step"] ["bag"] (defScope s__law_cover) := ⟨rfl, rfl, rfl, by decide +kernel, rfl, by decide +kernel, by decide +kernel⟩
theorem d__law_cover {P : Program} {w : World} {K : PySem.W.Frag} {mg : Str → Option Value} {base : Heap} {k : Nat} {f : Addr} {fd : FuncData} (T : Tx K mg) (F : FunD K "_law_cover" "_law_cover" (defArgs s__law_cover) (defBody s__law_cover) (defScope s__law_cover) [] [] f fd) (hm : mg "_law_cover" = some (.ref f)) (g__law_choose : ZSp) (g__law_pull : ZSp) (c__law_choose : ZCal P w K mg base k "_law_choose" g__law_choose) (c__law_pull : ZCal P w K mg base k "_law_pull" g__law_pull)
    {sp : ZSp} (len : ∀ vs S q, sp vs S q → vs.length = 1) (rd : ∀ vs S q, sp vs S q → zBody (w__law_cover g__law_choose g__law_pull) N__law_cover vs S q) : ZCal P w K mg base (k + 1) "_law_cover" sp :=
  have nd := sc__law_cover.nd
  zcal F hm (F.bindsN (ps := ["bag"]) fun _ _ _ _ _ _ us hl => match us, hl with | [_], _ => rfl) sc__law_cover len fun cdv A outer s H E hr => ⟨w__law_cover g__law_choose g__law_pull, (zss_cons (zs_set (i := 1) nd rfl (by first | exact .inl rfl | exact .inr rfl) (z_lst (za_cons (z_tup (za_cons z_int (za_cons z_int za_nil))) za_nil)))
    (zss_cons (zs_for PassesOwn.never rfl (zi_range1 rfl T.range (z_add z_int (z_call c__law_pull hr (Nat.le_refl _) rfl (za_cons (zv 0) (za_cons z_int za_nil))))) (PZGo.g (own := [2]) (zn 2 nd))
    (zss_cons (zs_asg (z_tup (za_cons (z_call c__law_pull hr (Nat.le_refl _) rfl (za_cons (zv 0) (za_cons (z_callB call_len zLen_ok rfl T.len zb_len (za_cons (zv 1) za_nil)) za_nil))) (za_cons (z_add z_int (z_call c__law_pull hr (Nat.le_refl _) rfl (za_cons (zv 0) (za_cons z_int za_nil)))) za_nil))) (PZGo.g (own := [3, 4]) (zg_tup rfl (zgs_cons (zn 3 nd) (zgs_cons (zn 4 nd) zgs_nil)))))
    (zss_cons (zs_asg (z_ix (zv 1) (zv 3)) (PZGo.g (own := [5, 6]) (zg_tup rfl (zgs_cons (zn 5 nd) (zgs_cons (zn 6 nd) zgs_nil)))))
    (zss_one (zs_if (PZW.pt (zw_and (zt_le (z_mul (zv 6) (zv 4)) z_int) (zw_and1 (zt_lt (z_add (z_callB call_len zLen_ok rfl T.len zb_len (za_cons (zv 1) za_nil)) (zv 4)) z_int))))
    (zss_one (zs_set (i := 1) nd rfl (by first | exact .inl rfl | exact .inr rfl) (z_add (z_add (z_sl (zv 1) zo_none (zo_some (zv 3))) (z_lc (own := [("step", 7)]) rfl nd (zi_range1 rfl T.range (zv 4)) (blkOk_by (by kernel_rfl)) (fun _ _ _ _ _ => (zn 7 nd)) (fun _ _ _ _ _ => zts_nil) (fun _ _ _ _ _ => (z_tup (za_cons (z_add (zv 5) (z_mul (zv 6) (zv 7))) (za_cons (z_mul (zv 6) (zv 4)) za_nil)))))) (z_sl (zv 1) (zo_some (z_add (zv 3) z_int)) zo_none))))
    zss_nil)))))
    (zss_cons (zs_if (PZW.pt (zw_and (zt_eq hr (z_call c__law_pull hr (Nat.le_refl _) rfl (za_cons (zv 0) (za_cons z_int za_nil))) z_int) (zw_and1 (zt_lt (z_callB call_len zLen_ok rfl T.len zb_len (za_cons (zv 1) za_nil)) z_int))))
    (zss_one (zs_expr (z_append (zv 1) (za_cons (z_call c__law_choose hr (Nat.le_refl _) rfl (za_cons (zv 0) (za_cons (z_lst (za_cons (z_tup (za_cons z_int (za_cons z_int za_nil))) (za_cons (z_tup (za_cons z_int (za_cons z_int za_nil))) (za_cons (z_tup (za_cons z_int (za_cons z_int za_nil))) (za_cons (z_tup (za_cons z_int (za_cons z_int za_nil))) za_nil))))) za_nil))) za_nil) (fun ho ha => pe_bm PySem.F.plainAttrs_list PySem.F.slot_list_append PySem.F.type_list_append mt_append ho ha))))
    zss_nil)
    (zss_cons (zs_if (zt_eq hr (z_call c__law_pull hr (Nat.le_refl _) rfl (za_cons (zv 0) (za_cons z_int za_nil))) z_int)
    (zss_one (zs_set (i := 1) nd rfl (by first | exact .inl rfl | exact .inr rfl) (z_ifExp (zt_gt (z_callB call_len zLen_ok rfl T.len zb_len (za_cons (zv 1) za_nil)) z_int) (z_sl (zv 1) (zo_some z_int) zo_none) (zv 1))))
    zss_nil)
    (zss_one (zs_ret (z_callTy call_tuple_of zTuple_ok rfl T.tuple zb_tuple (za_cons (zv 1) za_nil)))))))), rd⟩

abbrev s__law_does : Stmt := topS 40
theorem sc__law_does : FnScope ["pairs", "number"] ["pairs"] (defScope s__law_does) := ⟨rfl, rfl, rfl, by decide +kernel, rfl, by decide +kernel, by decide +kernel⟩
theorem d__law_does {P : Program} {w : World} {K : PySem.W.Frag} {mg : Str → Option Value} {base : Heap} {k : Nat} {f : Addr} {fd : FuncData} (T : Tx K mg) (F : FunD K "_law_does" "_law_does" (defArgs s__law_does) (defBody s__law_does) (defScope s__law_does) [] [] f fd) (hm : mg "_law_does" = some (.ref f)) (g__law_has : ZSp) (g__law_whole_step : ZSp) (c__law_has : ZCal P w K mg base k "_law_has" g__law_has) (c__law_whole_step : ZCal P w K mg base k "_law_whole_step" g__law_whole_step)
    {sp : ZSp} (len : ∀ vs S q, sp vs S q → vs.length = 1) (rd : ∀ vs S q, sp vs S q → zBody (w__law_does g__law_has g__law_whole_step) N__law_does vs S q) : ZCal P w K mg base (k + 1) "_law_does" sp :=
  have nd := sc__law_does.nd
  zcal F hm (F.bindsN (ps := ["pairs"]) fun _ _ _ _ _ _ us hl => match us, hl with | [_], _ => rfl) sc__law_does len fun cdv A outer s H E hr => ⟨w__law_does g__law_has g__law_whole_step, (zss_one (zs_ret (z_eq hr (z_lc (own := [("number", 1)]) rfl nd (zi_range1 rfl T.range (z_call c__law_whole_step hr (Nat.le_refl _) rfl (za_cons (zv 0) za_nil))) (blkOk_by (by kernel_rfl)) (fun _ _ _ _ _ => (zn 1 nd)) (fun _ _ _ _ _ => (zts_one (zt_eq hr (z_call c__law_has hr (Nat.le_refl _) rfl (za_cons (zv 0) (za_cons (zv 1) za_nil))) (z_lst za_nil)))) (fun _ _ _ _ _ => z_int)) (z_lst za_nil)))), rd⟩

abbrev s__law_is_exact : Stmt := topS 41
theorem sc__law_is_exact : FnScope ["pairs", "number"] ["pairs"] (defScope s__law_is_exact) := ⟨rfl, rfl, rfl, by decide +kernel, rfl, by decide +kernel, by decide +kernel⟩
theorem d__law_is_exact {P : Program} {w : World} {K : PySem.W.Frag} {mg : Str → Option Value} {base : Heap} {k : Nat} {f : Addr} {fd : FuncData} (T : Tx K mg) (F : FunD K "_law_is_exact" "_law_is_exact" (defArgs s__law_is_exact) (defBody s__law_is_exact) (defScope s__law_is_exact) [] [] f fd) (hm : mg "_law_is_exact" = some (.ref f)) (g__law_has : ZSp) (g__law_whole_step : ZSp) (c__law_has : ZCal P w K mg base k "_law_has" g__law_has) (c__law_whole_step : ZCal P w K mg base k "_law_whole_step" g__law_whole_step)
    {sp : ZSp} (len : ∀ vs S q, sp vs S q → vs.length = 1) (rd : ∀ vs S q, sp vs S q → zBody (w__law_is_exact g__law_has g__law_whole_step) N__law_is_exact vs S q) : ZCal P w K mg base (k + 1) "_law_is_exact" sp :=
  have nd := sc__law_is_exact.nd
  zcal F hm (F.bindsN (ps := ["pairs"]) fun _ _ _ _ _ _ us hl => match us, hl with | [_], _ => rfl) sc__law_is_exact len fun cdv A outer s H E hr => ⟨w__law_is_exact g__law_has g__law_whole_step, (zss_one (zs_ret (z_eq hr (z_lc (own := [("number", 1)]) rfl nd (zi_range1 rfl T.range (z_call c__law_whole_step hr (Nat.le_refl _) rfl (za_cons (zv 0) za_nil))) (blkOk_by (by kernel_rfl)) (fun _ _ _ _ _ => (zn 1 nd)) (fun _ _ _ _ _ => (zts_one (zt_ne hr (z_callB call_len zLen_ok rfl T.len zb_len (za_cons (z_call c__law_has hr (Nat.le_refl _) rfl (za_cons (zv 0) (za_cons (zv 1) za_nil))) za_nil)) z_int))) (fun _ _ _ _ _ => z_int)) (z_lst za_nil)))), rd⟩

abbrev s__law_is_least : Stmt := topS 42
theorem sc__law_is_least : FnScope ["pairs", "fewer", "at", "some"] ["pairs"] (defScope s__law_is_least) := ⟨rfl, rfl, rfl, by decide +kernel, rfl, by decide +kernel, by decide +kernel⟩
theorem d__law_is_least {P : Program} {w : World} {K : PySem.W.Frag} {mg : Str → Option Value} {base : Heap} {k : Nat} {f : Addr} {fd : FuncData} (T : Tx K mg) (F : FunD K "_law_is_least" "_law_is_least" (defArgs s__law_is_least) (defBody s__law_is_least) (defScope s__law_is_least) [] [] f fd) (hm : mg "_law_is_least" = some (.ref f)) (g__law_does : ZSp) (c__law_does : ZCal P w K mg base k "_law_does" g__law_does)
    {sp : ZSp} (len : ∀ vs S q, sp vs S q → vs.length = 1) (rd : ∀ vs S q, sp vs S q → zBody (w__law_is_least g__law_does) N__law_is_least vs S q) : ZCal P w K mg base (k + 1) "_law_is_least" sp :=
  have nd := sc__law_is_least.nd
  zcal F hm (F.bindsN (ps := ["pairs"]) fun _ _ _ _ _ _ us hl => match us, hl with | [_], _ => rfl) sc__law_is_least len fun cdv A outer s H E hr => ⟨w__law_is_least g__law_does, (zss_cons (zs_if (zt_not (zt_val (z_call c__law_does hr (Nat.le_refl _) rfl (za_cons (zv 0) za_nil))))
    (zss_one (zs_ret z_bl))
    zss_nil)
    (zss_cons (zs_setLc (i := 1) (hy := rfl) (hyl := rfl) (hsw := sw_true rfl rfl rfl (by decide +kernel)) (own := [("at", 2)]) rfl nd (zi_range1 rfl T.range (z_callB call_len zLen_ok rfl T.len zb_len (za_cons (zv 0) za_nil))) (blkOk_by (by kernel_rfl)) (fun _ _ _ _ _ => (zn 2 nd)) (fun _ _ _ _ _ => zts_nil) (fun _ _ _ _ _ => (z_add (z_sl (zv 0) zo_none (zo_some (zv 2))) (z_sl (zv 0) (zo_some (z_add (zv 2) z_int)) zo_none))))
    (zss_one (zs_ret (z_eq hr (z_lc (own := [("some", 3)]) rfl nd (zi_seq (zv 1)) (blkOk_by (by kernel_rfl)) (fun _ _ _ _ _ => (zn 3 nd)) (fun _ _ _ _ _ => (zts_one (PZW.pt (zw_and (zt_ne hr (zv 3) (z_tup za_nil)) (zw_and1 (zt_val (z_call c__law_does hr (Nat.le_refl _) rfl (za_cons (zv 3) za_nil)))))))) (fun _ _ _ _ _ => z_int)) (z_lst za_nil)))))), rd⟩

abbrev s__law_bound : Stmt := topS 43
theorem sc__law_bound : FnScope ["pairs", "left", "found", "prime"] ["pairs"] (defScope s__law_bound) := ⟨rfl, rfl, rfl, by decide +kernel, rfl, by decide +kernel, by decide +kernel⟩
theorem d__law_bound {P : Program} {w : World} {K : PySem.W.Frag} {mg : Str → Option Value} {base : Heap} {k : Nat} {f : Addr} {fd : FuncData} (T : Tx K mg) (F : FunD K "_law_bound" "_law_bound" (defArgs s__law_bound) (defBody s__law_bound) (defScope s__law_bound) [] [] f fd) (hm : mg "_law_bound" = some (.ref f)) (g__law_whole_step : ZSp) (c__law_whole_step : ZCal P w K mg base k "_law_whole_step" g__law_whole_step)
    {sp : ZSp} (len : ∀ vs S q, sp vs S q → vs.length = 1) (rd : ∀ vs S q, sp vs S q → zBody (w__law_bound g__law_whole_step) N__law_bound vs S q) : ZCal P w K mg base (k + 1) "_law_bound" sp :=
  have nd := sc__law_bound.nd
  zcal F hm (F.bindsN (ps := ["pairs"]) fun _ _ _ _ _ _ us hl => match us, hl with | [_], _ => rfl) sc__law_bound len fun cdv A outer s H E hr => ⟨w__law_bound g__law_whole_step, (zss_cons (zs_par3 (i := 1) (j := 2) (l := 3) rfl nd rfl rfl rfl (by decide) (by decide) (by decide) rfl rfl rfl (za_cons (z_call c__law_whole_step hr (Nat.le_refl _) rfl (za_cons (zv 0) za_nil)) (za_cons z_int (za_cons z_int za_nil))) rfl)
    (zss_cons (zs_while PassesOwn.never (zt_gt (zv 1) z_int)
    (zss_cons (zs_while PassesOwn.never (zt_eq hr (z_mod (z_callTy call_int1 zInt_ok rfl T.int zb_int (za_cons (zv 1) za_nil)) (zv 3)) z_int)
    (zss_one (zs_par (i := 1) (j := 2) rfl nd rfl rfl (by decide) rfl rfl (za_cons (z_fdiv (zv 1) (zv 3)) (za_cons (z_sub (z_add (zv 2) (zv 3)) z_int) za_nil)) rfl)))
    (zss_one (zs_set (i := 3) nd rfl (by first | exact .inl rfl | exact .inr rfl) (z_add (zv 3) z_int)))))
    (zss_one (zs_ret (zv 2))))), rd⟩

abbrev s__law_right : Stmt := topS 44
theorem sc__law_right : FnScope ["bag", "pairs", "exact", "least", "does", "whole", "a", "n", "steps", "found", "at", "many", "parted", "told", "step"] ["bag"] (defScope s__law_right) := ⟨rfl, rfl, rfl, by decide +kernel, rfl, by decide +kernel, by decide +kernel⟩
theorem d__law_right {P : Program} {w : World} {K : PySem.W.Frag} {mg : Str → Option Value} {base : Heap} {k : Nat} {f : Addr} {fd : FuncData} (T : Tx K mg) (F : FunD K "_law_right" "_law_right" (defArgs s__law_right) (defBody s__law_right) (defScope s__law_right) [] [] f fd) (hm : mg "_law_right" = some (.ref f)) (g__law_bound : ZSp) (g__law_cover : ZSp) (g__law_does : ZSp) (g__law_is_exact : ZSp) (g__law_is_least : ZSp) (g__law_pairs : ZSp) (g__law_plus : ZSp) (g__law_pull : ZSp) (g_does_cover : ZSp) (g_is_exact : ZSp) (g_is_least_cover : ZSp) (g_least_cover : ZSp) (g_share_of : ZSp) (g_split_at : ZSp) (c__law_bound : ZCal P w K mg base k "_law_bound" g__law_bound) (c__law_cover : ZCal P w K mg base k "_law_cover" g__law_cover) (c__law_does : ZCal P w K mg base k "_law_does" g__law_does) (c__law_is_exact : ZCal P w K mg base k "_law_is_exact" g__law_is_exact) (c__law_is_least : ZCal P w K mg base k "_law_is_least" g__law_is_least) (c__law_pairs : ZCal P w K mg base k "_law_pairs" g__law_pairs) (c__law_plus : ZCal P w K mg base k "_law_plus" g__law_plus) (c__law_pull : ZCal P w K mg base k "_law_pull" g__law_pull) (c_does_cover : ZCal P w K mg base k "does_cover" g_does_cover) (c_is_exact : ZCal P w K mg base k "is_exact" g_is_exact) (c_is_least_cover : ZCal P w K mg base k "is_least_cover" g_is_least_cover) (c_least_cover : ZCal P w K mg base k "least_cover" g_least_cover) (c_share_of : ZCal P w K mg base k "share_of" g_share_of) (c_split_at : ZCal P w K mg base k "split_at" g_split_at)
    {sp : ZSp} (len : ∀ vs S q, sp vs S q → vs.length = 1) (rd : ∀ vs S q, sp vs S q → zBody (w__law_right g__law_bound g__law_cover g__law_does g__law_is_exact g__law_is_least g__law_pairs g__law_plus g__law_pull g_does_cover g_is_exact g_is_least_cover g_least_cover g_share_of g_split_at) N__law_right vs S q) : ZCal P w K mg base (k + 1) "_law_right" sp :=
  have nd := sc__law_right.nd
  zcal F hm (F.bindsN (ps := ["bag"]) fun _ _ _ _ _ _ us hl => match us, hl with | [_], _ => rfl) sc__law_right len fun cdv A outer s H E hr => ⟨w__law_right g__law_bound g__law_cover g__law_does g__law_is_exact g__law_is_least g__law_pairs g__law_plus g__law_pull g_does_cover g_is_exact g_is_least_cover g_least_cover g_share_of g_split_at, (zss_cons (zs_set (i := 1) nd rfl (by first | exact .inl rfl | exact .inr rfl) (z_ifExp (zt_gt (z_call c__law_pull hr (Nat.le_refl _) rfl (za_cons (zv 0) (za_cons z_int za_nil))) z_int) (z_call c__law_cover hr (Nat.le_refl _) rfl (za_cons (zv 0) za_nil)) (z_call c__law_pairs hr (Nat.le_refl _) rfl (za_cons (zv 0) (za_cons z_int za_nil)))))
    (zss_cons (zs_par3 (i := 2) (j := 3) (l := 4) rfl nd rfl rfl rfl (by decide) (by decide) (by decide) rfl rfl rfl (za_cons (z_call c__law_is_exact hr (Nat.le_refl _) rfl (za_cons (zv 1) za_nil)) (za_cons (z_call c__law_is_least hr (Nat.le_refl _) rfl (za_cons (zv 1) za_nil)) (za_cons (z_call c__law_does hr (Nat.le_refl _) rfl (za_cons (zv 1) za_nil)) za_nil))) rfl)
    (zss_cons (zs_if (PZW.pt (zw_or (zt_ne hr (z_call c_is_exact hr (Nat.le_refl _) rfl (za_cons (zv 1) za_nil)) (zv 2)) (zw_or (zt_ne hr (z_call c_is_least_cover hr (Nat.le_refl _) rfl (za_cons (zv 1) za_nil)) (zv 3)) (zw_or1 (zt_ne hr (z_call c_does_cover hr (Nat.le_refl _) rfl (za_cons (zv 1) za_nil)) (zv 4))))))
    (zss_one (zs_ret z_bl))
    zss_nil)
    (zss_cons (zs_if (zt_val (zv 2))
    (zss_cons (zs_set (i := 5) nd rfl (by first | exact .inl rfl | exact .inr rfl) (z_tup (za_cons z_int (za_cons z_int za_nil))))
    (zss_cons (zs_for PassesOwn.never rfl (zi_seq (zv 1)) (PZGo.g (own := [6, 7]) (zg_tup rfl (zgs_cons (zn 6 nd) (zgs_cons (zn 7 nd) zgs_nil))))
    (zss_one (zs_set (i := 5) nd rfl (by first | exact .inl rfl | exact .inr rfl) (z_call c__law_plus hr (Nat.le_refl _) rfl (za_cons (zv 5) (za_cons (z_tup (za_cons z_int (za_cons (zv 7) za_nil))) za_nil))))))
    (zss_cons (zs_setLc (i := 8) (hy := rfl) (hyl := rfl) (hsw := sw_true rfl rfl rfl (by decide +kernel)) (own := [("a", 6), ("n", 7)]) rfl nd (zi_seq (zv 1)) (blkOk_by (by kernel_rfl)) (fun _ _ _ _ _ => (zg_tup rfl (zgs_cons (zn 6 nd) (zgs_cons (zn 7 nd) zgs_nil)))) (fun _ _ _ _ _ => zts_nil) (fun _ _ _ _ _ => (zv 7)))
    (zss_one (zs_if (PZW.pt (zw_or (zt_ne hr (zv 5) (z_tup (za_cons z_int (za_cons z_int za_nil)))) (zw_or (zt_not (zt_val (zv 3))) (zw_or1 (PZW.pt (zw_and (zt_gt (z_callB call_len zLen_ok rfl T.len zb_len (za_cons (zv 1) za_nil)) z_int) (zw_and1 (zt_lt (z_count (zv 8) (za_cons (z_callB (cr_max rfl) zMaxL_ok rfl T.max zb_max (za_cons (zv 8) za_nil)) za_nil) (fun ho ha => pe_bm PySem.F.plainAttrs_list PySem.F.slot_list_count PySem.F.type_list_count mt_lcount ho ha)) z_int))))))))
    (zss_one (zs_ret z_bl))
    zss_nil)))))
    zss_nil)
    (zss_cons (zs_if (PZW.pt (zw_and (zt_val (zv 3)) (zw_and1 (zt_lt (z_callB call_len zLen_ok rfl T.len zb_len (za_cons (zv 1) za_nil)) (z_call c__law_bound hr (Nat.le_refl _) rfl (za_cons (zv 1) za_nil))))))
    (zss_one (zs_ret z_bl))
    zss_nil)
    (zss_cons (zs_set (i := 9) nd rfl (by first | exact .inl rfl | exact .inr rfl) (z_call c_least_cover hr (Nat.le_refl _) rfl (za_cons (zv 1) za_nil)))
    (zss_cons (zs_if (zt_eq hr (z_isN (zv 9)) (zv 4))
    (zss_one (zs_ret z_bl))
    zss_nil)
    (zss_cons (zs_if (PZW.pt (zw_and (zt_val (zv 4)) (zw_and1 (PZW.pt (zw_or (zt_ne hr (z_callTy call_list_of zList_ok rfl T.list zb_list (za_cons (zv 9) za_nil)) (z_sortSet T.sorted T.set (zv 9))) (zw_or1 (zt_not (zt_val (z_call c__law_is_least hr (Nat.le_refl _) rfl (za_cons (z_dr (z_callTy call_tuple_of zTuple_ok rfl T.tuple zb_tuple (za_cons (z_lc (own := [("at", 10)]) rfl nd (zi_seq (zv 9)) (blkOk_by (by kernel_rfl)) (fun _ _ _ _ _ => (zn 10 nd)) (fun _ _ _ _ _ => zts_nil) (fun _ _ _ _ _ => (z_ix (zv 1) (zv 10)))) za_nil))) za_nil))))))))))
    (zss_one (zs_ret z_bl))
    zss_nil)
    (zss_cons (zs_asg (z_tup (za_cons (z_call c__law_pull hr (Nat.le_refl _) rfl (za_cons (zv 0) (za_cons (z_callB call_len zLen_ok rfl T.len zb_len (za_cons (zv 1) za_nil)) za_nil))) (za_cons (z_add z_int (z_call c__law_pull hr (Nat.le_refl _) rfl (za_cons (zv 0) (za_cons z_int za_nil)))) za_nil))) (PZGo.g (own := [10, 11]) (zg_tup rfl (zgs_cons (zn 10 nd) (zgs_cons (zn 11 nd) zgs_nil)))))
    (zss_cons (zs_asg (z_ix (zv 1) (zv 10)) (PZGo.g (own := [6, 7]) (zg_tup rfl (zgs_cons (zn 6 nd) (zgs_cons (zn 7 nd) zgs_nil)))))
    (zss_cons (zs_if (PZW.pt (zw_and (zt_le (z_mul (zv 7) (zv 11)) z_int) (zw_and1 (zt_le (z_add (z_callB call_len zLen_ok rfl T.len zb_len (za_cons (zv 1) za_nil)) (zv 11)) z_int))))
    (zss_cons (zs_set (i := 12) nd rfl (by first | exact .inl rfl | exact .inr rfl) (z_add (z_add (z_sl (zv 1) zo_none (zo_some (zv 10))) (z_dr (z_callTy call_tuple_of zTuple_ok rfl T.tuple zb_tuple (za_cons (z_lc (own := [("step", 14)]) rfl nd (zi_range1 rfl T.range (zv 11)) (blkOk_by (by kernel_rfl)) (fun _ _ _ _ _ => (zn 14 nd)) (fun _ _ _ _ _ => zts_nil) (fun _ _ _ _ _ => (z_tup (za_cons (z_add (zv 6) (z_mul (zv 7) (zv 14))) (za_cons (z_mul (zv 7) (zv 11)) za_nil))))) za_nil)))) (z_sl (zv 1) (zo_some (z_add (zv 10) z_int)) zo_none)))
    (zss_cons (zs_set (i := 13) nd rfl (by first | exact .inl rfl | exact .inr rfl) (z_call c_split_at hr (Nat.le_refl _) rfl (za_cons (zv 1) (za_cons (zv 10) (za_cons (zv 11) za_nil)))))
    (zss_one (zs_if (PZW.pt (zw_or (zt_ne hr (zv 13) (zv 12)) (zw_or (zt_ne hr (z_call c_does_cover hr (Nat.le_refl _) rfl (za_cons (zv 13) za_nil)) (zv 4)) (zw_or (zt_ne hr (z_call c_is_exact hr (Nat.le_refl _) rfl (za_cons (zv 13) za_nil)) (zv 2)) (zw_or1 (zt_ne hr (z_call c_share_of hr (Nat.le_refl _) rfl (za_cons (zv 13) za_nil)) (z_call c_share_of hr (Nat.le_refl _) rfl (za_cons (zv 1) za_nil))))))))
    (zss_one (zs_ret z_bl))
    zss_nil))))
    zss_nil)
    (zss_one (zs_ret z_bl))))))))))))), rd⟩

abbrev s_law : Stmt := topS 45
theorem sc_law : FnScope ["script", "spot", "bag", "turn", "five", "told"] ["script"] (defScope s_law) := ⟨rfl, rfl, rfl, by decide +kernel, rfl, by decide +kernel, by decide +kernel⟩
theorem d_law {P : Program} {w : World} {K : PySem.W.Frag} {mg : Str → Option Value} {base : Heap} {k : Nat} {f : Addr} {fd : FuncData} (T : Tx K mg) (F : FunD K "law" "law" (defArgs s_law) (defBody s_law) (defScope s_law) [] [] f fd) (g__law_bag : ZSp) (g__law_right : ZSp) (g_is_exact : ZSp) (g_is_least_cover : ZSp) (g_least_cover : ZSp) (g_split_at : ZSp) (c__law_bag : ZCal P w K mg base k "_law_bag" g__law_bag) (c__law_right : ZCal P w K mg base k "_law_right" g__law_right) (c_is_exact : ZCal P w K mg base k "is_exact" g_is_exact) (c_is_least_cover : ZCal P w K mg base k "is_least_cover" g_is_least_cover) (c_least_cover : ZCal P w K mg base k "least_cover" g_least_cover) (c_split_at : ZCal P w K mg base k "split_at" g_split_at)
    {sp : ZSp} (len : ∀ vs S q, sp vs S q → vs.length = 1) (rd : ∀ vs S q, sp vs S q → zBody (w_law g__law_bag g__law_right g_is_exact g_is_least_cover g_least_cover g_split_at) N_law vs S q) : FnOk P w K mg base CX0 (k + 1) f fd ["script"] (LF K sp) :=
  have nd := sc_law.nd
  zfn F sc_law len fun cdv A outer s H E hr => ⟨w_law g__law_bag g__law_right g_is_exact g_is_least_cover g_least_cover g_split_at, (zss_cons (zs_for PassesOwn.never rfl (zi_range1 rfl T.range (z_callB (call_max2 rfl) zMax2_ok rfl T.max zb_max (za_cons z_int (za_cons (z_callB (call_min2 rfl) zMin2_ok rfl T.min zb_min (za_cons z_int (za_cons (z_callB call_len zLen_ok rfl T.len zb_len (za_cons (zv 0) za_nil)) za_nil))) za_nil)))) (PZGo.g (own := [1]) (zn 1 nd))
    (zss_cons (zs_set (i := 2) nd rfl (by first | exact .inl rfl | exact .inr rfl) (z_call c__law_bag hr (Nat.le_refl _) rfl (za_cons (zv 0) (za_cons (zv 1) za_nil))))
    (zss_one (zs_for PassesOwn.never rfl (zi_range1 rfl T.range z_int) (PZGo.g (own := [3]) (zn 3 nd))
    (zss_one (zs_if (zt_not (zt_val (z_call c__law_right hr (Nat.le_refl _) rfl (za_cons (zv 2) za_nil))))
    (zss_one (zs_ret z_bl))
    zss_nil))))))
    (zss_cons (zs_set (i := 4) nd rfl (by first | exact .inl rfl | exact .inr rfl) (z_tup (za_cons (z_tup (za_cons z_int (za_cons z_int za_nil))) (za_cons (z_tup (za_cons z_int (za_cons z_int za_nil))) (za_cons (z_tup (za_cons z_int (za_cons z_int za_nil))) (za_cons (z_tup (za_cons z_int (za_cons z_int za_nil))) (za_cons (z_tup (za_cons z_int (za_cons z_int za_nil))) za_nil)))))))
    (zss_cons (zs_set (i := 5) nd rfl (by first | exact .inl rfl | exact .inr rfl) (z_lst (za_cons (z_call c_is_exact hr (Nat.le_refl _) rfl (za_cons (zv 4) za_nil)) (za_cons (z_call c_is_least_cover hr (Nat.le_refl _) rfl (za_cons (zv 4) za_nil)) (za_cons (z_call c_is_exact hr (Nat.le_refl _) rfl (za_cons (z_tup (za_cons (z_tup (za_cons z_int (za_cons z_int za_nil))) (za_cons (z_tup (za_cons z_int (za_cons z_int za_nil))) (za_cons (z_tup (za_cons z_int (za_cons z_int za_nil))) za_nil)))) za_nil)) (za_cons (z_call c_least_cover hr (Nat.le_refl _) rfl (za_cons (z_tup (za_cons (z_tup (za_cons z_int (za_cons z_int za_nil))) (za_cons (z_tup (za_cons z_int (za_cons z_int za_nil))) (za_cons (z_tup (za_cons z_int (za_cons z_int za_nil))) za_nil)))) za_nil)) (za_cons (z_call c_split_at hr (Nat.le_refl _) rfl (za_cons (z_tup (za_cons (z_tup (za_cons z_int (za_cons z_int za_nil))) (za_cons (z_tup (za_cons z_int (za_cons z_int za_nil))) za_nil))) (za_cons z_int (za_cons z_int za_nil)))) (za_cons (z_call c_is_exact hr (Nat.le_refl _) rfl (za_cons (z_tup (za_cons (z_tup (za_cons z_int (za_cons z_int za_nil))) za_nil)) za_nil)) za_nil))))))))
    (zss_one (zs_ret (z_and (z_eq hr (zv 5) (z_lst (za_cons z_bl (za_cons z_bl (za_cons z_bl (za_cons (z_tup (za_cons z_int za_nil)) (za_cons (z_tup (za_cons (z_tup (za_cons z_int (za_cons z_int za_nil))) (za_cons (z_tup (za_cons z_int (za_cons z_int za_nil))) (za_cons (z_tup (za_cons z_int (za_cons z_int za_nil))) za_nil)))) (za_cons z_bl za_nil)))))))) (z_one (z_isB (z_call c_is_exact hr (Nat.le_refl _) rfl (za_cons (z_tup (za_cons (z_tup (za_cons z_int (za_cons z_int za_nil))) (za_cons (z_tup (za_cons z_int (za_cons z_int za_nil))) za_nil))) za_nil)) z_bl)))))))), rd⟩

end Z


set_option maxHeartbeats 0
namespace Z
open PySem PySem.Spec PyProof.Rows L2
def dd_is_whole : He.DefD := ⟨("is_whole", none), "is_whole", "is_whole", defArgs s_is_whole, defBody s_is_whole, defScope s_is_whole, [], [("least", .non), ("most", .non)]⟩
def dd_has_number : He.DefD := ⟨("has_number", none), "has_number", "has_number", defArgs s_has_number, defBody s_has_number, defScope s_has_number, [], []⟩
def dd_greatest_shared : He.DefD := ⟨("greatest_shared", none), "greatest_shared", "greatest_shared", defArgs s_greatest_shared, defBody s_greatest_shared, defScope s_greatest_shared, [], []⟩
def dd_least_common : He.DefD := ⟨("least_common", none), "least_common", "least_common", defArgs s_least_common, defBody s_least_common, defScope s_least_common, [], []⟩
def dd_meet_in : He.DefD := ⟨("meet_in", none), "meet_in", "meet_in", defArgs s_meet_in, defBody s_meet_in, defScope s_meet_in, [], []⟩
def dd_is_had : He.DefD := ⟨("is_had", none), "is_had", "is_had", defArgs s_is_had, defBody s_is_had, defScope s_is_had, [], []⟩
def dd_left_in : He.DefD := ⟨("left_in", none), "left_in", "left_in", defArgs s_left_in, defBody s_left_in, defScope s_left_in, [], []⟩
def dd_does_cover_in : He.DefD := ⟨("does_cover_in", none), "does_cover_in", "does_cover_in", defArgs s_does_cover_in, defBody s_does_cover_in, defScope s_does_cover_in, [], []⟩
def dd_least_in : He.DefD := ⟨("least_in", none), "least_in", "least_in", defArgs s_least_in, defBody s_least_in, defScope s_least_in, [], []⟩
def dd_share_in : He.DefD := ⟨("share_in", none), "share_in", "share_in", defArgs s_share_in, defBody s_share_in, defScope s_share_in, [], []⟩
def dd_are_apart : He.DefD := ⟨("are_apart", none), "are_apart", "are_apart", defArgs s_are_apart, defBody s_are_apart, defScope s_are_apart, [], []⟩
def dd_is_pair : He.DefD := ⟨("is_pair", none), "is_pair", "is_pair", defArgs s_is_pair, defBody s_is_pair, defScope s_is_pair, [], []⟩
def dd_are_pairs_in : He.DefD := ⟨("are_pairs_in", none), "are_pairs_in", "are_pairs_in", defArgs s_are_pairs_in, defBody s_are_pairs_in, defScope s_are_pairs_in, [], []⟩
def dd_need_pairs : He.DefD := ⟨("need_pairs", none), "need_pairs", "need_pairs", defArgs s_need_pairs, defBody s_need_pairs, defScope s_need_pairs, [], []⟩
def dd_does_cover : He.DefD := ⟨("does_cover", none), "does_cover", "does_cover", defArgs s_does_cover, defBody s_does_cover, defScope s_does_cover, [], []⟩
def dd_share_of : He.DefD := ⟨("share_of", none), "share_of", "share_of", defArgs s_share_of, defBody s_share_of, defScope s_share_of, [], []⟩
def dd_is_exact : He.DefD := ⟨("is_exact", none), "is_exact", "is_exact", defArgs s_is_exact, defBody s_is_exact, defScope s_is_exact, [], []⟩
def dd_is_least_cover : He.DefD := ⟨("is_least_cover", none), "is_least_cover", "is_least_cover", defArgs s_is_least_cover, defBody s_is_least_cover, defScope s_is_least_cover, [], []⟩
def dd_least_cover : He.DefD := ⟨("least_cover", none), "least_cover", "least_cover", defArgs s_least_cover, defBody s_least_cover, defScope s_least_cover, [], []⟩
def dd_split_at : He.DefD := ⟨("split_at", none), "split_at", "split_at", defArgs s_split_at, defBody s_split_at, defScope s_split_at, [], []⟩
def dd__law_bag : He.DefD := ⟨("_law_bag", none), "_law_bag", "_law_bag", defArgs s__law_bag, defBody s__law_bag, defScope s__law_bag, [], []⟩
def dd__law_pull : He.DefD := ⟨("_law_pull", none), "_law_pull", "_law_pull", defArgs s__law_pull, defBody s__law_pull, defScope s__law_pull, [], []⟩
def dd__law_choose : He.DefD := ⟨("_law_choose", none), "_law_choose", "_law_choose", defArgs s__law_choose, defBody s__law_choose, defScope s__law_choose, [], []⟩
def dd__law_common : He.DefD := ⟨("_law_common", none), "_law_common", "_law_common", defArgs s__law_common, defBody s__law_common, defScope s__law_common, [], []⟩
def dd__law_fraction : He.DefD := ⟨("_law_fraction", none), "_law_fraction", "_law_fraction", defArgs s__law_fraction, defBody s__law_fraction, defScope s__law_fraction, [], []⟩
def dd__law_plus : He.DefD := ⟨("_law_plus", none), "_law_plus", "_law_plus", defArgs s__law_plus, defBody s__law_plus, defScope s__law_plus, [], []⟩
def dd__law_pairs : He.DefD := ⟨("_law_pairs", none), "_law_pairs", "_law_pairs", defArgs s__law_pairs, defBody s__law_pairs, defScope s__law_pairs, [], []⟩
def dd__law_whole_step : He.DefD := ⟨("_law_whole_step", none), "_law_whole_step", "_law_whole_step", defArgs s__law_whole_step, defBody s__law_whole_step, defScope s__law_whole_step, [], []⟩
def dd__law_has : He.DefD := ⟨("_law_has", none), "_law_has", "_law_has", defArgs s__law_has, defBody s__law_has, defScope s__law_has, [], []⟩
def dd__law_cover : He.DefD := ⟨("_law_cover", none), "_law_cover", "_law_cover", defArgs s__law_cover, defBody s__law_cover, defScope s__law_cover, [], []⟩
def dd__law_does : He.DefD := ⟨("_law_does", none), "_law_does", "_law_does", defArgs s__law_does, defBody s__law_does, defScope s__law_does, [], []⟩
def dd__law_is_exact : He.DefD := ⟨("_law_is_exact", none), "_law_is_exact", "_law_is_exact", defArgs s__law_is_exact, defBody s__law_is_exact, defScope s__law_is_exact, [], []⟩
def dd__law_is_least : He.DefD := ⟨("_law_is_least", none), "_law_is_least", "_law_is_least", defArgs s__law_is_least, defBody s__law_is_least, defScope s__law_is_least, [], []⟩
def dd__law_bound : He.DefD := ⟨("_law_bound", none), "_law_bound", "_law_bound", defArgs s__law_bound, defBody s__law_bound, defScope s__law_bound, [], []⟩
def dd__law_right : He.DefD := ⟨("_law_right", none), "_law_right", "_law_right", defArgs s__law_right, defBody s__law_right, defScope s__law_right, [], []⟩
def dd_law : He.DefD := ⟨("law", none), "law", "law", defArgs s_law, defBody s_law, defScope s_law, [], []⟩
def fnL_0 : List He.DefD := [dd_is_whole, dd_has_number, dd_greatest_shared, dd_least_common, dd_meet_in, dd_is_had, dd_left_in, dd_does_cover_in, dd_least_in, dd_share_in, dd_are_apart, dd_is_pair, dd_are_pairs_in, dd_need_pairs, dd_does_cover, dd_share_of, dd_is_exact, dd_is_least_cover, dd_least_cover, dd_split_at, dd__law_bag, dd__law_pull, dd__law_choose, dd__law_common, dd__law_fraction, dd__law_plus, dd__law_pairs, dd__law_whole_step, dd__law_has, dd__law_cover]
def fnL_1 : List He.DefD := [dd__law_does, dd__law_is_exact, dd__law_is_least, dd__law_bound, dd__law_right, dd_law]
abbrev fnL : List He.DefD := fnL_0 ++ fnL_1
def faL_0 : List He.Fa := [.glo "is_whole", .glo "has_number", .glo "greatest_shared", .glo "least_common", .glo "meet_in", .glo "is_had", .glo "left_in", .glo "does_cover_in", .glo "least_in", .glo "share_in", .glo "are_apart", .glo "is_pair", .glo "are_pairs_in", .glo "need_pairs", .glo "does_cover", .glo "share_of", .glo "is_exact", .glo "is_least_cover", .glo "least_cover", .glo "split_at", .glo "_law_bag", .glo "_law_pull", .glo "_law_choose", .glo "_law_common", .glo "_law_fraction", .glo "_law_plus", .glo "_law_pairs", .glo "_law_whole_step", .glo "_law_has", .glo "_law_cover"]
def faL_1 : List He.Fa := [.glo "_law_does", .glo "_law_is_exact", .glo "_law_is_least", .glo "_law_bound", .glo "_law_right", .glo "law", .free "abs", .free "all", .free "any", .free "bool", .free "enumerate", .free "int", .free "isinstance", .free "len", .free "list", .free "max", .free "min", .free "range", .free "set", .free "sorted", .free "sum", .free "tuple", .int "MOST_PAIRS" 8, .int "MOST_STEP" 60]
abbrev faL : List He.Fa := faL_0 ++ faL_1
def loL_0 : List Str := ["FoldError", "NoTable", "LackError", "NoNumber", "is_whole", "MOST_PAIRS", "MOST_STEP", "has_number", "greatest_shared", "least_common", "meet_in", "is_had", "left_in", "does_cover_in", "least_in", "share_in", "are_apart", "is_pair", "are_pairs_in", "need_pairs", "does_cover", "share_of", "is_exact", "is_least_cover", "least_cover", "split_at", "_law_bag", "_law_pull", "_law_choose", "_law_common"]
def loL_1 : List Str := ["_law_fraction", "_law_plus", "_law_pairs", "_law_whole_step", "_law_has", "_law_cover", "_law_does", "_law_is_exact", "_law_is_least", "_law_bound", "_law_right"]
abbrev loL : List Str := loL_0 ++ loL_1
abbrev RR : PySem.W.OpenRow := PySem.W.OpenLaw.row PySem.Challenge.rw_countwide_k59_whole_exact_and_least_cove
abbrev hk : PySem.W.Hook := He.hookD 4 faL fnL
def ob (s : PySem.W.SharedT) : He.AlD := He.obsDG 4 faL fnL (HandSHeadRun.getT s)
theorem ob_eq (s : PySem.W.SharedT) : ob s = hk.obs s.abs := He.obsDG_eq (HandSHeadRun.getT_eq s)
theorem run (w : World) : HandSHeadRun.RunEq RR (PySem.W.view RR.prog [45]) hk ob 4000 loL w := by
  intro os
  kernel_rfl
theorem all_mk {P : Program} {w : World} {K : PySem.W.Frag} {h : Heap} {mg : Str → Option Value} {f : Addr} (X : K.In h) (G : h.Ns mainGlobals mg) (hfa : mg ("law" : Str) = some (.ref f)) (c : He.SaysD faL fnL K) :
    ∃ fd : FuncData, (∀ (s : Shared) (v : Value), BindsTo s fd ⟨[v], []⟩ [("script", v)]) ∧ ∀ base : Heap, K.In base → base.Ns mainGlobals mg → FnOk P w K mg base CX0 8 f fd ["script"] (LF K sp_law) := by
  have T : Tx K mg := ⟨He.free_ok X G (c.fact 36 (f := .free "abs") rfl),
    He.free_ok X G (c.fact 37 (f := .free "all") rfl),
    He.free_ok X G (c.fact 38 (f := .free "any") rfl),
    He.free_ok X G (c.fact 39 (f := .free "bool") rfl),
    He.free_ok X G (c.fact 40 (f := .free "enumerate") rfl),
    He.free_ok X G (c.fact 41 (f := .free "int") rfl),
    He.free_ok X G (c.fact 42 (f := .free "isinstance") rfl),
    He.free_ok X G (c.fact 43 (f := .free "len") rfl),
    He.free_ok X G (c.fact 44 (f := .free "list") rfl),
    He.free_ok X G (c.fact 45 (f := .free "max") rfl),
    He.free_ok X G (c.fact 46 (f := .free "min") rfl),
    He.free_ok X G (c.fact 47 (f := .free "range") rfl),
    He.free_ok X G (c.fact 48 (f := .free "set") rfl),
    He.free_ok X G (c.fact 49 (f := .free "sorted") rfl),
    He.free_ok X G (c.fact 50 (f := .free "sum") rfl),
    He.free_ok X G (c.fact 51 (f := .free "tuple") rfl),
    (let ⟨t, e⟩ := He.int_ok X G (c.fact 52 (f := .int "MOST_PAIRS" 8) rfl); ⟨_, e, t, rfl⟩),
    (let ⟨t, e⟩ := He.int_ok X G (c.fact 53 (f := .int "MOST_STEP" 60) rfl); ⟨_, e, t, rfl⟩)⟩
  obtain ⟨fd_is_whole, F_is_whole⟩ : ∃ fd, FunD K "is_whole" "is_whole" (defArgs s_is_whole) (defBody s_is_whole) (defScope s_is_whole) [] [("least", V.non), ("most", V.non)] (He.ga K "is_whole") fd := c.def_ 0 (d := dd_is_whole) rfl
  have m_is_whole : mg "is_whole" = some (.ref (He.ga K "is_whole")) := He.glo_ok X G (c.fact 0 (f := .glo "is_whole") rfl)
  obtain ⟨fd_has_number, F_has_number⟩ : ∃ fd, FunD K "has_number" "has_number" (defArgs s_has_number) (defBody s_has_number) (defScope s_has_number) [] [] (He.ga K "has_number") fd := c.def_ 1 (d := dd_has_number) rfl
  have m_has_number : mg "has_number" = some (.ref (He.ga K "has_number")) := He.glo_ok X G (c.fact 1 (f := .glo "has_number") rfl)
  obtain ⟨fd_greatest_shared, F_greatest_shared⟩ : ∃ fd, FunD K "greatest_shared" "greatest_shared" (defArgs s_greatest_shared) (defBody s_greatest_shared) (defScope s_greatest_shared) [] [] (He.ga K "greatest_shared") fd := c.def_ 2 (d := dd_greatest_shared) rfl
  have m_greatest_shared : mg "greatest_shared" = some (.ref (He.ga K "greatest_shared")) := He.glo_ok X G (c.fact 2 (f := .glo "greatest_shared") rfl)
  obtain ⟨fd_least_common, F_least_common⟩ : ∃ fd, FunD K "least_common" "least_common" (defArgs s_least_common) (defBody s_least_common) (defScope s_least_common) [] [] (He.ga K "least_common") fd := c.def_ 3 (d := dd_least_common) rfl
  have m_least_common : mg "least_common" = some (.ref (He.ga K "least_common")) := He.glo_ok X G (c.fact 3 (f := .glo "least_common") rfl)
  obtain ⟨fd_meet_in, F_meet_in⟩ : ∃ fd, FunD K "meet_in" "meet_in" (defArgs s_meet_in) (defBody s_meet_in) (defScope s_meet_in) [] [] (He.ga K "meet_in") fd := c.def_ 4 (d := dd_meet_in) rfl
  have m_meet_in : mg "meet_in" = some (.ref (He.ga K "meet_in")) := He.glo_ok X G (c.fact 4 (f := .glo "meet_in") rfl)
  obtain ⟨fd_is_had, F_is_had⟩ : ∃ fd, FunD K "is_had" "is_had" (defArgs s_is_had) (defBody s_is_had) (defScope s_is_had) [] [] (He.ga K "is_had") fd := c.def_ 5 (d := dd_is_had) rfl
  have m_is_had : mg "is_had" = some (.ref (He.ga K "is_had")) := He.glo_ok X G (c.fact 5 (f := .glo "is_had") rfl)
  obtain ⟨fd_left_in, F_left_in⟩ : ∃ fd, FunD K "left_in" "left_in" (defArgs s_left_in) (defBody s_left_in) (defScope s_left_in) [] [] (He.ga K "left_in") fd := c.def_ 6 (d := dd_left_in) rfl
  have m_left_in : mg "left_in" = some (.ref (He.ga K "left_in")) := He.glo_ok X G (c.fact 6 (f := .glo "left_in") rfl)
  obtain ⟨fd_does_cover_in, F_does_cover_in⟩ : ∃ fd, FunD K "does_cover_in" "does_cover_in" (defArgs s_does_cover_in) (defBody s_does_cover_in) (defScope s_does_cover_in) [] [] (He.ga K "does_cover_in") fd := c.def_ 7 (d := dd_does_cover_in) rfl
  have m_does_cover_in : mg "does_cover_in" = some (.ref (He.ga K "does_cover_in")) := He.glo_ok X G (c.fact 7 (f := .glo "does_cover_in") rfl)
  obtain ⟨fd_least_in, F_least_in⟩ : ∃ fd, FunD K "least_in" "least_in" (defArgs s_least_in) (defBody s_least_in) (defScope s_least_in) [] [] (He.ga K "least_in") fd := c.def_ 8 (d := dd_least_in) rfl
  have m_least_in : mg "least_in" = some (.ref (He.ga K "least_in")) := He.glo_ok X G (c.fact 8 (f := .glo "least_in") rfl)
  obtain ⟨fd_share_in, F_share_in⟩ : ∃ fd, FunD K "share_in" "share_in" (defArgs s_share_in) (defBody s_share_in) (defScope s_share_in) [] [] (He.ga K "share_in") fd := c.def_ 9 (d := dd_share_in) rfl
  have m_share_in : mg "share_in" = some (.ref (He.ga K "share_in")) := He.glo_ok X G (c.fact 9 (f := .glo "share_in") rfl)
  obtain ⟨fd_are_apart, F_are_apart⟩ : ∃ fd, FunD K "are_apart" "are_apart" (defArgs s_are_apart) (defBody s_are_apart) (defScope s_are_apart) [] [] (He.ga K "are_apart") fd := c.def_ 10 (d := dd_are_apart) rfl
  have m_are_apart : mg "are_apart" = some (.ref (He.ga K "are_apart")) := He.glo_ok X G (c.fact 10 (f := .glo "are_apart") rfl)
  obtain ⟨fd_is_pair, F_is_pair⟩ : ∃ fd, FunD K "is_pair" "is_pair" (defArgs s_is_pair) (defBody s_is_pair) (defScope s_is_pair) [] [] (He.ga K "is_pair") fd := c.def_ 11 (d := dd_is_pair) rfl
  have m_is_pair : mg "is_pair" = some (.ref (He.ga K "is_pair")) := He.glo_ok X G (c.fact 11 (f := .glo "is_pair") rfl)
  obtain ⟨fd_are_pairs_in, F_are_pairs_in⟩ : ∃ fd, FunD K "are_pairs_in" "are_pairs_in" (defArgs s_are_pairs_in) (defBody s_are_pairs_in) (defScope s_are_pairs_in) [] [] (He.ga K "are_pairs_in") fd := c.def_ 12 (d := dd_are_pairs_in) rfl
  have m_are_pairs_in : mg "are_pairs_in" = some (.ref (He.ga K "are_pairs_in")) := He.glo_ok X G (c.fact 12 (f := .glo "are_pairs_in") rfl)
  obtain ⟨fd_need_pairs, F_need_pairs⟩ : ∃ fd, FunD K "need_pairs" "need_pairs" (defArgs s_need_pairs) (defBody s_need_pairs) (defScope s_need_pairs) [] [] (He.ga K "need_pairs") fd := c.def_ 13 (d := dd_need_pairs) rfl
  have m_need_pairs : mg "need_pairs" = some (.ref (He.ga K "need_pairs")) := He.glo_ok X G (c.fact 13 (f := .glo "need_pairs") rfl)
  obtain ⟨fd_does_cover, F_does_cover⟩ : ∃ fd, FunD K "does_cover" "does_cover" (defArgs s_does_cover) (defBody s_does_cover) (defScope s_does_cover) [] [] (He.ga K "does_cover") fd := c.def_ 14 (d := dd_does_cover) rfl
  have m_does_cover : mg "does_cover" = some (.ref (He.ga K "does_cover")) := He.glo_ok X G (c.fact 14 (f := .glo "does_cover") rfl)
  obtain ⟨fd_share_of, F_share_of⟩ : ∃ fd, FunD K "share_of" "share_of" (defArgs s_share_of) (defBody s_share_of) (defScope s_share_of) [] [] (He.ga K "share_of") fd := c.def_ 15 (d := dd_share_of) rfl
  have m_share_of : mg "share_of" = some (.ref (He.ga K "share_of")) := He.glo_ok X G (c.fact 15 (f := .glo "share_of") rfl)
  obtain ⟨fd_is_exact, F_is_exact⟩ : ∃ fd, FunD K "is_exact" "is_exact" (defArgs s_is_exact) (defBody s_is_exact) (defScope s_is_exact) [] [] (He.ga K "is_exact") fd := c.def_ 16 (d := dd_is_exact) rfl
  have m_is_exact : mg "is_exact" = some (.ref (He.ga K "is_exact")) := He.glo_ok X G (c.fact 16 (f := .glo "is_exact") rfl)
  obtain ⟨fd_is_least_cover, F_is_least_cover⟩ : ∃ fd, FunD K "is_least_cover" "is_least_cover" (defArgs s_is_least_cover) (defBody s_is_least_cover) (defScope s_is_least_cover) [] [] (He.ga K "is_least_cover") fd := c.def_ 17 (d := dd_is_least_cover) rfl
  have m_is_least_cover : mg "is_least_cover" = some (.ref (He.ga K "is_least_cover")) := He.glo_ok X G (c.fact 17 (f := .glo "is_least_cover") rfl)
  obtain ⟨fd_least_cover, F_least_cover⟩ : ∃ fd, FunD K "least_cover" "least_cover" (defArgs s_least_cover) (defBody s_least_cover) (defScope s_least_cover) [] [] (He.ga K "least_cover") fd := c.def_ 18 (d := dd_least_cover) rfl
  have m_least_cover : mg "least_cover" = some (.ref (He.ga K "least_cover")) := He.glo_ok X G (c.fact 18 (f := .glo "least_cover") rfl)
  obtain ⟨fd_split_at, F_split_at⟩ : ∃ fd, FunD K "split_at" "split_at" (defArgs s_split_at) (defBody s_split_at) (defScope s_split_at) [] [] (He.ga K "split_at") fd := c.def_ 19 (d := dd_split_at) rfl
  have m_split_at : mg "split_at" = some (.ref (He.ga K "split_at")) := He.glo_ok X G (c.fact 19 (f := .glo "split_at") rfl)
  obtain ⟨fd__law_bag, F__law_bag⟩ : ∃ fd, FunD K "_law_bag" "_law_bag" (defArgs s__law_bag) (defBody s__law_bag) (defScope s__law_bag) [] [] (He.ga K "_law_bag") fd := c.def_ 20 (d := dd__law_bag) rfl
  have m__law_bag : mg "_law_bag" = some (.ref (He.ga K "_law_bag")) := He.glo_ok X G (c.fact 20 (f := .glo "_law_bag") rfl)
  obtain ⟨fd__law_pull, F__law_pull⟩ : ∃ fd, FunD K "_law_pull" "_law_pull" (defArgs s__law_pull) (defBody s__law_pull) (defScope s__law_pull) [] [] (He.ga K "_law_pull") fd := c.def_ 21 (d := dd__law_pull) rfl
  have m__law_pull : mg "_law_pull" = some (.ref (He.ga K "_law_pull")) := He.glo_ok X G (c.fact 21 (f := .glo "_law_pull") rfl)
  obtain ⟨fd__law_choose, F__law_choose⟩ : ∃ fd, FunD K "_law_choose" "_law_choose" (defArgs s__law_choose) (defBody s__law_choose) (defScope s__law_choose) [] [] (He.ga K "_law_choose") fd := c.def_ 22 (d := dd__law_choose) rfl
  have m__law_choose : mg "_law_choose" = some (.ref (He.ga K "_law_choose")) := He.glo_ok X G (c.fact 22 (f := .glo "_law_choose") rfl)
  obtain ⟨fd__law_common, F__law_common⟩ : ∃ fd, FunD K "_law_common" "_law_common" (defArgs s__law_common) (defBody s__law_common) (defScope s__law_common) [] [] (He.ga K "_law_common") fd := c.def_ 23 (d := dd__law_common) rfl
  have m__law_common : mg "_law_common" = some (.ref (He.ga K "_law_common")) := He.glo_ok X G (c.fact 23 (f := .glo "_law_common") rfl)
  obtain ⟨fd__law_fraction, F__law_fraction⟩ : ∃ fd, FunD K "_law_fraction" "_law_fraction" (defArgs s__law_fraction) (defBody s__law_fraction) (defScope s__law_fraction) [] [] (He.ga K "_law_fraction") fd := c.def_ 24 (d := dd__law_fraction) rfl
  have m__law_fraction : mg "_law_fraction" = some (.ref (He.ga K "_law_fraction")) := He.glo_ok X G (c.fact 24 (f := .glo "_law_fraction") rfl)
  obtain ⟨fd__law_plus, F__law_plus⟩ : ∃ fd, FunD K "_law_plus" "_law_plus" (defArgs s__law_plus) (defBody s__law_plus) (defScope s__law_plus) [] [] (He.ga K "_law_plus") fd := c.def_ 25 (d := dd__law_plus) rfl
  have m__law_plus : mg "_law_plus" = some (.ref (He.ga K "_law_plus")) := He.glo_ok X G (c.fact 25 (f := .glo "_law_plus") rfl)
  obtain ⟨fd__law_pairs, F__law_pairs⟩ : ∃ fd, FunD K "_law_pairs" "_law_pairs" (defArgs s__law_pairs) (defBody s__law_pairs) (defScope s__law_pairs) [] [] (He.ga K "_law_pairs") fd := c.def_ 26 (d := dd__law_pairs) rfl
  have m__law_pairs : mg "_law_pairs" = some (.ref (He.ga K "_law_pairs")) := He.glo_ok X G (c.fact 26 (f := .glo "_law_pairs") rfl)
  obtain ⟨fd__law_whole_step, F__law_whole_step⟩ : ∃ fd, FunD K "_law_whole_step" "_law_whole_step" (defArgs s__law_whole_step) (defBody s__law_whole_step) (defScope s__law_whole_step) [] [] (He.ga K "_law_whole_step") fd := c.def_ 27 (d := dd__law_whole_step) rfl
  have m__law_whole_step : mg "_law_whole_step" = some (.ref (He.ga K "_law_whole_step")) := He.glo_ok X G (c.fact 27 (f := .glo "_law_whole_step") rfl)
  obtain ⟨fd__law_has, F__law_has⟩ : ∃ fd, FunD K "_law_has" "_law_has" (defArgs s__law_has) (defBody s__law_has) (defScope s__law_has) [] [] (He.ga K "_law_has") fd := c.def_ 28 (d := dd__law_has) rfl
  have m__law_has : mg "_law_has" = some (.ref (He.ga K "_law_has")) := He.glo_ok X G (c.fact 28 (f := .glo "_law_has") rfl)
  obtain ⟨fd__law_cover, F__law_cover⟩ : ∃ fd, FunD K "_law_cover" "_law_cover" (defArgs s__law_cover) (defBody s__law_cover) (defScope s__law_cover) [] [] (He.ga K "_law_cover") fd := c.def_ 29 (d := dd__law_cover) rfl
  have m__law_cover : mg "_law_cover" = some (.ref (He.ga K "_law_cover")) := He.glo_ok X G (c.fact 29 (f := .glo "_law_cover") rfl)
  obtain ⟨fd__law_does, F__law_does⟩ : ∃ fd, FunD K "_law_does" "_law_does" (defArgs s__law_does) (defBody s__law_does) (defScope s__law_does) [] [] (He.ga K "_law_does") fd := c.def_ 30 (d := dd__law_does) rfl
  have m__law_does : mg "_law_does" = some (.ref (He.ga K "_law_does")) := He.glo_ok X G (c.fact 30 (f := .glo "_law_does") rfl)
  obtain ⟨fd__law_is_exact, F__law_is_exact⟩ : ∃ fd, FunD K "_law_is_exact" "_law_is_exact" (defArgs s__law_is_exact) (defBody s__law_is_exact) (defScope s__law_is_exact) [] [] (He.ga K "_law_is_exact") fd := c.def_ 31 (d := dd__law_is_exact) rfl
  have m__law_is_exact : mg "_law_is_exact" = some (.ref (He.ga K "_law_is_exact")) := He.glo_ok X G (c.fact 31 (f := .glo "_law_is_exact") rfl)
  obtain ⟨fd__law_is_least, F__law_is_least⟩ : ∃ fd, FunD K "_law_is_least" "_law_is_least" (defArgs s__law_is_least) (defBody s__law_is_least) (defScope s__law_is_least) [] [] (He.ga K "_law_is_least") fd := c.def_ 32 (d := dd__law_is_least) rfl
  have m__law_is_least : mg "_law_is_least" = some (.ref (He.ga K "_law_is_least")) := He.glo_ok X G (c.fact 32 (f := .glo "_law_is_least") rfl)
  obtain ⟨fd__law_bound, F__law_bound⟩ : ∃ fd, FunD K "_law_bound" "_law_bound" (defArgs s__law_bound) (defBody s__law_bound) (defScope s__law_bound) [] [] (He.ga K "_law_bound") fd := c.def_ 33 (d := dd__law_bound) rfl
  have m__law_bound : mg "_law_bound" = some (.ref (He.ga K "_law_bound")) := He.glo_ok X G (c.fact 33 (f := .glo "_law_bound") rfl)
  obtain ⟨fd__law_right, F__law_right⟩ : ∃ fd, FunD K "_law_right" "_law_right" (defArgs s__law_right) (defBody s__law_right) (defScope s__law_right) [] [] (He.ga K "_law_right") fd := c.def_ 34 (d := dd__law_right) rfl
  have m__law_right : mg "_law_right" = some (.ref (He.ga K "_law_right")) := He.glo_ok X G (c.fact 34 (f := .glo "_law_right") rfl)
  obtain ⟨fd_law, F_law⟩ : ∃ fd, FunD K "law" "law" (defArgs s_law) (defBody s_law) (defScope s_law) [] [] (He.ga K "law") fd := c.def_ 35 (d := dd_law) rfl
  have m_law : mg "law" = some (.ref (He.ga K "law")) := He.glo_ok X G (c.fact 35 (f := .glo "law") rfl)
  have ef := hfa.symm.trans m_law
  cases ef
  refine ⟨fd_law, fun s v => FunD.bindsA (ps := ["script"]) F_law (fun _ _ _ _ _ _ us hl => match us, hl with | [_], _ => rfl) s [v] rfl, fun base _ _ => ?_⟩
  have n_is_whole := d_is_whole (P := P) (w := w) (mg := mg) (base := base) (k := 0) T F_is_whole   (sp := sp_is_whole) (by intro vs S q h; first | (obtain ⟨a, rfl, _⟩ := h; rfl) | (obtain ⟨a, b, rfl, _⟩ := h; rfl) | (obtain ⟨a, b, c, rfl, _⟩ := h; rfl) | (obtain ⟨a, b, c, d, rfl, _⟩ := h; rfl) | (obtain ⟨a, b, c, d, e, rfl, _⟩ := h; rfl) | (obtain ⟨a, b, c, d, e, f, rfl, _⟩ := h; rfl) | (obtain ⟨a, b, c, d, e, f, g, rfl, _⟩ := h; rfl)) rd_is_whole
  have c_is_whole_least_most : ZCalK P w K mg base 1 "is_whole" 1 ["least", "most"] (fun vs us => vs ++ us) sp_is_whole := .mk0 F_is_whole n_is_whole m_is_whole [] (fun us mv ws => us ++ ws) (by simp) (by simp) (fun a b c => a.append c) (fun D doc pm an cdv ct us mv ws h1 h2 h3 => match us, mv, ws, h1, h2, h3 with | [_], [], [_, _], _, _, _ => rfl) fun H vs xs us zs r1 r2 => Paired.app r1 r2
  have c_has_number : ZCal P w K mg base 1 "has_number" sp_has_number := d_has_number (k := 0) T F_has_number m_has_number   (sp := sp_has_number) (by intro vs S q h; first | (obtain ⟨a, rfl, _⟩ := h; rfl) | (obtain ⟨a, b, rfl, _⟩ := h; rfl) | (obtain ⟨a, b, c, rfl, _⟩ := h; rfl) | (obtain ⟨a, b, c, d, rfl, _⟩ := h; rfl) | (obtain ⟨a, b, c, d, e, rfl, _⟩ := h; rfl) | (obtain ⟨a, b, c, d, e, f, rfl, _⟩ := h; rfl) | (obtain ⟨a, b, c, d, e, f, g, rfl, _⟩ := h; rfl)) rd_has_number
  have c_greatest_shared : ZCal P w K mg base 1 "greatest_shared" sp_greatest_shared := d_greatest_shared (k := 0) T F_greatest_shared m_greatest_shared   (sp := sp_greatest_shared) (by intro vs S q h; first | (obtain ⟨a, rfl, _⟩ := h; rfl) | (obtain ⟨a, b, rfl, _⟩ := h; rfl) | (obtain ⟨a, b, c, rfl, _⟩ := h; rfl) | (obtain ⟨a, b, c, d, rfl, _⟩ := h; rfl) | (obtain ⟨a, b, c, d, e, rfl, _⟩ := h; rfl) | (obtain ⟨a, b, c, d, e, f, rfl, _⟩ := h; rfl) | (obtain ⟨a, b, c, d, e, f, g, rfl, _⟩ := h; rfl)) rd_greatest_shared
  have c__law_bag : ZCal P w K mg base 1 "_law_bag" sp__law_bag := d__law_bag (k := 0) T F__law_bag m__law_bag   (sp := sp__law_bag) (by intro vs S q h; first | (obtain ⟨a, rfl, _⟩ := h; rfl) | (obtain ⟨a, b, rfl, _⟩ := h; rfl) | (obtain ⟨a, b, c, rfl, _⟩ := h; rfl) | (obtain ⟨a, b, c, d, rfl, _⟩ := h; rfl) | (obtain ⟨a, b, c, d, e, rfl, _⟩ := h; rfl) | (obtain ⟨a, b, c, d, e, f, rfl, _⟩ := h; rfl) | (obtain ⟨a, b, c, d, e, f, g, rfl, _⟩ := h; rfl)) rd__law_bag
  have c__law_pull : ZCal P w K mg base 1 "_law_pull" sp__law_pull := d__law_pull (k := 0) T F__law_pull m__law_pull   (sp := sp__law_pull) (by intro vs S q h; first | (obtain ⟨a, rfl, _⟩ := h; rfl) | (obtain ⟨a, b, rfl, _⟩ := h; rfl) | (obtain ⟨a, b, c, rfl, _⟩ := h; rfl) | (obtain ⟨a, b, c, d, rfl, _⟩ := h; rfl) | (obtain ⟨a, b, c, d, e, rfl, _⟩ := h; rfl) | (obtain ⟨a, b, c, d, e, f, rfl, _⟩ := h; rfl) | (obtain ⟨a, b, c, d, e, f, g, rfl, _⟩ := h; rfl)) rd__law_pull
  have c__law_common : ZCal P w K mg base 1 "_law_common" sp__law_common := d__law_common (k := 0) T F__law_common m__law_common   (sp := sp__law_common) (by intro vs S q h; first | (obtain ⟨a, rfl, _⟩ := h; rfl) | (obtain ⟨a, b, rfl, _⟩ := h; rfl) | (obtain ⟨a, b, c, rfl, _⟩ := h; rfl) | (obtain ⟨a, b, c, d, rfl, _⟩ := h; rfl) | (obtain ⟨a, b, c, d, e, rfl, _⟩ := h; rfl) | (obtain ⟨a, b, c, d, e, f, rfl, _⟩ := h; rfl) | (obtain ⟨a, b, c, d, e, f, g, rfl, _⟩ := h; rfl)) rd__law_common
  have c__law_has : ZCal P w K mg base 1 "_law_has" sp__law_has := d__law_has (k := 0) T F__law_has m__law_has   (sp := sp__law_has) (by intro vs S q h; first | (obtain ⟨a, rfl, _⟩ := h; rfl) | (obtain ⟨a, b, rfl, _⟩ := h; rfl) | (obtain ⟨a, b, c, rfl, _⟩ := h; rfl) | (obtain ⟨a, b, c, d, rfl, _⟩ := h; rfl) | (obtain ⟨a, b, c, d, e, rfl, _⟩ := h; rfl) | (obtain ⟨a, b, c, d, e, f, rfl, _⟩ := h; rfl) | (obtain ⟨a, b, c, d, e, f, g, rfl, _⟩ := h; rfl)) rd__law_has
  have c_least_common : ZCal P w K mg base 2 "least_common" sp_least_common := d_least_common (k := 1) T F_least_common m_least_common sp_greatest_shared (c_greatest_shared.mono (by decide)) (sp := sp_least_common) (by intro vs S q h; first | (obtain ⟨a, rfl, _⟩ := h; rfl) | (obtain ⟨a, b, rfl, _⟩ := h; rfl) | (obtain ⟨a, b, c, rfl, _⟩ := h; rfl) | (obtain ⟨a, b, c, d, rfl, _⟩ := h; rfl) | (obtain ⟨a, b, c, d, e, rfl, _⟩ := h; rfl) | (obtain ⟨a, b, c, d, e, f, rfl, _⟩ := h; rfl) | (obtain ⟨a, b, c, d, e, f, g, rfl, _⟩ := h; rfl)) rd_least_common
  have c_is_had : ZCal P w K mg base 2 "is_had" sp_is_had := d_is_had (k := 1) T F_is_had m_is_had sp_has_number (c_has_number.mono (by decide)) (sp := sp_is_had) (by intro vs S q h; first | (obtain ⟨a, rfl, _⟩ := h; rfl) | (obtain ⟨a, b, rfl, _⟩ := h; rfl) | (obtain ⟨a, b, c, rfl, _⟩ := h; rfl) | (obtain ⟨a, b, c, d, rfl, _⟩ := h; rfl) | (obtain ⟨a, b, c, d, e, rfl, _⟩ := h; rfl) | (obtain ⟨a, b, c, d, e, f, rfl, _⟩ := h; rfl) | (obtain ⟨a, b, c, d, e, f, g, rfl, _⟩ := h; rfl)) rd_is_had
  have c_is_pair : ZCal P w K mg base 2 "is_pair" sp_is_pair := d_is_pair (k := 1) T F_is_pair m_is_pair sp_is_whole (c_is_whole_least_most.mono (by decide)) (sp := sp_is_pair) (by intro vs S q h; first | (obtain ⟨a, rfl, _⟩ := h; rfl) | (obtain ⟨a, b, rfl, _⟩ := h; rfl) | (obtain ⟨a, b, c, rfl, _⟩ := h; rfl) | (obtain ⟨a, b, c, d, rfl, _⟩ := h; rfl) | (obtain ⟨a, b, c, d, e, rfl, _⟩ := h; rfl) | (obtain ⟨a, b, c, d, e, f, rfl, _⟩ := h; rfl) | (obtain ⟨a, b, c, d, e, f, g, rfl, _⟩ := h; rfl)) rd_is_pair
  have c__law_choose : ZCal P w K mg base 2 "_law_choose" sp__law_choose := d__law_choose (k := 1) T F__law_choose m__law_choose sp__law_pull (c__law_pull.mono (by decide)) (sp := sp__law_choose) (by intro vs S q h; first | (obtain ⟨a, rfl, _⟩ := h; rfl) | (obtain ⟨a, b, rfl, _⟩ := h; rfl) | (obtain ⟨a, b, c, rfl, _⟩ := h; rfl) | (obtain ⟨a, b, c, d, rfl, _⟩ := h; rfl) | (obtain ⟨a, b, c, d, e, rfl, _⟩ := h; rfl) | (obtain ⟨a, b, c, d, e, f, rfl, _⟩ := h; rfl) | (obtain ⟨a, b, c, d, e, f, g, rfl, _⟩ := h; rfl)) rd__law_choose
  have c__law_fraction : ZCal P w K mg base 2 "_law_fraction" sp__law_fraction := d__law_fraction (k := 1) T F__law_fraction m__law_fraction sp__law_common (c__law_common.mono (by decide)) (sp := sp__law_fraction) (by intro vs S q h; first | (obtain ⟨a, rfl, _⟩ := h; rfl) | (obtain ⟨a, b, rfl, _⟩ := h; rfl) | (obtain ⟨a, b, c, rfl, _⟩ := h; rfl) | (obtain ⟨a, b, c, d, rfl, _⟩ := h; rfl) | (obtain ⟨a, b, c, d, e, rfl, _⟩ := h; rfl) | (obtain ⟨a, b, c, d, e, f, rfl, _⟩ := h; rfl) | (obtain ⟨a, b, c, d, e, f, g, rfl, _⟩ := h; rfl)) rd__law_fraction
  have c__law_whole_step : ZCal P w K mg base 2 "_law_whole_step" sp__law_whole_step := d__law_whole_step (k := 1) T F__law_whole_step m__law_whole_step sp__law_common (c__law_common.mono (by decide)) (sp := sp__law_whole_step) (by intro vs S q h; first | (obtain ⟨a, rfl, _⟩ := h; rfl) | (obtain ⟨a, b, rfl, _⟩ := h; rfl) | (obtain ⟨a, b, c, rfl, _⟩ := h; rfl) | (obtain ⟨a, b, c, d, rfl, _⟩ := h; rfl) | (obtain ⟨a, b, c, d, e, rfl, _⟩ := h; rfl) | (obtain ⟨a, b, c, d, e, f, rfl, _⟩ := h; rfl) | (obtain ⟨a, b, c, d, e, f, g, rfl, _⟩ := h; rfl)) rd__law_whole_step
  have c_meet_in : ZCal P w K mg base 3 "meet_in" sp_meet_in := d_meet_in (k := 2) T F_meet_in m_meet_in sp_greatest_shared sp_least_common (c_greatest_shared.mono (by decide)) (c_least_common.mono (by decide)) (sp := sp_meet_in) (by intro vs S q h; first | (obtain ⟨a, rfl, _⟩ := h; rfl) | (obtain ⟨a, b, rfl, _⟩ := h; rfl) | (obtain ⟨a, b, c, rfl, _⟩ := h; rfl) | (obtain ⟨a, b, c, d, rfl, _⟩ := h; rfl) | (obtain ⟨a, b, c, d, e, rfl, _⟩ := h; rfl) | (obtain ⟨a, b, c, d, e, f, rfl, _⟩ := h; rfl) | (obtain ⟨a, b, c, d, e, f, g, rfl, _⟩ := h; rfl)) rd_meet_in
  have c_left_in : ZCal P w K mg base 3 "left_in" sp_left_in := d_left_in (k := 2) T F_left_in m_left_in sp_is_had (c_is_had.mono (by decide)) (sp := sp_left_in) (by intro vs S q h; first | (obtain ⟨a, rfl, _⟩ := h; rfl) | (obtain ⟨a, b, rfl, _⟩ := h; rfl) | (obtain ⟨a, b, c, rfl, _⟩ := h; rfl) | (obtain ⟨a, b, c, d, rfl, _⟩ := h; rfl) | (obtain ⟨a, b, c, d, e, rfl, _⟩ := h; rfl) | (obtain ⟨a, b, c, d, e, f, rfl, _⟩ := h; rfl) | (obtain ⟨a, b, c, d, e, f, g, rfl, _⟩ := h; rfl)) rd_left_in
  have c_are_pairs_in : ZCal P w K mg base 3 "are_pairs_in" sp_are_pairs_in := d_are_pairs_in (k := 2) T F_are_pairs_in m_are_pairs_in sp_is_pair (c_is_pair.mono (by decide)) (sp := sp_are_pairs_in) (by intro vs S q h; first | (obtain ⟨a, rfl, _⟩ := h; rfl) | (obtain ⟨a, b, rfl, _⟩ := h; rfl) | (obtain ⟨a, b, c, rfl, _⟩ := h; rfl) | (obtain ⟨a, b, c, d, rfl, _⟩ := h; rfl) | (obtain ⟨a, b, c, d, e, rfl, _⟩ := h; rfl) | (obtain ⟨a, b, c, d, e, f, rfl, _⟩ := h; rfl) | (obtain ⟨a, b, c, d, e, f, g, rfl, _⟩ := h; rfl)) rd_are_pairs_in
  have c__law_plus : ZCal P w K mg base 3 "_law_plus" sp__law_plus := d__law_plus (k := 2) T F__law_plus m__law_plus sp__law_fraction (c__law_fraction.mono (by decide)) (sp := sp__law_plus) (by intro vs S q h; first | (obtain ⟨a, rfl, _⟩ := h; rfl) | (obtain ⟨a, b, rfl, _⟩ := h; rfl) | (obtain ⟨a, b, c, rfl, _⟩ := h; rfl) | (obtain ⟨a, b, c, d, rfl, _⟩ := h; rfl) | (obtain ⟨a, b, c, d, e, rfl, _⟩ := h; rfl) | (obtain ⟨a, b, c, d, e, f, rfl, _⟩ := h; rfl) | (obtain ⟨a, b, c, d, e, f, g, rfl, _⟩ := h; rfl)) rd__law_plus
  have c__law_pairs : ZCal P w K mg base 3 "_law_pairs" sp__law_pairs := d__law_pairs (k := 2) T F__law_pairs m__law_pairs sp__law_choose sp__law_pull (c__law_choose.mono (by decide)) (c__law_pull.mono (by decide)) (sp := sp__law_pairs) (by intro vs S q h; first | (obtain ⟨a, rfl, _⟩ := h; rfl) | (obtain ⟨a, b, rfl, _⟩ := h; rfl) | (obtain ⟨a, b, c, rfl, _⟩ := h; rfl) | (obtain ⟨a, b, c, d, rfl, _⟩ := h; rfl) | (obtain ⟨a, b, c, d, e, rfl, _⟩ := h; rfl) | (obtain ⟨a, b, c, d, e, f, rfl, _⟩ := h; rfl) | (obtain ⟨a, b, c, d, e, f, g, rfl, _⟩ := h; rfl)) rd__law_pairs
  have c__law_cover : ZCal P w K mg base 3 "_law_cover" sp__law_cover := d__law_cover (k := 2) T F__law_cover m__law_cover sp__law_choose sp__law_pull (c__law_choose.mono (by decide)) (c__law_pull.mono (by decide)) (sp := sp__law_cover) (by intro vs S q h; first | (obtain ⟨a, rfl, _⟩ := h; rfl) | (obtain ⟨a, b, rfl, _⟩ := h; rfl) | (obtain ⟨a, b, c, rfl, _⟩ := h; rfl) | (obtain ⟨a, b, c, d, rfl, _⟩ := h; rfl) | (obtain ⟨a, b, c, d, e, rfl, _⟩ := h; rfl) | (obtain ⟨a, b, c, d, e, f, rfl, _⟩ := h; rfl) | (obtain ⟨a, b, c, d, e, f, g, rfl, _⟩ := h; rfl)) rd__law_cover
  have c__law_does : ZCal P w K mg base 3 "_law_does" sp__law_does := d__law_does (k := 2) T F__law_does m__law_does sp__law_has sp__law_whole_step (c__law_has.mono (by decide)) (c__law_whole_step.mono (by decide)) (sp := sp__law_does) (by intro vs S q h; first | (obtain ⟨a, rfl, _⟩ := h; rfl) | (obtain ⟨a, b, rfl, _⟩ := h; rfl) | (obtain ⟨a, b, c, rfl, _⟩ := h; rfl) | (obtain ⟨a, b, c, d, rfl, _⟩ := h; rfl) | (obtain ⟨a, b, c, d, e, rfl, _⟩ := h; rfl) | (obtain ⟨a, b, c, d, e, f, rfl, _⟩ := h; rfl) | (obtain ⟨a, b, c, d, e, f, g, rfl, _⟩ := h; rfl)) rd__law_does
  have c__law_is_exact : ZCal P w K mg base 3 "_law_is_exact" sp__law_is_exact := d__law_is_exact (k := 2) T F__law_is_exact m__law_is_exact sp__law_has sp__law_whole_step (c__law_has.mono (by decide)) (c__law_whole_step.mono (by decide)) (sp := sp__law_is_exact) (by intro vs S q h; first | (obtain ⟨a, rfl, _⟩ := h; rfl) | (obtain ⟨a, b, rfl, _⟩ := h; rfl) | (obtain ⟨a, b, c, rfl, _⟩ := h; rfl) | (obtain ⟨a, b, c, d, rfl, _⟩ := h; rfl) | (obtain ⟨a, b, c, d, e, rfl, _⟩ := h; rfl) | (obtain ⟨a, b, c, d, e, f, rfl, _⟩ := h; rfl) | (obtain ⟨a, b, c, d, e, f, g, rfl, _⟩ := h; rfl)) rd__law_is_exact
  have c__law_bound : ZCal P w K mg base 3 "_law_bound" sp__law_bound := d__law_bound (k := 2) T F__law_bound m__law_bound sp__law_whole_step (c__law_whole_step.mono (by decide)) (sp := sp__law_bound) (by intro vs S q h; first | (obtain ⟨a, rfl, _⟩ := h; rfl) | (obtain ⟨a, b, rfl, _⟩ := h; rfl) | (obtain ⟨a, b, c, rfl, _⟩ := h; rfl) | (obtain ⟨a, b, c, d, rfl, _⟩ := h; rfl) | (obtain ⟨a, b, c, d, e, rfl, _⟩ := h; rfl) | (obtain ⟨a, b, c, d, e, f, rfl, _⟩ := h; rfl) | (obtain ⟨a, b, c, d, e, f, g, rfl, _⟩ := h; rfl)) rd__law_bound
  have c_does_cover_in : ZCal P w K mg base 4 "does_cover_in" sp_does_cover_in := d_does_cover_in (k := 3) T F_does_cover_in m_does_cover_in sp_left_in (c_left_in.mono (by decide)) (sp := sp_does_cover_in) (by intro vs S q h; first | (obtain ⟨a, rfl, _⟩ := h; rfl) | (obtain ⟨a, b, rfl, _⟩ := h; rfl) | (obtain ⟨a, b, c, rfl, _⟩ := h; rfl) | (obtain ⟨a, b, c, d, rfl, _⟩ := h; rfl) | (obtain ⟨a, b, c, d, e, rfl, _⟩ := h; rfl) | (obtain ⟨a, b, c, d, e, f, rfl, _⟩ := h; rfl) | (obtain ⟨a, b, c, d, e, f, g, rfl, _⟩ := h; rfl)) rd_does_cover_in
  have c_share_in : ZCal P w K mg base 4 "share_in" sp_share_in := d_share_in (k := 3) T F_share_in m_share_in sp_greatest_shared sp_least_common sp_meet_in (c_greatest_shared.mono (by decide)) (c_least_common.mono (by decide)) (c_meet_in.mono (by decide)) (sp := sp_share_in) (by intro vs S q h; first | (obtain ⟨a, rfl, _⟩ := h; rfl) | (obtain ⟨a, b, rfl, _⟩ := h; rfl) | (obtain ⟨a, b, c, rfl, _⟩ := h; rfl) | (obtain ⟨a, b, c, d, rfl, _⟩ := h; rfl) | (obtain ⟨a, b, c, d, e, rfl, _⟩ := h; rfl) | (obtain ⟨a, b, c, d, e, f, rfl, _⟩ := h; rfl) | (obtain ⟨a, b, c, d, e, f, g, rfl, _⟩ := h; rfl)) rd_share_in
  have c_are_apart : ZCal P w K mg base 4 "are_apart" sp_are_apart := d_are_apart (k := 3) T F_are_apart m_are_apart sp_meet_in (c_meet_in.mono (by decide)) (sp := sp_are_apart) (by intro vs S q h; first | (obtain ⟨a, rfl, _⟩ := h; rfl) | (obtain ⟨a, b, rfl, _⟩ := h; rfl) | (obtain ⟨a, b, c, rfl, _⟩ := h; rfl) | (obtain ⟨a, b, c, d, rfl, _⟩ := h; rfl) | (obtain ⟨a, b, c, d, e, rfl, _⟩ := h; rfl) | (obtain ⟨a, b, c, d, e, f, rfl, _⟩ := h; rfl) | (obtain ⟨a, b, c, d, e, f, g, rfl, _⟩ := h; rfl)) rd_are_apart
  have c_need_pairs : ZCal P w K mg base 4 "need_pairs" sp_need_pairs := d_need_pairs (k := 3) T F_need_pairs m_need_pairs sp_are_pairs_in (c_are_pairs_in.mono (by decide)) (sp := sp_need_pairs) (by intro vs S q h; first | (obtain ⟨a, rfl, _⟩ := h; rfl) | (obtain ⟨a, b, rfl, _⟩ := h; rfl) | (obtain ⟨a, b, c, rfl, _⟩ := h; rfl) | (obtain ⟨a, b, c, d, rfl, _⟩ := h; rfl) | (obtain ⟨a, b, c, d, e, rfl, _⟩ := h; rfl) | (obtain ⟨a, b, c, d, e, f, rfl, _⟩ := h; rfl) | (obtain ⟨a, b, c, d, e, f, g, rfl, _⟩ := h; rfl)) rd_need_pairs
  have c__law_is_least : ZCal P w K mg base 4 "_law_is_least" sp__law_is_least := d__law_is_least (k := 3) T F__law_is_least m__law_is_least sp__law_does (c__law_does.mono (by decide)) (sp := sp__law_is_least) (by intro vs S q h; first | (obtain ⟨a, rfl, _⟩ := h; rfl) | (obtain ⟨a, b, rfl, _⟩ := h; rfl) | (obtain ⟨a, b, c, rfl, _⟩ := h; rfl) | (obtain ⟨a, b, c, d, rfl, _⟩ := h; rfl) | (obtain ⟨a, b, c, d, e, rfl, _⟩ := h; rfl) | (obtain ⟨a, b, c, d, e, f, rfl, _⟩ := h; rfl) | (obtain ⟨a, b, c, d, e, f, g, rfl, _⟩ := h; rfl)) rd__law_is_least
  have c_least_in : ZCal P w K mg base 5 "least_in" sp_least_in := d_least_in (k := 4) T F_least_in m_least_in sp_does_cover_in (c_does_cover_in.mono (by decide)) (sp := sp_least_in) (by intro vs S q h; first | (obtain ⟨a, rfl, _⟩ := h; rfl) | (obtain ⟨a, b, rfl, _⟩ := h; rfl) | (obtain ⟨a, b, c, rfl, _⟩ := h; rfl) | (obtain ⟨a, b, c, d, rfl, _⟩ := h; rfl) | (obtain ⟨a, b, c, d, e, rfl, _⟩ := h; rfl) | (obtain ⟨a, b, c, d, e, f, rfl, _⟩ := h; rfl) | (obtain ⟨a, b, c, d, e, f, g, rfl, _⟩ := h; rfl)) rd_least_in
  have c_does_cover : ZCal P w K mg base 5 "does_cover" sp_does_cover := d_does_cover (k := 4) T F_does_cover m_does_cover sp_does_cover_in sp_need_pairs (c_does_cover_in.mono (by decide)) (c_need_pairs.mono (by decide)) (sp := sp_does_cover) (by intro vs S q h; first | (obtain ⟨a, rfl, _⟩ := h; rfl) | (obtain ⟨a, b, rfl, _⟩ := h; rfl) | (obtain ⟨a, b, c, rfl, _⟩ := h; rfl) | (obtain ⟨a, b, c, d, rfl, _⟩ := h; rfl) | (obtain ⟨a, b, c, d, e, rfl, _⟩ := h; rfl) | (obtain ⟨a, b, c, d, e, f, rfl, _⟩ := h; rfl) | (obtain ⟨a, b, c, d, e, f, g, rfl, _⟩ := h; rfl)) rd_does_cover
  have c_share_of : ZCal P w K mg base 5 "share_of" sp_share_of := d_share_of (k := 4) T F_share_of m_share_of sp_need_pairs sp_share_in (c_need_pairs.mono (by decide)) (c_share_in.mono (by decide)) (sp := sp_share_of) (by intro vs S q h; first | (obtain ⟨a, rfl, _⟩ := h; rfl) | (obtain ⟨a, b, rfl, _⟩ := h; rfl) | (obtain ⟨a, b, c, rfl, _⟩ := h; rfl) | (obtain ⟨a, b, c, d, rfl, _⟩ := h; rfl) | (obtain ⟨a, b, c, d, e, rfl, _⟩ := h; rfl) | (obtain ⟨a, b, c, d, e, f, rfl, _⟩ := h; rfl) | (obtain ⟨a, b, c, d, e, f, g, rfl, _⟩ := h; rfl)) rd_share_of
  have c_is_exact : ZCal P w K mg base 5 "is_exact" sp_is_exact := d_is_exact (k := 4) T F_is_exact m_is_exact sp_are_apart sp_does_cover_in sp_need_pairs (c_are_apart.mono (by decide)) (c_does_cover_in.mono (by decide)) (c_need_pairs.mono (by decide)) (sp := sp_is_exact) (by intro vs S q h; first | (obtain ⟨a, rfl, _⟩ := h; rfl) | (obtain ⟨a, b, rfl, _⟩ := h; rfl) | (obtain ⟨a, b, c, rfl, _⟩ := h; rfl) | (obtain ⟨a, b, c, d, rfl, _⟩ := h; rfl) | (obtain ⟨a, b, c, d, e, rfl, _⟩ := h; rfl) | (obtain ⟨a, b, c, d, e, f, rfl, _⟩ := h; rfl) | (obtain ⟨a, b, c, d, e, f, g, rfl, _⟩ := h; rfl)) rd_is_exact
  have c_split_at : ZCal P w K mg base 5 "split_at" sp_split_at := d_split_at (k := 4) T F_split_at m_split_at sp_is_whole sp_need_pairs (c_is_whole_least_most.mono (by decide)) (c_need_pairs.mono (by decide)) (sp := sp_split_at) (by intro vs S q h; first | (obtain ⟨a, rfl, _⟩ := h; rfl) | (obtain ⟨a, b, rfl, _⟩ := h; rfl) | (obtain ⟨a, b, c, rfl, _⟩ := h; rfl) | (obtain ⟨a, b, c, d, rfl, _⟩ := h; rfl) | (obtain ⟨a, b, c, d, e, rfl, _⟩ := h; rfl) | (obtain ⟨a, b, c, d, e, f, rfl, _⟩ := h; rfl) | (obtain ⟨a, b, c, d, e, f, g, rfl, _⟩ := h; rfl)) rd_split_at
  have c_is_least_cover : ZCal P w K mg base 6 "is_least_cover" sp_is_least_cover := d_is_least_cover (k := 5) T F_is_least_cover m_is_least_cover sp_does_cover_in sp_least_in sp_need_pairs (c_does_cover_in.mono (by decide)) (c_least_in.mono (by decide)) (c_need_pairs.mono (by decide)) (sp := sp_is_least_cover) (by intro vs S q h; first | (obtain ⟨a, rfl, _⟩ := h; rfl) | (obtain ⟨a, b, rfl, _⟩ := h; rfl) | (obtain ⟨a, b, c, rfl, _⟩ := h; rfl) | (obtain ⟨a, b, c, d, rfl, _⟩ := h; rfl) | (obtain ⟨a, b, c, d, e, rfl, _⟩ := h; rfl) | (obtain ⟨a, b, c, d, e, f, rfl, _⟩ := h; rfl) | (obtain ⟨a, b, c, d, e, f, g, rfl, _⟩ := h; rfl)) rd_is_least_cover
  have c_least_cover : ZCal P w K mg base 6 "least_cover" sp_least_cover := d_least_cover (k := 5) T F_least_cover m_least_cover sp_does_cover_in sp_least_in sp_need_pairs (c_does_cover_in.mono (by decide)) (c_least_in.mono (by decide)) (c_need_pairs.mono (by decide)) (sp := sp_least_cover) (by intro vs S q h; first | (obtain ⟨a, rfl, _⟩ := h; rfl) | (obtain ⟨a, b, rfl, _⟩ := h; rfl) | (obtain ⟨a, b, c, rfl, _⟩ := h; rfl) | (obtain ⟨a, b, c, d, rfl, _⟩ := h; rfl) | (obtain ⟨a, b, c, d, e, rfl, _⟩ := h; rfl) | (obtain ⟨a, b, c, d, e, f, rfl, _⟩ := h; rfl) | (obtain ⟨a, b, c, d, e, f, g, rfl, _⟩ := h; rfl)) rd_least_cover
  have c__law_right : ZCal P w K mg base 7 "_law_right" sp__law_right := d__law_right (k := 6) T F__law_right m__law_right sp__law_bound sp__law_cover sp__law_does sp__law_is_exact sp__law_is_least sp__law_pairs sp__law_plus sp__law_pull sp_does_cover sp_is_exact sp_is_least_cover sp_least_cover sp_share_of sp_split_at (c__law_bound.mono (by decide)) (c__law_cover.mono (by decide)) (c__law_does.mono (by decide)) (c__law_is_exact.mono (by decide)) (c__law_is_least.mono (by decide)) (c__law_pairs.mono (by decide)) (c__law_plus.mono (by decide)) (c__law_pull.mono (by decide)) (c_does_cover.mono (by decide)) (c_is_exact.mono (by decide)) (c_is_least_cover.mono (by decide)) (c_least_cover.mono (by decide)) (c_share_of.mono (by decide)) (c_split_at.mono (by decide)) (sp := sp__law_right) (by intro vs S q h; first | (obtain ⟨a, rfl, _⟩ := h; rfl) | (obtain ⟨a, b, rfl, _⟩ := h; rfl) | (obtain ⟨a, b, c, rfl, _⟩ := h; rfl) | (obtain ⟨a, b, c, d, rfl, _⟩ := h; rfl) | (obtain ⟨a, b, c, d, e, rfl, _⟩ := h; rfl) | (obtain ⟨a, b, c, d, e, f, rfl, _⟩ := h; rfl) | (obtain ⟨a, b, c, d, e, f, g, rfl, _⟩ := h; rfl)) rd__law_right
  exact d_law (P := P) (w := w) (mg := mg) (base := base) (k := 7) T F_law sp__law_bag sp__law_right sp_is_exact sp_is_least_cover sp_least_cover sp_split_at (c__law_bag.mono (by decide)) (c__law_right.mono (by decide)) (c_is_exact.mono (by decide)) (c_is_least_cover.mono (by decide)) (c_least_cover.mono (by decide)) (c_split_at.mono (by decide)) (sp := sp_law) (by intro vs S q h; first | (obtain ⟨a, rfl, _⟩ := h; rfl) | (obtain ⟨a, b, rfl, _⟩ := h; rfl) | (obtain ⟨a, b, c, rfl, _⟩ := h; rfl) | (obtain ⟨a, b, c, d, rfl, _⟩ := h; rfl) | (obtain ⟨a, b, c, d, e, rfl, _⟩ := h; rfl) | (obtain ⟨a, b, c, d, e, f, rfl, _⟩ := h; rfl) | (obtain ⟨a, b, c, d, e, f, g, rfl, _⟩ := h; rfl)) rd_law
theorem sqL_fz {K : PySem.W.Frag} {H : Hp} {a : Addr} {xs : List V} (hO : Only H) (h : SqL K H a xs) : FzL K H a xs := by
  rcases h with (h | ⟨o, h⟩) | h
  · rcases hO a with e | ⟨o, ys, e⟩
    · rw [e] at h; cases h
    · rw [e] at h; cases h
  · exact .inl ⟨o, h⟩
  · exact .inr h
theorem law_start {K : PySem.W.Frag} {H : Hp} {a : Addr} {ns : List Int} (hl : ns.length ≤ 63) (hO : Only H) (hS : SqL K H a (ns.map V.int)) : LF K sp_law [.ref a] H (fun v _ => v = .bl true) fun _ _ _ => False := by
  have hfl : RV K H (.fl (ns.map Val.int)) (.ref a) := .fl (sqL_fz hO hS) (by simp) fun i v x h1 h2 => by
    rw [List.getElem?_map] at h1 h2
    cases e : ns[i]? with
    | none => rw [e] at h1; cases h1
    | some n => rw [e] at h1 h2; cases h1; cases h2; exact .int n
  refine ⟨[.fl (ns.map Val.int)], fun _ => none, fun v _ => v = .bl true, .cons hfl .nil, fun _ _ h => (by cases h), ⟨ns, rfl, rfl⟩, fun v S' x H' p r hS' hv => ?_⟩
  subst hv
  cases r
  rfl
end Z
open PySem PySem.W PySem.Calls PyProof.Rows
theorem PySem.Challenge.cw_countwide_k59_whole_exact_and_least_cove_holds : PySem.Challenge.rw_countwide_k59_whole_exact_and_least_cove.Holds := by
  w_on; o_law
  refine HandSHeadRun.head_any (r := OpenLaw.row PySem.Challenge.rw_countwide_k59_whole_exact_and_least_cove) (q := view (OpenLaw.row PySem.Challenge.rw_countwide_k59_whole_exact_and_least_cove).prog [45]) (H := Z.hk) (ob := Z.ob) (M := 4000) (loose := Z.loL) (d := HandSHeadRun.topDef (OpenLaw.row PySem.Challenge.rw_countwide_k59_whole_exact_and_least_cove).prog 45) (kwd := []) Z.ob_eq
    (by kernel_rfl) (fun s => by kernel_rfl) Z.run (by kernel_rfl) (by kernel_rfl) (by kernel_rfl) (by rfl) (by first | assumption | decide +kernel) (by decide +kernel) ⟨rfl, rfl, rfl, rfl, rfl, by decide +kernel⟩ ?hw ?hc
  case hw => w_witness2
  case hc =>
    refine L2.walk_ofE (l := PySem.Challenge.rw_countwide_k59_whole_exact_and_least_cove) (n := 63) (k := 8) (x := "script") (CX := L2.CX0) rfl (by decide) (by kernel_rfl) ⟨rfl, by decide, by decide⟩ ?F (fun _ _ _ _ z => z)
    intro w mg fa h Y G hmg0
    obtain ⟨K, KX, c⟩ := Y
    have hmg : mg ("law" : PySem.Str) = some (.ref fa) := by
      have e : (HandSHeadRun.topDef (OpenLaw.row PySem.Challenge.rw_countwide_k59_whole_exact_and_least_cove).prog 45).name = ("law" : PySem.Str) := by kernel_rfl
      rw [← e]
      exact hmg0
    obtain ⟨fd, hb, hF⟩ := Z.all_mk (P := (PySem.Challenge.rw_countwide_k59_whole_exact_and_least_cove).prog) (w := w) KX G hmg c
    exact ⟨K, fd, _, KX, hb, fun H a ns hl hO hS => Z.law_start hl hO hS, hF⟩

