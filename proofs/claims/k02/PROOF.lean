import PyProof.Rows.All
import Wide.All
import OpenK.AllK
import Wide.FinOn
import HandS.ForMost
import HandS.IsInst
import HandS.TupAny
import HandS.TupMul
import HandS.Style
import HandS.Flow
import HandS.Walk
import KE.DataEq
import HandS.Zip
import PySem.Challenge.RW_mildwarden_k02_what_is_a_saying
set_option Elab.async false
set_option linter.all false
set_option maxRecDepth 100000
namespace M3
open PySem L2

/-! ## data, owned objects, slots -/
abbrev D := PyData
inductive Ob where
  | lst (xs : List D)
  | dct (kvs : List (D × D))
inductive W where
  | d (x : D)
  | ro (xs : List D)
  | own (t : Nat) (o : Ob)
/-- what isn't owned: data, or a list that is only read -/
inductive DV where
  | d (x : D)
  | ro (xs : List D)
def DV.w : DV → W
  | .d x => .d x
  | .ro xs => .ro xs
abbrev Sl := List (Option W)
structure Ex3 where
  cls : Value
  arg : Option Int
inductive R3 where
  | d (x : D)
  | own (o : Ob)

def kD : Key → D
  | .inl i => .int i
  | .inr x => .str x

def none0 : Hp := fun _ => none
def TL (K : PySem.W.Frag) (O : Addr → Prop) (H : Hp) (a : Addr) (xs : List V) : Prop := H a = some (.lst xs) ∧ ¬ O a
def TT (K : PySem.W.Frag) (O : Addr → Prop) (H : Hp) (a : Addr) (xs : List V) : Prop := (Rd H a (.tup xs) ∧ ¬ O a) ∨ SqT K none0 a xs
theorem sqL0 {K : PySem.W.Frag} {H : Hp} {a : Addr} {xs : List V} (h : SqL K none0 a xs) : SqL K H a xs := by
  rcases h with (h | ⟨o, h⟩) | h
  · cases h
  · cases h
  · exact .inr h
theorem sqT0 {K : PySem.W.Frag} {H : Hp} {a : Addr} {xs : List V} (h : SqT K none0 a xs) : SqT K H a xs := by
  rcases h with (h | ⟨o, h⟩) | h
  · cases h
  · cases h
  · exact .inr h
theorem TL.sq {K : PySem.W.Frag} {O : Addr → Prop} {H : Hp} {a : Addr} {xs : List V} (h : TL K O H a xs) : SqL K H a xs := SqL.of h.1
theorem TT.sq {K : PySem.W.Frag} {O : Addr → Prop} {H : Hp} {a : Addr} {xs : List V} (h : TT K O H a xs) : SqT K H a xs := by
  rcases h with ⟨h, _⟩ | h
  · exact .inl h
  · exact sqT0 h

mutual
inductive Rp (K : PySem.W.Frag) (O : Addr → Prop) (H : Hp) : V → D → Prop
  | non : Rp K O H .non .none
  | bl (b : Bool) : Rp K O H (.bl b) (.bool b)
  | int (i : Int) : Rp K O H (.int i) (.int i)
  | str (x : Str) : Rp K O H (.str x) (.str x)
  | lst {a : Addr} {xs : List V} {ds : List D} : TL K O H a xs → RpAll K O H xs ds → Rp K O H (.ref a) (.list ds)
  | tup {a : Addr} {xs : List V} {ds : List D} : TT K O H a xs → RpAll K O H xs ds → Rp K O H (.ref a) (.tuple ds)
  | dic {a : Addr} {kvs : List (Key × V)} {ds : List (D × D)} : H a = some (.dK kvs) → ¬ O a → RpKV K O H kvs ds → Rp K O H (.ref a) (.dict ds)
inductive RpAll (K : PySem.W.Frag) (O : Addr → Prop) (H : Hp) : List V → List D → Prop
  | nil : RpAll K O H [] []
  | cons {v : V} {vs : List V} {d : D} {ds : List D} : Rp K O H v d → RpAll K O H vs ds → RpAll K O H (v :: vs) (d :: ds)
inductive RpKV (K : PySem.W.Frag) (O : Addr → Prop) (H : Hp) : List (Key × V) → List (D × D) → Prop
  | nil : RpKV K O H [] []
  | cons {k : Key} {v : V} {vs : List (Key × V)} {d : D} {ds : List (D × D)} : Rp K O H v d → RpKV K O H vs ds → RpKV K O H ((k, v) :: vs) ((kD k, d) :: ds)
end

/-- what stays: tracked things outside O are as they were; what is new in O' was in O or is new -/
structure Ext (P : Addr → Prop) (O : Addr → Prop) (H : Hp) (O' : Addr → Prop) (H' : Hp) : Prop where
  fr : ∀ b o, H b = some o → ¬ P b → H' b = some o
  ow : ∀ b, O' b → O b ∨ H b = none
  tk : ∀ b o, H b = some o → ∃ o', H' b = some o'

section
variable {K : PySem.W.Frag} {P O O' : Addr → Prop} {H H' : Hp}
theorem TL.ext {a : Addr} {xs : List V} (e : Ext P O H O' H') (po : ∀ b, P b → O b) (h : TL K O H a xs) : TL K O' H' a xs := by
  obtain ⟨h, n⟩ := h
  refine ⟨e.fr _ _ h fun z => n (po a z), fun z => ?_⟩
  rcases e.ow _ z with q | q
  · exact n q
  · rw [q] at h; cases h
theorem TT.ext {a : Addr} {xs : List V} (e : Ext P O H O' H') (po : ∀ b, P b → O b) (h : TT K O H a xs) : TT K O' H' a xs := by
  rcases h with ⟨h, n⟩ | h
  · have np : ¬ P a := fun z => n (po a z)
    refine .inl ⟨?_, fun z => ?_⟩
    · rcases h with h | ⟨o, h⟩
      · exact .inl (e.fr _ _ h np)
      · exact .inr ⟨o, e.fr _ _ h np⟩
    · rcases e.ow _ z with q | q
      · exact n q
      · rcases h with h | ⟨o, h⟩ <;> (rw [q] at h; cases h)
  · exact .inr h
mutual
theorem Rp.ext (e : Ext P O H O' H') (po : ∀ b, P b → O b) : ∀ {v : V} {d : D}, Rp K O H v d → Rp K O' H' v d
  | _, _, .non => .non
  | _, _, .bl b => .bl b
  | _, _, .int i => .int i
  | _, _, .str x => .str x
  | _, _, .lst h r => .lst (h.ext e po) (RpAll.ext e po r)
  | _, _, .tup h r => .tup (h.ext e po) (RpAll.ext e po r)
  | _, _, .dic h n r => .dic (e.fr _ _ h fun z => n (po _ z)) (fun z => (e.ow _ z).elim n fun q => by rw [q] at h; cases h) (RpKV.ext e po r)
theorem RpAll.ext (e : Ext P O H O' H') (po : ∀ b, P b → O b) : ∀ {vs : List V} {ds : List D}, RpAll K O H vs ds → RpAll K O' H' vs ds
  | _, _, .nil => .nil
  | _, _, .cons r t => .cons (Rp.ext e po r) (RpAll.ext e po t)
theorem RpKV.ext (e : Ext P O H O' H') (po : ∀ b, P b → O b) : ∀ {vs : List (Key × V)} {ds : List (D × D)}, RpKV K O H vs ds → RpKV K O' H' vs ds
  | _, _, .nil => .nil
  | _, _, .cons r t => .cons (Rp.ext e po r) (RpKV.ext e po t)
end
end

/-- dicts that are owned: keys ints and texts, or tuples of these -/
def kTD (ks : List Key) : D := .tuple (ks.map kD)
inductive RpTV (K : PySem.W.Frag) (O : Addr → Prop) (H : Hp) : List (List Key × V) → List (D × D) → Prop
  | nil : RpTV K O H [] []
  | cons {k : List Key} {v : V} {vs : List (List Key × V)} {d : D} {ds : List (D × D)} : Rp K O H v d → RpTV K O H vs ds → RpTV K O H ((k, v) :: vs) ((kTD k, d) :: ds)
theorem RpTV.ext {K : PySem.W.Frag} {P O O' : Addr → Prop} {H H' : Hp} (e : Ext P O H O' H') (po : ∀ b, P b → O b) : ∀ {vs : List (List Key × V)} {ds : List (D × D)}, RpTV K O H vs ds → RpTV K O' H' vs ds
  | _, _, .nil => .nil
  | _, _, .cons r t => .cons (r.ext e po) (RpTV.ext e po t)
def ObOk (K : PySem.W.Frag) (O : Addr → Prop) (H : Hp) (a : Addr) : Ob → Prop
  | .lst xs => ∃ vs, H a = some (.lst vs) ∧ RpAll K O H vs xs
  | .dct ds => (∃ kvs, H a = some (.dK kvs) ∧ RpKV K O H kvs ds) ∨ (∃ kvs, H a = some (.dT kvs) ∧ RpTV K O H kvs ds)
def TR (K : PySem.W.Frag) (O : Addr → Prop) (H : Hp) (a : Addr) (xs : List V) : Prop := ((∃ o, H a = some (.frz o (.lst xs))) ∧ ¬ O a) ∨ SqL K none0 a xs
theorem TR.sq {K : PySem.W.Frag} {O : Addr → Prop} {H : Hp} {a : Addr} {xs : List V} (h : TR K O H a xs) : SqL K H a xs := by
  rcases h with ⟨⟨o, h⟩, _⟩ | h
  · exact .inl (.inr ⟨o, h⟩)
  · exact sqL0 h
theorem TR.ext {K : PySem.W.Frag} {P O O' : Addr → Prop} {H H' : Hp} {a : Addr} {xs : List V} (e : Ext P O H O' H') (po : ∀ b, P b → O b) (h : TR K O H a xs) : TR K O' H' a xs := by
  rcases h with ⟨⟨o, h⟩, n⟩ | h
  · refine .inl ⟨⟨o, e.fr _ _ h fun z => n (po a z)⟩, fun z => ?_⟩
    rcases e.ow _ z with q | q
    · exact n q
    · rw [q] at h; cases h
  · exact .inr h
def RpV (K : PySem.W.Frag) (O : Addr → Prop) (H : Hp) (v : V) : DV → Prop
  | .d x => Rp K O H v x
  | .ro xs => ∃ a vs, v = .ref a ∧ TR K O H a vs ∧ RpAll K O H vs xs
theorem RpV.ext {K : PySem.W.Frag} {P O O' : Addr → Prop} {H H' : Hp} {v : V} {x : DV} (e : Ext P O H O' H') (po : ∀ b, P b → O b) (h : RpV K O H v x) : RpV K O' H' v x := by
  cases x with
  | d x => exact Rp.ext e po h
  | ro xs => obtain ⟨a, vs, h1, h2, h3⟩ := h; exact ⟨a, vs, h1, h2.ext e po, h3.ext e po⟩

abbrev Rho := Nat → Option Addr
def Ow (ρ : Rho) (a : Addr) : Prop := ∃ i, ρ i = some a
def Ox (F : Addr → Prop) (ρ : Rho) (a : Addr) : Prop := Ow ρ a ∨ F a
abbrev Ex (F : Addr → Prop) (ρ : Rho) (H : Hp) (ρ' : Rho) (H' : Hp) : Prop := Ext (Ow ρ) (Ow ρ) H (Ow ρ') H'

theorem Ext.refl {P O : Addr → Prop} {H : Hp} : Ext P O H O H := ⟨fun _ _ h _ => h, fun _ h => .inl h, fun _ o h => ⟨o, h⟩⟩
theorem Ext.same {P O : Addr → Prop} {H H' : Hp} (s : Same H H') : Ext P O H O H' := ⟨fun _ _ h _ => s _ _ h, fun _ h => .inl h, fun _ o h => ⟨o, s _ _ h⟩⟩
/-- with what is foreign -/
theorem Ext.frn {F : Addr → Prop} {ρ ρ' : Rho} {H H' : Hp} (e : Ext (Ow ρ) (Ow ρ) H (Ow ρ') H') : Ext (Ow ρ) (Ox F ρ) H (Ox F ρ') H' :=
  ⟨e.fr, fun b z => z.elim (fun q => (e.ow b q).elim (fun q => .inl (.inl q)) .inr) fun q => .inl (.inr q), e.tk⟩
theorem Ext.trans {ρ ρ1 ρ2 : Rho} {H H1 H2 : Hp} (a : Ext (Ow ρ) (Ow ρ) H (Ow ρ1) H1) (b : Ext (Ow ρ1) (Ow ρ1) H1 (Ow ρ2) H2) : Ext (Ow ρ) (Ow ρ) H (Ow ρ2) H2 where
  fr := fun c o h n => b.fr c o (a.fr c o h n) fun z => (a.ow c z).elim n fun q => by rw [q] at h; cases h
  ow := fun c z => by
    rcases b.ow c z with q | q
    · exact a.ow c q
    · cases h : H c with
      | none => exact .inr rfl
      | some o =>
        by_cases n : Ow ρ c
        · exact .inl n
        · rw [a.fr c o h n] at q; cases q
  tk := fun c o h => let ⟨o1, h1⟩ := a.tk c o h; b.tk c o1 h1

structure Rel (K : PySem.W.Frag) (π : Rho) (F : Addr → Prop) (ρ : Rho) (H : Hp) (σ : St) (δ : Sl) : Prop where
  len : σ.length = δ.length
  dat : ∀ (i : Nat) (x : DV), δ[i]? = some (some x.w) → ∃ v, σ[i]? = some (some v) ∧ RpV K (Ox F ρ) H v x
  own : ∀ (i : Nat) t o, δ[i]? = some (some (.own t o)) → ∃ a, ρ i = some a ∧ σ[i]? = some (some (.ref a)) ∧ ObOk K (Ox F ρ) H a o ∧ (∀ p, t = p + 1 → π p = some a) ∧ (t = 0 → ∀ p, π p ≠ some a)
  inj : ∀ i j a, ρ i = some a → ρ j = some a → i = j
  trk : ∀ a, Ox F ρ a → ∃ o, H a = some o
  dis : ∀ a, F a → ¬ Ow ρ a
  pit : ∀ p a, π p = some a → ∃ o, H a = some o

theorem ObOk.ext {K : PySem.W.Frag} {F : Addr → Prop} {ρ ρ' : Rho} {H H' : Hp} {a : Addr} {o : Ob} (e : Ext (Ow ρ) (Ow ρ) H (Ow ρ') H') (ha : ∀ u, H a = some u → H' a = some u) (h : ObOk K (Ox F ρ) H a o) : ObOk K (Ox F ρ') H' a o := by
  have e' := e.frn (F := F)
  cases o with
  | lst xs => obtain ⟨vs, h, r⟩ := h; exact ⟨vs, ha _ h, r.ext e' fun _ => .inl⟩
  | dct ds =>
    rcases h with ⟨kvs, h, r⟩ | ⟨kvs, h, r⟩
    · exact .inl ⟨kvs, ha _ h, r.ext e' fun _ => .inl⟩
    · exact .inr ⟨kvs, ha _ h, r.ext e' fun _ => .inl⟩

theorem Rel.same {K : PySem.W.Frag} {π : Rho} {F : Addr → Prop} {ρ : Rho} {H H' : Hp} {σ : St} {δ : Sl} (s : Same H H') (r : Rel K π F ρ H σ δ) : Rel K π F ρ H' σ δ where
  len := r.len
  dat := fun i x e => by
    obtain ⟨v, h1, h2⟩ := r.dat i x e
    exact ⟨v, h1, h2.ext (P := Ow ρ) ((Ext.same s).frn) fun _ => .inl⟩
  own := fun i t o e => by
    obtain ⟨a, h1, h2, h3, h4⟩ := r.own i t o e
    exact ⟨a, h1, h2, h3.ext (Ext.same s) (fun _ => s _ _), h4⟩
  inj := r.inj
  trk := fun a z => let ⟨o, h⟩ := r.trk a z; ⟨o, s _ _ h⟩
  dis := r.dis
  pit := fun p a z => let ⟨o, h⟩ := r.pit p a z; ⟨o, s _ _ h⟩
theorem Rel.fresh {K : PySem.W.Frag} {π : Rho} {F : Addr → Prop} {ρ : Rho} {H : Hp} {σ : St} {δ : Sl} (r : Rel K π F ρ H σ δ) {p : Addr} (h : H p = none) : ¬ Ox F ρ p := fun z => by
  obtain ⟨o, q⟩ := r.trk p z
  rw [h] at q; cases q

/-- an exception of class cls, its dict at d -/
def XOk (H : Hp) (x : Option Int) (d : Option Addr) : Prop := match x with
  | none => True
  | some i => ∃ a, d = some a ∧ H a = some (.xd [("at", .int i)])
def liftX (K : PySem.W.Frag) (E : XK) (F : Addr → Prop) (ρ : Rho) (H : Hp) : Ex3 → Prop := fun ex => ∀ d H' ρ', Ex F ρ H ρ' H' → XOk H' ex.arg d → E ex.cls d H'
theorem liftX.mono {K : PySem.W.Frag} {E : XK} {F : Addr → Prop} {ρ ρ1 : Rho} {H H1 : Hp} (e : Ex F ρ H ρ1 H1) : ∀ ex, liftX K E F ρ H ex → liftX K E F ρ1 H1 ex :=
  fun ex h d H' ρ' e' x => h d H' ρ' (e.trans e') x

/-! ## readings over slots -/
abbrev G3 (β : Type) := (Ex3 → Prop) → Sl → (β → Sl → Prop) → Prop
abbrev T3 := G3 D
abbrev TB3 := G3 Bool
abbrev TA3 := G3 (List D)
def Mono3 {β : Type} (t : G3 β) : Prop := ∀ E E' δ Q Q', (∀ e, E e → E' e) → (∀ y δ', Q y δ' → Q' y δ') → t E δ Q → t E' δ Q'
/-- lifted to heaps -/
def lift (K : PySem.W.Frag) (E : XK) {α β : Type} (R : (Addr → Prop) → Hp → α → β → Prop) (t : G3 β) : St → Hp → (α → Hp → Prop) → Prop := fun σ H Q =>
  ∃ π F ρ δ, Rel K π F ρ H σ δ ∧ t (liftX K E F ρ H) δ fun y δ' => ∀ x H' ρ', Ex F ρ H ρ' H' → Rel K π F ρ' H' σ δ' → R (Ox F ρ') H' x y → Q x H'
structure PE3 (X : Cx) (E : XK) (e : Expr) (t : T3) : Prop where
  mono : Mono3 t
  pe : PE X e (lift X.K E (Rp X.K) t)
structure PT3 (X : Cx) (E : XK) (e : Expr) (t : TB3) : Prop where
  mono : Mono3 t
  pe : PT X e (lift X.K E (fun _ _ (x y : Bool) => x = y) t)
structure PW3 (X : Cx) (E : XK) (e : Expr) (t : TB3) : Prop where
  mono : Mono3 t
  pe : PW X e (lift X.K E (fun _ _ (x y : Bool) => x = y) t)
theorem PW3.pt {X : Cx} {E : XK} {e : Expr} {t : TB3} (h : PW3 X E e t) : PT3 X E e t := ⟨h.mono, h.pe.pt⟩

theorem _root_.L2.PE.imp {X : Cx} {e : Expr} {t t' : TE} (h : PE X e t) (k : ∀ σ H Q, t' σ H Q → t σ H Q) : PE X e t' := ⟨fun pins s σ H Q I q => h.run pins s σ H Q I (k σ H Q q)⟩
theorem _root_.L2.PT.imp {X : Cx} {e : Expr} {t t' : L2.TT} (h : PT X e t) (k : ∀ σ H Q, t' σ H Q → t σ H Q) : PT X e t' := ⟨fun pins s σ H Q I q => h.run pins s σ H Q I (k σ H Q q)⟩
theorem _root_.L2.PW.imp {X : Cx} {e : Expr} {t t' : L2.TT} (h : PW X e t) (k : ∀ σ H Q, t' σ H Q → t σ H Q) : PW X e t' := ⟨fun wh pins s σ H Q I q => h.run wh pins s σ H Q I (k σ H Q q)⟩
theorem _root_.L2.PA.imp {X : Cx} {e : List Expr} {t t' : TA} (h : PA X e t) (k : ∀ σ H Q, t' σ H Q → t σ H Q) : PA X e t' := ⟨fun pos pins s σ H Q I q => h.run pos pins s σ H Q I (k σ H Q q)⟩
theorem _root_.L2.PS.imp {X : Cx} {e : Stmt} {t t' : TS} (h : PS X e t) (k : ∀ D σ H, t' D σ H → t D σ H) : PS X e t' := ⟨fun pins s σ H D I q => h.run pins s σ H D I (k D σ H q)⟩
theorem _root_.L2.PSs.imp {X : Cx} {e : List Stmt} {t t' : TS} (h : PSs X e t) (k : ∀ D σ H, t' D σ H → t D σ H) : PSs X e t' := ⟨fun pins s σ H D I q => h.run pins s σ H D I (k D σ H q)⟩
theorem _root_.L2.PG.imp {X : Cx} {e : Expr} {t t' : TG} (h : PG X e t) (k : ∀ v σ H Q, t' v σ H Q → t v σ H Q) : PG X e t' := ⟨fun pins s σ H v u Q I r q => h.run pins s σ H v u Q I r (k v σ H Q q)⟩
theorem _root_.L2.PI.imp {X : Cx} {tg e : Expr} {t t' : TI} (h : PI X tg e t) (k : ∀ σ H Q, t' σ H Q → t σ H Q) : PI X tg e t' := ⟨fun pins s σ H Q I q => h.run pins s σ H Q I (k σ H Q q)⟩

/-! ### two ways -/
structure br (b : Bool) (A B : Prop) : Prop where
  yes : b = true → A
  no : b = false → B
theorem br.ite {b : Bool} {A B : Prop} (h : br b A B) : if b = true then A else B := by
  cases b
  · rw [if_neg Bool.false_ne_true]; exact h.2 rfl
  · rw [if_pos rfl]; exact h.1 rfl
theorem br.imp {b : Bool} {A B A' B' : Prop} (h : br b A B) (f : A → A') (g : B → B') : br b A' B' := ⟨fun e => f (h.1 e), fun e => g (h.2 e)⟩
def asI (x : D) (k : Int → Prop) : Prop := match x with | .int i => k i | _ => False
def asB (x : D) (k : Bool → Prop) : Prop := match x with | .bool i => k i | _ => False
theorem asI.to {x : D} {k : Int → Prop} (h : asI x k) : ∃ i, x = .int i ∧ k i := by
  cases x <;> first | exact ⟨_, rfl, h⟩ | exact False.elim h
theorem asB.to {x : D} {k : Bool → Prop} (h : asB x k) : ∃ i, x = .bool i ∧ k i := by
  cases x <;> first | exact ⟨_, rfl, h⟩ | exact False.elim h
theorem asI.of {i : Int} {k : Int → Prop} (h : k i) : asI (.int i) k := h
theorem asB.of {i : Bool} {k : Bool → Prop} (h : k i) : asB (.bool i) k := h
end M3

set_option Elab.async false
set_option linter.all false
set_option maxRecDepth 100000
namespace M3
open PySem L2

/-! ## the general forms -/
section
variable {X : Cx} {E : XK}
abbrev Trk (O : Addr → Prop) (H : Hp) : Prop := ∀ b, O b → ∃ o, H b = some o
def tU3 (r3 : D → (D → Prop) → Prop) (ta : T3) : T3 := fun E δ Q => ta E δ fun x δ1 => r3 x fun z => Q z δ1
def tB2 (r3 : D → D → (D → Prop) → Prop) (ta tb : T3) : T3 := fun E δ Q => ta E δ fun x δ1 => tb E δ1 fun y δ2 => r3 x y fun z => Q z δ2
def tBool (t : T3) : TB3 := fun E δ Q => t E δ fun x δ1 => asB x fun b => Q b δ1
def M1 (r3 : D → (D → Prop) → Prop) : Prop := ∀ x k k', (∀ z, k z → k' z) → r3 x k → r3 x k'
def M2 (r3 : D → D → (D → Prop) → Prop) : Prop := ∀ x y k k', (∀ z, k z → k' z) → r3 x y k → r3 x y k'
theorem mono_tU3 {r3 ta} (h : Mono3 ta) (m : M1 r3) : Mono3 (tU3 r3 ta) := fun _ _ _ _ _ he hq q => h _ _ _ _ _ he (fun x δ1 => m x _ _ fun z => hq z δ1) q
theorem mono_tB2 {r3 ta tb} (h : Mono3 ta) (h' : Mono3 tb) (m : M2 r3) : Mono3 (tB2 r3 ta tb) := fun _ _ _ _ _ he hq q => h _ _ _ _ _ he (fun x δ1 => h' _ _ _ _ _ he fun y δ2 => m x y _ _ fun z => hq z δ2) q
theorem mono_tBool {t} (h : Mono3 t) : Mono3 (tBool t) := fun _ _ _ _ _ he hq q => h _ _ _ _ _ he (fun x δ1 z => by obtain ⟨b, rfl, z1⟩ := asB.to z; exact asB.of (hq _ _ z1)) q
/-- what a value-level rule of the layer below is worth -/
def OpOk1 (K : PySem.W.Frag) (r : V → Hp → VK → Prop) (r3 : D → (D → Prop) → Prop) : Prop := ∀ (O : Addr → Prop) (H : Hp) (v : V) (x : D) (k : D → Prop) (Q : VK), Trk O H → Rp K O H v x → r3 x k → (∀ z w H', Same H H' → Rp K O H' w z → k z → Q w H') → r v H Q
def OpOk2 (K : PySem.W.Frag) (r : R2) (r3 : D → D → (D → Prop) → Prop) : Prop := ∀ (O : Addr → Prop) (H : Hp) (v u : V) (x y : D) (k : D → Prop) (Q : VK), Trk O H → Rp K O H v x → Rp K O H u y → r3 x y k → (∀ z w H', Same H H' → Rp K O H' w z → k z → Q w H') → r v u H Q
theorem lift_un {t ta : T3} {r : V → Hp → VK → Prop} {r3} (ha : Mono3 ta) (hr : OpOk1 X.K r r3) {σ : St} {H : Hp} {Q : VK} (h : lift X.K E (Rp X.K) (tU3 r3 ta) σ H Q) : tUn r (lift X.K E (Rp X.K) ta) σ H Q := by
  obtain ⟨π, F, ρ, δ, rel, q⟩ := h
  refine ⟨π, F, ρ, δ, rel, ha _ _ _ _ _ (fun _ z => z) (fun x δ1 q v H1 ρ1 e1 rel1 r1 => ?_) q⟩
  exact hr _ H1 v x _ Q rel1.trk r1 q fun z w H2 s r2 q2 => q2 w H2 ρ1 (e1.trans (Ext.same s)) (rel1.same s) r2
theorem lift_bin {ta tb : T3} {r : R2} {r3} (ha : Mono3 ta) (hb : Mono3 tb) (hr : OpOk2 X.K r r3) {σ : St} {H : Hp} {Q : VK} (h : lift X.K E (Rp X.K) (tB2 r3 ta tb) σ H Q) : tOp r (lift X.K E (Rp X.K) ta) (lift X.K E (Rp X.K) tb) σ H Q := by
  obtain ⟨π, F, ρ, δ, rel, q⟩ := h
  refine ⟨π, F, ρ, δ, rel, ha _ _ _ _ _ (fun _ z => z) (fun x δ1 q v H1 ρ1 e1 rel1 r1 => ?_) q⟩
  refine ⟨π, F, ρ1, δ1, rel1, hb _ _ _ _ _ (liftX.mono e1) (fun y δ2 q u H2 ρ2 e2 rel2 r2 => ?_) q⟩
  exact hr _ H2 v u x y _ Q rel2.trk (r1.ext (e2.frn) fun _ => .inl) r2 q fun z w H3 s r3 q3 => q3 w H3 ρ2 ((e1.trans e2).trans (Ext.same s)) (rel2.same s) r3
theorem bin3 {a b e : Expr} {ta tb : T3} {r : R2} {r3} (mk : ∀ ta' tb', PE X a ta' → PE X b tb' → PE X e (tOp r ta' tb')) (hr : OpOk2 X.K r r3) (m : M2 r3) (ha : PE3 X E a ta) (hb : PE3 X E b tb) : PE3 X E e (tB2 r3 ta tb) :=
  ⟨mono_tB2 ha.mono hb.mono m, (mk _ _ ha.pe hb.pe).imp fun _ _ _ h => lift_bin ha.mono hb.mono hr h⟩
theorem un3 {a e : Expr} {ta : T3} {r : V → Hp → VK → Prop} {r3} (mk : ∀ ta', PE X a ta' → PE X e (tUn r ta')) (hr : OpOk1 X.K r r3) (m : M1 r3) (ha : PE3 X E a ta) : PE3 X E e (tU3 r3 ta) :=
  ⟨mono_tU3 ha.mono m, (mk _ ha.pe).imp fun _ _ _ h => lift_un (t := ta) ha.mono hr h⟩
/-- a value that is a truth, as a test -/
theorem lift_bool {t : T3} (ht : Mono3 t) {σ : St} {H : Hp} {Q : Bool → Hp → Prop} (h : lift X.K E (fun _ _ (x y : Bool) => x = y) (tBool t) σ H Q) : lift X.K E (Rp X.K) t σ H fun x H1 => ∃ c, x = .bl c ∧ Q c H1 := by
  obtain ⟨π, F, ρ, δ, rel, q⟩ := h
  refine ⟨π, F, ρ, δ, rel, ht _ _ _ _ _ (fun _ z => z) (fun x δ1 q v H1 ρ1 e1 rel1 r1 => ?_) q⟩
  obtain ⟨b, rfl, q⟩ := asB.to q
  cases r1
  exact ⟨b, rfl, q b H1 ρ1 e1 rel1 rfl⟩
theorem pt3_val {e : Expr} {t : T3} (h : PE3 X E e t) (he : ∀ whole, isTrue e X.env whole = (do let v ← whole; standAt e.pos; holding [v] (truthy v)) := by intro _; rfl) : PT3 X E e (tBool t) :=
  ⟨mono_tBool h.mono, (pt_val h.pe he).imp fun _ _ _ q => lift_bool h.mono q⟩
theorem bin3T {a b e : Expr} {ta tb : T3} {r : R2} {r3} (mk : ∀ ta' tb', PE X a ta' → PE X b tb' → PT X e (tTest (tOp r ta' tb'))) (hr : OpOk2 X.K r r3) (m : M2 r3) (ha : PE3 X E a ta) (hb : PE3 X E b tb) : PT3 X E e (tBool (tB2 r3 ta tb)) :=
  ⟨mono_tBool (mono_tB2 ha.mono hb.mono m), (mk _ _ ha.pe hb.pe).imp fun _ _ _ h => lift_bin ha.mono hb.mono hr (lift_bool (mono_tB2 ha.mono hb.mono m) h)⟩

/-! ## names, constants -/
def tV3 (i : Nat) : T3 := fun _ δ Q => match δ[i]? with | some (some (.d x)) => Q x δ | _ => False
theorem tV3.to {i : Nat} {E : Ex3 → Prop} {δ : Sl} {Q : D → Sl → Prop} (h : tV3 i E δ Q) : ∃ x, δ[i]? = some (some (.d x)) ∧ Q x δ := by
  unfold tV3 at h
  split at h
  · exact ⟨_, by assumption, h⟩
  · exact h.elim
theorem tV3.of {i : Nat} {E : Ex3 → Prop} {δ : Sl} {Q : D → Sl → Prop} {x : D} (e : δ[i]? = some (some (.d x))) (h : Q x δ) : tV3 i E δ Q := by
  unfold tV3
  rw [e]
  exact h
theorem mono_tV3 {i : Nat} : Mono3 (tV3 i) := fun _ _ _ _ _ _ hq q => by
  obtain ⟨x, e, q⟩ := q.to
  exact tV3.of e (hq _ _ q)
theorem v3 (i : Nat) {x : Str} {pos : Pos} (hN : X.N[i]? = some x := by rfl) (hv : Vis X.env.scope x := by first | exact Or.inl rfl | exact Or.inr (Or.inl rfl) | exact Or.inr (Or.inr rfl)) (hd : (x == ("__debug__" : Str)) = false := by decide)
    (hcd : (x == ("__classdict__" : Str)) = false := by decide) : PE3 X E (.Name x pos) (tV3 i) := by
  refine ⟨mono_tV3, (pe_var hN hv hd hcd).imp fun σ H Q h => ?_⟩
  obtain ⟨π, F, ρ, δ, rel, q⟩ := h
  obtain ⟨x, e, q⟩ := q.to
  obtain ⟨v, e1, r⟩ := rel.dat i (.d x) e
  exact ⟨v, e1, q v H ρ Ext.refl rel r⟩
def tC3 (x : D) : T3 := fun _ δ Q => Q x δ
theorem mono_tC3 {x : D} : Mono3 (tC3 x) := fun _ _ _ _ _ _ hq q => hq _ _ q
theorem const3 {e : Expr} {v : V} {x : D} (h : PE X e (tC v)) (hr : ∀ O H, Rp X.K O H v x) : PE3 X E e (tC3 x) := by
  refine ⟨mono_tC3, h.imp fun σ H Q h => ?_⟩
  obtain ⟨π, F, ρ, δ, rel, q⟩ := h
  exact q v H ρ Ext.refl rel (hr _ _)
theorem int3 {i j pos} : PE3 X E (.Constant (.int i) j pos) (tC3 (.int i)) := const3 pe_int fun _ _ => .int i
theorem bl3 {b j pos} : PE3 X E (.Constant (.bool b) j pos) (tC3 (.bool b)) := const3 pe_bl fun _ _ => .bl b
theorem non3 {j pos} : PE3 X E (.Constant .none j pos) (tC3 .none) := const3 pe_non fun _ _ => .non
theorem str3 {x j pos} : PE3 X E (.Constant (.str x) j pos) (tC3 (.str x)) := const3 pe_str fun _ _ => .str x
theorem glob3 {x : Str} {v : V} {y : D} {u : Value} {pos : Pos} (hg : Gl X x) (hm : X.mg x = some u) (r : RelV v u) (hr : ∀ O H, Rp X.K O H v y) (hd : (x == ("__debug__" : Str)) = false := by decide) : PE3 X E (.Name x pos) (tC3 y) := const3 (pe_glob hg hm r hd) hr
theorem globI3 {x : Str} {i : Int} {t : Tok} {pos : Pos} (hg : Gl X x) (hm : X.mg x = some (.int i t)) (hd : (x == ("__debug__" : Str)) = false := by decide) : PE3 X E (.Name x pos) (tC3 (.int i)) := glob3 (v := .int i) hg hm ⟨_, rfl⟩ (fun _ _ => .int i) hd

/-! ## arithmetic -/
variable {a b : Expr} {ta tb : T3} {pos : Pos}
def rII (C : Int → Int → Prop) (f : Int → Int → D) (x y : D) (k : D → Prop) : Prop := asI x fun i => asI y fun j => C i j ∧ k (f i j)
def rII0 (f : Int → Int → D) (x y : D) (k : D → Prop) : Prop := asI x fun i => asI y fun j => k (f i j)
theorem m_rII {C f} : M2 (rII C f) := fun x y k k' hk h => by
  obtain ⟨i, rfl, h1⟩ := asI.to h
  obtain ⟨j, rfl, c, h2⟩ := asI.to h1
  exact asI.of (asI.of ⟨c, hk _ h2⟩)
theorem m_rII0 {f} : M2 (rII0 f) := fun x y k k' hk h => by
  obtain ⟨i, rfl, h1⟩ := asI.to h
  obtain ⟨j, rfl, h2⟩ := asI.to h1
  exact asI.of (asI.of (hk _ h2))
theorem ok_rII {K : PySem.W.Frag} {C : Int → Int → Prop} {g : Int → Int → V} {f : Int → Int → D} (hf : ∀ i j O H, Rp K O H (g i j) (f i j)) : OpOk2 K (rI C g) (rII C f) := by
  intro O H v u x y k Q _ rx ry h hq
  obtain ⟨i, rfl, h1⟩ := asI.to h
  obtain ⟨j, rfl, c, h2⟩ := asI.to h1
  cases rx; cases ry
  exact ⟨i, j, rfl, rfl, c, hq _ _ H (Same.refl H) (hf i j O H) h2⟩
theorem ok_rII0 {K : PySem.W.Frag} {g : Int → Int → V} {f : Int → Int → D} (hf : ∀ i j O H, Rp K O H (g i j) (f i j)) : OpOk2 K (rI0 g) (rII0 f) := by
  intro O H v u x y k Q _ rx ry h hq
  obtain ⟨i, rfl, h1⟩ := asI.to h
  obtain ⟨j, rfl, h2⟩ := asI.to h1
  cases rx; cases ry
  exact ⟨i, j, rfl, rfl, hq _ _ H (Same.refl H) (hf i j O H) h2⟩
theorem sub3 (ha : PE3 X E a ta) (hb : PE3 X E b tb) : PE3 X E (.BinOp a .Sub b pos) (tB2 (rII0 fun i j => .int (i - j)) ta tb) := bin3 (fun _ _ h h' => pe_op op_sub h h') (ok_rII0 fun _ _ _ _ => .int _) m_rII0 ha hb
theorem mod3 (ha : PE3 X E a ta) (hb : PE3 X E b tb) : PE3 X E (.BinOp a .Mod b pos) (tB2 (rII (fun _ j => 0 < j) fun i j => .int (i % j)) ta tb) := bin3 (fun _ _ h h' => pe_op op_mod h h') (ok_rII fun _ _ _ _ => .int _) m_rII ha hb
theorem fdiv3 (ha : PE3 X E a ta) (hb : PE3 X E b tb) : PE3 X E (.BinOp a .FloorDiv b pos) (tB2 (rII CDiv fun i j => .int (i / j)) ta tb) := bin3 (fun _ _ h h' => pe_op op_fdiv h h') (ok_rII fun _ _ _ _ => .int _) m_rII ha hb
/-- powers, by their bits -/
def CPw (i j : Int) : Prop := 0 ≤ j ∧ (Builtin.Int.intBits i : Int) * j ≤ 2 ^ 27
theorem op_pw : OpR X (binaryOp .Pow) (rI CPw fun i j => .int (i ^ j.toNat)) := opI fun _ _ _ _ _ _ _ hc q => PyProof.Rows.pow_int hc.1 hc.2 q
theorem pow3 (ha : PE3 X E a ta) (hb : PE3 X E b tb) : PE3 X E (.BinOp a .Pow b pos) (tB2 (rII CPw fun i j => .int (i ^ j.toNat)) ta tb) := bin3 (fun _ _ h h' => pe_op op_pw h h') (ok_rII fun _ _ _ _ => .int _) m_rII ha hb
theorem neg3 (ha : PE3 X E a ta) : PE3 X E (.UnaryOp .USub a pos) (tU3 (fun x k => asI x fun i => k (.int (-i))) ta) :=
  un3 (fun _ h => pe_un un_neg h) (fun O H v x k Q _ rx h hq => by
    obtain ⟨i, rfl, h1⟩ := asI.to h
    cases rx
    exact ⟨i, rfl, hq _ _ H (Same.refl H) (.int _) h1⟩) (fun x k k' hk h => by obtain ⟨i, rfl, h1⟩ := asI.to h; exact asI.of (hk _ h1)) ha

/-! ## new tuples and lists -/
theorem same_upd {H : Hp} {p : Addr} {o : HO} (h : H p = none) : Same H (upd H p o) := fun b u e => by rw [upd_ne (ne_of_none e h)]; exact e
theorem Trk.fresh {O : Addr → Prop} {H : Hp} (t : Trk O H) {p : Addr} (h : H p = none) : ¬ O p := fun z => by
  obtain ⟨o, q⟩ := t p z
  rw [h] at q; cases q
theorem Rp.same {K : PySem.W.Frag} {O : Addr → Prop} {H H' : Hp} {v : V} {d : D} (s : Same H H') (h : Rp K O H v d) : Rp K O H' v d := h.ext (P := O) (Ext.same s) fun _ z => z
theorem RpAll.same {K : PySem.W.Frag} {O : Addr → Prop} {H H' : Hp} {v : List V} {d : List D} (s : Same H H') (h : RpAll K O H v d) : RpAll K O H' v d := h.ext (P := O) (Ext.same s) fun _ z => z
theorem rp_tup {K : PySem.W.Frag} {O : Addr → Prop} {H : Hp} {vs : List V} {ds : List D} {p : Addr} (t : Trk O H) (h : H p = none) (r : RpAll K O H vs ds) : Rp K O (upd H p (.tup vs)) (.ref p) (.tuple ds) :=
  .tup (.inl ⟨.inl upd_same, t.fresh h⟩) (r.same (same_upd h))
theorem rp_lst {K : PySem.W.Frag} {O : Addr → Prop} {H : Hp} {vs : List V} {ds : List D} {p : Addr} (t : Trk O H) (h : H p = none) (r : RpAll K O H vs ds) : Rp K O (upd H p (.lst vs)) (.ref p) (.list ds) :=
  .lst ⟨upd_same, t.fresh h⟩ (r.same (same_upd h))
theorem RpAll.length {K : PySem.W.Frag} {O : Addr → Prop} {H : Hp} : ∀ {vs : List V} {ds : List D}, RpAll K O H vs ds → vs.length = ds.length
  | _, _, .nil => rfl
  | _, _, .cons _ t => congrArg (· + 1) t.length
theorem RpAll.append {K : PySem.W.Frag} {O : Addr → Prop} {H : Hp} : ∀ {vs us : List V} {ds es : List D}, RpAll K O H vs ds → RpAll K O H us es → RpAll K O H (vs ++ us) (ds ++ es)
  | _, _, _, _, .nil, h => h
  | _, _, _, _, .cons r t, h => .cons r (t.append h)
theorem RpAll.get {K : PySem.W.Frag} {O : Addr → Prop} {H : Hp} : ∀ {vs : List V} {ds : List D} {i : Nat} {d : D}, RpAll K O H vs ds → ds[i]? = some d → ∃ v, vs[i]? = some v ∧ Rp K O H v d
  | _, _, _, _, .nil, h => by simp at h
  | _, _, 0, _, .cons r t, h => by simp at h; subst h; exact ⟨_, rfl, r⟩
  | _, _, i + 1, d, .cons r t, h => by
    obtain ⟨v, h1, h2⟩ := t.get (i := i) (d := d) (by simpa using h)
    exact ⟨v, by simpa using h1, h2⟩
theorem RpAll.drop {K : PySem.W.Frag} {O : Addr → Prop} {H : Hp} : ∀ {vs : List V} {ds : List D} (n : Nat), RpAll K O H vs ds → RpAll K O H (vs.drop n) (ds.drop n)
  | _, _, 0, h => h
  | _, _, _ + 1, .nil => .nil
  | _, _, n + 1, .cons _ t => t.drop n
theorem RpAll.take {K : PySem.W.Frag} {O : Addr → Prop} {H : Hp} : ∀ {vs : List V} {ds : List D} (n : Nat), RpAll K O H vs ds → RpAll K O H (vs.take n) (ds.take n)
  | _, _, 0, _ => .nil
  | _, _, _ + 1, .nil => .nil
  | _, _, n + 1, .cons r t => .cons r (t.take n)
theorem RpAll.reverse {K : PySem.W.Frag} {O : Addr → Prop} {H : Hp} : ∀ {vs : List V} {ds : List D}, RpAll K O H vs ds → RpAll K O H vs.reverse ds.reverse
  | _, _, .nil => .nil
  | _, _, .cons r t => by rw [List.reverse_cons, List.reverse_cons]; exact t.reverse.append (.cons r .nil)
theorem RpAll.set {K : PySem.W.Frag} {O : Addr → Prop} {H : Hp} {v : V} {d : D} (r : Rp K O H v d) : ∀ {vs : List V} {ds : List D} (i : Nat), RpAll K O H vs ds → RpAll K O H (vs.set i v) (ds.set i d)
  | _, _, _, .nil => .nil
  | _, _, 0, .cons _ t => .cons r t
  | _, _, i + 1, .cons q t => .cons q (t.set r i)
theorem RpAll.rep {K : PySem.W.Frag} {O : Addr → Prop} {H : Hp} {vs : List V} {ds : List D} (h : RpAll K O H vs ds) : ∀ n : Nat, RpAll K O H (List.replicate n vs).flatten (List.replicate n ds).flatten
  | 0 => .nil
  | n + 1 => by
    rw [List.replicate_succ, List.replicate_succ, List.flatten_cons, List.flatten_cons]
    exact h.append (h.rep n)
/-- argument lists -/
structure PA3 (X : Cx) (E : XK) (es : List Expr) (t : TA3) : Prop where
  mono : Mono3 t
  pa : PA X es (lift X.K E (RpAll X.K) t)
def tNil3 : TA3 := fun _ δ Q => Q [] δ
def tCons3 (ta : T3) (tr : TA3) : TA3 := fun E δ Q => ta E δ fun x δ1 => tr E δ1 fun xs δ2 => Q (x :: xs) δ2
theorem an3 : PA3 X E [] tNil3 := ⟨fun _ _ _ _ _ _ hq q => hq _ _ q, pa_nil.imp fun σ H Q h => by
  obtain ⟨π, F, ρ, δ, rel, q⟩ := h
  exact q [] H ρ Ext.refl rel .nil⟩
theorem ac3 {e : Expr} {es : List Expr} {te : T3} {t : TA3} (ha : PE3 X E e te) (hr : PA3 X E es t) (hs : starEach (e :: es) X.env = (false, eval e X.env) :: starEach es X.env := by rfl) : PA3 X E (e :: es) (tCons3 te t) := by
  refine ⟨fun _ _ _ _ _ he hq q => ha.mono _ _ _ _ _ he (fun x δ1 => hr.mono _ _ _ _ _ he fun xs δ2 => hq _ _) q, (pa_cons ha.pe hr.pa hs).imp fun σ H Q h => ?_⟩
  obtain ⟨π, F, ρ, δ, rel, q⟩ := h
  refine ⟨π, F, ρ, δ, rel, ha.mono _ _ _ _ _ (fun _ z => z) (fun x δ1 q v H1 ρ1 e1 rel1 r1 => ?_) q⟩
  refine ⟨π, F, ρ1, δ1, rel1, hr.mono _ _ _ _ _ (liftX.mono e1) (fun y δ2 q us H2 ρ2 e2 rel2 r2 => ?_) q⟩
  exact q (v :: us) H2 ρ2 (e1.trans e2) rel2 (.cons (r1.ext (e2.frn) fun _ => .inl) r2)
def tTup3 (t : TA3) : T3 := fun E δ Q => t E δ fun xs δ1 => xs.length ≤ sizeLine ∧ Q (.tuple xs) δ1
def tLst3 (t : TA3) : T3 := fun E δ Q => t E δ fun xs δ1 => xs.length ≤ sizeLine ∧ Q (.list xs) δ1
theorem tup3 {es : List Expr} {t : TA3} {x1} (h : PA3 X E es t) : PE3 X E (.Tuple es x1 pos) (tTup3 t) := by
  refine ⟨fun _ _ _ _ _ he hq q => h.mono _ _ _ _ _ he (fun xs δ1 z => ⟨z.1, hq _ _ z.2⟩) q, (pe_tup h.pa).imp fun σ H Q q => ?_⟩
  obtain ⟨π, F, ρ, δ, rel, q⟩ := q
  refine ⟨π, F, ρ, δ, rel, h.mono _ _ _ _ _ (fun _ z => z) (fun xs δ1 q vs H1 ρ1 e1 rel1 r1 => ⟨by rw [r1.length]; exact q.1, fun p hp => ?_⟩) q⟩
  exact q.2 (.ref p) _ ρ1 (e1.trans (Ext.same (same_upd hp))) (rel1.same (same_upd hp)) (rp_tup rel1.trk hp r1)
theorem lst3 {es : List Expr} {t : TA3} (h : PA3 X E es t) : PE3 X E (.List es pos) (tLst3 t) := by
  refine ⟨fun _ _ _ _ _ he hq q => h.mono _ _ _ _ _ he (fun xs δ1 z => ⟨z.1, hq _ _ z.2⟩) q, (pe_lst h.pa).imp fun σ H Q q => ?_⟩
  obtain ⟨π, F, ρ, δ, rel, q⟩ := q
  refine ⟨π, F, ρ, δ, rel, h.mono _ _ _ _ _ (fun _ z => z) (fun xs δ1 q vs H1 ρ1 e1 rel1 r1 => ⟨by rw [r1.length]; exact q.1, fun p hp => ?_⟩) q⟩
  exact q.2 (.ref p) _ ρ1 (e1.trans (Ext.same (same_upd hp))) (rel1.same (same_upd hp)) (rp_lst rel1.trk hp r1)

/-! ## + and * of numbers, rows and texts -/
def rAdd3 (x y : D) (k : D → Prop) : Prop := match x, y with
  | .int i, .int j => k (.int (i + j))
  | .tuple xs, .tuple ys => xs.length + ys.length ≤ sizeLine ∧ k (.tuple (xs ++ ys))
  | .list xs, .list ys => xs.length + ys.length ≤ sizeLine ∧ k (.list (xs ++ ys))
  | .str i, .str j => i.length + j.length ≤ sizeLine ∧ k (.str (i ++ j))
  | _, _ => False
theorem m_rAdd3 : M2 rAdd3 := fun x y k k' hk h => by
  unfold rAdd3 at h ⊢
  split at h
  · exact hk _ h
  · exact ⟨h.1, hk _ h.2⟩
  · exact ⟨h.1, hk _ h.2⟩
  · exact ⟨h.1, hk _ h.2⟩
  · exact h.elim
end
end M3

set_option Elab.async false
set_option linter.all false
set_option maxRecDepth 100000
namespace M3
open PySem L2
section
variable {X : Cx} {E : XK} {a b c e : Expr} {ta tb tc : T3} {pos : Pos}

theorem op_addA : OpR X (binaryOp .Add) (fun x y H Q => rI0 (fun i j => .int (i + j)) x y H Q ∨ rCatA X.K x y H Q ∨ rCat x y H Q ∨ (∃ i j, x = .str i ∧ y = .str j ∧ i.length + j.length ≤ sizeLine ∧ Q (.str (i ++ j)) H)) :=
  op_add.or (op_catA.or (op_cat.or op_add_str))
theorem ok_rAdd3 {K : PySem.W.Frag} : OpOk2 K (fun x y H Q => rI0 (fun i j => .int (i + j)) x y H Q ∨ rCatA K x y H Q ∨ rCat x y H Q ∨ (∃ i j, x = .str i ∧ y = .str j ∧ i.length + j.length ≤ sizeLine ∧ Q (.str (i ++ j)) H)) rAdd3 := by
  intro O H v u x y k Q tr rx ry h hq
  unfold rAdd3 at h
  split at h
  · cases rx; cases ry
    exact .inl ⟨_, _, rfl, rfl, hq _ _ H (Same.refl H) (.int _) h⟩
  · obtain ⟨hz, h⟩ := h
    cases rx with
    | tup ht hr =>
      cases ry with
      | tup ht' hr' =>
        refine .inr (.inl ⟨_, _, _, _, rfl, rfl, ht.sq, ht'.sq, by rw [hr.length, hr'.length]; exact hz, fun e => ?_, fun _ e => ?_, fun _ _ p hp => ?_⟩)
        · subst e; cases hr
          exact hq _ _ H (Same.refl H) (.tup ht' hr') h
        · subst e; cases hr'
          exact hq _ _ H (Same.refl H) (by rw [List.append_nil]; exact .tup ht hr) h
        · exact hq _ _ _ (same_upd hp) (rp_tup tr hp (hr.append hr')) h
  · obtain ⟨hz, h⟩ := h
    cases rx with
    | lst ht hr =>
      cases ry with
      | lst ht' hr' =>
        exact .inr (.inr (.inl ⟨_, _, _, _, rfl, rfl, ht.1, ht'.1, by rw [hr.length, hr'.length]; exact hz, fun p hp => hq _ _ _ (same_upd hp) (rp_lst tr hp (hr.append hr')) h⟩))
  · obtain ⟨hz, h⟩ := h
    cases rx; cases ry
    exact .inr (.inr (.inr ⟨_, _, rfl, rfl, hz, hq _ _ H (Same.refl H) (.str _) h⟩))
  · exact h.elim
theorem add3 (ha : PE3 X E a ta) (hb : PE3 X E b tb) : PE3 X E (.BinOp a .Add b pos) (tB2 rAdd3 ta tb) := bin3 (fun _ _ h h' => pe_op op_addA h h') ok_rAdd3 m_rAdd3 ha hb
theorem mulI3 (ha : PE3 X E a ta) (hb : PE3 X E b tb) : PE3 X E (.BinOp a .Mult b pos) (tB2 (rII CMul fun i j => .int (i * j)) ta tb) := bin3 (fun _ _ h h' => pe_op op_mul h h') (ok_rII fun _ _ _ _ => .int _) m_rII ha hb

/-! ## comparisons -/
theorem lt3 (ha : PE3 X E a ta) (hb : PE3 X E b tb) : PE3 X E (.Compare a [.Lt] [b] pos) (tB2 (rII0 fun i j => .bool (decide (i < j))) ta tb) := bin3 (fun _ _ h h' => pe_cmpR op_lt h h' (nomark _)) (ok_rII0 fun _ _ _ _ => .bl _) m_rII0 ha hb
theorem le3 (ha : PE3 X E a ta) (hb : PE3 X E b tb) : PE3 X E (.Compare a [.LtE] [b] pos) (tB2 (rII0 fun i j => .bool (decide (i ≤ j))) ta tb) := bin3 (fun _ _ h h' => pe_cmpR op_le h h' (nomark _)) (ok_rII0 fun _ _ _ _ => .bl _) m_rII0 ha hb
theorem gt3 (ha : PE3 X E a ta) (hb : PE3 X E b tb) : PE3 X E (.Compare a [.Gt] [b] pos) (tB2 (rII0 fun i j => .bool (decide (j < i))) ta tb) := bin3 (fun _ _ h h' => pe_cmpR op_gt h h' (nomark _)) (ok_rII0 fun _ _ _ _ => .bl _) m_rII0 ha hb
theorem ge3 (ha : PE3 X E a ta) (hb : PE3 X E b tb) : PE3 X E (.Compare a [.GtE] [b] pos) (tB2 (rII0 fun i j => .bool (decide (j ≤ i))) ta tb) := bin3 (fun _ _ h h' => pe_cmpR op_ge h h' (nomark _)) (ok_rII0 fun _ _ _ _ => .bl _) m_rII0 ha hb
theorem lt3T (ha : PE3 X E a ta) (hb : PE3 X E b tb) : PT3 X E (.Compare a [.Lt] [b] pos) (tBool (tB2 (rII0 fun i j => .bool (decide (i < j))) ta tb)) := bin3T (fun _ _ h h' => pt_cmpR op_lt h h' (nomark _)) (ok_rII0 fun _ _ _ _ => .bl _) m_rII0 ha hb
theorem le3T (ha : PE3 X E a ta) (hb : PE3 X E b tb) : PT3 X E (.Compare a [.LtE] [b] pos) (tBool (tB2 (rII0 fun i j => .bool (decide (i ≤ j))) ta tb)) := bin3T (fun _ _ h h' => pt_cmpR op_le h h' (nomark _)) (ok_rII0 fun _ _ _ _ => .bl _) m_rII0 ha hb
theorem gt3T (ha : PE3 X E a ta) (hb : PE3 X E b tb) : PT3 X E (.Compare a [.Gt] [b] pos) (tBool (tB2 (rII0 fun i j => .bool (decide (j < i))) ta tb)) := bin3T (fun _ _ h h' => pt_cmpR op_gt h h' (nomark _)) (ok_rII0 fun _ _ _ _ => .bl _) m_rII0 ha hb
theorem ge3T (ha : PE3 X E a ta) (hb : PE3 X E b tb) : PT3 X E (.Compare a [.GtE] [b] pos) (tBool (tB2 (rII0 fun i j => .bool (decide (j ≤ i))) ta tb)) := bin3T (fun _ _ h h' => pt_cmpR op_ge h h' (nomark _)) (ok_rII0 fun _ _ _ _ => .bl _) m_rII0 ha hb
/-! ==, != of data -/
mutual
theorem Rp.dp {K : PySem.W.Frag} {O : Addr → Prop} {H : Hp} : ∀ {v : V} {d : D}, d.plain = true → Rp K O H v d → Dp K H v d
  | _, _, _, .non => .non
  | _, _, _, .bl b => .bl b
  | _, _, _, .int i => .int i
  | _, _, _, .str x => .str x
  | _, _, p, .lst h r => .lst h.sq (RpAll.dp p r)
  | _, _, p, .tup h r => .tup h.sq (RpAll.dp p r)
  | _, _, p, .dic h n r => by cases p
theorem RpAll.dp {K : PySem.W.Frag} {O : Addr → Prop} {H : Hp} : ∀ {v : List V} {d : List D}, PyData.plainAll d = true → RpAll K O H v d → DpAll K H v d
  | _, _, _, .nil => .nil
  | _, _, p, .cons r t => by
    have p' := Bool.and_eq_true_iff.mp p
    exact .cons (Rp.dp p'.1 r) (RpAll.dp p'.2 t)
end
def rEqP (K : PySem.W.Frag) : R2 := fun x y H Q => ∃ d e, Dp K H x d ∧ Dp K H y e ∧ d.plain = true ∧ e.plain = true ∧ min d.depth e.depth ≤ 64 ∧ Q (.bl (PyData.eqv d e)) H
def rNeP (K : PySem.W.Frag) : R2 := fun x y H Q => ∃ d e, Dp K H x d ∧ Dp K H y e ∧ d.plain = true ∧ e.plain = true ∧ min d.depth e.depth ≤ 64 ∧ Q (.bl (!PyData.eqv d e)) H
theorem op_eqP (hu : X.A.units + 64 < cLine) : OpR X (compareOp .Eq) (rEqP X.K) := by
  intro pins s σ H x y v u Q I rx ry h
  obtain ⟨d, e, hd, he, sd, se, hz, q⟩ := h
  obtain ⟨as, r1⟩ := Dp.reads I d x v hd rx
  obtain ⟨bs, r2⟩ := Dp.reads I e y u he ry
  exact SeqAt.eq_plain r1 r2 sd se (by omega) ⟨.bl _, H, I, rfl, q⟩
theorem op_neP (hu : X.A.units + 64 < cLine) : OpR X (compareOp .NotEq) (rNeP X.K) := by
  intro pins s σ H x y v u Q I rx ry h
  obtain ⟨d, e, hd, he, sd, se, hz, q⟩ := h
  obtain ⟨as, r1⟩ := Dp.reads I d x v hd rx
  obtain ⟨bs, r2⟩ := Dp.reads I e y u he ry
  exact SeqAt.ne_plain r1 r2 sd se (by omega) ⟨.bl _, H, I, rfl, q⟩
/-- against an empty row nothing within is asked -/
def rEqNT (K : PySem.W.Frag) (f : Bool → Bool) : R2 := fun x y H Q => ∃ a b xs, x = .ref a ∧ y = .ref b ∧ SqT K H a xs ∧ SqT K H b [] ∧ Q (.bl (f xs.isEmpty)) H
theorem op_eqNT (hu : X.A.units + 64 < cLine) : OpR X (compareOp .Eq) (rEqNT X.K id) := by
  intro pins s σ H x y v u Q I rx ry h
  obtain ⟨a, b, xs, rfl, rfl, ha, hb, q⟩ := h
  cases rx; cases ry
  obtain ⟨its, r1, p1, _⟩ := I.tuple ha
  obtain ⟨its2, r2, p2, _⟩ := I.tuple hb
  cases r2
  have e : ((List.range (min its.toArray.size ([] : List Value).toArray.size)).all (fun _ => true) && its.toArray.size == ([] : List Value).toArray.size) = xs.isEmpty := by
    have hl := r1.length
    cases xs with
    | nil => cases its with
      | nil => rfl
      | cons _ _ => simp at hl
    | cons _ _ => cases its with
      | nil => simp at hl
      | cons _ _ => simp
  exact SeqAt.RcAt.tuples (e := fun _ => true) (show s.heap.IsTuple a its.toArray from p1) (show s.heap.IsTuple b ([] : List Value).toArray from p2) (by omega) (fun j _ h2 => by simp at h2) X.prog X.w X.xe _ ⟨.bl _, H, I, by rw [e]; rfl, q⟩
theorem op_neNT (hu : X.A.units + 64 < cLine) : OpR X (compareOp .NotEq) (rEqNT X.K not) := by
  intro pins s σ H x y v u Q I rx ry h
  obtain ⟨a, b, xs, rfl, rfl, ha, hb, q⟩ := h
  cases rx; cases ry
  obtain ⟨its, r1, p1, _⟩ := I.tuple ha
  obtain ⟨its2, r2, p2, _⟩ := I.tuple hb
  cases r2
  have e : ((List.range (min its.toArray.size ([] : List Value).toArray.size)).all (fun _ => true) && its.toArray.size == ([] : List Value).toArray.size) = xs.isEmpty := by
    have hl := r1.length
    cases xs with
    | nil => cases its with
      | nil => rfl
      | cons _ _ => simp at hl
    | cons _ _ => cases its with
      | nil => simp at hl
      | cons _ _ => simp
  exact SeqAt.RcNeAt.tuples (e := fun _ => true) (show s.heap.IsTuple a its.toArray from p1) (show s.heap.IsTuple b ([] : List Value).toArray from p2) (by omega) (fun j _ h2 => by simp at h2) X.prog X.w X.xe _ ⟨.bl _, H, I, by rw [e]; rfl, q⟩
theorem op_eqA (hu : X.A.units + 64 < cLine) : OpR X (compareOp .Eq) (fun x y H Q => rEqP X.K x y H Q ∨ rEqNT X.K id x y H Q) := (op_eqP hu).or (op_eqNT hu)
theorem op_neA (hu : X.A.units + 64 < cLine) : OpR X (compareOp .NotEq) (fun x y H Q => rNeP X.K x y H Q ∨ rEqNT X.K not x y H Q) := (op_neP hu).or (op_neNT hu)
def rEq3 (f : Bool → Bool) (x y : D) (k : D → Prop) : Prop := match x, y with
  | .int i, .int j => k (.bool (f (decide (i = j))))
  | .bool i, .bool j => k (.bool (f (decide (i = j))))
  | .str i, .str j => k (.bool (f (decide (i = j))))
  | .tuple xs, .tuple [] => k (.bool (f xs.isEmpty))
  | x, y => x.plain = true ∧ y.plain = true ∧ min x.depth y.depth ≤ 64 ∧ k (.bool (f (PyData.eqv x y)))
theorem rEq3.to {f : Bool → Bool} {x y : D} {k : D → Prop} (h : rEq3 f x y k) : (x.plain = true ∧ y.plain = true ∧ min x.depth y.depth ≤ 64 ∧ k (.bool (f (PyData.eqv x y)))) ∨ ∃ xs, x = .tuple xs ∧ y = .tuple [] ∧ k (.bool (f xs.isEmpty)) := by
  unfold rEq3 at h
  split at h
  · exact .inl ⟨rfl, rfl, by simp [PyData.depth], by simp only [PyData.eqv]; rw [Bool.beq_eq_decide_eq]; exact h⟩
  · exact .inl ⟨rfl, rfl, by simp [PyData.depth], by simp only [PyData.eqv]; rw [Bool.beq_eq_decide_eq]; exact h⟩
  · rename_i i j
    refine .inl ⟨rfl, rfl, by simp [PyData.depth], ?_⟩
    have e : (i == j) = decide (i = j) := by
      by_cases z : i = j
      · subst z; simp
      · rw [decide_eq_false z]; exact beq_eq_false_iff_ne.mpr z
    simp only [PyData.eqv]
    rw [e]
    exact h
  · exact .inr ⟨_, rfl, rfl, h⟩
  · exact .inl h
theorem m_rEq3 {f} : M2 (rEq3 f) := fun x y k k' hk h => by
  unfold rEq3 at h ⊢
  split at h
  · exact hk _ h
  · exact hk _ h
  · exact hk _ h
  · exact hk _ h
  · exact ⟨h.1, h.2.1, h.2.2.1, hk _ h.2.2.2⟩
theorem eq3 (hu : X.A.units + 64 < cLine) (ha : PE3 X E a ta) (hb : PE3 X E b tb) : PE3 X E (.Compare a [.Eq] [b] pos) (tB2 (rEq3 id) ta tb) := bin3 (fun _ _ h h' => pe_cmpR (op_eqA hu) h h' (nomark _)) (fun O H v u x y k Q _ rx ry h hq => by
  rcases h.to with ⟨p1, p2, z, h⟩ | ⟨xs, rfl, rfl, h⟩
  · exact .inl ⟨x, y, rx.dp p1, ry.dp p2, p1, p2, z, hq _ _ H (Same.refl H) (.bl _) h⟩
  · cases rx with
    | tup ht hr => cases ry with
      | tup ht' hr' =>
        cases hr'
        exact .inr ⟨_, _, _, rfl, rfl, ht.sq, ht'.sq, hq _ _ H (Same.refl H) (by have := hr.length; cases hr <;> exact .bl _) h⟩) m_rEq3 ha hb
theorem ne3 (hu : X.A.units + 64 < cLine) (ha : PE3 X E a ta) (hb : PE3 X E b tb) : PE3 X E (.Compare a [.NotEq] [b] pos) (tB2 (rEq3 not) ta tb) := bin3 (fun _ _ h h' => pe_cmpR (op_neA hu) h h' (nomark _)) (fun O H v u x y k Q _ rx ry h hq => by
  rcases h.to with ⟨p1, p2, z, h⟩ | ⟨xs, rfl, rfl, h⟩
  · exact .inl ⟨x, y, rx.dp p1, ry.dp p2, p1, p2, z, hq _ _ H (Same.refl H) (.bl _) h⟩
  · cases rx with
    | tup ht hr => cases ry with
      | tup ht' hr' =>
        cases hr'
        exact .inr ⟨_, _, _, rfl, rfl, ht.sq, ht'.sq, hq _ _ H (Same.refl H) (by have := hr.length; cases hr <;> exact .bl _) h⟩) m_rEq3 ha hb
theorem eq3T (hu : X.A.units + 64 < cLine) (ha : PE3 X E a ta) (hb : PE3 X E b tb) : PT3 X E (.Compare a [.Eq] [b] pos) (tBool (tB2 (rEq3 id) ta tb)) := bin3T (fun _ _ h h' => pt_cmpR (op_eqA hu) h h' (nomark _)) (fun O H v u x y k Q _ rx ry h hq => by
  rcases h.to with ⟨p1, p2, z, h⟩ | ⟨xs, rfl, rfl, h⟩
  · exact .inl ⟨x, y, rx.dp p1, ry.dp p2, p1, p2, z, hq _ _ H (Same.refl H) (.bl _) h⟩
  · cases rx with
    | tup ht hr => cases ry with
      | tup ht' hr' =>
        cases hr'
        exact .inr ⟨_, _, _, rfl, rfl, ht.sq, ht'.sq, hq _ _ H (Same.refl H) (by have := hr.length; cases hr <;> exact .bl _) h⟩) m_rEq3 ha hb
theorem ne3T (hu : X.A.units + 64 < cLine) (ha : PE3 X E a ta) (hb : PE3 X E b tb) : PT3 X E (.Compare a [.NotEq] [b] pos) (tBool (tB2 (rEq3 not) ta tb)) := bin3T (fun _ _ h h' => pt_cmpR (op_neA hu) h h' (nomark _)) (fun O H v u x y k Q _ rx ry h hq => by
  rcases h.to with ⟨p1, p2, z, h⟩ | ⟨xs, rfl, rfl, h⟩
  · exact .inl ⟨x, y, rx.dp p1, ry.dp p2, p1, p2, z, hq _ _ H (Same.refl H) (.bl _) h⟩
  · cases rx with
    | tup ht hr => cases ry with
      | tup ht' hr' =>
        cases hr'
        exact .inr ⟨_, _, _, rfl, rfl, ht.sq, ht'.sq, hq _ _ H (Same.refl H) (by have := hr.length; cases hr <;> exact .bl _) h⟩) m_rEq3 ha hb
/-- is None, is not None -/
def isNone (x : D) : Bool := match x with | .none => true | _ => false
theorem Rp.isNone {K : PySem.W.Frag} {O : Addr → Prop} {H : Hp} {v : V} {d : D} (h : Rp K O H v d) : decide (v = .non) = M3.isNone d := by
  cases h <;> simp [M3.isNone]
theorem isN3 {j pos'} (ha : PE3 X E a ta) : PE3 X E (.Compare a [.Is] [.Constant .none j pos'] pos) (tU3 (fun x k => k (.bool (isNone x))) ta) :=
  un3 (r := fun x H Q => Q (.bl (decide (x = .non))) H) (fun _ h => pe_cmp (pc_isN h)) (fun O H v x k Q _ rx h hq => by
    show Q (.bl (decide (v = .non))) H
    rw [rx.isNone]
    exact hq _ _ H (Same.refl H) (.bl _) h) (fun x k k' hk h => hk _ h) ha
theorem isNotN3 {j pos'} (ha : PE3 X E a ta) : PE3 X E (.Compare a [.IsNot] [.Constant .none j pos'] pos) (tU3 (fun x k => k (.bool (!isNone x))) ta) :=
  un3 (r := fun x H Q => Q (.bl (!decide (x = .non))) H) (fun _ h => pe_cmp (pc_notN h)) (fun O H v x k Q _ rx h hq => by
    show Q (.bl (!decide (v = .non))) H
    rw [rx.isNone]
    exact hq _ _ H (Same.refl H) (.bl _) h) (fun x k k' hk h => hk _ h) ha
theorem un3T {a e : Expr} {ta : T3} {r : V → Hp → VK → Prop} {r3} (mk : ∀ ta', PE X a ta' → PT X e (tB (tUn r ta'))) (hr : OpOk1 X.K r r3) (m : M1 r3) (ha : PE3 X E a ta) : PT3 X E e (tBool (tU3 r3 ta)) :=
  ⟨mono_tBool (mono_tU3 ha.mono m), (mk _ ha.pe).imp fun σ H Q h => lift_un (t := ta) (X := X) (E := E) ha.mono hr (lift_bool (mono_tU3 ha.mono m) h)⟩
theorem isN3T {j pos'} (ha : PE3 X E a ta) : PT3 X E (.Compare a [.Is] [.Constant .none j pos'] pos) (tBool (tU3 (fun x k => k (.bool (isNone x))) ta)) :=
  un3T (r := fun x H Q => Q (.bl (decide (x = .non))) H) (fun _ h => pt_cmp (pc_isN h)) (fun O H v x k Q _ rx h hq => by
    show Q (.bl (decide (v = .non))) H
    rw [rx.isNone]
    exact hq _ _ H (Same.refl H) (.bl _) h) (fun x k k' hk h => hk _ h) ha
theorem isNotN3T {j pos'} (ha : PE3 X E a ta) : PT3 X E (.Compare a [.IsNot] [.Constant .none j pos'] pos) (tBool (tU3 (fun x k => k (.bool (!isNone x))) ta)) :=
  un3T (r := fun x H Q => Q (.bl (!decide (x = .non))) H) (fun _ h => pt_cmp (pc_notN h)) (fun O H v x k Q _ rx h hq => by
    show Q (.bl (!decide (v = .non))) H
    rw [rx.isNone]
    exact hq _ _ H (Same.refl H) (.bl _) h) (fun x k k' hk h => hk _ h) ha
/-- chains of numbers -/
def tCh (f g : Int → Int → Bool) (ta tb tc : T3) : T3 := fun E δ Q => ta E δ fun x δ1 => tb E δ1 fun y δ2 => asI x fun i => asI y fun j => br (f i j) (tc E δ2 fun z δ3 => asI z fun k => Q (.bool (g j k)) δ3) (Q (.bool false) δ2)
theorem mono_tCh {f g} (ha : Mono3 ta) (hb : Mono3 tb) (hc : Mono3 tc) : Mono3 (tCh f g ta tb tc) := fun _ _ _ _ _ he hq q => ha _ _ _ _ _ he (fun x δ1 => hb _ _ _ _ _ he fun y δ2 z => by
  obtain ⟨i, rfl, z1⟩ := asI.to z
  obtain ⟨j, rfl, z2⟩ := asI.to z1
  exact asI.of (asI.of (z2.imp (hc _ _ _ _ _ he fun w δ3 z3 => by obtain ⟨k, rfl, z4⟩ := asI.to z3; exact asI.of (hq _ _ z4)) (hq _ _)))) q
theorem lift_ch {f g : Int → Int → Bool} (ha : Mono3 ta) (hb : Mono3 tb) (hc : Mono3 tc) {σ : St} {H : Hp} {Q : VK} (h : lift X.K E (Rp X.K) (tCh f g ta tb tc) σ H Q) :
    tChain (rI0 fun i j => .bl (f i j)) (rI0 fun i j => .bl (g i j)) (lift X.K E (Rp X.K) ta) (lift X.K E (Rp X.K) tb) (lift X.K E (Rp X.K) tc) σ H Q := by
  obtain ⟨π, F, ρ, δ, rel, q⟩ := h
  refine ⟨π, F, ρ, δ, rel, ha _ _ _ _ _ (fun _ z => z) (fun x δ1 q v H1 ρ1 e1 rel1 r1 => ?_) q⟩
  refine ⟨π, F, ρ1, δ1, rel1, hb _ _ _ _ _ (liftX.mono e1) (fun y δ2 q u H2 ρ2 e2 rel2 r2 => ?_) q⟩
  obtain ⟨i, rfl, q1⟩ := asI.to q
  obtain ⟨j, rfl, q2⟩ := asI.to q1
  cases r1; cases r2
  refine ⟨i, j, rfl, rfl, _, rfl, (q2.imp (fun q => ?_) (fun q => ?_)).ite⟩
  · refine ⟨π, F, ρ2, δ2, rel2, hc _ _ _ _ _ (liftX.mono (e1.trans e2)) (fun w δ3 q w' H3 ρ3 e3 rel3 r3 => ?_) q⟩
    obtain ⟨k, rfl, q1⟩ := asI.to q
    cases r3
    exact ⟨j, k, rfl, rfl, q1 _ H3 ρ3 ((e1.trans e2).trans e3) rel3 (.bl _)⟩
  · exact q _ H2 ρ2 (e1.trans e2) rel2 (.bl _)
theorem chLeLt3 (ha : PE3 X E a ta) (hb : PE3 X E b tb) (hc : PE3 X E c tc) (hm : lastMarks [.LtE, .Lt] [b, c] = false := by with_unfolding_all rfl) : PE3 X E (.Compare a [.LtE, .Lt] [b, c] pos) (tCh (fun i j => decide (i ≤ j)) (fun i j => decide (i < j)) ta tb tc) :=
  ⟨mono_tCh ha.mono hb.mono hc.mono, (pe_chain op_le op_lt ha.pe hb.pe hc.pe hm).imp fun _ _ _ h => lift_ch ha.mono hb.mono hc.mono h⟩
theorem chLeLe3 (ha : PE3 X E a ta) (hb : PE3 X E b tb) (hc : PE3 X E c tc) (hm : lastMarks [.LtE, .LtE] [b, c] = false := by with_unfolding_all rfl) : PE3 X E (.Compare a [.LtE, .LtE] [b, c] pos) (tCh (fun i j => decide (i ≤ j)) (fun i j => decide (i ≤ j)) ta tb tc) :=
  ⟨mono_tCh ha.mono hb.mono hc.mono, (pe_chain op_le op_le ha.pe hb.pe hc.pe hm).imp fun _ _ _ h => lift_ch ha.mono hb.mono hc.mono h⟩
theorem chLeLt3T (ha : PE3 X E a ta) (hb : PE3 X E b tb) (hc : PE3 X E c tc) (hm : lastMarks [.LtE, .Lt] [b, c] = false := by with_unfolding_all rfl) : PT3 X E (.Compare a [.LtE, .Lt] [b, c] pos) (tBool (tCh (fun i j => decide (i ≤ j)) (fun i j => decide (i < j)) ta tb tc)) :=
  ⟨mono_tBool (mono_tCh ha.mono hb.mono hc.mono), (pt_chain op_le op_lt ha.pe hb.pe hc.pe hm).imp fun _ _ _ h => lift_ch ha.mono hb.mono hc.mono (lift_bool (mono_tCh ha.mono hb.mono hc.mono) h)⟩
theorem chLeLe3T (ha : PE3 X E a ta) (hb : PE3 X E b tb) (hc : PE3 X E c tc) (hm : lastMarks [.LtE, .LtE] [b, c] = false := by with_unfolding_all rfl) : PT3 X E (.Compare a [.LtE, .LtE] [b, c] pos) (tBool (tCh (fun i j => decide (i ≤ j)) (fun i j => decide (i ≤ j)) ta tb tc)) :=
  ⟨mono_tBool (mono_tCh ha.mono hb.mono hc.mono), (pt_chain op_le op_le ha.pe hb.pe hc.pe hm).imp fun _ _ _ h => lift_ch ha.mono hb.mono hc.mono (lift_bool (mono_tCh ha.mono hb.mono hc.mono) h)⟩

/-! ## and, or, not -/
variable {tA tB' : TB3} {rest : List Expr}
def tAnd3 (t u : TB3) : TB3 := fun E δ Q => t E δ fun c δ1 => br c (u E δ1 Q) (Q false δ1)
def tOr3 (t u : TB3) : TB3 := fun E δ Q => t E δ fun c δ1 => br c (Q true δ1) (u E δ1 Q)
def tNot3 (t : TB3) : TB3 := fun E δ Q => t E δ fun c δ1 => Q (!c) δ1
theorem mono_tAnd3 {t u : TB3} (h : Mono3 t) (h' : Mono3 u) : Mono3 (tAnd3 t u) := fun _ _ _ _ _ he hq q => h _ _ _ _ _ he (fun c δ1 z => z.imp (h' _ _ _ _ _ he hq) (hq _ _)) q
theorem mono_tOr3 {t u : TB3} (h : Mono3 t) (h' : Mono3 u) : Mono3 (tOr3 t u) := fun _ _ _ _ _ he hq q => h _ _ _ _ _ he (fun c δ1 z => z.imp (hq _ _) (h' _ _ _ _ _ he hq)) q
theorem mono_tNot3 {t : TB3} (h : Mono3 t) : Mono3 (tNot3 t) := fun _ _ _ _ _ he hq q => h _ _ _ _ _ he (fun c δ1 z => hq _ _ z) q
abbrev RB : (Addr → Prop) → Hp → Bool → Bool → Prop := fun _ _ x y => x = y
theorem and1_3 (ha : PT3 X E a tA) : PW3 X E (.BoolOp .And [a] pos) tA := ⟨ha.mono, pw_and1 ha.pe⟩
theorem or1_3 (ha : PT3 X E a tA) : PW3 X E (.BoolOp .Or [a] pos) tA := ⟨ha.mono, pw_or1 ha.pe⟩
theorem and3 (ha : PT3 X E a tA) (hb : PW3 X E (.BoolOp .And (b :: rest) pos) tB') : PW3 X E (.BoolOp .And (a :: b :: rest) pos) (tAnd3 tA tB') := by
  refine ⟨mono_tAnd3 ha.mono hb.mono, (pw_and ha.pe hb.pe).imp fun σ H Q h => ?_⟩
  obtain ⟨π, F, ρ, δ, rel, q⟩ := h
  refine ⟨π, F, ρ, δ, rel, ha.mono _ _ _ _ _ (fun _ z => z) (fun x δ1 q v H1 ρ1 e1 rel1 r1 => ?_) q⟩
  subst r1
  refine (q.imp (fun q => ?_) (fun q => ?_)).ite
  · exact ⟨π, F, ρ1, δ1, rel1, hb.mono _ _ _ _ _ (liftX.mono e1) (fun y δ2 q u H2 ρ2 e2 rel2 r2 => q u H2 ρ2 (e1.trans e2) rel2 r2) q⟩
  · exact q false H1 ρ1 e1 rel1 rfl
theorem or3 (ha : PT3 X E a tA) (hb : PW3 X E (.BoolOp .Or (b :: rest) pos) tB') : PW3 X E (.BoolOp .Or (a :: b :: rest) pos) (tOr3 tA tB') := by
  refine ⟨mono_tOr3 ha.mono hb.mono, (pw_or ha.pe hb.pe).imp fun σ H Q h => ?_⟩
  obtain ⟨π, F, ρ, δ, rel, q⟩ := h
  refine ⟨π, F, ρ, δ, rel, ha.mono _ _ _ _ _ (fun _ z => z) (fun x δ1 q v H1 ρ1 e1 rel1 r1 => ?_) q⟩
  subst r1
  refine (q.imp (fun q => ?_) (fun q => ?_)).ite
  · exact q true H1 ρ1 e1 rel1 rfl
  · exact ⟨π, F, ρ1, δ1, rel1, hb.mono _ _ _ _ _ (liftX.mono e1) (fun y δ2 q u H2 ρ2 e2 rel2 r2 => q u H2 ρ2 (e1.trans e2) rel2 r2) q⟩
theorem not3 (ha : PT3 X E a tA) : PT3 X E (.UnaryOp .Not a pos) (tNot3 tA) := by
  refine ⟨mono_tNot3 ha.mono, (pt_not ha.pe).imp fun σ H Q h => ?_⟩
  obtain ⟨π, F, ρ, δ, rel, q⟩ := h
  refine ⟨π, F, ρ, δ, rel, ha.mono _ _ _ _ _ (fun _ z => z) (fun x δ1 q v H1 ρ1 e1 rel1 r1 => ?_) q⟩
  subst r1
  exact q _ H1 ρ1 e1 rel1 rfl
/-- .. as values -/
def tAndV3 (ta tb : T3) : T3 := fun E δ Q => ta E δ fun x δ1 => asB x fun c => br c (tb E δ1 Q) (Q (.bool false) δ1)
def tOrV3 (ta tb : T3) : T3 := fun E δ Q => ta E δ fun x δ1 => asB x fun c => br c (Q (.bool true) δ1) (tb E δ1 Q)
theorem one3 {op} (h : PE3 X E a ta) : PE3 X E (.BoolOp op [a] pos) ta := ⟨h.mono, pe_one h.pe⟩
theorem andV3 (ha : PE3 X E a ta) (hb : PE3 X E (.BoolOp .And (b :: rest) pos) tb) : PE3 X E (.BoolOp .And (a :: b :: rest) pos) (tAndV3 ta tb) := by
  refine ⟨fun _ _ _ _ _ he hq q => ha.mono _ _ _ _ _ he (fun x δ1 z => by obtain ⟨c, rfl, z1⟩ := asB.to z; exact asB.of (z1.imp (hb.mono _ _ _ _ _ he hq) (hq _ _))) q, (pe_and ha.pe hb.pe).imp fun σ H Q h => ?_⟩
  obtain ⟨π, F, ρ, δ, rel, q⟩ := h
  refine ⟨π, F, ρ, δ, rel, ha.mono _ _ _ _ _ (fun _ z => z) (fun x δ1 q v H1 ρ1 e1 rel1 r1 => ?_) q⟩
  obtain ⟨c, rfl, q1⟩ := asB.to q
  cases r1
  refine ⟨c, rfl, (q1.imp (fun q => ?_) (fun q => ?_)).ite⟩
  · exact ⟨π, F, ρ1, δ1, rel1, hb.mono _ _ _ _ _ (liftX.mono e1) (fun y δ2 q u H2 ρ2 e2 rel2 r2 => q u H2 ρ2 (e1.trans e2) rel2 r2) q⟩
  · exact q _ H1 ρ1 e1 rel1 (.bl _)
theorem orV3 (ha : PE3 X E a ta) (hb : PE3 X E (.BoolOp .Or (b :: rest) pos) tb) : PE3 X E (.BoolOp .Or (a :: b :: rest) pos) (tOrV3 ta tb) := by
  refine ⟨fun _ _ _ _ _ he hq q => ha.mono _ _ _ _ _ he (fun x δ1 z => by obtain ⟨c, rfl, z1⟩ := asB.to z; exact asB.of (z1.imp (hq _ _) (hb.mono _ _ _ _ _ he hq))) q, (pe_or ha.pe hb.pe).imp fun σ H Q h => ?_⟩
  obtain ⟨π, F, ρ, δ, rel, q⟩ := h
  refine ⟨π, F, ρ, δ, rel, ha.mono _ _ _ _ _ (fun _ z => z) (fun x δ1 q v H1 ρ1 e1 rel1 r1 => ?_) q⟩
  obtain ⟨c, rfl, q1⟩ := asB.to q
  cases r1
  refine ⟨c, rfl, (q1.imp (fun q => ?_) (fun q => ?_)).ite⟩
  · exact q _ H1 ρ1 e1 rel1 (.bl _)
  · exact ⟨π, F, ρ1, δ1, rel1, hb.mono _ _ _ _ _ (liftX.mono e1) (fun y δ2 q u H2 ρ2 e2 rel2 r2 => q u H2 ρ2 (e1.trans e2) rel2 r2) q⟩
theorem notV3 (ha : PE3 X E a ta) : PE3 X E (.UnaryOp .Not a pos) (tU3 (fun x k => asB x fun c => k (.bool (!c))) ta) :=
  un3 (r := fun x H Q => ∃ c, x = .bl c ∧ Q (.bl (!c)) H) (fun _ h => pe_not h) (fun O H v x k Q _ rx h hq => by
    obtain ⟨c, rfl, h1⟩ := asB.to h
    cases rx
    exact ⟨c, rfl, hq _ _ H (Same.refl H) (.bl _) h1⟩) (fun x k k' hk h => by obtain ⟨c, rfl, h1⟩ := asB.to h; exact asB.of (hk _ h1)) ha
/-- a if t else b -/
def tIf3 (t : TB3) (ta tb : T3) : T3 := fun E δ Q => t E δ fun c δ1 => br c (ta E δ1 Q) (tb E δ1 Q)
theorem ifx3 {c : Expr} (hc : PT3 X E c tA) (ha : PE3 X E a ta) (hb : PE3 X E b tb) : PE3 X E (.IfExp c a b pos) (tIf3 tA ta tb) := by
  refine ⟨fun _ _ _ _ _ he hq q => hc.mono _ _ _ _ _ he (fun c δ1 z => z.imp (ha.mono _ _ _ _ _ he hq) (hb.mono _ _ _ _ _ he hq)) q, (pe_ifExp hc.pe ha.pe hb.pe).imp fun σ H Q h => ?_⟩
  obtain ⟨π, F, ρ, δ, rel, q⟩ := h
  refine ⟨π, F, ρ, δ, rel, hc.mono _ _ _ _ _ (fun _ z => z) (fun x δ1 q v H1 ρ1 e1 rel1 r1 => ?_) q⟩
  subst r1
  refine (q.imp (fun q => ?_) (fun q => ?_)).ite
  · exact ⟨π, F, ρ1, δ1, rel1, ha.mono _ _ _ _ _ (liftX.mono e1) (fun y δ2 q u H2 ρ2 e2 rel2 r2 => q u H2 ρ2 (e1.trans e2) rel2 r2) q⟩
  · exact ⟨π, F, ρ1, δ1, rel1, hb.mono _ _ _ _ _ (liftX.mono e1) (fun y δ2 q u H2 ρ2 e2 rel2 r2 => q u H2 ρ2 (e1.trans e2) rel2 r2) q⟩
end
end M3

set_option Elab.async false
set_option linter.all false
set_option maxRecDepth 100000
namespace M3
open PySem L2
section
variable {X : Cx} {E : XK} {a b c e : Expr} {ta tb tc : T3} {pos : Pos}

/-! ## items and slices of data -/
def rIx3 (x y : D) (k : D → Prop) : Prop := match x with
  | .tuple xs => asI y fun i => ∃ d, atI xs i = some d ∧ k d
  | .list xs => asI y fun i => ∃ d, atI xs i = some d ∧ k d
  | _ => False
theorem m_rIx3 : M2 rIx3 := fun x y k k' hk h => by
  unfold rIx3 at h ⊢
  split at h
  · obtain ⟨i, rfl, d, e, z⟩ := asI.to h; exact asI.of ⟨d, e, hk _ z⟩
  · obtain ⟨i, rfl, d, e, z⟩ := asI.to h; exact asI.of ⟨d, e, hk _ z⟩
  · exact h.elim
theorem RpAll.atI {K : PySem.W.Frag} {O : Addr → Prop} {H : Hp} {vs : List V} {ds : List D} {i : Int} {d : D} (r : RpAll K O H vs ds) (h : L2.atI ds i = some d) : ∃ v, L2.atI vs i = some v ∧ Rp K O H v d := by
  unfold L2.atI at h ⊢
  rw [r.length]
  cases q : ixN ds.length i with
  | none => rw [q] at h; cases h
  | some j =>
    rw [q] at h
    exact r.get (show ds[j]? = some d from h)
theorem ok_rIx3 {K : PySem.W.Frag} : OpOk2 K (fun x y H Q => rIxL K x y H Q ∨ rIxT K x y H Q) rIx3 := by
  intro O H v u x y k Q tr rx ry h hq
  unfold rIx3 at h
  split at h
  · obtain ⟨i, rfl, d, e, z⟩ := asI.to h
    cases ry
    cases rx with
    | tup ht hr =>
      obtain ⟨w, e', r'⟩ := hr.atI e
      exact .inr ⟨_, _, i, w, rfl, rfl, ht.sq, e', hq _ _ H (Same.refl H) r' z⟩
  · obtain ⟨i, rfl, d, e, z⟩ := asI.to h
    cases ry
    cases rx with
    | lst ht hr =>
      obtain ⟨w, e', r'⟩ := hr.atI e
      exact .inl ⟨_, _, i, w, rfl, rfl, ht.sq, e', hq _ _ H (Same.refl H) r' z⟩
  · exact h.elim
theorem ix3 (ha : PE3 X E a ta) (hb : PE3 X E b tb) (hs : PlainIx b := by exact fun _ _ => rfl) : PE3 X E (.Subscript a b pos) (tB2 rIx3 ta tb) := bin3 (fun _ _ h h' => pe_ix (ix_list.or ix_tup) h h' hs) ok_rIx3 m_rIx3 ha hb

def cutG {α : Type} (xs : List α) (lo hi : Option Int) : List α := (xs.drop (HT.sIx xs.length 0 lo)).take (HT.sIx xs.length xs.length hi - HT.sIx xs.length 0 lo)
theorem cutG_V (xs : List V) (lo hi : Option Int) : cutV xs lo hi = cutG xs lo hi := rfl
theorem RpAll.cut {K : PySem.W.Frag} {O : Addr → Prop} {H : Hp} {vs : List V} {ds : List D} (r : RpAll K O H vs ds) (lo hi : Option Int) : RpAll K O H (cutV vs lo hi) (cutG ds lo hi) := by
  unfold cutV cutG
  rw [r.length]
  exact (r.drop _).take _
def rSl3 (x : D) (lo hi : Option Int) (k : D → Prop) : Prop := match x with
  | .tuple xs => k (.tuple (cutG xs lo hi))
  | .list xs => k (.list (cutG xs lo hi))
  | _ => False
/-- a part of a slice -/
abbrev TO3 := G3 (Option Int)
structure PO3 (X : Cx) (E : XK) (e : Option Expr) (t : TO3) : Prop where
  mono : Mono3 t
  po : PO X e (lift X.K E (fun _ _ (x y : Option Int) => x = y) t)
theorem _root_.L2.PO.imp {X : Cx} {e : Option Expr} {t t' : TO} (h : PO X e t) (k : ∀ σ H Q, t' σ H Q → t σ H Q) : PO X e t' := ⟨fun pins s σ H Q I q => h.run pins s σ H Q I (k σ H Q q)⟩
def tNoP3 : TO3 := fun _ δ Q => Q none δ
def tP3 (t : T3) : TO3 := fun E δ Q => t E δ fun x δ1 => asI x fun i => Q (some i) δ1
theorem pn3 : PO3 X E none tNoP3 := ⟨fun _ _ _ _ _ _ hq q => hq _ _ q, po_none.imp fun σ H Q h => by
  obtain ⟨π, F, ρ, δ, rel, q⟩ := h
  exact q none H ρ Ext.refl rel rfl⟩
theorem ps3 (ha : PE3 X E a ta) : PO3 X E (some a) (tP3 ta) := by
  refine ⟨fun _ _ _ _ _ he hq q => ha.mono _ _ _ _ _ he (fun x δ1 z => by obtain ⟨i, rfl, z1⟩ := asI.to z; exact asI.of (hq _ _ z1)) q, (po_some ha.pe).imp fun σ H Q h => ?_⟩
  obtain ⟨π, F, ρ, δ, rel, q⟩ := h
  refine ⟨π, F, ρ, δ, rel, ha.mono _ _ _ _ _ (fun _ z => z) (fun x δ1 q v H1 ρ1 e1 rel1 r1 => ?_) q⟩
  obtain ⟨i, rfl, q1⟩ := asI.to q
  cases r1
  exact ⟨i, rfl, q1 _ H1 ρ1 e1 rel1 rfl⟩
def tSl3 (te : T3) (tl th : TO3) : T3 := fun E δ Q => te E δ fun x δ1 => tl E δ1 fun l δ2 => th E δ2 fun u δ3 => rSl3 x l u fun z => Q z δ3
theorem sl3 {lo hi : Option Expr} {tl th : TO3} {p2 : Pos} (he : PE3 X E e ta) (hl : PO3 X E lo tl) (hu : PO3 X E hi th) : PE3 X E (.Subscript e (.Slice lo hi none p2) pos) (tSl3 ta tl th) := by
  have mr : ∀ x l u k k', (∀ z, k z → k' z) → rSl3 x l u k → rSl3 x l u k' := fun x l u k k' hk h => by
    unfold rSl3 at h ⊢
    split at h
    · exact hk _ h
    · exact hk _ h
    · exact h.elim
  refine ⟨fun _ _ _ _ _ hx hq q => he.mono _ _ _ _ _ hx (fun x δ1 => hl.mono _ _ _ _ _ hx fun l δ2 => hu.mono _ _ _ _ _ hx fun u δ3 => mr _ _ _ _ _ fun z => hq _ _) q, (pe_slice (sl_tupA.or sl_list) he.pe hl.po hu.po).imp fun σ H Q h => ?_⟩
  obtain ⟨π, F, ρ, δ, rel, q⟩ := h
  refine ⟨π, F, ρ, δ, rel, he.mono _ _ _ _ _ (fun _ z => z) (fun x δ1 q v H1 ρ1 e1 rel1 r1 => ?_) q⟩
  refine ⟨π, F, ρ1, δ1, rel1, hl.mono _ _ _ _ _ (liftX.mono e1) (fun l δ2 q l' H2 ρ2 e2 rel2 r2 => ?_) q⟩
  subst r2
  refine ⟨π, F, ρ2, δ2, rel2, hu.mono _ _ _ _ _ (liftX.mono (e1.trans e2)) (fun u δ3 q u' H3 ρ3 e3 rel3 r3 => ?_) q⟩
  subst r3
  have r1' := (r1.ext (e2.frn) fun _ => .inl).ext (e3.frn) fun _ => .inl
  have e13 := (e1.trans e2).trans e3
  unfold rSl3 at q
  split at q
  · cases r1' with
    | @tup A xs ds ht hr =>
      refine .inl ⟨_, _, rfl, ht.sq, fun hw => ?_, fun _ p hp => ?_⟩
      · refine q _ H3 ρ3 e13 rel3 (.tup ht ?_)
        have z := hr.cut l' u'
        unfold cutV at z
        rw [hw.1, hw.2, List.drop_zero, Nat.sub_zero, List.take_length] at z
        exact z
      · exact q _ _ ρ3 (e13.trans (Ext.same (same_upd hp))) (rel3.same (same_upd hp)) (rp_tup rel3.trk hp (hr.cut _ _))
  · cases r1' with
    | lst ht hr => exact .inr ⟨_, _, rfl, ht.sq, fun p hp => q _ _ ρ3 (e13.trans (Ext.same (same_upd hp))) (rel3.same (same_upd hp)) (rp_lst rel3.trk hp (hr.cut _ _))⟩
  · exact q.elim

/-! ## calls of built-ins, one argument -/
theorem mkB {id : String} {r : List V → Hp → VK → Prop} {x : Str} {p : Pos} {ta' : TE} (hc : CallR X (.builtin id) r) (hg : Gl X x) (hm : X.mg x = none) (hv : bootBuiltins x = some (.builtin id)) (h : PE X a ta') (hn : x ≠ "__name__" := by decide) (hdb : (x == ("__debug__" : Str)) = false := by decide)
    (he : starEach [a] X.env = (false, eval a X.env) :: starEach [] X.env := by rfl) : PE X (.Call (.Name x p) [a] [] pos) (tUn (fun v H Q => r [v] H Q) ta') := pe_callB hc hg hm hv (pa_cons h pa_nil he) hn hdb he rfl
theorem mkTy {T : String} {r : List V → Hp → VK → Prop} {x : Str} {p : Pos} {ta' : TE} (hc : CallR X (.type T) r) (hg : Gl X x) (hm : X.mg x = none) (hv : bootBuiltins x = some (.type T)) (h : PE X a ta') (hn : x ≠ "__name__" := by decide) (hdb : (x == ("__debug__" : Str)) = false := by decide)
    (he : starEach [a] X.env = (false, eval a X.env) :: starEach [] X.env := by rfl) : PE X (.Call (.Name x p) [a] [] pos) (tUn (fun v H Q => r [v] H Q) ta') := pe_callTy hc hg hm hv (pa_cons h pa_nil he) hn hdb he rfl
def rLen3 (x : D) (k : D → Prop) : Prop := match x with
  | .tuple xs => k (.int (xs.length : Nat))
  | .list xs => k (.int (xs.length : Nat))
  | .str z => z.length ≤ sizeLine ∧ k (.int (z.length : Nat))
  | _ => False
theorem len3 {p : Pos} (hg : Gl X "len") (hm : X.mg "len" = none) (ha : PE3 X E a ta) (he : starEach [a] X.env = (false, eval a X.env) :: starEach [] X.env := by rfl) : PE3 X E (.Call (.Name "len" p) [a] [] pos) (tU3 rLen3 ta) :=
  un3 (fun _ h => mkB (call_len_seq.or call_len_str) hg hm PySem.boot_len h (by decide) (by decide) he) (fun O H v x k Q _ rx h hq => by
    unfold rLen3 at h
    split at h
    · cases rx with
      | tup ht hr => exact .inl ⟨_, _, rfl, .inr ht.sq, hq _ _ H (Same.refl H) (by rw [hr.length]; exact .int _) h⟩
    · cases rx with
      | lst ht hr => exact .inl ⟨_, _, rfl, .inl ht.sq, hq _ _ H (Same.refl H) (by rw [hr.length]; exact .int _) h⟩
    · cases rx
      exact .inr ⟨_, rfl, h.1, hq _ _ H (Same.refl H) (.int _) h.2⟩
    · exact h.elim) (fun x k k' hk h => by
    unfold rLen3 at h ⊢
    split at h
    · exact hk _ h
    · exact hk _ h
    · exact ⟨h.1, hk _ h.2⟩
    · exact h.elim) ha
/-- isinstance with a built-in class -/
def tyN (x : D) : String := match x with
  | .none => "NoneType" | .bool _ => "bool" | .int _ => "int" | .str _ => "str" | .list _ => "list" | .tuple _ => "tuple" | .dict _ => "dict"
theorem Rp.ty {K : PySem.W.Frag} {O : Addr → Prop} {H : Hp} {v : V} {d : D} (h : Rp K O H v d) : TyX K H v (.type (tyN d)) := by
  cases h with
  | non => exact .base .non
  | bl b => exact .base (.bl b)
  | int i => exact .base (.int i)
  | str x => exact .base (.str x)
  | lst h r => exact .base (.lst h.1)
  | tup h r =>
    rcases h with ⟨h | ⟨o, h⟩, _⟩ | h
    · exact .base (.tup h)
    · exact .fTuple h
    · rcases h with (h | ⟨o, h⟩) | ⟨o, its, n, h1, h2, _⟩
      · cases h
      · cases h
      · exact .kTuple h1 h2
  | dic h n r => exact .base (.dK h)
def isInt (x : D) : Bool := match x with | .int _ => true | .bool _ => true | _ => false
def isBool (x : D) : Bool := match x with | .bool _ => true | _ => false
def isStr (x : D) : Bool := match x with | .str _ => true | _ => false
def isTup (x : D) : Bool := match x with | .tuple _ => true | _ => false
def isLst (x : D) : Bool := match x with | .list _ => true | _ => false
def isDct (x : D) : Bool := match x with | .dict _ => true | _ => false
theorem kit_int (x : D) : kitB (tyN x) "int" = some (isInt x) := by cases x <;> (simp only [tyN, isInt]; decide +kernel)
theorem kit_bool (x : D) : kitB (tyN x) "bool" = some (isBool x) := by cases x <;> (simp only [tyN, isBool]; decide +kernel)
theorem kit_str (x : D) : kitB (tyN x) "str" = some (isStr x) := by cases x <;> (simp only [tyN, isStr]; decide +kernel)
theorem kit_tuple (x : D) : kitB (tyN x) "tuple" = some (isTup x) := by cases x <;> (simp only [tyN, isTup]; decide +kernel)
theorem kit_list (x : D) : kitB (tyN x) "list" = some (isLst x) := by cases x <;> (simp only [tyN, isLst]; decide +kernel)
theorem kit_dict (x : D) : kitB (tyN x) "dict" = some (isDct x) := by cases x <;> (simp only [tyN, isDct]; decide +kernel)
def rIsA (f : D → Bool) (x : D) (k : D → Prop) : Prop := k (.bool (f x))
theorem isi3 {T : String} {f : D → Bool} {x : Str} {p p' : Pos} (hk : ∀ x, kitB (tyN x) T = some (f x)) (hv : bootBuiltins x = some (.type T)) (hg : Gl X "isinstance") (hm : X.mg "isinstance" = none) (hgT : Gl X x) (hmT : X.mg x = none)
    (ha : PE3 X E a ta) (hn : x ≠ "__name__" := by decide) (hd : (x == ("__debug__" : Str)) = false := by decide) (he : starEach [a, .Name x p'] X.env = (false, eval a X.env) :: starEach [.Name x p'] X.env := by rfl) (he2 : starEach [.Name x p'] X.env = (false, eval (.Name x p') X.env) :: starEach [] X.env := by rfl)
    (hpl : (backTo pos (starEach [.Name x p'] X.env)).any (·.1) = false := by rfl) : PE3 X E (.Call (.Name "isinstance" p) [a, .Name x p'] [] pos) (tU3 (rIsA f) ta) :=
  un3 (r := fun v H Q => rIsi X.K [v, .ty T] H Q) (fun _ h => pe_callB call_isi hg hm (by decide +kernel) (pa_cons h (pa_cons (pe_bltn (v := .ty T) hgT hmT hv rfl hn hd) pa_nil he2) he) (by decide) (by decide) he hpl) (fun O H v x k Q _ rx h hq =>
    ⟨v, .ty T, _, _, _, rfl, .ty T, rx.ty, kit_ty (hk x), hq _ _ H (Same.refl H) (.bl _) h⟩) (fun x k k' hk h => hk _ h) ha

/-! ## small built-ins on numbers -/
theorem abs3 {p : Pos} (hg : Gl X "abs") (hm : X.mg "abs" = none) (ha : PE3 X E a ta) (he : starEach [a] X.env = (false, eval a X.env) :: starEach [] X.env := by rfl) : PE3 X E (.Call (.Name "abs" p) [a] [] pos) (tU3 (fun x k => asI x fun i => k (.int (if i < 0 then -i else i))) ta) :=
  un3 (fun _ h => mkB call_abs hg hm (by decide +kernel) h (by decide) (by decide) he) (fun O H v x k Q _ rx h hq => by
    obtain ⟨i, rfl, h1⟩ := asI.to h
    cases rx
    exact ⟨i, rfl, hq _ _ H (Same.refl H) (.int _) h1⟩) (fun x k k' hk h => by obtain ⟨i, rfl, h1⟩ := asI.to h; exact asI.of (hk _ h1)) ha
def rInt3 (x : D) (k : D → Prop) : Prop := match x with
  | .int i => k (.int i)
  | .bool b => k (.int (if b then 1 else 0))
  | _ => False
theorem int3c {p : Pos} (hg : Gl X "int") (hm : X.mg "int" = none) (ha : PE3 X E a ta) (he : starEach [a] X.env = (false, eval a X.env) :: starEach [] X.env := by rfl) : PE3 X E (.Call (.Name "int" p) [a] [] pos) (tU3 rInt3 ta) :=
  un3 (fun _ h => mkTy call_int1 hg hm (by decide +kernel) h (by decide) (by decide) he) (fun O H v x k Q _ rx h hq => by
    unfold rInt3 at h
    split at h
    · cases rx
      exact .inl ⟨_, rfl, hq _ _ H (Same.refl H) (.int _) h⟩
    · cases rx
      exact .inr ⟨_, rfl, hq _ _ H (Same.refl H) (.int _) h⟩
    · exact h.elim) (fun x k k' hk h => by
    unfold rInt3 at h ⊢
    split at h
    · exact hk _ h
    · exact hk _ h
    · exact h.elim) ha
theorem mk2 {id : String} {r : List V → Hp → VK → Prop} {x : Str} {p : Pos} {ta' tb' : TE} (hc : CallR X (.builtin id) r) (hg : Gl X x) (hm : X.mg x = none) (hv : bootBuiltins x = some (.builtin id)) (h : PE X a ta') (h' : PE X b tb') (hn : x ≠ "__name__") (hdb : (x == ("__debug__" : Str)) = false)
    (he : starEach [a, b] X.env = (false, eval a X.env) :: starEach [b] X.env) (he2 : starEach [b] X.env = (false, eval b X.env) :: starEach [] X.env) (hpl : (backTo pos (starEach [b] X.env)).any (·.1) = false) : PE X (.Call (.Name x p) [a, b] [] pos) (tOp (fun v u H Q => r [v, u] H Q) ta' tb') :=
  pe_callB hc hg hm hv (pa_cons h (pa_cons h' pa_nil he2) he) hn hdb he hpl
theorem max3 {p : Pos} (hc : X.calm = true) (hg : Gl X "max") (hm : X.mg "max" = none) (ha : PE3 X E a ta) (hb : PE3 X E b tb) (he : starEach [a, b] X.env = (false, eval a X.env) :: starEach [b] X.env := by rfl) (he2 : starEach [b] X.env = (false, eval b X.env) :: starEach [] X.env := by rfl)
    (hpl : (backTo pos (starEach [b] X.env)).any (·.1) = false := by rfl) : PE3 X E (.Call (.Name "max" p) [a, b] [] pos) (tB2 (rII0 fun i j => .int (max i j)) ta tb) :=
  bin3 (fun _ _ h h' => mk2 (call_max2 hc) hg hm (by decide +kernel) h h' (by decide) (by decide) he he2 hpl) (fun O H v u x y k Q _ rx ry h hq => by
    obtain ⟨i, rfl, h1⟩ := asI.to h
    obtain ⟨j, rfl, h2⟩ := asI.to h1
    cases rx; cases ry
    refine ⟨i, j, rfl, hq _ _ H (Same.refl H) ?_ h2⟩
    have z : (if j > i then j else i) = max i j := by omega
    rw [z]; exact .int _) m_rII0 ha hb
theorem min3 {p : Pos} (hc : X.calm = true) (hg : Gl X "min") (hm : X.mg "min" = none) (ha : PE3 X E a ta) (hb : PE3 X E b tb) (he : starEach [a, b] X.env = (false, eval a X.env) :: starEach [b] X.env := by rfl) (he2 : starEach [b] X.env = (false, eval b X.env) :: starEach [] X.env := by rfl)
    (hpl : (backTo pos (starEach [b] X.env)).any (·.1) = false := by rfl) : PE3 X E (.Call (.Name "min" p) [a, b] [] pos) (tB2 (rII0 fun i j => .int (min i j)) ta tb) :=
  bin3 (fun _ _ h h' => mk2 (call_min2 hc) hg hm (by decide +kernel) h h' (by decide) (by decide) he he2 hpl) (fun O H v u x y k Q _ rx ry h hq => by
    obtain ⟨i, rfl, h1⟩ := asI.to h
    obtain ⟨j, rfl, h2⟩ := asI.to h1
    cases rx; cases ry
    refine ⟨i, j, rfl, hq _ _ H (Same.refl H) ?_ h2⟩
    have z : (if j < i then j else i) = min i j := by omega
    rw [z]; exact .int _) m_rII0 ha hb

/-! ## tuple(..), list(..) -/
def rTup3 (x : D) (k : D → Prop) : Prop := match x with
  | .tuple xs => k (.tuple xs)
  | .list xs => k (.tuple xs)
  | _ => False
def rLst3 (x : D) (k : D → Prop) : Prop := match x with
  | .tuple xs => k (.list xs)
  | .list xs => k (.list xs)
  | _ => False
theorem tuple3 {p : Pos} (hg : Gl X "tuple") (hm : X.mg "tuple" = none) (ha : PE3 X E a ta) (he : starEach [a] X.env = (false, eval a X.env) :: starEach [] X.env := by rfl) : PE3 X E (.Call (.Name "tuple" p) [a] [] pos) (tU3 rTup3 ta) :=
  un3 (fun _ h => mkTy call_tuple_of hg hm (by decide +kernel) h (by decide) (by decide) he) (fun O H v x k Q tr rx h hq => by
    unfold rTup3 at h
    split at h
    · cases rx with
      | tup ht hr => exact ⟨_, _, rfl, .inr ⟨ht.sq, hq _ _ H (Same.refl H) (.tup ht hr) h⟩⟩
    · cases rx with
      | lst ht hr => exact ⟨_, _, rfl, .inl ⟨ht.sq, fun p hp => hq _ _ _ (same_upd hp) (rp_tup tr hp hr) h⟩⟩
    · exact h.elim) (fun x k k' hk h => by
    unfold rTup3 at h ⊢
    split at h
    · exact hk _ h
    · exact hk _ h
    · exact h.elim) ha
theorem list3 {p : Pos} (hg : Gl X "list") (hm : X.mg "list" = none) (ha : PE3 X E a ta) (he : starEach [a] X.env = (false, eval a X.env) :: starEach [] X.env := by rfl) : PE3 X E (.Call (.Name "list" p) [a] [] pos) (tU3 rLst3 ta) :=
  un3 (fun _ h => mkTy call_list_of hg hm (by decide +kernel) h (by decide) (by decide) he) (fun O H v x k Q tr rx h hq => by
    unfold rLst3 at h
    split at h
    · cases rx with
      | tup ht hr => exact ⟨_, _, rfl, .inr ht.sq, fun p hp => hq _ _ _ (same_upd hp) (rp_lst tr hp hr) h⟩
    · cases rx with
      | lst ht hr => exact ⟨_, _, rfl, .inl ht.sq, fun p hp => hq _ _ _ (same_upd hp) (rp_lst tr hp hr) h⟩
    · exact h.elim) (fun x k k' hk h => by
    unfold rLst3 at h ⊢
    split at h
    · exact hk _ h
    · exact hk _ h
    · exact h.elim) ha
/-- all(..), any(..) of a list of truths -/
def bools : List D → Option (List Bool)
  | [] => some []
  | .bool b :: r => (bools r).map (b :: ·)
  | _ :: _ => none
theorem bools_map (bs : List Bool) : bools (bs.map PyData.bool) = some bs := by
  induction bs with
  | nil => rfl
  | cons b r ih => simp only [List.map_cons, bools, ih]; rfl
def rAll3 (f : List Bool → Bool) (x : D) (k : D → Prop) : Prop := match x with
  | .list xs => ∃ bs : List Bool, xs = bs.map PyData.bool ∧ k (.bool (f bs))
  | _ => False
theorem rpall_bools {K : PySem.W.Frag} {O : Addr → Prop} {H : Hp} : ∀ {bs : List Bool} {vs : List V}, RpAll K O H vs (bs.map PyData.bool) → vs = bs.map V.bl
  | [], _, .nil => rfl
  | b :: r, _, .cons h t => by cases h; rw [List.map_cons, rpall_bools t]
theorem m_rAll3 {f} : M1 (rAll3 f) := fun x k k' hk h => by
  unfold rAll3 at h ⊢
  split at h
  · obtain ⟨bs, e, h⟩ := h; exact ⟨bs, e, hk _ h⟩
  · exact h.elim
theorem all3 {p : Pos} (hc : X.calm = true) (hg : Gl X "all") (hm : X.mg "all" = none) (ha : PE3 X E a ta) (he : starEach [a] X.env = (false, eval a X.env) :: starEach [] X.env := by rfl) : PE3 X E (.Call (.Name "all" p) [a] [] pos) (tU3 (rAll3 fun bs => bs.all id) ta) :=
  un3 (fun _ h => mkB (cr_all hc) hg hm (by decide +kernel) h (by decide) (by decide) he) (fun O H v x k Q tr rx h hq => by
    unfold rAll3 at h
    split at h
    · obtain ⟨bs, rfl, h⟩ := h
      cases rx with
      | lst ht hr => exact ⟨_, bs, rfl, by rw [← rpall_bools hr]; exact ht.sq, hq _ _ H (Same.refl H) (.bl _) h⟩
    · exact h.elim) m_rAll3 ha
theorem any3 {p : Pos} (hc : X.calm = true) (hg : Gl X "any") (hm : X.mg "any" = none) (ha : PE3 X E a ta) (he : starEach [a] X.env = (false, eval a X.env) :: starEach [] X.env := by rfl) : PE3 X E (.Call (.Name "any" p) [a] [] pos) (tU3 (rAll3 fun bs => bs.any id) ta) :=
  un3 (fun _ h => mkB (cr_any hc) hg hm (by decide +kernel) h (by decide) (by decide) he) (fun O H v x k Q tr rx h hq => by
    unfold rAll3 at h
    split at h
    · obtain ⟨bs, rfl, h⟩ := h
      cases rx with
      | lst ht hr => exact ⟨_, bs, rfl, by rw [← rpall_bools hr]; exact ht.sq, hq _ _ H (Same.refl H) (.bl _) h⟩
    · exact h.elim) m_rAll3 ha
end
end M3

set_option Elab.async false
set_option linter.all false
set_option maxRecDepth 100000
namespace M3
open PySem L2

/-! ## more on relations -/
section
variable {K : PySem.W.Frag}
theorem TL.mono {O O' : Addr → Prop} {H : Hp} {a : Addr} {xs : List V} (le : ∀ b, O' b → O b) (h : TL K O H a xs) : TL K O' H a xs := ⟨h.1, fun z => h.2 (le _ z)⟩
theorem TT.mono {O O' : Addr → Prop} {H : Hp} {a : Addr} {xs : List V} (le : ∀ b, O' b → O b) (h : TT K O H a xs) : TT K O' H a xs := h.imp (fun h => ⟨h.1, fun z => h.2 (le _ z)⟩) fun h => h
mutual
theorem Rp.mono {O O' : Addr → Prop} {H : Hp} (le : ∀ b, O' b → O b) : ∀ {v : V} {d : D}, Rp K O H v d → Rp K O' H v d
  | _, _, .non => .non
  | _, _, .bl b => .bl b
  | _, _, .int i => .int i
  | _, _, .str x => .str x
  | _, _, .lst h r => .lst (h.mono le) (RpAll.mono le r)
  | _, _, .tup h r => .tup (h.mono le) (RpAll.mono le r)
  | _, _, .dic h n r => .dic h (fun z => n (le _ z)) (RpKV.mono le r)
theorem RpAll.mono {O O' : Addr → Prop} {H : Hp} (le : ∀ b, O' b → O b) : ∀ {v : List V} {d : List D}, RpAll K O H v d → RpAll K O' H v d
  | _, _, .nil => .nil
  | _, _, .cons r t => .cons (Rp.mono le r) (RpAll.mono le t)
theorem RpKV.mono {O O' : Addr → Prop} {H : Hp} (le : ∀ b, O' b → O b) : ∀ {v : List (Key × V)} {d : List (D × D)}, RpKV K O H v d → RpKV K O' H v d
  | _, _, .nil => .nil
  | _, _, .cons r t => .cons (Rp.mono le r) (RpKV.mono le t)
end
theorem RpTV.mono {O O' : Addr → Prop} {H : Hp} (le : ∀ b, O' b → O b) : ∀ {v : List (List Key × V)} {d : List (D × D)}, RpTV K O H v d → RpTV K O' H v d
  | _, _, .nil => .nil
  | _, _, .cons r t => .cons (r.mono le) (RpTV.mono le t)
theorem ObOk.mono {O O' : Addr → Prop} {H : Hp} {a : Addr} {o : Ob} (le : ∀ b, O' b → O b) (h : ObOk K O H a o) : ObOk K O' H a o := by
  cases o with
  | lst xs => obtain ⟨vs, h, r⟩ := h; exact ⟨vs, h, r.mono le⟩
  | dct ds =>
    rcases h with ⟨kvs, h, r⟩ | ⟨kvs, h, r⟩
    · exact .inl ⟨kvs, h, r.mono le⟩
    · exact .inr ⟨kvs, h, r.mono le⟩
theorem RpV.mono {O O' : Addr → Prop} {H : Hp} {v : V} {x : DV} (le : ∀ b, O' b → O b) (h : RpV K O H v x) : RpV K O' H v x := by
  cases x with
  | d x => exact Rp.mono le h
  | ro xs => obtain ⟨a, vs, h1, h2, h3⟩ := h; exact ⟨a, vs, h1, h2.imp (fun h => ⟨h.1, fun z => h.2 (le _ z)⟩) (fun h => h), h3.mono le⟩
/-- a slot's ownership is given up -/
def drop (ρ : Rho) (i : Nat) : Rho := fun j => if j = i then none else ρ j
theorem drop_le {ρ : Rho} {i : Nat} : ∀ b, Ow (drop ρ i) b → Ow ρ b := fun b ⟨j, h⟩ => by
  unfold drop at h
  split at h
  · cases h
  · exact ⟨j, h⟩
theorem dropx_le {F : Addr → Prop} {ρ : Rho} {i : Nat} : ∀ b, Ox F (drop ρ i) b → Ox F ρ b := fun b z => z.imp (drop_le b) id
theorem drop_ne {ρ : Rho} {i j : Nat} {a : Addr} (h : ρ j = some a) (n : j ≠ i) : drop ρ i j = some a := by unfold drop; rw [if_neg n]; exact h
theorem drop_some {ρ : Rho} {i j : Nat} {a : Addr} (h : drop ρ i j = some a) : j ≠ i ∧ ρ j = some a := by
  unfold drop at h
  split at h
  · cases h
  · exact ⟨by assumption, h⟩
theorem Ext.drop {ρ : Rho} {i : Nat} {H : Hp} : Ext (Ow ρ) (Ow ρ) H (Ow (M3.drop ρ i)) H := ⟨fun _ _ h _ => h, fun b z => .inl (drop_le b z), fun _ o h => ⟨o, h⟩⟩
variable {π : Rho} {F : Addr → Prop} {ρ : Rho} {H : Hp} {σ : St} {δ : Sl}
/-- a slot gets data -/
theorem Rel.setD (r : Rel K π F ρ H σ δ) {i : Nat} {v : V} {x : D} (h : Rp K (Ox F ρ) H v x) : Rel K π F (drop ρ i) H (σ.set i (some v)) (δ.set i (some (.d x))) where
  len := by rw [List.length_set, List.length_set]; exact r.len
  dat := fun j y e => by
    by_cases hj : i = j
    · subst hj
      by_cases hl : i < δ.length
      · rw [List.getElem?_set_self hl] at e
        cases y <;> cases e
        exact ⟨v, by rw [List.getElem?_set_self (by rw [r.len]; exact hl)], h.mono dropx_le⟩
      · rw [List.getElem?_eq_none (by rw [List.length_set]; omega)] at e; cases e
    · rw [List.getElem?_set_ne hj] at e
      obtain ⟨u, h1, h2⟩ := r.dat j y e
      exact ⟨u, by rw [List.getElem?_set_ne hj]; exact h1, h2.mono dropx_le⟩
  own := fun j t o e => by
    by_cases hj : i = j
    · subst hj
      by_cases hl : i < δ.length
      · rw [List.getElem?_set_self hl] at e; cases e
      · rw [List.getElem?_eq_none (by rw [List.length_set]; omega)] at e; cases e
    · rw [List.getElem?_set_ne hj] at e
      obtain ⟨a, h1, h2, h3, h4⟩ := r.own j t o e
      exact ⟨a, drop_ne h1 (Ne.symm hj), by rw [List.getElem?_set_ne hj]; exact h2, h3.mono dropx_le, h4⟩
  inj := fun j k a h1 h2 => r.inj j k a (drop_some h1).2 (drop_some h2).2
  trk := fun a z => r.trk a (dropx_le a z)
  dis := fun a z q => r.dis a z (drop_le a q)
  pit := r.pit
/-- a slot is forgotten -/
theorem Rel.setN (r : Rel K π F ρ H σ δ) {i : Nat} {w : Option V} : Rel K π F (drop ρ i) H (σ.set i w) (δ.set i none) where
  len := by rw [List.length_set, List.length_set]; exact r.len
  dat := fun j y e => by
    by_cases hj : i = j
    · subst hj
      by_cases hl : i < δ.length
      · rw [List.getElem?_set_self hl] at e; cases y <;> cases e
      · rw [List.getElem?_eq_none (by rw [List.length_set]; omega)] at e; cases e
    · rw [List.getElem?_set_ne hj] at e
      obtain ⟨u, h1, h2⟩ := r.dat j y e
      exact ⟨u, by rw [List.getElem?_set_ne hj]; exact h1, h2.mono dropx_le⟩
  own := fun j t o e => by
    by_cases hj : i = j
    · subst hj
      by_cases hl : i < δ.length
      · rw [List.getElem?_set_self hl] at e; cases e
      · rw [List.getElem?_eq_none (by rw [List.length_set]; omega)] at e; cases e
    · rw [List.getElem?_set_ne hj] at e
      obtain ⟨a, h1, h2, h3, h4⟩ := r.own j t o e
      exact ⟨a, drop_ne h1 (Ne.symm hj), by rw [List.getElem?_set_ne hj]; exact h2, h3.mono dropx_le, h4⟩
  inj := fun j k a h1 h2 => r.inj j k a (drop_some h1).2 (drop_some h2).2
  trk := fun a z => r.trk a (dropx_le a z)
  dis := fun a z q => r.dis a z (drop_le a q)
  pit := r.pit
/-- an owned object's content changes -/
theorem Rel.setO (r : Rel K π F ρ H σ δ) {i : Nat} {t : Nat} {o o' : Ob} {a : Addr} {u : HO} (e : δ[i]? = some (some (.own t o))) (ha : ρ i = some a) (h : ∀ H', H' a = some u → (∀ b v, b ≠ a → H b = some v → H' b = some v) → ObOk K (Ox F ρ) H' a o') :
    Rel K π F ρ (upd H a u) σ (δ.set i (some (.own t o'))) ∧ Ext (Ow ρ) (Ow ρ) H (Ow ρ) (upd H a u) := by
  have hl : i < δ.length := (List.getElem?_eq_some_iff.mp e).1
  have ow : Ow ρ a := ⟨i, ha⟩
  have ex : Ext (Ow ρ) (Ow ρ) H (Ow ρ) (upd H a u) := ⟨fun b v hb n => by rw [upd_ne fun z => n (by rw [z]; exact ow)]; exact hb, fun _ z => .inl z, fun b v hb => by
    by_cases z : b = a
    · subst z; exact ⟨u, upd_same⟩
    · exact ⟨v, by rw [upd_ne z]; exact hb⟩⟩
  have ex' := ex.frn (F := F)
  refine ⟨⟨by rw [List.length_set]; exact r.len, fun j y q => ?_, fun j t' o2 q => ?_, r.inj, fun b z => ?_, r.dis, fun p b z => ?_⟩, ex⟩
  · by_cases hj : i = j
    · subst hj; rw [List.getElem?_set_self hl] at q; cases y <;> cases q
    · rw [List.getElem?_set_ne hj] at q
      obtain ⟨w, h1, h2⟩ := r.dat j y q
      exact ⟨w, h1, h2.ext ex' fun _ => .inl⟩
  · by_cases hj : i = j
    · subst hj
      rw [List.getElem?_set_self hl] at q; cases q
      obtain ⟨b, h1, h2, h3, h4⟩ := r.own i _ o e
      rw [ha] at h1; cases h1
      exact ⟨a, ha, h2, h _ upd_same fun b v hb hv => by rw [upd_ne hb]; exact hv, h4⟩
    · rw [List.getElem?_set_ne hj] at q
      obtain ⟨b, h1, h2, h3, h4⟩ := r.own j t' o2 q
      exact ⟨b, h1, h2, h3.ext ex fun v hv => by rw [upd_ne fun z => hj (r.inj i j a ha (by rw [← z]; exact h1))]; exact hv, h4⟩
  · obtain ⟨v, hv⟩ := r.trk b z
    exact ex.tk b v hv
  · obtain ⟨v, hv⟩ := r.pit p b z
    exact ex.tk b v hv
/-- a new owned object at a fresh address, put into a slot -/
def own1 (ρ : Rho) (i : Nat) (a : Addr) : Rho := fun j => if j = i then some a else ρ j
theorem own1_le {ρ : Rho} {i : Nat} {a : Addr} : ∀ b, Ow (own1 ρ i a) b → Ow ρ b ∨ b = a := fun b ⟨j, h⟩ => by
  unfold own1 at h
  split at h
  · cases h; exact .inr rfl
  · exact .inl ⟨j, h⟩
theorem Rel.newO (r : Rel K π F ρ H σ δ) {i : Nat} {a : Addr} {o : Ob} {H' : Hp} (hn : H a = none) (s : Same H H') (ht : ∃ u, H' a = some u) (ho : ObOk K (Ox F (own1 ρ i a)) H' a o) (hi : i < δ.length) :
    Rel K π F (own1 ρ i a) H' (σ.set i (some (.ref a))) (δ.set i (some (.own 0 o))) ∧ Ext (Ow ρ) (Ow ρ) H (Ow (own1 ρ i a)) H' := by
  have na : ∀ b u, H b = some u → b ≠ a := fun b u h z => by rw [z, hn] at h; cases h
  have ex : Ext (Ow ρ) (Ow ρ) H (Ow (own1 ρ i a)) H' := ⟨fun b v hb _ => s b v hb, fun b z => (own1_le b z).imp id fun z => by rw [z]; exact hn, fun b v hb => ⟨v, s b v hb⟩⟩
  have ex' := ex.frn (F := F)
  have nr : ∀ j, ρ j ≠ some a := fun j h => by
    obtain ⟨u, q⟩ := r.trk a (.inl ⟨j, h⟩)
    rw [hn] at q; cases q
  refine ⟨⟨by rw [List.length_set, List.length_set]; exact r.len, fun j y q => ?_, fun j t' o2 q => ?_, fun j k b h1 h2 => ?_, fun b z => ?_, fun b z q => ?_, fun p b z => ?_⟩, ex⟩
  · by_cases hj : i = j
    · subst hj; rw [List.getElem?_set_self hi] at q; cases y <;> cases q
    · rw [List.getElem?_set_ne hj] at q
      obtain ⟨w, h1, h2⟩ := r.dat j y q
      exact ⟨w, by rw [List.getElem?_set_ne hj]; exact h1, h2.ext ex' fun _ => .inl⟩
  · by_cases hj : i = j
    · subst hj
      rw [List.getElem?_set_self hi] at q; cases q
      refine ⟨a, by unfold own1; rw [if_pos rfl], by rw [List.getElem?_set_self (by rw [r.len]; exact hi)], ho, fun p z => (nomatch z), fun _ p z => ?_⟩
      obtain ⟨u, q⟩ := r.pit p a z
      rw [hn] at q; cases q
    · rw [List.getElem?_set_ne hj] at q
      obtain ⟨b, h1, h2, h3, h4⟩ := r.own j t' o2 q
      exact ⟨b, by unfold own1; rw [if_neg (Ne.symm hj)]; exact h1, by rw [List.getElem?_set_ne hj]; exact h2, h3.ext ex fun v hv => s _ _ hv, h4⟩
  · unfold own1 at h1 h2
    split at h1
    · cases h1
      split at h2
      · rename_i z1 z2; rw [z1, z2]
      · exact absurd h2 (nr k)
    · split at h2
      · cases h2; exact absurd h1 (nr j)
      · exact r.inj j k b h1 h2
  · rcases z with z | z
    · rcases own1_le b z with z | z
      · obtain ⟨u, q⟩ := r.trk b (.inl z); exact ⟨u, s _ _ q⟩
      · rw [z]; exact ht
    · obtain ⟨u, q⟩ := r.trk b (.inr z); exact ⟨u, s _ _ q⟩
  · rcases own1_le b q with q | q
    · exact r.dis b z q
    · obtain ⟨u, q'⟩ := r.trk b (.inr z); rw [q, hn] at q'; cases q'
  · obtain ⟨u, q⟩ := r.pit p b z; exact ⟨u, s _ _ q⟩
end

/-! ## statements -/
structure End3 where
  nx : Sl → Prop
  rt : R3 → Sl → Prop
  bk : Sl → Prop := fun _ => False
  ct : Sl → Prop := fun _ => False
structure End3.le (D D' : End3) : Prop where
  nx : ∀ δ, D.nx δ → D'.nx δ
  rt : ∀ r δ, D.rt r δ → D'.rt r δ
  bk : ∀ δ, D.bk δ → D'.bk δ
  ct : ∀ δ, D.ct δ → D'.ct δ
abbrev TS3 := (Ex3 → Prop) → End3 → Sl → Prop
def MonoS (t : TS3) : Prop := ∀ E E' D D' δ, (∀ e, E e → E' e) → End3.le D D' → t E D δ → t E' D' δ
def RpR (K : PySem.W.Frag) (π : Rho) (F : Addr → Prop) (ρ : Rho) (H : Hp) (v : V) : R3 → Prop
  | .d x => Rp K (Ox F ρ) H v x
  | .own o => ∃ a, v = .ref a ∧ Ow ρ a ∧ (∀ p, π p ≠ some a) ∧ ObOk K (Ox F ρ) H a o
def liftD (D : Ends) (K : PySem.W.Frag) (π : Rho) (F : Addr → Prop) (ρ : Rho) (H : Hp) : End3 where
  nx := fun δ' => ∀ σ' H' ρ', Ex F ρ H ρ' H' → Rel K π F ρ' H' σ' δ' → D.nx σ' H'
  rt := fun r δ' => ∀ v σ' H' ρ', Ex F ρ H ρ' H' → Rel K π F ρ' H' σ' δ' → RpR K π F ρ' H' v r → D.rt v H'
  bk := fun δ' => ∀ σ' H' ρ', Ex F ρ H ρ' H' → Rel K π F ρ' H' σ' δ' → D.bk σ' H'
  ct := fun δ' => ∀ σ' H' ρ', Ex F ρ H ρ' H' → Rel K π F ρ' H' σ' δ' → D.ct σ' H'
theorem liftD.mono {D : Ends} {K : PySem.W.Frag} {π : Rho} {F : Addr → Prop} {ρ ρ1 : Rho} {H H1 : Hp} (e : Ex F ρ H ρ1 H1) : (liftD D K π F ρ H).le (liftD D K π F ρ1 H1) :=
  ⟨fun _ h σ' H' ρ' e' => h σ' H' ρ' (e.trans e'), fun _ _ h v σ' H' ρ' e' => h v σ' H' ρ' (e.trans e'), fun _ h σ' H' ρ' e' => h σ' H' ρ' (e.trans e'), fun _ h σ' H' ρ' e' => h σ' H' ρ' (e.trans e')⟩
theorem End3.le.refl (D : End3) : D.le D := ⟨fun _ h => h, fun _ _ h => h, fun _ h => h, fun _ h => h⟩
def liftS (K : PySem.W.Frag) (E : XK) (t : TS3) : TS := fun D σ H => ∃ π F ρ δ, Rel K π F ρ H σ δ ∧ t (liftX K E F ρ H) (liftD D K π F ρ H) δ
structure PS3 (X : Cx) (E : XK) (st : Stmt) (t : TS3) : Prop where
  mono : MonoS t
  ps : PS X st (liftS X.K E t)
structure PSs3 (X : Cx) (E : XK) (st : List Stmt) (t : TS3) : Prop where
  mono : MonoS t
  ps : PSs X st (liftS X.K E t)
section
variable {X : Cx} {E : XK} {st : Stmt} {rest : List Stmt} {t u : TS3} {e : Expr} {te : T3} {pos : Pos}
def tNext3 : TS3 := fun _ D δ => D.nx δ
def tSeq3 (t u : TS3) : TS3 := fun E D δ => t E { nx := fun δ' => u E D δ', rt := D.rt, bk := D.bk, ct := D.ct } δ
theorem sn3 : PSs3 X E [] tNext3 := ⟨fun _ _ _ _ _ _ h q => h.nx _ q, pss_nil.imp fun D σ H h => by
  obtain ⟨π, F, ρ, δ, rel, q⟩ := h
  exact q σ H ρ Ext.refl rel⟩
theorem sc3 (h1 : PS3 X E st t) (h2 : PSs3 X E rest u) : PSs3 X E (st :: rest) (tSeq3 t u) := by
  refine ⟨fun E E' D D' δ he hd q => h1.mono E E' { nx := fun δ' => u E D δ', rt := D.rt, bk := D.bk, ct := D.ct } _ _ he ⟨fun δ => h2.mono _ _ _ _ _ he hd, hd.rt, hd.bk, hd.ct⟩ q, (pss_cons h1.ps h2.ps).imp fun D σ H h => ?_⟩
  obtain ⟨π, F, ρ, δ, rel, q⟩ := h
  refine ⟨π, F, ρ, δ, rel, h1.mono _ _ { nx := fun δ' => u (liftX X.K E F ρ H) (liftD D X.K π F ρ H) δ', rt := (liftD D X.K π F ρ H).rt, bk := (liftD D X.K π F ρ H).bk, ct := (liftD D X.K π F ρ H).ct } _ _ (fun _ z => z) ⟨fun δ' q σ' H' ρ' e' rel' => ?_, fun _ _ z => z, fun _ z => z, fun _ z => z⟩ q⟩
  exact ⟨π, F, ρ', δ', rel', h2.mono _ _ _ _ _ (liftX.mono e') (liftD.mono e') q⟩
theorem s13 (h1 : PS3 X E st t) : PSs3 X E [st] t := ⟨h1.mono, pss_one h1.ps⟩
theorem pass3 : PS3 X E (.Pass pos) tNext3 := ⟨fun _ _ _ _ _ _ h q => h.nx _ q, ps_pass.imp fun D σ H h => by
  obtain ⟨π, F, ρ, δ, rel, q⟩ := h
  exact q σ H ρ Ext.refl rel⟩
theorem break3 : PS3 X E (.Break pos) (fun _ D δ => D.bk δ) := ⟨fun _ _ _ _ _ _ h q => h.bk _ q, ps_break.imp fun D σ H h => by
  obtain ⟨π, F, ρ, δ, rel, q⟩ := h
  exact q σ H ρ Ext.refl rel⟩
theorem cont3 : PS3 X E (.Continue pos) (fun _ D δ => D.ct δ) := ⟨fun _ _ _ _ _ _ h q => h.ct _ q, ps_continue.imp fun D σ H h => by
  obtain ⟨π, F, ρ, δ, rel, q⟩ := h
  exact q σ H ρ Ext.refl rel⟩
theorem never3 : PS3 X E st (fun _ _ _ => False) := ⟨fun _ _ _ _ _ _ _ q => q, ps_never.imp fun D σ H ⟨_, _, _, _, _, q⟩ => q⟩
theorem nevers3 : PSs3 X E rest (fun _ _ _ => False) := ⟨fun _ _ _ _ _ _ _ q => q, pss_never.imp fun D σ H ⟨_, _, _, _, _, q⟩ => q⟩
theorem expr3 (he : PE3 X E e te) (hs : swapsWith e none pos.line X.env = pure false := by rfl) : PS3 X E (.Expr e pos) (fun E D δ => te E δ fun _ δ1 => D.nx δ1) := by
  refine ⟨fun _ _ _ _ _ hx hd q => he.mono _ _ _ _ _ hx (fun _ δ1 => hd.nx δ1) q, (ps_expr he.pe hs).imp fun D σ H h => ?_⟩
  obtain ⟨π, F, ρ, δ, rel, q⟩ := h
  exact ⟨π, F, ρ, δ, rel, he.mono _ _ _ _ _ (fun _ z => z) (fun x δ1 q v H1 ρ1 e1 rel1 r1 => q σ H1 ρ1 e1 rel1) q⟩
def tRet3 (te : T3) : TS3 := fun E D δ => te E δ fun x δ1 => D.rt (.d x) δ1
theorem ret3 (he : PE3 X E e te) : PS3 X E (.Return (some e) pos) (tRet3 te) := by
  refine ⟨fun _ _ _ _ _ hx hd q => he.mono _ _ _ _ _ hx (fun _ δ1 => hd.rt _ δ1) q, (ps_ret he.pe).imp fun D σ H h => ?_⟩
  obtain ⟨π, F, ρ, δ, rel, q⟩ := h
  exact ⟨π, F, ρ, δ, rel, he.mono _ _ _ _ _ (fun _ z => z) (fun x δ1 q v H1 ρ1 e1 rel1 r1 => q v σ H1 ρ1 e1 rel1 r1) q⟩
def tIfS3 (c : TB3) (t u : TS3) : TS3 := fun E D δ => c E δ fun b δ1 => br b (t E D δ1) (u E D δ1)
theorem if3 {c : Expr} {a b : List Stmt} {tc : TB3} (hc : PT3 X E c tc) (ha : PSs3 X E a t) (hb : PSs3 X E b u) : PS3 X E (.If c a b pos) (tIfS3 tc t u) := by
  refine ⟨fun _ _ _ _ _ hx hd q => hc.mono _ _ _ _ _ hx (fun c δ1 z => z.imp (ha.mono _ _ _ _ _ hx hd) (hb.mono _ _ _ _ _ hx hd)) q, (ps_if hc.pe ha.ps hb.ps).imp fun D σ H h => ?_⟩
  obtain ⟨π, F, ρ, δ, rel, q⟩ := h
  refine ⟨π, F, ρ, δ, rel, hc.mono _ _ _ _ _ (fun _ z => z) (fun x δ1 q v H1 ρ1 e1 rel1 r1 => ?_) q⟩
  subst r1
  refine (q.imp (fun q => ?_) (fun q => ?_)).ite
  · exact ⟨π, F, ρ1, δ1, rel1, ha.mono _ _ _ _ _ (liftX.mono e1) (liftD.mono e1) q⟩
  · exact ⟨π, F, ρ1, δ1, rel1, hb.mono _ _ _ _ _ (liftX.mono e1) (liftD.mono e1) q⟩

/-! ### targets -/
theorem wipe_set (σ : St) (i : Nat) (v : Option V) : ∀ vs : List Nat, i ∈ vs → wipe (σ.set i v) vs = wipe σ vs
  | [], h => by cases h
  | w :: vs, h => by
    unfold wipe
    by_cases hw : i ∈ vs
    · rw [wipe_set σ i v vs hw]
    · have e : i = w := by
        rcases List.mem_cons.mp h with h | h
        · exact h
        · exact absurd h hw
      subst e
      have comm : ∀ us : List Nat, i ∉ us → wipe (σ.set i v) us = (wipe σ us).set i v := by
        intro us
        induction us with
        | nil => intro _; rfl
        | cons u us ih =>
          intro hn
          have h1 : i ≠ u := fun z => hn (by rw [z]; exact List.mem_cons_self)
          have h2 : i ∉ us := fun z => hn (List.mem_cons_of_mem _ z)
          unfold wipe
          rw [ih h2, List.set_comm _ _ h1]
      rw [comm vs hw, List.set_set]
abbrev TG3 := D → Sl → (Sl → Prop) → Prop
def MonoG (g : TG3) : Prop := ∀ x δ Q Q', (∀ δ', Q δ' → Q' δ') → g x δ Q → g x δ Q'
/-- vs: the slots that may be stored -/
def liftG (K : PySem.W.Frag) (vs : List Nat) (g : TG3) : TG := fun v σ H Q => ∃ π F ρ δ x, Rel K π F ρ H σ δ ∧ Rp K (Ox F ρ) H v x ∧ g x δ fun δ' => ∀ σ' H' ρ', Ex F ρ H ρ' H' → Rel K π F ρ' H' σ' δ' → wipe σ' vs = wipe σ vs → Same H H' → Q σ' H'
structure PG3 (X : Cx) (vs : List Nat) (tg : Expr) (g : TG3) : Prop where
  mono : MonoG g
  pg : PG X tg (liftG X.K vs g)
def gName3 (i : Nat) : TG3 := fun x δ Q => Q (δ.set i (some (.d x)))
theorem gn3 (i : Nat) {vs : List Nat} {x : Str} {pos : Pos} (hN : X.N.Nodup) (hi : X.N[i]? = some x := by rfl) (hx : Loc X.env.scope x := by first | exact Or.inl rfl | exact Or.inr rfl) (hf : X.fn x = true ∨ X.env.scope.names.lookup x = some .local := by first | exact .inl rfl | exact .inr rfl | assumption) (hv : i ∈ vs := by decide) : PG3 X vs (.Name x pos) (gName3 i) := by
  refine ⟨fun _ _ _ _ hq q => hq _ q, (pg_name hN hi hx hf).imp fun v σ H Q h => ?_⟩
  obtain ⟨π, F, ρ, δ, x, rel, r, q⟩ := h
  exact q _ H _ Ext.drop (rel.setD r) (wipe_set _ _ _ _ hv) (Same.refl H)
abbrev TGs3 := List D → Sl → (Sl → Prop) → Prop
structure PGs3 (X : Cx) (ws : List Nat) (tgs : List Expr) (g : TGs3) : Prop where
  mono : ∀ x δ Q Q', (∀ δ', Q δ' → Q' δ') → g x δ Q → g x δ Q'
  pg : PGs X tgs fun vs σ H Q => ∃ π F ρ δ xs, Rel X.K π F ρ H σ δ ∧ RpAll X.K (Ox F ρ) H vs xs ∧ g xs δ fun δ' => ∀ σ' H' ρ', Ex F ρ H ρ' H' → Rel X.K π F ρ' H' σ' δ' → wipe σ' ws = wipe σ ws → Same H H' → Q σ' H'
theorem _root_.L2.PGs.imp {X : Cx} {e : List Expr} {t t' : TGs} (h : PGs X e t) (k : ∀ v σ H Q, t' v σ H Q → t v σ H Q) : PGs X e t' := ⟨fun pins s σ H v u Q I r q => h.run pins s σ H v u Q I r (k v σ H Q q)⟩
theorem gs0 {ws : List Nat} : PGs3 X ws [] (fun xs δ Q => xs = [] ∧ Q δ) := ⟨fun _ _ _ _ hq q => ⟨q.1, hq _ q.2⟩, pgs_nil.imp fun v σ H Q h => by
  obtain ⟨π, F, ρ, δ, x, rel, r, e, q⟩ := h
  subst e
  cases r
  exact ⟨rfl, q σ H ρ Ext.refl rel rfl (Same.refl H)⟩⟩
def gCons3 (g : TG3) (gs : TGs3) : TGs3 := fun xs δ Q => match xs with
  | x :: r => g x δ fun δ' => gs r δ' Q
  | [] => False
theorem gs1 {ws : List Nat} {tg : Expr} {tgs : List Expr} {g : TG3} {gs : TGs3} (h1 : PG3 X ws tg g) (h2 : PGs3 X ws tgs gs) (hs : (assignEach (tg :: tgs) X.env).map (·.2) = assign tg X.env :: (assignEach tgs X.env).map (·.2) := by rfl) : PGs3 X ws (tg :: tgs) (gCons3 g gs) := by
  refine ⟨fun xs δ Q Q' hq q => ?_, (pgs_cons h1.pg h2.pg hs).imp fun vs σ H Q h => ?_⟩
  · cases xs with
    | nil => exact q
    | cons x r => exact h1.mono _ _ _ _ (fun δ' => h2.mono _ _ _ _ hq) q
  · obtain ⟨π, F, ρ, δ, xs, rel, r, q⟩ := h
    cases r with
    | nil => exact q.elim
    | cons r rr =>
      refine ⟨_, _, rfl, π, F, ρ, δ, _, rel, r, h1.mono _ _ _ _ (fun δ' q σ' H' ρ' e' rel' w' s' => ?_) q⟩
      exact ⟨π, F, ρ', δ', _, rel', rr.ext (e'.frn) fun _ => .inl, h2.mono _ _ _ _ (fun δ2 q σ2 H2 ρ2 e2 rel2 w2 s2 => q σ2 H2 ρ2 (e'.trans e2) rel2 (w2.trans w') (s'.trans s2)) q⟩
def gTup3 (n : Nat) (gs : TGs3) : TG3 := fun x δ Q => match x with
  | .tuple xs => xs.length = n ∧ gs xs δ Q
  | _ => False
theorem gt3' {ws : List Nat} {es : List Expr} {k : Nat} {gs : TGs3} {n : Nat} {pos : Pos} (hc : X.calm = true) (h : PGs3 X ws es gs) (hn : (assignEach es X.env).length = n := by rfl) (hst : (assignEach es X.env).findIdx? (·.1) = none := by rfl) : PG3 X ws (.Tuple es k pos) (gTup3 n gs) := by
  refine ⟨fun x δ Q Q' hq q => ?_, (pg_tup hc h.pg hn hst).imp fun v σ H Q q => ?_⟩
  · unfold gTup3 at q ⊢
    split at q
    · exact ⟨q.1, h.mono _ _ _ _ hq q.2⟩
    · exact q.elim
  · obtain ⟨π, F, ρ, δ, x, rel, r, q⟩ := q
    unfold gTup3 at q
    split at q
    · obtain ⟨hl, q⟩ := q
      cases r with
      | tup ht hr => exact ⟨_, _, rfl, ht.sq, by rw [hr.length]; exact hl, π, F, ρ, δ, _, rel, hr, q⟩
    · exact q.elim
/-- target = value -/
def tAsg3 (te : T3) (g : TG3) : TS3 := fun E D δ => te E δ fun x δ1 => g x δ1 D.nx
theorem asg3 {ws : List Nat} {tg : Expr} {g : TG3} (he : PE3 X E e te) (hg : PG3 X ws tg g) (hs : swapsWithSole [tg] e pos.line X.env = pure false := by rfl) (hw : swappedStores [tg] e X.env = pure none := by rfl)
    (h1 : (assignEach [tg] X.env).map (·.2) = [assign tg X.env] := by rfl) : PS3 X E (.Assign [tg] e pos) (tAsg3 te g) := by
  refine ⟨fun _ _ _ _ _ hx hd q => he.mono _ _ _ _ _ hx (fun x δ1 => hg.mono _ _ _ _ hd.nx) q, (ps_asg he.pe hg.pg hs hw h1).imp fun D σ H h => ?_⟩
  obtain ⟨π, F, ρ, δ, rel, q⟩ := h
  refine ⟨π, F, ρ, δ, rel, he.mono _ _ _ _ _ (fun _ z => z) (fun x δ1 q v H1 ρ1 e1 rel1 r1 => ?_) q⟩
  exact ⟨π, F, ρ1, δ1, x, rel1, r1, hg.mono _ _ _ _ (fun δ' q σ' H' ρ' e' rel' _ _ => q σ' H' ρ' (e1.trans e') rel') q⟩
theorem set3 (i : Nat) {x : Str} {pos' : Pos} (hN : X.N.Nodup) (he : PE3 X E e te) (hi : X.N[i]? = some x := by rfl) (hx : Loc X.env.scope x := by first | exact Or.inl rfl | exact Or.inr rfl) (hs : swapsWith e (some (.Name x pos')) pos.line X.env = pure false := by rfl)
    (hf : X.fn x = true ∨ X.env.scope.names.lookup x = some .local := by first | exact .inl rfl | exact .inr rfl | assumption) : PS3 X E (.Assign [.Name x pos'] e pos) (tAsg3 te (gName3 i)) := by
  refine ⟨fun _ _ _ _ _ hx hd q => he.mono _ _ _ _ _ hx (fun x δ1 => hd.nx _) q, (ps_set hN hi hx he.pe hs hf).imp fun D σ H h => ?_⟩
  obtain ⟨π, F, ρ, δ, rel, q⟩ := h
  refine ⟨π, F, ρ, δ, rel, he.mono _ _ _ _ _ (fun _ z => z) (fun x δ1 q v H1 ρ1 e1 rel1 r1 => ?_) q⟩
  exact q _ H1 _ (e1.trans Ext.drop) (rel1.setD r1)
end
end M3

set_option Elab.async false
set_option linter.all false
set_option maxRecDepth 100000
namespace M3
open PySem L2

/-! ## owned objects -/
section
variable {K : PySem.W.Frag} {π : Rho} {F : Addr → Prop} {ρ : Rho} {H : Hp} {σ : St} {δ : Sl}
/-- a new object, owned by no slot (its index k lies beyond) -/
theorem Rel.tmpO (r : Rel K π F ρ H σ δ) {k : Nat} {a : Addr} {H' : Hp} (hn : H a = none) (s : Same H H') (ht : ∃ u, H' a = some u) (hk : δ.length ≤ k) :
    Rel K π F (own1 ρ k a) H' σ δ ∧ Ext (Ow ρ) (Ow ρ) H (Ow (own1 ρ k a)) H' ∧ ∀ p, π p ≠ some a := by
  have ex : Ext (Ow ρ) (Ow ρ) H (Ow (own1 ρ k a)) H' := ⟨fun b v hb _ => s b v hb, fun b z => (own1_le b z).imp id fun z => by rw [z]; exact hn, fun b v hb => ⟨v, s b v hb⟩⟩
  have ex' := ex.frn (F := F)
  have nr : ∀ j, ρ j ≠ some a := fun j h => by
    obtain ⟨u, q⟩ := r.trk a (.inl ⟨j, h⟩)
    rw [hn] at q; cases q
  refine ⟨⟨r.len, fun j y q => ?_, fun j t' o2 q => ?_, fun j l b h1 h2 => ?_, fun b z => ?_, fun b z q => ?_, fun p b z => ?_⟩, ex, fun p z => ?_⟩
  · obtain ⟨w, h1, h2⟩ := r.dat j y q
    exact ⟨w, h1, h2.ext ex' fun _ => .inl⟩
  · obtain ⟨b, h1, h2, h3, h4⟩ := r.own j t' o2 q
    have hj : j < δ.length := (List.getElem?_eq_some_iff.mp q).1
    exact ⟨b, by unfold own1; rw [if_neg (by omega)]; exact h1, h2, h3.ext ex fun v hv => s _ _ hv, h4⟩
  · unfold own1 at h1 h2
    split at h1
    · cases h1
      split at h2
      · rename_i z1 z2; rw [z1, z2]
      · exact absurd h2 (nr l)
    · split at h2
      · cases h2; exact absurd h1 (nr j)
      · exact r.inj j l b h1 h2
  · rcases z with z | z
    · rcases own1_le b z with z | z
      · obtain ⟨u, q⟩ := r.trk b (.inl z); exact ⟨u, s _ _ q⟩
      · rw [z]; exact ht
    · obtain ⟨u, q⟩ := r.trk b (.inr z); exact ⟨u, s _ _ q⟩
  · rcases own1_le b q with q | q
    · exact r.dis b z q
    · obtain ⟨u, q'⟩ := r.trk b (.inr z); rw [q, hn] at q'; cases q'
  · obtain ⟨u, q⟩ := r.pit p b z; exact ⟨u, s _ _ q⟩
  · obtain ⟨u, q⟩ := r.pit p a z
    rw [hn] at q; cases q
/-- such an object comes into slot i -/
theorem Rel.move (r : Rel K π F ρ H σ δ) {k i : Nat} {a : Addr} {o : Ob} (hk : δ.length ≤ k) (ha : ρ k = some a) (ho : ObOk K (Ox F ρ) H a o) (np : ∀ p, π p ≠ some a) :
    ∃ ρ', Rel K π F ρ' H (σ.set i (some (.ref a))) (δ.set i (some (.own 0 o))) ∧ Ext (Ow ρ) (Ow ρ) H (Ow ρ') H := by
  by_cases hi : i < δ.length
  · let ρ' : Rho := fun j => if j = i then some a else if j = k then none else ρ j
    have le : ∀ b, Ow ρ' b → Ow ρ b := fun b ⟨j, h⟩ => by
      simp only [ρ'] at h
      split at h
      · cases h; exact ⟨k, ha⟩
      · split at h
        · cases h
        · exact ⟨j, h⟩
    have lex : ∀ b, Ox F ρ' b → Ox F ρ b := fun b z => z.imp (le b) id
    have at_ : ∀ j b, ρ' j = some b → (j = i ∧ b = a) ∨ (j ≠ i ∧ j ≠ k ∧ ρ j = some b) := fun j b h => by
      simp only [ρ'] at h
      split at h
      · cases h; exact .inl ⟨by assumption, rfl⟩
      · split at h
        · cases h
        · exact .inr ⟨by assumption, by assumption, h⟩
    refine ⟨ρ', ⟨by rw [List.length_set, List.length_set]; exact r.len, fun j y q => ?_, fun j t' o2 q => ?_, fun j l b h1 h2 => ?_, fun b z => r.trk b (lex b z), fun b z q => r.dis b z (le b q), r.pit⟩, ⟨fun _ _ h _ => h, fun b z => .inl (le b z), fun _ u h => ⟨u, h⟩⟩⟩
    · by_cases hj : i = j
      · subst hj; rw [List.getElem?_set_self hi] at q; cases y <;> cases q
      · rw [List.getElem?_set_ne hj] at q
        obtain ⟨w, h1, h2⟩ := r.dat j y q
        exact ⟨w, by rw [List.getElem?_set_ne hj]; exact h1, h2.mono lex⟩
    · by_cases hj : i = j
      · subst hj
        rw [List.getElem?_set_self hi] at q; cases q
        exact ⟨a, by simp only [ρ', if_pos], by rw [List.getElem?_set_self (by rw [r.len]; exact hi)], ho.mono lex, fun p z => (nomatch z), fun _ => np⟩
      · rw [List.getElem?_set_ne hj] at q
        obtain ⟨b, h1, h2, h3, h4⟩ := r.own j t' o2 q
        have hjl : j < δ.length := (List.getElem?_eq_some_iff.mp q).1
        refine ⟨b, ?_, by rw [List.getElem?_set_ne hj]; exact h2, h3.mono lex, h4⟩
        simp only [ρ']
        rw [if_neg (Ne.symm hj), if_neg (by omega)]
        exact h1
    · rcases at_ _ _ h1 with ⟨e1, e2⟩ | ⟨e1, e2, e3⟩
      · rcases at_ _ _ h2 with ⟨f1, f2⟩ | ⟨f1, f2, f3⟩
        · rw [e1, f1]
        · subst e2; exact absurd (r.inj _ _ _ f3 ha) f2
      · rcases at_ _ _ h2 with ⟨f1, f2⟩ | ⟨f1, f2, f3⟩
        · subst f2; exact absurd (r.inj _ _ _ e3 ha) e2
        · exact r.inj _ _ _ e3 f3
  · refine ⟨ρ, ?_, Ext.refl⟩
    rw [List.set_eq_of_length_le (by rw [r.len]; omega), List.set_eq_of_length_le (by omega)]
    exact r
/-- an owned list is given free as data -/
theorem Rel.freeze (r : Rel K π F ρ H σ δ) {i t : Nat} {xs : List D} (e : δ[i]? = some (some (.own t (.lst xs)))) : Rel K π F (drop ρ i) H σ (δ.set i (some (.d (.list xs)))) := by
  obtain ⟨a, h1, h2, ⟨vs, h3, h4⟩, h5⟩ := r.own i _ _ e
  have nd : ¬ Ox F (drop ρ i) a := fun z => by
    rcases z with ⟨j, z⟩ | z
    · obtain ⟨z1, z2⟩ := drop_some z
      exact z1 (r.inj _ _ _ z2 h1)
    · exact r.dis a z ⟨i, h1⟩
  have hl : i < δ.length := (List.getElem?_eq_some_iff.mp e).1
  refine ⟨by rw [List.length_set]; exact r.len, fun j y q => ?_, fun j t' o2 q => ?_, fun j k a h1 h2 => r.inj j k a (drop_some h1).2 (drop_some h2).2, fun b z => r.trk b (dropx_le b z), fun b z q => r.dis b z (drop_le b q), r.pit⟩
  · by_cases hj : i = j
    · subst hj
      rw [List.getElem?_set_self hl] at q; cases y <;> cases q
      exact ⟨_, h2, Rp.lst ⟨h3, nd⟩ (h4.mono dropx_le)⟩
    · rw [List.getElem?_set_ne hj] at q
      obtain ⟨w, k1, k2⟩ := r.dat j y q
      exact ⟨w, k1, k2.mono dropx_le⟩
  · by_cases hj : i = j
    · subst hj
      rw [List.getElem?_set_self hl] at q; cases q
    · rw [List.getElem?_set_ne hj] at q
      obtain ⟨b, k1, k2, k3, k4⟩ := r.own j t' o2 q
      exact ⟨b, drop_ne k1 (Ne.symm hj), k2, k3.mono dropx_le, k4⟩
end
abbrev TW3 := G3 Ob
/-- an expression whose value is a new object -/
def liftO (K : PySem.W.Frag) (E : XK) (t : TW3) : TE := fun σ H Q =>
  ∃ π F ρ δ, Rel K π F ρ H σ δ ∧ t (liftX K E F ρ H) δ fun o δ' => ∀ a H' ρ' k, Ex F ρ H ρ' H' → Rel K π F ρ' H' σ δ' → δ'.length ≤ k → ρ' k = some a → (∀ p, π p ≠ some a) → ObOk K (Ox F ρ') H' a o → Q (.ref a) H'
structure POw (X : Cx) (E : XK) (e : Expr) (t : TW3) : Prop where
  mono : Mono3 t
  pe : PE X e (liftO X.K E t)
section
variable {X : Cx} {E : XK} {a b c e : Expr} {ta tb tc te : T3} {pos : Pos}
theorem setO3 (i : Nat) {to : TW3} {x : Str} {pos' : Pos} (hN : X.N.Nodup) (he : POw X E e to) (hi : X.N[i]? = some x := by rfl) (hx : Loc X.env.scope x := by first | exact Or.inl rfl | exact Or.inr rfl) (hs : swapsWith e (some (.Name x pos')) pos.line X.env = pure false := by rfl)
    (hf : X.fn x = true ∨ X.env.scope.names.lookup x = some .local := by first | exact .inl rfl | exact .inr rfl | assumption) : PS3 X E (.Assign [.Name x pos'] e pos) (fun E D δ => to E δ fun o δ1 => D.nx (δ1.set i (some (.own 0 o)))) := by
  refine ⟨fun _ _ _ _ _ hx hd q => he.mono _ _ _ _ _ hx (fun x δ1 => hd.nx _) q, (ps_set hN hi hx he.pe hs hf).imp fun D σ H h => ?_⟩
  obtain ⟨π, F, ρ, δ, rel, q⟩ := h
  refine ⟨π, F, ρ, δ, rel, he.mono _ _ _ _ _ (fun _ z => z) (fun o δ1 q a H1 ρ1 k e1 rel1 hk ha np ho => ?_) q⟩
  obtain ⟨ρ', r', e'⟩ := rel1.move (i := i) hk ha ho np
  exact q _ H1 ρ' (e1.trans e') r'
theorem retO3 {to : TW3} (he : POw X E e to) : PS3 X E (.Return (some e) pos) (fun E D δ => to E δ fun o δ1 => D.rt (.own o) δ1) := by
  refine ⟨fun _ _ _ _ _ hx hd q => he.mono _ _ _ _ _ hx (fun _ δ1 => hd.rt _ δ1) q, (ps_ret he.pe).imp fun D σ H h => ?_⟩
  obtain ⟨π, F, ρ, δ, rel, q⟩ := h
  exact ⟨π, F, ρ, δ, rel, he.mono _ _ _ _ _ (fun _ z => z) (fun o δ1 q a H1 ρ1 k e1 rel1 hk ha np ho => q _ σ H1 ρ1 e1 rel1 ⟨a, rfl, ⟨k, ha⟩, np, ho⟩) q⟩
/-- return x, x an owned local -/
def onOwn (δ : Sl) (i : Nat) (k : Nat → Ob → Prop) : Prop := match δ[i]? with | some (some (.own t o)) => k t o | _ => False
theorem onOwn.to {δ : Sl} {i : Nat} {k : Nat → Ob → Prop} (h : onOwn δ i k) : ∃ t o, δ[i]? = some (some (.own t o)) ∧ k t o := by
  unfold onOwn at h
  split at h
  · exact ⟨_, _, by assumption, h⟩
  · exact h.elim
theorem onOwn.of {δ : Sl} {i t : Nat} {o : Ob} {k : Nat → Ob → Prop} (e : δ[i]? = some (some (.own t o))) (h : k t o) : onOwn δ i k := by
  unfold onOwn
  rw [e]
  exact h
theorem retV3 (i : Nat) {x : Str} {pos' : Pos} (hN : X.N[i]? = some x := by rfl) (hv : Vis X.env.scope x := by first | exact Or.inl rfl | exact Or.inr (Or.inl rfl) | exact Or.inr (Or.inr rfl)) (hd : (x == ("__debug__" : Str)) = false := by decide)
    (hcd : (x == ("__classdict__" : Str)) = false := by decide) : PS3 X E (.Return (some (.Name x pos')) pos) (fun E D δ => onOwn δ i fun t o => t = 0 ∧ D.rt (.own o) δ) := by
  refine ⟨fun _ _ _ _ _ hx hd q => ?_, (ps_ret (pe_var hN hv hd hcd)).imp fun D σ H h => ?_⟩
  · obtain ⟨t, o, e, q⟩ := q.to
    exact onOwn.of e ⟨q.1, hd.rt _ _ q.2⟩
  · obtain ⟨π, F, ρ, δ, rel, q⟩ := h
    obtain ⟨t, o, e, ht, q⟩ := q.to
    subst ht
    obtain ⟨a, h1, h2, h3, h4, h5⟩ := rel.own i _ _ e
    exact ⟨_, h2, q _ σ H ρ Ext.refl rel ⟨a, rfl, ⟨i, h1⟩, h5 rfl, h3⟩⟩
/-- [a, b, ..] as an owned list -/
theorem olst3 {es : List Expr} {t : TA3} (h : PA3 X E es t) : POw X E (.List es pos) (fun E δ Q => t E δ fun xs δ1 => xs.length ≤ sizeLine ∧ Q (.lst xs) δ1) := by
  refine ⟨fun _ _ _ _ _ he hq q => h.mono _ _ _ _ _ he (fun xs δ1 z => ⟨z.1, hq _ _ z.2⟩) q, (pe_lst h.pa).imp fun σ H Q q => ?_⟩
  obtain ⟨π, F, ρ, δ, rel, q⟩ := q
  refine ⟨π, F, ρ, δ, rel, h.mono _ _ _ _ _ (fun _ z => z) (fun xs δ1 q vs H1 ρ1 e1 rel1 r1 => ⟨by rw [r1.length]; exact q.1, fun p hp => ?_⟩) q⟩
  obtain ⟨r2, e2, np⟩ := rel1.tmpO (k := δ1.length) (a := p) hp (same_upd (o := .lst vs) hp) ⟨_, upd_same⟩ (Nat.le_refl _)
  exact q.2 p _ _ δ1.length (e1.trans e2) r2 (Nat.le_refl _) (by unfold own1; rw [if_pos rfl]) np ⟨vs, upd_same, r1.ext (e2.frn) fun _ => .inl⟩
/-! ### reading an owned list -/
def onLst (δ : Sl) (i : Nat) (k : List D → Prop) : Prop := match δ[i]? with | some (some (.own _ (.lst xs))) => k xs | some (some (.ro xs)) => k xs | _ => False
theorem Rel.onLst {K : PySem.W.Frag} {π : Rho} {F : Addr → Prop} {ρ : Rho} {H : Hp} {σ : St} {δ : Sl} {i : Nat} {k : List D → Prop} (r : Rel K π F ρ H σ δ) (h : M3.onLst δ i k) : ∃ a vs xs, σ[i]? = some (some (.ref a)) ∧ SqL K H a vs ∧ RpAll K (Ox F ρ) H vs xs ∧ k xs := by
  unfold M3.onLst at h
  split at h
  · rename_i q
    obtain ⟨a, h1, h2, ⟨vs, h3, h4⟩, _⟩ := r.own i _ _ q
    exact ⟨a, vs, _, h2, SqL.of h3, h4, h⟩
  · rename_i xs q
    obtain ⟨v, h1, a, vs, rfl, h2, h3⟩ := r.dat i (.ro xs) q
    exact ⟨a, vs, _, h1, h2.sq, h3, h⟩
  · exact h.elim
theorem onLst.imp {δ : Sl} {i : Nat} {k k' : List D → Prop} (h : onLst δ i k) (f : ∀ xs, k xs → k' xs) : onLst δ i k' := by
  unfold onLst at h ⊢
  split at h
  · exact f _ h
  · exact f _ h
  · exact h.elim
def tIxO (i : Nat) (tb : T3) : T3 := fun E δ Q => onLst δ i fun _ => tb E δ fun y δ1 => asI y fun j => onLst δ1 i fun xs => ∃ d, atI xs j = some d ∧ Q d δ1
theorem ixO3 (i : Nat) {x : Str} {pos' : Pos} (hb : PE3 X E b tb) (hs : PlainIx b := by exact fun _ _ => rfl) (hN : X.N[i]? = some x := by rfl) (hv : Vis X.env.scope x := by first | exact Or.inl rfl | exact Or.inr (Or.inl rfl) | exact Or.inr (Or.inr rfl)) (hd : (x == ("__debug__" : Str)) = false := by decide)
    (hcd : (x == ("__classdict__" : Str)) = false := by decide) : PE3 X E (.Subscript (.Name x pos') b pos) (tIxO i tb) := by
  refine ⟨fun _ _ _ _ _ hx hq q => ?_, (pe_ix ix_list (pe_var hN hv hd hcd) hb.pe hs).imp fun σ H Q h => ?_⟩
  · refine q.imp fun _ q => hb.mono _ _ _ _ _ hx (fun y δ1 z => ?_) q
    obtain ⟨j, rfl, z1⟩ := asI.to z
    exact asI.of (z1.imp fun xs ⟨d, e, q⟩ => ⟨d, e, hq _ _ q⟩)
  · obtain ⟨π, F, ρ, δ, rel, q⟩ := h
    obtain ⟨v, _, _, hσ, _, _, q⟩ := rel.onLst q
    refine ⟨_, hσ, π, F, ρ, δ, rel, hb.mono _ _ _ _ _ (fun _ z => z) (fun y δ1 q w H1 ρ1 e1 rel1 r1 => ?_) q⟩
    obtain ⟨j, rfl, q⟩ := asI.to q
    obtain ⟨a, vs, xs, h1, h2, h3, d, h4, h5⟩ := rel1.onLst q
    rw [hσ] at h1; cases h1
    cases r1
    obtain ⟨u, h6, h7⟩ := h3.atI h4
    exact ⟨_, vs, j, u, rfl, rfl, h2, h6, h5 u H1 ρ1 e1 rel1 h7⟩
def tUO (i : Nat) (r3 : List D → (D → Prop) → Prop) : T3 := fun _ δ Q => onLst δ i fun xs => r3 xs fun z => Q z δ
theorem unO3 (i : Nat) {x : Str} {pos' : Pos} {r : V → Hp → VK → Prop} {r3 : List D → (D → Prop) → Prop} (mk : ∀ ta', PE X (.Name x pos') ta' → PE X e (tUn r ta'))
    (hr : ∀ (O : Addr → Prop) (H : Hp) (a : Addr) (vs : List V) (xs : List D) (k : D → Prop) (Q : VK), Trk O H → SqL X.K H a vs → RpAll X.K O H vs xs → r3 xs k → (∀ z w H', Same H H' → Rp X.K O H' w z → k z → Q w H') → r (.ref a) H Q)
    (m : ∀ xs k k', (∀ z, k z → k' z) → r3 xs k → r3 xs k') (hN : X.N[i]? = some x := by rfl) (hv : Vis X.env.scope x := by first | exact Or.inl rfl | exact Or.inr (Or.inl rfl) | exact Or.inr (Or.inr rfl)) (hd : (x == ("__debug__" : Str)) = false := by decide)
    (hcd : (x == ("__classdict__" : Str)) = false := by decide) : PE3 X E e (tUO i r3) := by
  refine ⟨fun _ _ _ _ _ hx hq q => q.imp fun xs => m _ _ _ fun z => hq _ _, (mk _ (pe_var hN hv hd hcd)).imp fun σ H Q h => ?_⟩
  obtain ⟨π, F, ρ, δ, rel, q⟩ := h
  obtain ⟨a, vs, xs, h1, h2, h3, q⟩ := rel.onLst q
  exact ⟨_, h1, hr _ H a vs xs _ Q rel.trk h2 h3 q fun z w H' s r q => q w H' ρ (Ext.same s) (rel.same s) r⟩
theorem lenO3 (i : Nat) {x : Str} {pos' p : Pos} (hg : Gl X "len") (hm : X.mg "len" = none) (he : starEach [.Name x pos'] X.env = (false, eval (.Name x pos') X.env) :: starEach [] X.env := by rfl) (hN : X.N[i]? = some x := by rfl) (hv : Vis X.env.scope x := by first | exact Or.inl rfl | exact Or.inr (Or.inl rfl) | exact Or.inr (Or.inr rfl)) (hd : (x == ("__debug__" : Str)) = false := by decide)
    (hcd : (x == ("__classdict__" : Str)) = false := by decide) : PE3 X E (.Call (.Name "len" p) [.Name x pos'] [] pos) (tUO i fun xs k => k (.int (xs.length : Nat))) :=
  unO3 i (fun _ h => mkB call_len_seq hg hm PySem.boot_len h (by decide) (by decide) he) (fun O H a vs xs k Q tr hs hr h hq => ⟨_, _, rfl, .inl hs, hq _ _ H (Same.refl H) (by rw [hr.length]; exact .int _) h⟩) (fun _ _ _ hk h => hk _ h) hN hv hd hcd
theorem tupleO3 (i : Nat) {x : Str} {pos' p : Pos} (hg : Gl X "tuple") (hm : X.mg "tuple" = none) (he : starEach [.Name x pos'] X.env = (false, eval (.Name x pos') X.env) :: starEach [] X.env := by rfl) (hN : X.N[i]? = some x := by rfl) (hv : Vis X.env.scope x := by first | exact Or.inl rfl | exact Or.inr (Or.inl rfl) | exact Or.inr (Or.inr rfl)) (hd : (x == ("__debug__" : Str)) = false := by decide)
    (hcd : (x == ("__classdict__" : Str)) = false := by decide) : PE3 X E (.Call (.Name "tuple" p) [.Name x pos'] [] pos) (tUO i fun xs k => k (.tuple xs)) :=
  unO3 i (fun _ h => mkTy call_tuple_of hg hm (by decide +kernel) h (by decide) (by decide) he) (fun O H a vs xs k Q tr hs hr h hq => ⟨_, _, rfl, .inl ⟨hs, fun p hp => hq _ _ _ (same_upd hp) (rp_tup tr hp hr) h⟩⟩) (fun _ _ _ hk h => hk _ h) hN hv hd hcd
/-- x.append(e) -/
def onL (δ : Sl) (i : Nat) (k : Nat → List D → Prop) : Prop := match δ[i]? with | some (some (.own t (.lst xs))) => k t xs | _ => False
theorem onL.to {δ : Sl} {i : Nat} {k : Nat → List D → Prop} (h : onL δ i k) : ∃ t xs, δ[i]? = some (some (.own t (.lst xs))) ∧ k t xs := by
  unfold onL at h
  split at h
  · exact ⟨_, _, by assumption, h⟩
  · exact h.elim
theorem onL.of {δ : Sl} {i t : Nat} {xs : List D} {k : Nat → List D → Prop} (e : δ[i]? = some (some (.own t (.lst xs)))) (h : k t xs) : onL δ i k := by
  unfold onL
  rw [e]
  exact h
theorem app3 (i : Nat) {x : Str} {pos' p' pos2 : Pos} (he : PE3 X E e te) (hs : starEach [e] X.env = (false, eval e X.env) :: starEach [] X.env := by rfl) (hN : X.N[i]? = some x := by rfl) (hv : Vis X.env.scope x := by first | exact Or.inl rfl | exact Or.inr (Or.inl rfl) | exact Or.inr (Or.inr rfl)) (hd : (x == ("__debug__" : Str)) = false := by decide)
    (hcd : (x == ("__classdict__" : Str)) = false := by decide) (hw : swapsWith (.Call (.Attribute (.Name x pos') "append" p') [e] [] pos) none pos2.line X.env = pure false := by rfl)
    (hfew : ((backTo pos (starEach [e] X.env)).all (fun x => !x.1) && (backToKw pos (keywordEach [] X.env)).all (fun x => x.1.isSome)
      && decide (([e] : List Expr).length + ([] : List Keyword).length + (if ([] : List Keyword).isEmpty then 0 else 1) < 30)) = true := by rfl)
    (hline : (p'.endLine == pos.line) = true := by rfl) : PS3 X E (.Expr (.Call (.Attribute (.Name x pos') "append" p') [e] [] pos) pos2) (fun E D δ => onL δ i fun _ _ => te E δ fun y δ1 => onL δ1 i fun t xs => xs.length < sizeLine ∧ D.nx (δ1.set i (some (.own t (.lst (xs ++ [y])))))) := by
  refine ⟨fun _ _ _ _ _ hx hd q => ?_, (ps_expr (pe_bm PySem.F.plainAttrs_list PySem.F.slot_list_append PySem.F.type_list_append mt_append (pe_var hN hv hd hcd) (pa_cons he.pe pa_nil hs) rfl hfew hline hs rfl) hw).imp fun D σ H h => ?_⟩
  · obtain ⟨t, xs, e, q⟩ := q.to
    refine onL.of e (he.mono _ _ _ _ _ hx (fun y δ1 z => ?_) q)
    obtain ⟨t, xs, e, q1, q2⟩ := z.to
    exact onL.of e ⟨q1, hd.nx _ q2⟩
  · obtain ⟨π, F, ρ, δ, rel, q⟩ := h
    obtain ⟨t, xs, e, q⟩ := q.to
    obtain ⟨a, _, hσ, ⟨vs, h3, _⟩, _⟩ := rel.own i _ _ e
    refine ⟨_, hσ, .inl ⟨rfl, _, .inl (.inl h3)⟩, π, F, ρ, δ, rel, he.mono _ _ _ _ _ (fun _ z => z) (fun y δ1 q w H1 ρ1 e1 rel1 r1 => ?_) q⟩
    obtain ⟨t, xs, e', q1, q2⟩ := q.to
    obtain ⟨a', ha', hσ', ⟨vs', h3', h4'⟩, _⟩ := rel1.own i _ _ e'
    rw [hσ] at hσ'; cases hσ'
    refine ⟨_, vs', w, rfl, rfl, h3', by rw [h4'.length]; exact q1, ?_⟩
    obtain ⟨r2, e2⟩ := rel1.setO (o' := .lst (xs ++ [y])) (u := .lst (vs' ++ [w])) e' ha' fun H' hH' keep => ⟨_, hH', (h4'.append (.cons r1 .nil)).ext (P := Ow ρ1) ⟨fun b o hb n => keep b o (fun z => n (by rw [z]; exact ⟨i, ha'⟩)) hb, fun _ z => .inl z, fun b o hb => by
      by_cases z : b = a
      · rw [z]; exact ⟨_, hH'⟩
      · exact ⟨o, keep b o z hb⟩⟩ fun _ => .inl⟩
    exact q2 σ _ ρ1 (e1.trans e2) r2
/-- x[j] = e -/
theorem setIx3 (i : Nat) {x : Str} {pos' p' : Pos} (he : PE3 X E e te) (hb : PE3 X E b tb) (hN : X.N[i]? = some x := by rfl) (hv : Vis X.env.scope x := by first | exact Or.inl rfl | exact Or.inr (Or.inl rfl) | exact Or.inr (Or.inr rfl)) (hd : (x == ("__debug__" : Str)) = false := by decide)
    (hcd : (x == ("__classdict__" : Str)) = false := by decide) (ha : ∀ v, assign (.Subscript (.Name x pos') b p') X.env v = (do
      let ov ← holding [v] (eval (.Name x pos') X.env)
      let iv ← holding [v, ov] (eval b X.env)
      standAt p'
      holding [v, ov, iv] (setItem ov iv v)
      release [v, ov, iv] []) := by intro _; rfl) (hs : swapsWithSole [.Subscript (.Name x pos') b p'] e pos.line X.env = pure false := by rfl) (hw : swappedStores [.Subscript (.Name x pos') b p'] e X.env = pure none := by rfl)
    (h1 : (assignEach [.Subscript (.Name x pos') b p'] X.env).map (·.2) = [assign (.Subscript (.Name x pos') b p') X.env] := by rfl) :
    PS3 X E (.Assign [.Subscript (.Name x pos') b p'] e pos) (fun E D δ => te E δ fun y δ1 => onL δ1 i fun _ _ => tb E δ1 fun z δ2 => asI z fun j => onL δ2 i fun t xs => ∃ n, ixN xs.length j = some n ∧ D.nx (δ2.set i (some (.own t (.lst (xs.set n y)))))) := by
  refine ⟨fun _ _ _ _ _ hx hd q => he.mono _ _ _ _ _ hx (fun y δ1 z => ?_) q, (ps_asg he.pe (pg_sub (pe_var hN hv hd hcd) hb.pe set_list ha) hs hw h1).imp fun D σ H h => ?_⟩
  · obtain ⟨t, xs, e, z⟩ := z.to
    refine onL.of e (hb.mono _ _ _ _ _ hx (fun w δ2 z => ?_) z)
    obtain ⟨j, rfl, z1⟩ := asI.to z
    obtain ⟨t, xs, e, n, q1, q2⟩ := z1.to
    exact asI.of (onL.of e ⟨n, q1, hd.nx _ q2⟩)
  · obtain ⟨π, F, ρ, δ, rel, q⟩ := h
    refine ⟨π, F, ρ, δ, rel, he.mono _ _ _ _ _ (fun _ z => z) (fun y δ1 q w H1 ρ1 e1 rel1 r1 => ?_) q⟩
    obtain ⟨t, xs, e, q⟩ := q.to
    obtain ⟨a, _, hσ, ⟨vs, h3, _⟩, _⟩ := rel1.own i _ _ e
    refine ⟨_, hσ, π, F, ρ1, δ1, rel1, hb.mono _ _ _ _ _ (liftX.mono e1) (fun z δ2 q w2 H2 ρ2 e2 rel2 r2 => ?_) q⟩
    obtain ⟨j, rfl, qj⟩ := asI.to q
    obtain ⟨t, xs, e', n, q1, q2⟩ := qj.to
    obtain ⟨a', ha', hσ', ⟨vs', h3', h4'⟩, _⟩ := rel2.own i _ _ e'
    rw [hσ] at hσ'; cases hσ'
    cases r2
    refine ⟨_, vs', j, n, rfl, rfl, h3', by rw [h4'.length]; exact q1, ?_⟩
    have r1' := r1.ext (e2.frn) fun _ => .inl
    obtain ⟨r3, e3⟩ := rel2.setO (o' := .lst (xs.set n y)) (u := .lst (vs'.set n w)) e' ha' fun H' hH' keep => ⟨_, hH', (RpAll.set r1' n h4').ext (P := Ow ρ2) ⟨fun b o hb n => keep b o (fun z => n (by rw [z]; exact ⟨i, ha'⟩)) hb, fun _ z => .inl z, fun b o hb => by
      by_cases z : b = a
      · rw [z]; exact ⟨_, hH'⟩
      · exact ⟨o, keep b o z hb⟩⟩ fun _ => .inl⟩
    exact q2 σ _ ρ2 ((e1.trans e2).trans e3) r3
/-- from here on an owned list is data -/
theorem frz3 (i : Nat) {sts : List Stmt} {t : TS3} (h : PSs3 X E sts t) : PSs3 X E sts (fun E D δ => onL δ i fun _ xs => t E D (δ.set i (some (.d (.list xs))))) := by
  refine ⟨fun _ _ _ _ _ hx hd q => ?_, h.ps.imp fun D σ H q => ?_⟩
  · obtain ⟨t, xs, e, q⟩ := q.to
    exact onL.of e (h.mono _ _ _ _ _ hx hd q)
  · obtain ⟨π, F, ρ, δ, rel, q⟩ := q
    obtain ⟨t, xs, e, q⟩ := q.to
    exact ⟨π, F, _, _, rel.freeze e, h.mono _ _ _ _ _ (liftX.mono Ext.drop) (liftD.mono Ext.drop) q⟩
end
end M3

set_option Elab.async false
set_option linter.all false
set_option maxRecDepth 100000
namespace M3
open PySem L2

/-! ## what is walked -/
/-- the walk J yields the things ds, at whatever state behind (ρ0, H0) -/
def JOk (K : PySem.W.Frag) (F : Addr → Prop) (ρ0 : Rho) (H0 : Hp) (J : It) (ds : List D) : Prop :=
  ∀ (i : Nat) (F' : Addr → Prop) (ρ : Rho) (H : Hp), Ext (Ow ρ0) (Ox F ρ0) H0 (Ox F' ρ) H → Trk (Ox F' ρ) H →
    (∀ x, ds[i]? = some x → J.go i H ∧ ∀ v H', J.yld i H v H' → Same H H' ∧ Rp K (Ox F' ρ) H' v x) ∧ (ds.length ≤ i → J.stop i H)
def liftI (K : PySem.W.Frag) (E : XK) (t : TA3) : TI := fun σ H R => ∃ π F ρ δ, Rel K π F ρ H σ δ ∧ t (liftX K E F ρ H) δ fun ds δ' => ∀ J H' ρ', Ex F ρ H ρ' H' → Rel K π F ρ' H' σ δ' → JOk K F ρ' H' J ds → R J H'
structure PI3 (X : Cx) (E : XK) (tg iter : Expr) (t : TA3) : Prop where
  mono : Mono3 t
  pi : PI X tg iter (liftI X.K E t)
section
variable {X : Cx} {E : XK} {tg a b c e iter : Expr} {ta tb tc te : T3} {ti : TA3} {pos : Pos}
def rngD (lo : Int) (n : Nat) : List D := (List.range n).map fun i => .int (lo + (i : Nat))
theorem rngD_get {lo : Int} {n i : Nat} {x : D} (h : (rngD lo n)[i]? = some x) : i < n ∧ x = .int (lo + (i : Nat)) := by
  unfold rngD at h
  rw [List.getElem?_map] at h
  by_cases hi : i < n
  · rw [List.getElem?_range hi] at h
    exact ⟨hi, by simpa using h.symm⟩
  · rw [List.getElem?_eq_none (by rw [List.length_range]; omega)] at h; cases h
theorem rngD_length {lo : Int} {n : Nat} : (rngD lo n).length = n := by unfold rngD; rw [List.length_map, List.length_range]
theorem jok_range {K : PySem.W.Frag} {F : Addr → Prop} {ρ0 : Rho} {H0 : Hp} (lo : Int) (n : Nat) : JOk K F ρ0 H0 (Itr lo n) (rngD lo n) := by
  intro i F' ρ H ex tr
  refine ⟨fun x h => ?_, fun h => ?_⟩
  · obtain ⟨h1, rfl⟩ := rngD_get h
    refine ⟨h1, fun v H' y => ?_⟩
    obtain ⟨e1, e2⟩ := y
    subst e1 e2
    exact ⟨Same.refl _, .int _⟩
  · rw [rngD_length] at h; exact h
def tRng1 (ta : T3) : TA3 := fun E δ Q => ta E δ fun x δ1 => asI x fun j => j < 2 ^ 62 ∧ -(2 ^ 62) ≤ j ∧ Q (rngD 0 j.toNat) δ1
theorem range3 {p : Pos} (hg : Gl X "range") (hm : X.mg "range" = none) (ha : PE3 X E a ta) (hs : starEach [a] X.env = [(false, eval a X.env)] := by rfl) (hs' : starEach [a] X.env = (false, eval a X.env) :: starEach [] X.env := by rfl) : PI3 X E tg (.Call (.Name "range" p) [a] [] pos) (tRng1 ta) := by
  refine ⟨fun _ _ _ _ _ hx hq q => ha.mono _ _ _ _ _ hx (fun x δ1 z => by obtain ⟨j, rfl, z1, z2, z3⟩ := asI.to z; exact asI.of ⟨z1, z2, hq _ _ z3⟩) q, (pi_range1 hg hm (pa_cons ha.pe pa_nil hs') hs).imp fun σ H R h => ?_⟩
  obtain ⟨π, F, ρ, δ, rel, q⟩ := h
  refine ⟨π, F, ρ, δ, rel, ha.mono _ _ _ _ _ (fun _ z => z) (fun x δ1 q v H1 ρ1 e1 rel1 r1 => ?_) q⟩
  obtain ⟨j, rfl, q1, q2, q3⟩ := asI.to q
  cases r1
  exact ⟨j, rfl, q2, q1, q3 _ H1 ρ1 e1 rel1 (jok_range 0 _)⟩
def tRng2 (ta tb : T3) : TA3 := fun E δ Q => ta E δ fun x δ1 => tb E δ1 fun y δ2 => asI x fun i => asI y fun j => (-(2 ^ 62) ≤ i ∧ i < 2 ^ 62 ∧ -(2 ^ 62) ≤ j ∧ j < 2 ^ 62) ∧ Q (rngD i (j - i).toNat) δ2
theorem range3b {p : Pos} (hg : Gl X "range") (hm : X.mg "range" = none) (ha : PE3 X E a ta) (hb : PE3 X E b tb) (hs : starEach [a, b] X.env = [(false, eval a X.env), (false, eval b X.env)] := by rfl) (hs2 : starEach [b] X.env = [(false, eval b X.env)] := by rfl)
    (hs' : starEach [a, b] X.env = (false, eval a X.env) :: starEach [b] X.env := by rfl) (hs2' : starEach [b] X.env = (false, eval b X.env) :: starEach [] X.env := by rfl) : PI3 X E tg (.Call (.Name "range" p) [a, b] [] pos) (tRng2 ta tb) := by
  refine ⟨fun _ _ _ _ _ hx hq q => ha.mono _ _ _ _ _ hx (fun x δ1 => hb.mono _ _ _ _ _ hx fun y δ2 z => ?_) q, (pi_range2 hg hm (pa_cons ha.pe (pa_cons hb.pe pa_nil hs2') hs') hs hs2).imp fun σ H R h => ?_⟩
  · obtain ⟨i, rfl, z1⟩ := asI.to z
    obtain ⟨j, rfl, z2, z3⟩ := asI.to z1
    exact asI.of (asI.of ⟨z2, hq _ _ z3⟩)
  · obtain ⟨π, F, ρ, δ, rel, q⟩ := h
    refine ⟨π, F, ρ, δ, rel, ha.mono _ _ _ _ _ (fun _ z => z) (fun x δ1 q v H1 ρ1 e1 rel1 r1 => ?_) q⟩
    refine ⟨π, F, ρ1, δ1, rel1, hb.mono _ _ _ _ _ (liftX.mono e1) (fun y δ2 q u H2 ρ2 e2 rel2 r2 => ?_) q⟩
    obtain ⟨i, rfl, z1⟩ := asI.to q
    obtain ⟨j, rfl, z2, z3⟩ := asI.to z1
    cases r1; cases r2
    exact ⟨i, j, rfl, z2, z3 _ H2 ρ2 (e1.trans e2) rel2 (jok_range i _)⟩
/-- a tuple or a list of data -/
def iSeq (K : PySem.W.Frag) (tl : TE) : TI := fun σ H R => tl σ H fun x H1 => ∃ a, x = .ref a ∧ (((∃ xs, SqL K H1 a xs) ∧ R (Itl K a) H1) ∨ ((∃ xs, SqT K H1 a xs) ∧ R (Itt K a) H1))
theorem pi_seq {l : Expr} {tl : TE} (hl : PE X l tl) : PI X tg l (iSeq X.K tl) := by
  refine ⟨fun pins s σ H R I h => ?_⟩
  refine thn (hl.run pins s σ H _ I h) fun v s1 ⟨x, H1, I1, r1, q1⟩ => ?_
  obtain ⟨a, e, q1⟩ := q1
  subst e
  cases r1
  rcases q1 with ⟨⟨xs, hq⟩, q⟩ | ⟨⟨xs, hq⟩, q⟩
  · obtain ⟨its, rv, p, hz⟩ := I1.list hq
    refine wpAny_pyIter_list p.isList ?_
    refine ⟨s1.heap.objs.size, [s1.heap.objs.size], _, _, H1, rfl, I1.kept (t' := s1.toks) fun b o e => Heap.get?_push_of_some _ e, turn_list a _, ⟨_, Heap.get?_push_size _ rfl, rfl, rfl⟩, fun b hb => ?_, q⟩
    have e : b = s1.heap.objs.size := by simpa using hb
    subst e
    exact I1.fpOk (Nat.le_refl _) (I1.hok.fresh (Nat.le_refl _))
  · obtain ⟨its, rv, p, hz⟩ := I1.tuple hq
    refine wpAny_pyIter_tuple (show s1.heap.IsTuple a its.toArray from p) ?_
    refine ⟨s1.heap.objs.size, [s1.heap.objs.size], _, _, H1, rfl, I1.kept (t' := s1.toks) fun b o e => Heap.get?_push_of_some _ e, turn_tuple a _, ⟨_, Heap.get?_push_size _ rfl, rfl, rfl⟩, fun b hb => ?_, q⟩
    have e : b = s1.heap.objs.size := by simpa using hb
    subst e
    exact I1.fpOk (Nat.le_refl _) (I1.hok.fresh (Nat.le_refl _))
theorem jok_list {K : PySem.W.Frag} {F : Addr → Prop} {ρ0 : Rho} {H0 : Hp} {a : Addr} {vs : List V} {ds : List D} (h : TL K (Ox F ρ0) H0 a vs) (r : RpAll K (Ox F ρ0) H0 vs ds) : JOk K F ρ0 H0 (Itl K a) ds := by
  intro i F' ρ H ex tr
  have h' := h.ext ex fun _ => .inl
  have r' := r.ext ex fun _ => .inl
  refine ⟨fun x hx => ?_, fun hx => ⟨vs, h'.sq, by rw [r'.length]; exact hx⟩⟩
  obtain ⟨v, hv, rv⟩ := r'.get hx
  refine ⟨⟨vs, v, h'.sq, hv⟩, fun u H' y => ?_⟩
  obtain ⟨e, y⟩ := y
  subst e
  have z := y vs h'.sq
  rw [hv] at z; cases z
  exact ⟨Same.refl _, rv⟩
theorem jok_tup {K : PySem.W.Frag} {F : Addr → Prop} {ρ0 : Rho} {H0 : Hp} {a : Addr} {vs : List V} {ds : List D} (h : TT K (Ox F ρ0) H0 a vs) (r : RpAll K (Ox F ρ0) H0 vs ds) : JOk K F ρ0 H0 (Itt K a) ds := by
  intro i F' ρ H ex tr
  have h' := h.ext ex fun _ => .inl
  have r' := r.ext ex fun _ => .inl
  refine ⟨fun x hx => ?_, fun hx => ⟨vs, h'.sq, by rw [r'.length]; exact hx⟩⟩
  obtain ⟨v, hv, rv⟩ := r'.get hx
  refine ⟨⟨vs, v, h'.sq, hv⟩, fun u H' y => ?_⟩
  obtain ⟨e, y⟩ := y
  subst e
  have z := y vs h'.sq
  rw [hv] at z; cases z
  exact ⟨Same.refl _, rv⟩
def asSeq (x : D) (k : List D → Prop) : Prop := match x with | .tuple xs => k xs | .list xs => k xs | _ => False
theorem asSeq.imp {x : D} {k k' : List D → Prop} (h : asSeq x k) (f : ∀ xs, k xs → k' xs) : asSeq x k' := by
  unfold asSeq at h ⊢
  split at h
  · exact f _ h
  · exact f _ h
  · exact h.elim
def tSeqI (ta : T3) : TA3 := fun E δ Q => ta E δ fun x δ1 => asSeq x fun xs => Q xs δ1
theorem seq3 (ha : PE3 X E a ta) : PI3 X E tg a (tSeqI ta) := by
  refine ⟨fun _ _ _ _ _ hx hq q => ha.mono _ _ _ _ _ hx (fun x δ1 z => z.imp fun xs => hq _ _) q, (pi_seq ha.pe).imp fun σ H R h => ?_⟩
  obtain ⟨π, F, ρ, δ, rel, q⟩ := h
  refine ⟨π, F, ρ, δ, rel, ha.mono _ _ _ _ _ (fun _ z => z) (fun x δ1 q v H1 ρ1 e1 rel1 r1 => ?_) q⟩
  unfold asSeq at q
  split at q
  · cases r1 with
    | tup ht hr => exact ⟨_, rfl, .inr ⟨⟨_, ht.sq⟩, q _ H1 ρ1 e1 rel1 (jok_tup ht hr)⟩⟩
  · cases r1 with
    | lst ht hr => exact ⟨_, rfl, .inl ⟨⟨_, ht.sq⟩, q _ H1 ρ1 e1 rel1 (jok_list ht hr)⟩⟩
  · exact q.elim

/-! ## for -/
def tFor3 (ti : TA3) (g : TG3) (tb : TS3) : TS3 := fun E D δ => ti E δ fun ds δ1 => ∃ Pv : Nat → Sl → Prop, Pv 0 δ1 ∧
  (∀ i x δ2, ds[i]? = some x → Pv i δ2 → g x δ2 fun δ3 => tb E { nx := Pv (i + 1), ct := Pv (i + 1), bk := D.nx, rt := D.rt } δ3) ∧ ∀ δ2, Pv ds.length δ2 → D.nx δ2
theorem for3 {ws : List Nat} {body : List Stmt} {g : TG3} {tb : TS3} (hp : PassesOwn (model X.prog X.w) X.A X.env X.xe) (hc : X.calm = true) (hi : PI3 X E tg iter ti) (hg : PG3 X ws tg g) (hb : PSs3 X E body tb)
    (hs : ∀ x, foldedSetIterable iter X.env x = pure x := by intro _; rfl) : PS3 X E (.For tg iter body [] pos) (tFor3 ti g tb) := by
  refine ⟨fun E1 E2 D1 D2 _ hx hd q => hi.mono _ _ _ _ _ hx (fun ds δ1 ⟨Pv, h0, h1, h2⟩ => ⟨Pv, h0, fun i x δ2 e p => hg.mono _ _ _ _ (fun δ3 => hb.mono E1 E2 { nx := Pv (i + 1), ct := Pv (i + 1), bk := D1.nx, rt := D1.rt } _ _ hx ⟨fun _ z => z, hd.rt, hd.nx, fun _ z => z⟩) (h1 i x δ2 e p), fun δ2 p => hd.nx _ (h2 δ2 p)⟩) q,
    (ps_for hp hc hi.pi hg.pg hb.ps hs).imp fun D σ H h => ?_⟩
  obtain ⟨π, F, ρ, δ, rel, q⟩ := h
  refine ⟨π, F, ρ, δ, rel, hi.mono _ _ _ _ _ (fun _ z => z) (fun ds δ1 ⟨Pv, h0, h1, h2⟩ J H1 ρ1 e1 rel1 jok => ?_) q⟩
  refine ⟨fun i m σ2 H2 => m = ds.length - i ∧ i ≤ ds.length ∧ ∃ ρ2 δ2, Ex F ρ1 H1 ρ2 H2 ∧ Rel X.K π F ρ2 H2 σ2 δ2 ∧ Pv i δ2, ⟨ds.length, by simp, Nat.zero_le _, ρ1, δ1, Ext.refl, rel1, h0⟩, ?_⟩
  rintro i m σ2 H2 ⟨rfl, hil, ρ2, δ2, e2, rel2, p⟩
  obtain ⟨j1, j2⟩ := jok i F ρ2 H2 e2.frn rel2.trk
  by_cases hlt : i < ds.length
  · obtain ⟨go, y⟩ := j1 ds[i] (by simp [hlt])
    refine .inr ⟨go, fun σ' H' => i + 1 ≤ ds.length ∧ ∃ ρ2 δ2, Ex F ρ1 H1 ρ2 H' ∧ Rel X.K π F ρ2 H' σ' δ2 ∧ Pv (i + 1) δ2, fun σ' H' ⟨hl, z⟩ => ⟨ds.length - (i + 1), by omega, rfl, hl, z⟩, fun v H' yl => ?_⟩
    obtain ⟨sm, rp⟩ := y v H' yl
    refine ⟨π, F, ρ2, δ2, _, rel2.same sm, rp, hg.mono _ _ _ _ (fun δ3 q σ3 H3 ρ3 e3 rel3 _ _ => ?_) (h1 i _ δ2 (by simp [hlt]) p)⟩
    have e23 : Ex F ρ1 H1 ρ3 H3 := (e2.trans (Ext.same sm)).trans e3
    refine ⟨π, F, ρ3, δ3, rel3, hb.mono _ _ { nx := Pv (i + 1), ct := Pv (i + 1), bk := (liftD D X.K π F ρ H).nx, rt := (liftD D X.K π F ρ H).rt } _ _ (liftX.mono (e1.trans e23)) ⟨fun δ4 q σ4 H4 ρ4 e4 rel4 => ?_, fun r δ4 q v4 σ4 H4 ρ4 e4 rel4 r4 => ?_, fun δ4 q σ4 H4 ρ4 e4 rel4 => ?_, fun δ4 q σ4 H4 ρ4 e4 rel4 => ?_⟩ q⟩
    · exact ⟨hlt, ρ4, δ4, e23.trans e4, rel4, q⟩
    · exact q v4 σ4 H4 ρ4 ((e1.trans e23).trans e4) rel4 r4
    · exact q σ4 H4 ρ4 ((e1.trans e23).trans e4) rel4
    · exact ⟨hlt, ρ4, δ4, e23.trans e4, rel4, q⟩
  · have e : i = ds.length := by omega
    subst e
    exact .inl ⟨j2 (Nat.le_refl _), h2 δ2 p σ2 H2 ρ2 (e1.trans e2) rel2⟩

/-! ## while -/
def tWhile3 (c : TB3) (tb : TS3) : TS3 := fun E D δ => ∃ Pv : Nat → Sl → Prop, (∃ m, Pv m δ) ∧
  ∀ m δ2, Pv m δ2 → c E δ2 fun b δ3 => br b (tb E { nx := fun δ4 => ∃ m', m' < m ∧ Pv m' δ4, ct := fun δ4 => ∃ m', m' < m ∧ Pv m' δ4, bk := D.nx, rt := D.rt } δ3) (D.nx δ3)
theorem while3 {body : List Stmt} {tc : TB3} {tb : TS3} (hp : PassesOwn (model X.prog X.w) X.A X.env X.xe) (hc : PT3 X E c tc) (hb : PSs3 X E body tb) : PS3 X E (.While c body [] pos) (tWhile3 tc tb) := by
  refine ⟨fun E1 E2 D1 D2 _ hx hd ⟨Pv, h0, h1⟩ => ⟨Pv, h0, fun m δ2 p => hc.mono _ _ _ _ _ hx (fun b δ3 z => z.imp (hb.mono E1 E2 { nx := fun δ4 => ∃ m', m' < m ∧ Pv m' δ4, ct := fun δ4 => ∃ m', m' < m ∧ Pv m' δ4, bk := D1.nx, rt := D1.rt } _ _ hx ⟨fun _ z => z, hd.rt, hd.nx, fun _ z => z⟩) (hd.nx _)) (h1 m δ2 p)⟩,
    (ps_while hp hc.pe hb.ps).imp fun D σ H h => ?_⟩
  obtain ⟨π, F, ρ, δ, rel, Pv, ⟨m0, h0⟩, h1⟩ := h
  refine ⟨fun m σ2 H2 => ∃ ρ2 δ2, Ex F ρ H ρ2 H2 ∧ Rel X.K π F ρ2 H2 σ2 δ2 ∧ Pv m δ2, ⟨m0, ρ, δ, Ext.refl, rel, h0⟩, ?_⟩
  rintro m σ2 H2 ⟨ρ2, δ2, e2, rel2, p⟩
  refine ⟨π, F, ρ2, δ2, rel2, hc.mono _ _ _ _ _ (liftX.mono e2) (fun b δ3 q b' H3 ρ3 e3 rel3 eb => ?_) (h1 m δ2 p)⟩
  subst eb
  have e23 := e2.trans e3
  refine (q.imp (fun q => ?_) (fun q => ?_)).ite
  · refine ⟨fun σ4 H4 => ∃ m', m' < m ∧ ∃ ρ2 δ2, Ex F ρ H ρ2 H4 ∧ Rel X.K π F ρ2 H4 σ4 δ2 ∧ Pv m' δ2, fun σ4 H4 ⟨m', hm, z⟩ => ⟨m', hm, z⟩, π, F, ρ3, δ3, rel3, hb.mono _ _ { nx := fun δ4 => ∃ m', m' < m ∧ Pv m' δ4, ct := fun δ4 => ∃ m', m' < m ∧ Pv m' δ4, bk := (liftD D X.K π F ρ H).nx, rt := (liftD D X.K π F ρ H).rt } _ _ (liftX.mono e23) ⟨fun δ4 ⟨m', hm, q⟩ σ4 H4 ρ4 e4 rel4 => ?_, fun r δ4 q v4 σ4 H4 ρ4 e4 rel4 r4 => ?_, fun δ4 q σ4 H4 ρ4 e4 rel4 => ?_, fun δ4 ⟨m', hm, q⟩ σ4 H4 ρ4 e4 rel4 => ?_⟩ q⟩
    · exact ⟨m', hm, ρ4, δ4, e23.trans e4, rel4, q⟩
    · exact q v4 σ4 H4 ρ4 (e23.trans e4) rel4 r4
    · exact q σ4 H4 ρ4 (e23.trans e4) rel4
    · exact ⟨m', hm, ρ4, δ4, e23.trans e4, rel4, q⟩
  · exact q σ2 H3 ρ3 e23 rel3
end
end M3

set_option Elab.async false
set_option linter.all false
set_option maxRecDepth 100000
namespace M3
open PySem L2

/-! ## comprehensions -/
def wipeS (δ : Sl) : List Nat → Sl
  | [] => δ
  | v :: vs => (wipeS δ vs).set v none
def kd (δ : Sl) (i : Nat) : Option W := match δ[i]? with | some (some (.d x)) => some (.d x) | _ => none
def backS (δ0 δ' : Sl) : List Nat → Sl
  | [] => δ'
  | v :: vs => (backS δ0 δ' vs).set v (kd δ0 v)
theorem wipe_wipe (σ : St) (vs : List Nat) : wipe (wipe σ vs) vs = wipe σ vs := by
  refine List.ext_getElem? fun i => ?_
  by_cases h : i ∈ vs
  · have e : ∀ τ : St, (wipe τ vs)[i]? = if i < τ.length then some none else none := fun τ => by
      cases q : (wipe τ vs)[i]? with
      | none =>
        have := List.getElem?_eq_none_iff.mp q
        rw [wipe_length] at this
        rw [if_neg (by omega)]
      | some o =>
        have hl := (List.getElem?_eq_some_iff.mp q).1
        rw [wipe_length] at hl
        rw [if_pos hl]
        cases o with
        | none => rfl
        | some v => exact absurd h (wipe_some q).2
    rw [e, e, wipe_length]
  · rw [wipe_out h]
theorem backS_length (δ0 δ' : Sl) : ∀ vs : List Nat, (backS δ0 δ' vs).length = δ'.length
  | [] => rfl
  | v :: vs => by unfold backS; rw [List.length_set, backS_length δ0 δ' vs]
theorem backS_out {δ0 δ' : Sl} {j : Nat} : ∀ {vs : List Nat}, j ∉ vs → (backS δ0 δ' vs)[j]? = δ'[j]?
  | [], _ => rfl
  | v :: vs, h => by
    unfold backS
    rw [List.getElem?_set_ne (fun z => h (by rw [z]; exact List.mem_cons_self)), backS_out fun z => h (List.mem_cons_of_mem _ z)]
theorem backS_in {δ0 δ' : Sl} {j : Nat} {w : Option W} : ∀ {vs : List Nat}, j ∈ vs → (backS δ0 δ' vs)[j]? = some w → w = kd δ0 j
  | [], h, _ => by cases h
  | v :: vs, h, e => by
    unfold backS at e
    by_cases hv : v = j
    · subst hv
      by_cases hl : v < (backS δ0 δ' vs).length
      · rw [List.getElem?_set_self hl] at e; cases e; rfl
      · rw [List.getElem?_eq_none (by rw [List.length_set]; omega)] at e; cases e
    · rw [List.getElem?_set_ne hv] at e
      rcases List.mem_cons.mp h with z | z
      · exact absurd z.symm hv
      · exact backS_in z e
theorem kd_d {δ : Sl} {i : Nat} {w : W} (h : kd δ i = some w) : ∃ x, w = .d x ∧ δ[i]? = some (some (.d x)) := by
  unfold kd at h
  split at h
  · cases h; exact ⟨_, rfl, by assumption⟩
  · cases h
section
variable {K : PySem.W.Frag} {π : Rho} {F : Addr → Prop} {ρ : Rho} {H : Hp} {σ : St} {δ : Sl}
theorem Rel.wipe (r : Rel K π F ρ H σ δ) : ∀ vs : List Nat, ∃ ρ', Rel K π F ρ' H (L2.wipe σ vs) (wipeS δ vs) ∧ ∀ b, Ow ρ' b → Ow ρ b
  | [] => ⟨ρ, r, fun _ h => h⟩
  | v :: vs => by
    obtain ⟨ρ', r', le⟩ := r.wipe vs
    exact ⟨_, r'.setN, fun b z => le b (drop_le b z)⟩
theorem Rel.back {ρ0 : Rho} {H0 : Hp} {σ2 : St} {δ0 δ' : Sl} {vs : List Nat} (r : Rel K π F ρ H σ2 δ') (r0 : Rel K π F ρ0 H0 σ δ0) (e : Ex F ρ0 H0 ρ H) (hw : L2.wipe σ2 vs = L2.wipe σ vs) :
    ∃ ρ', Rel K π F ρ' H σ (backS δ0 δ' vs) ∧ ∀ b, Ow ρ' b → Ow ρ b := by
  have out : ∀ j, j ∉ vs → σ2[j]? = σ[j]? := fun j hj => by
    have z : (L2.wipe σ2 vs)[j]? = (L2.wipe σ vs)[j]? := by rw [hw]
    rw [wipe_out hj, wipe_out hj] at z
    exact z
  have hl : σ2.length = σ.length := by
    have z := congrArg List.length hw
    rw [wipe_length, wipe_length] at z
    exact z
  let ρ' : Rho := fun j => if j ∈ vs then none else ρ j
  have at_ : ∀ j b, ρ' j = some b → j ∉ vs ∧ ρ j = some b := fun j b h => by
    simp only [ρ'] at h
    split at h
    · cases h
    · exact ⟨by assumption, h⟩
  have le : ∀ b, Ow ρ' b → Ow ρ b := fun b ⟨j, h⟩ => ⟨j, (at_ j b h).2⟩
  have lex : ∀ b, Ox F ρ' b → Ox F ρ b := fun b z => z.imp (le b) id
  refine ⟨ρ', ⟨by rw [backS_length, ← hl]; exact r.len, fun j y q => ?_, fun j t o q => ?_, fun j l b h1 h2 => r.inj j l b (at_ _ _ h1).2 (at_ _ _ h2).2, fun b z => r.trk b (lex b z), fun b z q => r.dis b z (le b q), r.pit⟩, le⟩
  · by_cases hj : j ∈ vs
    · obtain ⟨x, e1, e2⟩ := kd_d (backS_in hj q).symm
      cases y <;> cases e1
      obtain ⟨v, h1, h2⟩ := r0.dat j (.d x) e2
      exact ⟨v, h1, (h2.ext (e.frn) fun _ => .inl).mono lex⟩
    · rw [backS_out hj] at q
      obtain ⟨v, h1, h2⟩ := r.dat j y q
      exact ⟨v, by rw [← out j hj]; exact h1, h2.mono lex⟩
  · by_cases hj : j ∈ vs
    · obtain ⟨x, e1, e2⟩ := kd_d (backS_in hj q).symm
      cases e1
    · rw [backS_out hj] at q
      obtain ⟨a, h1, h2, h3, h4⟩ := r.own j t o q
      exact ⟨a, by simp only [ρ']; rw [if_neg hj]; exact h1, by rw [← out j hj]; exact h2, h3.mono lex, h4⟩
theorem ObOk.extG {P O O' : Addr → Prop} {H' : Hp} {a : Addr} {o : Ob} (e : Ext P O H O' H') (po : ∀ b, P b → O b) (ha : ∀ u, H a = some u → H' a = some u) (h : ObOk K O H a o) : ObOk K O' H' a o := by
  cases o with
  | lst xs => obtain ⟨vs, h, r⟩ := h; exact ⟨vs, ha _ h, r.ext e po⟩
  | dct ds =>
    rcases h with ⟨kvs, h, r⟩ | ⟨kvs, h, r⟩
    · exact .inl ⟨kvs, ha _ h, r.ext e po⟩
    · exact .inr ⟨kvs, ha _ h, r.ext e po⟩
/-- one foreign object more, a new one -/
def FD (F : Addr → Prop) (d : Addr) : Addr → Prop := fun b => F b ∨ b = d
theorem Rel.addF (r : Rel K π F ρ H σ δ) {d : Addr} {o : HO} (hd : H d = none) : Rel K π (FD F d) ρ (upd H d o) σ δ := by
  have sm : Same H (upd H d o) := same_upd hd
  have nd : ¬ Ox F ρ d := r.fresh hd
  have ex : Ext (Ow ρ) (Ox F ρ) H (Ox (FD F d) ρ) (upd H d o) := ⟨fun b u h _ => sm b u h, fun b z => by
    rcases z with z | z | z
    · exact .inl (.inl z)
    · exact .inl (.inr z)
    · exact .inr (by rw [z]; exact hd), fun b u h => ⟨u, sm b u h⟩⟩
  refine ⟨r.len, fun j y q => ?_, fun j t o2 q => ?_, r.inj, fun b z => ?_, fun b z q => ?_, fun p b z => ?_⟩
  · obtain ⟨v, h1, h2⟩ := r.dat j y q
    exact ⟨v, h1, h2.ext ex fun _ => .inl⟩
  · obtain ⟨a, h1, h2, h3, h4⟩ := r.own j t o2 q
    exact ⟨a, h1, h2, h3.extG ex (fun _ => .inl) (fun u => sm _ _), h4⟩
  · rcases z with z | z | z
    · obtain ⟨u, h⟩ := r.trk b (.inl z); exact ⟨u, sm _ _ h⟩
    · obtain ⟨u, h⟩ := r.trk b (.inr z); exact ⟨u, sm _ _ h⟩
    · rw [z]; exact ⟨_, upd_same⟩
  · rcases z with z | z
    · exact r.dis b z q
    · subst z; exact nd (.inl q)
  · obtain ⟨u, h⟩ := r.pit p b z; exact ⟨u, sm _ _ h⟩
/-- a foreign object changes -/
theorem Rel.updF (r : Rel K π F ρ H σ δ) {d : Addr} {o : HO} (hd : F d) : Rel K π F ρ (upd H d o) σ δ ∧ Ext (fun b => b = d) (Ox F ρ) H (Ox F ρ) (upd H d o) := by
  have ex : Ext (fun b => b = d) (Ox F ρ) H (Ox F ρ) (upd H d o) := ⟨fun b u h n => by rw [upd_ne n]; exact h, fun b z => .inl z, fun b u h => by
    by_cases z : b = d
    · rw [z]; exact ⟨_, upd_same⟩
    · exact ⟨u, by rw [upd_ne z]; exact h⟩⟩
  have po : ∀ b, b = d → Ox F ρ b := fun b z => by rw [z]; exact .inr hd
  refine ⟨⟨r.len, fun j y q => ?_, fun j t o2 q => ?_, r.inj, fun b z => ?_, r.dis, fun p b z => ?_⟩, ex⟩
  · obtain ⟨v, h1, h2⟩ := r.dat j y q
    exact ⟨v, h1, h2.ext ex po⟩
  · obtain ⟨a, h1, h2, h3, h4⟩ := r.own j t o2 q
    refine ⟨a, h1, h2, h3.extG ex po (fun u h => ?_), h4⟩
    rw [upd_ne fun z => r.dis d hd ⟨j, by rw [← z]; exact h1⟩]
    exact h
  · obtain ⟨u, h⟩ := r.trk b z; exact ex.tk b u h
  · obtain ⟨u, h⟩ := r.pit p b z; exact ex.tk b u h
theorem Rel.lessF {F' : Addr → Prop} (r : Rel K π F' ρ H σ δ) (le : ∀ b, F b → F' b) : Rel K π F ρ H σ δ := by
  have lex : ∀ b, Ox F ρ b → Ox F' ρ b := fun b z => z.imp id (le b)
  refine ⟨r.len, fun j y q => ?_, fun j t o2 q => ?_, r.inj, fun b z => r.trk b (lex b z), fun b z => r.dis b (le b z), r.pit⟩
  · obtain ⟨v, h1, h2⟩ := r.dat j y q
    exact ⟨v, h1, h2.mono lex⟩
  · obtain ⟨a, h1, h2, h3, h4⟩ := r.own j t o2 q
    exact ⟨a, h1, h2, h3.mono lex, h4⟩
end
abbrev RBl : (Addr → Prop) → Hp → Bool → Bool → Prop := fun _ _ x y => x = y
structure PTs3 (X : Cx) (E : XK) (ifs : List Expr) (t : TB3) : Prop where
  mono : Mono3 t
  pts : PTs X ifs (lift X.K E RBl t)
abbrev XF : XK := fun _ _ _ => False
def tYes3 : TB3 := fun _ δ Q => Q true δ
theorem _root_.L2.PTs.imp {X : Cx} {e : List Expr} {t t' : L2.TT} (h : PTs X e t) (k : ∀ σ H Q, t' σ H Q → t σ H Q) : PTs X e t' := ⟨fun pins s σ H Q I q => h.run pins s σ H Q I (k σ H Q q)⟩
section
variable {X : Cx} {E : XK} {tg a b c e iter elt : Expr} {ifs : List Expr} {ta tb tc te : T3} {ti : TA3} {tt : TB3} {g : TG3} {vs : List Nat} {pos : Pos}
theorem yes3 : PTs3 X E [] tYes3 := ⟨fun _ _ _ _ _ _ hq q => hq _ _ q, pts_nil.imp fun σ H Q h => by
  obtain ⟨π, F, ρ, δ, rel, q⟩ := h
  exact q true H ρ Ext.refl rel rfl⟩
theorem test3 (h : PT3 X E c tt) : PTs3 X E [c] tt := ⟨h.mono, pts_one h.pe⟩
def tLc3 (ti : TA3) (g : TG3) (tt : TB3) (te : T3) (vs : List Nat) : T3 := fun E δ Q => ti E δ fun ds δ1 => ds.length ≤ sizeLine ∧ ∃ Pv : Nat → List D → Sl → Prop, Pv 0 [] δ1 ∧
  (∀ i x acc δ2, ds[i]? = some x → Pv i acc δ2 → g x (wipeS δ2 vs) fun δ3 => tt (fun _ => False) δ3 fun b δ4 => br b (te (fun _ => False) δ4 fun y δ5 => Pv (i + 1) (acc ++ [y]) (backS δ2 δ5 vs)) (Pv (i + 1) acc (backS δ2 δ4 vs))) ∧
  ∀ acc δ2, Pv ds.length acc δ2 → Q (.list acc) δ2
theorem mono_tLc3 (hi : Mono3 ti) : Mono3 (tLc3 ti g tt te vs) := fun _ _ _ _ _ hx hq q => hi _ _ _ _ _ hx (fun ds δ1 ⟨h1, Pv, h2, h3, h4⟩ => ⟨h1, Pv, h2, h3, fun acc δ2 p => hq _ _ (h4 acc δ2 p)⟩) q
theorem lift_lc (hi : Mono3 ti) (hg : MonoG g) (ht : Mono3 tt) (he : Mono3 te) {σ : St} {H : Hp} {Q : VK} (h : lift X.K E (Rp X.K) (tLc3 ti g tt te vs) σ H Q) :
    tLc (liftI X.K E ti) (liftG X.K vs g) (lift X.K XF RBl tt) (lift X.K XF (Rp X.K) te) vs σ H Q := by
  obtain ⟨π, F, ρ, δ, rel, q⟩ := h
  refine ⟨π, F, ρ, δ, rel, hi _ _ _ _ _ (fun _ z => z) (fun ds δ1 ⟨hz, Pv, h0, hs, hd⟩ J H1 ρ1 e1 rel1 jok => ?_) q⟩
  intro L hL
  have nL : ¬ Ox F ρ1 L := rel1.fresh hL
  have exJ : ∀ {ρ2 : Rho} {H2 : Hp}, Ex F ρ1 H1 ρ2 H2 → Ext (Ow ρ1) (Ox F ρ1) H1 (Ox (FD F L) ρ2) H2 := fun {ρ2 H2} e => ⟨e.fr, fun b z => by
    rcases z with z | z | z
    · exact (e.ow b z).imp .inl id
    · exact .inl (.inr z)
    · exact .inr (by rw [z]; exact hL), e.tk⟩
  refine ⟨fun i m H2 => m = ds.length - i ∧ i ≤ ds.length ∧ ∃ acc accV ρ2 δ2, Ex F ρ1 H1 ρ2 H2 ∧ Rel X.K π (FD F L) ρ2 H2 σ δ2 ∧ H2 L = some (.lst accV) ∧ RpAll X.K (Ox (FD F L) ρ2) H2 accV acc ∧ acc.length ≤ i ∧ Pv i acc δ2, ⟨ds.length, by simp, Nat.zero_le _, [], [], ρ1, δ1, Ext.same (same_upd hL), rel1.addF hL, upd_same, .nil, Nat.zero_le _, h0⟩, ?_⟩
  rintro i m H2 ⟨rfl, hil, acc, accV, ρ2, δ2, e2, rel2, hH2, ra, hal, p⟩
  obtain ⟨j1, j2⟩ := jok i (FD F L) ρ2 H2 (exJ e2) rel2.trk
  by_cases hlt : i < ds.length
  · obtain ⟨go, y⟩ := j1 ds[i] (by simp [hlt])
    refine .inr ⟨go, fun H' => i + 1 ≤ ds.length ∧ ∃ acc accV ρ2 δ2, Ex F ρ1 H1 ρ2 H' ∧ Rel X.K π (FD F L) ρ2 H' σ δ2 ∧ H' L = some (.lst accV) ∧ RpAll X.K (Ox (FD F L) ρ2) H' accV acc ∧ acc.length ≤ i + 1 ∧ Pv (i + 1) acc δ2, fun H' ⟨hl, z⟩ => ⟨ds.length - (i + 1), by omega, rfl, hl, z⟩, fun v H' yl => ?_⟩
    obtain ⟨sm, rp⟩ := y v H' yl
    have rel2' := rel2.same sm
    obtain ⟨ρw, relw, lew⟩ := rel2'.wipe vs
    have lewx : ∀ b, Ox (FD F L) ρw b → Ox (FD F L) ρ2 b := fun b z => z.imp (lew b) id
    have e2w : Ex (FD F L) ρ2 H2 ρw H' := ⟨fun b u h _ => sm b u h, fun b z => .inl (lew b z), fun b u h => ⟨u, sm b u h⟩⟩
    refine ⟨π, FD F L, ρw, _, _, relw, rp.mono lewx, hg _ _ _ _ (fun δ3 q σ3 H3 ρ3 e3 rel3 w3 s3 => ?_) (hs i _ acc δ2 (by simp [hlt]) p)⟩
    rw [wipe_wipe] at w3
    refine ⟨w3, π, FD F L, ρ3, δ3, rel3, ht _ _ _ _ _ (fun _ z => z.elim) (fun b δ4 q b' H4 ρ4 e4 rel4 eb => ?_) q⟩
    subst eb
    have e24 : Ex (FD F L) ρ2 H2 ρ4 H4 := (e2w.trans e3).trans e4
    have e14 : Ex F ρ1 H1 ρ4 H4 := e2.trans e24
    refine (q.imp (fun q => ?_) (fun q => ?_)).ite
    · refine ⟨π, FD F L, ρ4, δ4, rel4, he _ _ _ _ _ (fun _ z => z.elim) (fun y δ5 q u H5 ρ5 e5 rel5 r5 => ?_) q⟩
      have e25 := e24.trans e5
      have e15 := e14.trans e5
      have hLo : ¬ Ow ρ2 L := rel2.dis L (.inr rfl)
      have hH5 : H5 L = some (.lst accV) := e25.fr L _ hH2 hLo
      have ra5 := ra.ext (e25.frn) fun _ => .inl
      refine ⟨accV, hH5, by rw [ra5.length]; omega, hlt, ?_⟩
      obtain ⟨ρ6, rel6, le6⟩ := rel5.back rel2 e25 w3
      obtain ⟨rel7, ex7⟩ := rel6.updF (d := L) (o := .lst (accV ++ [u])) (.inr rfl)
      have le6x : ∀ b, Ox (FD F L) ρ6 b → Ox (FD F L) ρ5 b := fun b z => z.imp (le6 b) id
      have po : ∀ b, b = L → Ox (FD F L) ρ6 b := fun b z => by rw [z]; exact .inr (.inr rfl)
      refine ⟨acc ++ [y], accV ++ [u], ρ6, _, ⟨fun b o hb n => ?_, fun b z => e15.ow b (le6 b z), fun b o hb => ?_⟩, rel7, upd_same, ((ra5.append (.cons r5 .nil)).mono le6x).ext ex7 po, ?_, q⟩
      · rw [upd_ne fun z => by rw [z, hL] at hb; cases hb]
        exact e15.fr b o hb n
      · obtain ⟨o', h'⟩ := e15.tk b o hb
        exact ex7.tk b o' h'
      · rw [List.length_append, List.length_singleton]; omega
    · have hLo : ¬ Ow ρ2 L := rel2.dis L (.inr rfl)
      obtain ⟨ρ6, rel6, le6⟩ := rel4.back rel2 e24 w3
      have le6x : ∀ b, Ox (FD F L) ρ6 b → Ox (FD F L) ρ4 b := fun b z => z.imp (le6 b) id
      exact ⟨hlt, acc, accV, ρ6, _, ⟨e14.fr, fun b z => e14.ow b (le6 b z), e14.tk⟩, rel6, e24.fr L _ hH2 hLo, (ra.ext (e24.frn) fun _ => .inl).mono le6x, by omega, q⟩
  · have e : i = ds.length := by omega
    subst e
    have hLo : ¬ Ow ρ2 L := rel2.dis L (.inr rfl)
    have nL2 : ¬ Ox F ρ2 L := fun z => z.elim hLo fun z => nL (.inr z)
    have lex : ∀ b, Ox F ρ2 b → Ox (FD F L) ρ2 b := fun b z => z.imp id .inl
    exact .inl ⟨j2 (Nat.le_refl _), hd acc δ2 p _ H2 ρ2 (e1.trans e2) (rel2.lessF fun _ => .inl) (.lst ⟨hH2, nL2⟩ (ra.mono lex))⟩
theorem lc3 {scope : Scope} {own : List (Str × Nat)} (hc : X.calm = true) (hN : X.N.Nodup) (hi : PI3 X E tg iter ti) (ok : BlkOk X.N X.env.scope scope own)
    (hg : ∀ (s : Shared) (H : Hp) (C : Addr) (cl : List (Str × Addr)) (fp : List Addr), PG3 (X.blk s H scope (compEnvC scope cl C X.env) fp) (own.map (·.2)) tg g)
    (ht : ∀ (s : Shared) (H : Hp) (C : Addr) (cl : List (Str × Addr)) (fp : List Addr), PTs3 (X.blk s H scope (compEnvC scope cl C X.env) fp) XF ifs tt)
    (he : ∀ (s : Shared) (H : Hp) (C : Addr) (cl : List (Str × Addr)) (fp : List Addr), PE3 (X.blk s H scope (compEnvC scope cl C X.env) fp) XF elt te) (hs : ∀ x, foldedSetIterable iter X.env x = pure x := by intro _; rfl) (s0 : Shared) :
    PE3 X E (.ListComp elt [⟨tg, iter, ifs, 0⟩] scope pos) (tLc3 ti g tt te (own.map (·.2))) :=
  ⟨mono_tLc3 hi.mono, (pe_lc (g := liftG X.K (own.map (·.2)) g) (tt := lift X.K XF RBl tt) (te := lift X.K XF (Rp X.K) te) hc hN hi.pi ok (fun s H C cl fp => (hg s H C cl fp).pg) (fun s H C cl fp => (ht s H C cl fp).pts) (fun s H C cl fp => (he s H C cl fp).pe) hs).imp fun σ H Q h =>
    lift_lc hi.mono (hg s0 (fun _ => none) 0 [] []).mono (ht s0 (fun _ => none) 0 [] []).mono (he s0 (fun _ => none) 0 [] []).mono h⟩
theorem setLc3 (i : Nat) {y : Str} {py : Pos} {scope : Scope} {own : List (Str × Nat)} {spos : Pos} (hc : X.calm = true) (hN : X.N.Nodup) (hi : PI3 X E tg iter ti) (ok : BlkOk X.N X.env.scope scope own)
    (hg : ∀ (s : Shared) (H : Hp) (C : Addr) (cl : List (Str × Addr)) (fp : List Addr), PG3 (X.blk s H scope (compEnvC scope cl C X.env) fp) (own.map (·.2)) tg g)
    (ht : ∀ (s : Shared) (H : Hp) (C : Addr) (cl : List (Str × Addr)) (fp : List Addr), PTs3 (X.blk s H scope (compEnvC scope cl C X.env) fp) XF ifs tt)
    (he : ∀ (s : Shared) (H : Hp) (C : Addr) (cl : List (Str × Addr)) (fp : List Addr), PE3 (X.blk s H scope (compEnvC scope cl C X.env) fp) XF elt te) (s0 : Shared)
    (hsw : swapsWith (.ListComp elt [⟨tg, iter, ifs, 0⟩] scope pos) (some (.Name y py)) spos.line X.env = pure true) (hy : X.N[i]? = some y := by rfl) (hyl : X.env.scope.names.lookup y = some .local := by rfl) (hs : ∀ x, foldedSetIterable iter X.env x = pure x := by intro _; rfl) :
    PS3 X E (.Assign [.Name y py] (.ListComp elt [⟨tg, iter, ifs, 0⟩] scope pos) spos) (tAsg3 (tLc3 ti g tt te (own.map (·.2))) (gName3 i)) := by
  refine ⟨fun _ _ _ _ _ hx hd q => mono_tLc3 hi.mono _ _ _ _ _ hx (fun x δ1 => hd.nx _) q, (ps_setLc (g := liftG X.K (own.map (·.2)) g) (tt := lift X.K XF RBl tt) (te := lift X.K XF (Rp X.K) te) hc hN hy hyl hsw hi.pi ok (fun s H C cl fp => (hg s H C cl fp).pg) (fun s H C cl fp => (ht s H C cl fp).pts) (fun s H C cl fp => (he s H C cl fp).pe) hs).imp fun D σ H h => ?_⟩
  refine lift_lc hi.mono (hg s0 (fun _ => none) 0 [] []).mono (ht s0 (fun _ => none) 0 [] []).mono (he s0 (fun _ => none) 0 [] []).mono ?_
  obtain ⟨π, F, ρ, δ, rel, q⟩ := h
  exact ⟨π, F, ρ, δ, rel, mono_tLc3 hi.mono _ _ _ _ _ (fun _ z => z) (fun x δ1 q v H1 ρ1 e1 rel1 r1 => q _ H1 _ (e1.trans Ext.drop) (rel1.setD r1)) q⟩
end
end M3

set_option Elab.async false
set_option linter.all false
set_option maxRecDepth 100000
namespace M3
open PySem L2

/-! ## promises of defs, calls -/
/-- the arguments; what is wanted of the answer and of the owned arguments' last contents; of exceptions -/
abbrev Sp3 := List W → (R3 → List Ob → Prop) → (Ex3 → Prop) → Prop
/-- a promise asks no more where less is wanted -/
def MonoP (sp : Sp3) : Prop := ∀ ws Q Q' E E', (∀ r os, Q r os → Q' r os) → (∀ e, E e → E' e) → sp ws Q E → sp ws Q' E'
/-- the owned arguments: position by position -/
def tagged : Nat → List W → Prop
  | _, [] => True
  | p, .d _ :: r => tagged (p + 1) r
  | p, .ro _ :: r => tagged (p + 1) r
  | p, .own t _ :: r => t = p + 1 ∧ tagged (p + 1) r
/-- the last contents of the owned arguments, off the slots -/
def outs : Nat → List W → Sl → (List Ob → Prop) → Prop
  | _, [], _, k => k []
  | p, .d _ :: r, δ, k => outs (p + 1) r δ k
  | p, .ro _ :: r, δ, k => outs (p + 1) r δ k
  | p, .own _ _ :: r, δ, k => match δ[p]? with
    | some (some (.own t o)) => t = p + 1 ∧ outs (p + 1) r δ fun os => k (o :: os)
    | _ => False
def OutsOk (K : PySem.W.Frag) (π : Rho) (F : Addr → Prop) (ρ' : Rho) (H' : Hp) : Nat → List W → List Ob → Prop
  | _, [], os => os = []
  | p, .d _ :: r, os => OutsOk K π F ρ' H' (p + 1) r os
  | p, .ro _ :: r, os => OutsOk K π F ρ' H' (p + 1) r os
  | p, .own _ _ :: r, os => ∃ o os' a, os = o :: os' ∧ π p = some a ∧ Ow ρ' a ∧ ObOk K (Ox F ρ') H' a o ∧ OutsOk K π F ρ' H' (p + 1) r os'
def liftF (K : PySem.W.Frag) (sp : Sp3) : Sp := fun vs H Q E => ∃ π F ρ ws, Rel K π F ρ H (vs.map some) (ws.map some) ∧ tagged 0 ws ∧ (∀ k, ws.length ≤ k → ρ k = none) ∧
  sp ws (fun r os => ∀ v H' ρ', Ex F ρ H ρ' H' → OutsOk K π F ρ' H' 0 ws os → (∀ a, Ox F ρ' a → ∃ o, H' a = some o) → (∀ a, F a → ¬ Ow ρ' a) → RpR K π F ρ' H' v r → Q v H') (liftX K E F ρ H)
theorem outs_ok {K : PySem.W.Frag} {π : Rho} {F : Addr → Prop} {ρ' : Rho} {H' : Hp} {σ' : St} {δ' : Sl} (rel : Rel K π F ρ' H' σ' δ') : ∀ (ws : List W) (p : Nat) (k : List Ob → Prop), outs p ws δ' k → ∃ os, k os ∧ OutsOk K π F ρ' H' p ws os
  | [], p, k, h => ⟨[], h, rfl⟩
  | .d _ :: r, p, k, h => outs_ok rel r (p + 1) k h
  | .ro _ :: r, p, k, h => outs_ok rel r (p + 1) k h
  | .own _ _ :: r, p, k, h => by
    unfold outs at h
    split at h
    · rename_i t o e
      obtain ⟨ht, h⟩ := h
      obtain ⟨os, h1, h2⟩ := outs_ok rel r (p + 1) _ h
      obtain ⟨a, k1, k2, k3, k4, k5⟩ := rel.own p t o e
      exact ⟨o :: os, h1, o, os, a, rfl, k4 p ht, ⟨p, k1⟩, k3, h2⟩
    · exact h.elim
theorem outs_mono : ∀ (ws : List W) (p : Nat) (δ : Sl) (k k' : List Ob → Prop), (∀ os, k os → k' os) → outs p ws δ k → outs p ws δ k'
  | [], _, _, _, _, hk, h => hk _ h
  | .d _ :: r, p, δ, k, k', hk, h => outs_mono r (p + 1) δ k k' hk h
  | .ro _ :: r, p, δ, k, k', hk, h => outs_mono r (p + 1) δ k k' hk h
  | .own _ _ :: r, p, δ, k, k', hk, h => by
    unfold outs at h ⊢
    split at h
    · exact ⟨h.1, outs_mono r (p + 1) δ _ _ (fun os => hk _) h.2⟩
    · exact h.elim
/-- the slots at the start -/
def start3 (N : List Str) (ws : List W) : Sl := ws.map some ++ List.replicate (N.length - ws.length) none
theorem Rel.start {K : PySem.W.Frag} {π : Rho} {F : Addr → Prop} {ρ : Rho} {H : Hp} {vs : List V} {ws : List W} (N : List Str) (r : Rel K π F ρ H (vs.map some) (ws.map some)) : Rel K π F ρ H (L2.start N vs) (start3 N ws) := by
  have hl : vs.length = ws.length := by have := r.len; simpa using this
  have get : ∀ (j : Nat) w, (start3 N ws)[j]? = some (some w) → (ws.map some)[j]? = some (some w) := fun j w e => by
    unfold start3 at e
    by_cases hj : j < ws.length
    · rw [List.getElem?_append_left (by simpa using hj)] at e; exact e
    · rw [List.getElem?_append_right (by simp; omega)] at e
      have := List.mem_of_getElem? e
      rw [List.mem_replicate] at this
      exact absurd this.2 (by simp)
  have back : ∀ (j : Nat) v, (vs.map some)[j]? = some (some v) → (L2.start N vs)[j]? = some (some v) := fun j v e => by
    unfold L2.start
    have hj := (List.getElem?_eq_some_iff.mp e).1
    rw [List.getElem?_append_left hj]; exact e
  refine ⟨by unfold L2.start start3; simp [hl], fun j y e => ?_, fun j t o e => ?_, r.inj, r.trk, r.dis, r.pit⟩
  · obtain ⟨v, h1, h2⟩ := r.dat j y (get j _ e)
    exact ⟨v, back j v h1, h2⟩
  · obtain ⟨a, h1, h2, h3⟩ := r.own j t o (get j _ e)
    exact ⟨a, h1, back j _ h2, h3⟩
/-- THE RULE for a def that raises nothing -/
theorem fn3 {P : Program} {w : World} {K : PySem.W.Frag} {mg : Str → Option Value} {base : Heap} {x qual : Str} {st : Stmt} {f : Addr} {fd : FuncData} {N ps : List Str} {k : Nat} {sp : Sp3} (F : Fun K x qual st f fd) (S : FnScope N ps (defScope st)) (len : ∀ ws Q E, sp ws Q E → ws.length = ps.length)
    (hbody : ∀ (cdv : Value) (A : Around) (outer : List Env) (s : Shared) (H : Hp) (E : XK), Room k (A.deeper (PyProof.Rows.envOfC qual (defScope st) s.heap.objs.size f cdv)) →
      ∃ t, PSs3 (cxOf CX0 P w K mg base N qual (defScope st) f cdv A outer s H E).nox XF (defBody st) t ∧ ∀ ws Q, sp ws Q (fun _ => False) → tagged 0 ws → t (fun _ => False) { nx := fun δ => outs 0 ws δ (Q (.d .none)), rt := fun r δ => outs 0 ws δ (Q r) } (start3 N ws))
    (mp : MonoP sp) : FnOk P w K mg base CX0 (k + 1) f fd ps (liftF K (fun ws Q E => sp ws Q (fun _ => False))) := by
  refine F.ok S (fun vs H Q E h => ?_) (fun cdv A outer s H vs Q E hr h => ?_)
  · obtain ⟨π, Fo, ρ, ws, rel, _, _, h⟩ := h
    rw [← len ws _ _ h]
    simpa using rel.len
  · obtain ⟨π, Fo, ρ, ws, rel, tg, hk, h⟩ := h
    obtain ⟨t, h1, h2⟩ := hbody cdv A outer s H E hr
    refine ⟨_, h1.ps, π, Fo, ρ, _, rel.start N, h1.mono _ _ _ _ _ (fun _ z => z.elim) ⟨fun δ q σ' H' ρ' e' rel' => ?_, fun r δ q v σ' H' ρ' e' rel' rr => ?_, fun _ (z : False) => z.elim, fun _ (z : False) => z.elim⟩ (h2 ws _ h tg)⟩
    · obtain ⟨os, q1, q2⟩ := outs_ok rel' ws 0 _ q
      exact q1 .non H' ρ' e' q2 rel'.trk rel'.dis .non
    · obtain ⟨os, q1, q2⟩ := outs_ok rel' ws 0 _ q
      exact q1 v H' ρ' e' q2 rel'.trk rel'.dis rr

/-! ## arguments of a call: data, or owned objects by their slots -/
inductive ArgOk (K : PySem.W.Frag) (O : Addr → Prop) (H : Hp) (σ : St) : List (Option Nat) → List V → List DV → Prop
  | nil : ArgOk K O H σ [] [] []
  | d {v : V} {x : DV} {pat : List (Option Nat)} {vs : List V} {ds : List DV} : RpV K O H v x → ArgOk K O H σ pat vs ds → ArgOk K O H σ (none :: pat) (v :: vs) (x :: ds)
  | r {v : V} {i : Nat} {pat : List (Option Nat)} {vs : List V} {ds : List DV} : σ[i]? = some (some v) → ArgOk K O H σ pat vs ds → ArgOk K O H σ (some i :: pat) (v :: vs) ds
theorem ArgOk.ext {K : PySem.W.Frag} {P O O' : Addr → Prop} {H H' : Hp} {σ : St} {pat : List (Option Nat)} {vs : List V} {ds : List DV} (e : Ext P O H O' H') (po : ∀ b, P b → O b) (h : ArgOk K O H σ pat vs ds) : ArgOk K O' H' σ pat vs ds := by
  induction h with
  | nil => exact .nil
  | d r _ ih => exact .d (r.ext e po) ih
  | r q _ ih => exact .r q ih
abbrev TV3 := G3 (List DV)
def liftA (K : PySem.W.Frag) (E : XK) (pat : List (Option Nat)) (t : TV3) : TA := fun σ H Q =>
  ∃ π F ρ δ, Rel K π F ρ H σ δ ∧ t (liftX K E F ρ H) δ fun ds δ' => ∀ vs H' ρ', Ex F ρ H ρ' H' → Rel K π F ρ' H' σ δ' → ArgOk K (Ox F ρ') H' σ pat vs ds → Q vs H'
structure PAr (X : Cx) (E : XK) (es : List Expr) (pat : List (Option Nat)) (t : TV3) : Prop where
  mono : Mono3 t
  pa : PA X es (liftA X.K E pat t)
section
variable {X : Cx} {E : XK} {a b c e : Expr} {es : List Expr} {te : T3} {t : TV3} {pat : List (Option Nat)} {pos : Pos}
def tNilV : TV3 := fun _ δ Q => Q [] δ
def tConsV (ta : T3) (tr : TV3) : TV3 := fun E δ Q => ta E δ fun x δ1 => tr E δ1 fun xs δ2 => Q (.d x :: xs) δ2
theorem rn3 : PAr X E [] [] tNilV := ⟨fun _ _ _ _ _ _ hq q => hq _ _ q, pa_nil.imp fun σ H Q h => by
  obtain ⟨π, F, ρ, δ, rel, q⟩ := h
  exact q [] H ρ Ext.refl rel .nil⟩
theorem rd3 (ha : PE3 X E e te) (hr : PAr X E es pat t) (hs : starEach (e :: es) X.env = (false, eval e X.env) :: starEach es X.env := by rfl) : PAr X E (e :: es) (none :: pat) (tConsV te t) := by
  refine ⟨fun _ _ _ _ _ he hq q => ha.mono _ _ _ _ _ he (fun x δ1 => hr.mono _ _ _ _ _ he fun xs δ2 => hq _ _) q, (pa_cons ha.pe hr.pa hs).imp fun σ H Q h => ?_⟩
  obtain ⟨π, F, ρ, δ, rel, q⟩ := h
  refine ⟨π, F, ρ, δ, rel, ha.mono _ _ _ _ _ (fun _ z => z) (fun x δ1 q v H1 ρ1 e1 rel1 r1 => ?_) q⟩
  refine ⟨π, F, ρ1, δ1, rel1, hr.mono _ _ _ _ _ (liftX.mono e1) (fun y δ2 q us H2 ρ2 e2 rel2 r2 => ?_) q⟩
  exact q (v :: us) H2 ρ2 (e1.trans e2) rel2 (.d (x := .d x) (r1.ext (e2.frn) fun _ => .inl) r2)
/-- an owned object handed on -/
theorem ro3 (i : Nat) {x : Str} {pos' : Pos} (hr : PAr X E es pat t) (hN : X.N[i]? = some x := by rfl) (hv : Vis X.env.scope x := by first | exact Or.inl rfl | exact Or.inr (Or.inl rfl) | exact Or.inr (Or.inr rfl)) (hd : (x == ("__debug__" : Str)) = false := by decide)
    (hcd : (x == ("__classdict__" : Str)) = false := by decide) (hs : starEach (.Name x pos' :: es) X.env = (false, eval (.Name x pos') X.env) :: starEach es X.env := by rfl) : PAr X E (.Name x pos' :: es) (some i :: pat) (fun E δ Q => onOwn δ i fun _ _ => t E δ Q) := by
  refine ⟨fun _ _ _ _ _ he hq q => ?_, (pa_cons (pe_var hN hv hd hcd) hr.pa hs).imp fun σ H Q h => ?_⟩
  · obtain ⟨t, o, e, q⟩ := q.to
    exact onOwn.of e (hr.mono _ _ _ _ _ he hq q)
  · obtain ⟨π, F, ρ, δ, rel, q⟩ := h
    obtain ⟨t, o, e, q⟩ := q.to
    obtain ⟨a, _, hσ, _⟩ := rel.own i _ _ e
    refine ⟨_, hσ, π, F, ρ, δ, rel, hr.mono _ _ _ _ _ (fun _ z => z) (fun y δ2 q us H2 ρ2 e2 rel2 r2 => ?_) q⟩
    exact q (_ :: us) H2 ρ2 e2 rel2 (.r hσ r2)
/-- a list that is only read, handed on -/
def onRo (δ : Sl) (i : Nat) (k : List D → Prop) : Prop := match δ[i]? with | some (some (.ro xs)) => k xs | _ => False
theorem onRo.to {δ : Sl} {i : Nat} {k : List D → Prop} (h : onRo δ i k) : ∃ xs, δ[i]? = some (some (.ro xs)) ∧ k xs := by
  unfold onRo at h
  split at h
  · exact ⟨_, by assumption, h⟩
  · exact h.elim
theorem onRo.of {δ : Sl} {i : Nat} {xs : List D} {k : List D → Prop} (e : δ[i]? = some (some (.ro xs))) (h : k xs) : onRo δ i k := by
  unfold onRo
  rw [e]
  exact h
theorem rr3 (i : Nat) {x : Str} {pos' : Pos} (hr : PAr X E es pat t) (hN : X.N[i]? = some x := by rfl) (hv : Vis X.env.scope x := by first | exact Or.inl rfl | exact Or.inr (Or.inl rfl) | exact Or.inr (Or.inr rfl)) (hd : (x == ("__debug__" : Str)) = false := by decide)
    (hcd : (x == ("__classdict__" : Str)) = false := by decide) (hs : starEach (.Name x pos' :: es) X.env = (false, eval (.Name x pos') X.env) :: starEach es X.env := by rfl) : PAr X E (.Name x pos' :: es) (none :: pat) (fun E δ Q => onRo δ i fun xs => t E δ fun ys δ1 => Q (.ro xs :: ys) δ1) := by
  refine ⟨fun _ _ _ _ _ he hq q => ?_, (pa_cons (pe_var hN hv hd hcd) hr.pa hs).imp fun σ H Q h => ?_⟩
  · obtain ⟨xs, e, q⟩ := q.to
    exact onRo.of e (hr.mono _ _ _ _ _ he (fun ys δ1 => hq _ _) q)
  · obtain ⟨π, F, ρ, δ, rel, q⟩ := h
    obtain ⟨xs, e, q⟩ := q.to
    obtain ⟨v, hσ, rv⟩ := rel.dat i (.ro xs) e
    refine ⟨_, hσ, π, F, ρ, δ, rel, hr.mono _ _ _ _ _ (fun _ z => z) (fun y δ2 q us H2 ρ2 e2 rel2 r2 => ?_) q⟩
    exact q (_ :: us) H2 ρ2 e2 rel2 (.d (x := .ro xs) (rv.ext (e2.frn) fun _ => .inl) r2)
end
/-- the callee's arguments -/
def mkW : List (Option Nat) → List DV → Sl → Nat → (List W → Prop) → Prop
  | [], [], _, _, k => k []
  | none :: ps, x :: xs, δ, p, k => mkW ps xs δ (p + 1) fun ws => k (x.w :: ws)
  | some i :: ps, xs, δ, p, k => match δ[i]? with
    | some (some (.own _ o)) => mkW ps xs δ (p + 1) fun ws => k (.own (p + 1) o :: ws)
    | _ => False
  | _, _, _, _, _ => False
/-- the last contents put back -/
def putO : Sl → Nat → Ob → Sl
  | [], _, _ => []
  | x :: r, 0, o => (match x with | some (.own t _) => some (.own t o) | y => y) :: r
  | x :: r, n + 1, o => x :: putO r n o
theorem putO_eq : ∀ (δ : Sl) (i : Nat) (o : Ob), putO δ i o = (match δ[i]? with | some (some (.own t _)) => δ.set i (some (.own t o)) | _ => δ)
  | [], i, o => by simp [putO]
  | x :: r, 0, o => by
    simp only [putO, List.getElem?_cons_zero, List.set_cons_zero]
    cases x with
    | none => rfl
    | some w => cases w <;> rfl
  | x :: r, n + 1, o => by
    simp only [putO, List.getElem?_cons_succ, List.set_cons_succ]
    rw [putO_eq r n o]
    rcases r[n]? with _ | _ | _ <;> first | rfl | (rename_i z; cases z <;> rfl)
def putB : List (Option Nat) → Sl → List Ob → Sl
  | [], δ, _ => δ
  | none :: ps, δ, os => putB ps δ os
  | some i :: ps, δ, o :: os => putB ps (putO δ i o) os
  | some _ :: _, δ, [] => δ
def retD (r : R3) (k : D → Prop) : Prop := match r with
  | .d x => k x
  | .own (.lst xs) => k (.list xs)
  | _ => False
def tCall3 (sp : Sp3) (pat : List (Option Nat)) (t : TV3) : T3 := fun E δ Q => t E δ fun ds δ1 => mkW pat ds δ1 0 fun ws => sp ws (fun r os => retD r fun x => Q x (putB pat δ1 os)) E
def tCallO (sp : Sp3) (pat : List (Option Nat)) (t : TV3) : TW3 := fun E δ Q => t E δ fun ds δ1 => mkW pat ds δ1 0 fun ws => sp ws (fun r os => match r with | .own o => Q o (putB pat δ1 os) | _ => False) E
end M3

set_option Elab.async false
set_option linter.all false
set_option maxRecDepth 100000
namespace M3
open PySem L2

inductive Args (K : PySem.W.Frag) (O : Addr → Prop) (H : Hp) (σ : St) (δ : Sl) : Nat → List (Option Nat) → List V → List W → Prop
  | nil {p : Nat} : Args K O H σ δ p [] [] []
  | d {p : Nat} {v : V} {x : DV} {pat : List (Option Nat)} {vs : List V} {ws : List W} : RpV K O H v x → Args K O H σ δ (p + 1) pat vs ws → Args K O H σ δ p (none :: pat) (v :: vs) (x.w :: ws)
  | r {p : Nat} {v : V} {i t : Nat} {o : Ob} {pat : List (Option Nat)} {vs : List V} {ws : List W} : σ[i]? = some (some v) → δ[i]? = some (some (.own t o)) → Args K O H σ δ (p + 1) pat vs ws → Args K O H σ δ p (some i :: pat) (v :: vs) (.own (p + 1) o :: ws)
theorem args_of {K : PySem.W.Frag} {O : Addr → Prop} {H : Hp} {σ : St} {δ : Sl} {pat : List (Option Nat)} {vs : List V} {ds : List DV} (h : ArgOk K O H σ pat vs ds) : ∀ (p : Nat) (k : List W → Prop), mkW pat ds δ p k → ∃ ws, k ws ∧ Args K O H σ δ p pat vs ws := by
  induction h with
  | nil => intro p k h; exact ⟨[], h, .nil⟩
  | d r _ ih =>
    intro p k h
    obtain ⟨ws, h1, h2⟩ := ih (p + 1) _ h
    exact ⟨_, h1, .d r h2⟩
  | @r v i pat vs ds hσ _ ih =>
    intro p k h
    unfold mkW at h
    split at h
    · rename_i t o e
      obtain ⟨ws, h1, h2⟩ := ih (p + 1) _ h
      exact ⟨_, h1, .r hσ e h2⟩
    · exact h.elim
section
variable {K : PySem.W.Frag} {O : Addr → Prop} {H : Hp} {σ : St} {δ : Sl} {p : Nat} {pat : List (Option Nat)} {vs : List V} {ws : List W}
theorem Args.len (h : Args K O H σ δ p pat vs ws) : vs.length = ws.length ∧ pat.length = ws.length := by
  induction h with
  | nil => exact ⟨rfl, rfl⟩
  | d _ _ ih => exact ⟨congrArg (· + 1) ih.1, congrArg (· + 1) ih.2⟩
  | r _ _ _ ih => exact ⟨congrArg (· + 1) ih.1, congrArg (· + 1) ih.2⟩
theorem Args.tagged (h : Args K O H σ δ p pat vs ws) : M3.tagged p ws := by
  induction h with
  | nil => trivial
  | @d _ _ x _ _ _ _ _ ih => cases x <;> exact ih
  | r _ _ _ ih => exact ⟨rfl, ih⟩
theorem Args.dat (h : Args K O H σ δ p pat vs ws) : ∀ (j : Nat) (x : DV), ws[j]? = some x.w → ∃ v, vs[j]? = some v ∧ RpV K O H v x := by
  induction h with
  | nil => intro j x e; simp at e
  | @d _ _ y _ _ _ r _ ih =>
    intro j x e
    cases j with
    | zero =>
      have e' : y = x := by cases y <;> cases x <;> simp [DV.w] at e <;> simp [e]
      subst e'; exact ⟨_, rfl, r⟩
    | succ j => obtain ⟨v, h1, h2⟩ := ih j x (by simpa using e); exact ⟨v, by simpa using h1, h2⟩
  | r _ _ _ ih =>
    intro j x e
    cases j with
    | zero => cases x <;> simp [DV.w] at e
    | succ j => obtain ⟨v, h1, h2⟩ := ih j x (by simpa using e); exact ⟨v, by simpa using h1, h2⟩
theorem Args.own (h : Args K O H σ δ p pat vs ws) : ∀ (j : Nat) t o, ws[j]? = some (.own t o) → ∃ i v t0, pat[j]? = some (some i) ∧ t = p + j + 1 ∧ vs[j]? = some v ∧ σ[i]? = some (some v) ∧ δ[i]? = some (some (.own t0 o)) := by
  induction h with
  | nil => intro j t o e; simp at e
  | @d _ _ y _ _ _ r _ ih =>
    intro j t o e
    cases j with
    | zero => cases y <;> simp [DV.w] at e
    | succ j => obtain ⟨i, v, t0, h1, h2, h3⟩ := ih j t o (by simpa using e); exact ⟨i, v, t0, by simpa using h1, by omega, by simpa using h3⟩
  | r hσ hδ _ ih =>
    intro j t o e
    cases j with
    | zero => simp at e; obtain ⟨rfl, rfl⟩ := e; exact ⟨_, _, _, rfl, rfl, rfl, hσ, hδ⟩
    | succ j => obtain ⟨i, v, t0, h1, h2, h3⟩ := ih j t o (by simpa using e); exact ⟨i, v, t0, by simpa using h1, by omega, by simpa using h3⟩
end
def piC (pat : List (Option Nat)) (ρ : Rho) : Rho := fun j => (pat[j]?).join.bind ρ
theorem piC_some {pat : List (Option Nat)} {ρ : Rho} {j : Nat} {a : Addr} (h : piC pat ρ j = some a) : ∃ i, pat[j]? = some (some i) ∧ ρ i = some a := by
  unfold piC at h
  cases q : pat[j]? with
  | none => rw [q] at h; cases h
  | some o =>
    rw [q] at h
    cases o with
    | none => cases h
    | some i => exact ⟨i, rfl, h⟩
theorem refs_inj : ∀ {pat : List (Option Nat)}, (pat.filterMap id).Nodup → ∀ {j l i : Nat}, pat[j]? = some (some i) → pat[l]? = some (some i) → j = l
  | [], _, _, _, _, h, _ => by simp at h
  | none :: r, nd, j, l, i, h1, h2 => by
    cases j with
    | zero => simp at h1
    | succ j => cases l with
      | zero => simp at h2
      | succ l => exact congrArg (· + 1) (refs_inj (pat := r) (by simpa using nd) (i := i) (by simpa using h1) (by simpa using h2))
  | some k :: r, nd, j, l, i, h1, h2 => by
    have nd' : k ∉ r.filterMap id ∧ (r.filterMap id).Nodup := by simpa using nd
    have mem : ∀ {m : Nat}, r[m]? = some (some i) → i ∈ r.filterMap id := fun h => List.mem_filterMap.mpr ⟨some i, List.mem_of_getElem? h, rfl⟩
    cases j with
    | zero => cases l with
      | zero => rfl
      | succ l =>
        simp at h1 h2
        subst h1
        exact absurd (mem h2) nd'.1
    | succ j => cases l with
      | zero =>
        simp at h1 h2
        subst h2
        exact absurd (mem h1) nd'.1
      | succ l => exact congrArg (· + 1) (refs_inj (pat := r) nd'.2 (i := i) (by simpa using h1) (by simpa using h2))
/-! a call's state: what the callee may change is passed -/
section
variable {K : PySem.W.Frag} {π : Rho} {F : Addr → Prop} {ρ : Rho} {H H' : Hp} {σ : St} {δ : Sl} {pat : List (Option Nat)} {vs : List V} {ws : List W}
def FC (F : Addr → Prop) (ρ : Rho) (pat : List (Option Nat)) : Addr → Prop := fun b => F b ∨ (Ow ρ b ∧ ¬ Ow (piC pat ρ) b)
theorem piC_le : ∀ b, Ow (piC pat ρ) b → Ow ρ b := fun b ⟨j, h⟩ => let ⟨i, _, h2⟩ := piC_some h; ⟨i, h2⟩
theorem oxC_iff {b : Addr} : Ox (FC F ρ pat) (piC pat ρ) b ↔ Ox F ρ b := by
  constructor
  · rintro (h | h | h)
    · exact .inl (piC_le b h)
    · exact .inr h
    · exact .inl h.1
  · rintro (h | h)
    · by_cases z : Ow (piC pat ρ) b
      · exact .inl z
      · exact .inr (.inr ⟨h, z⟩)
    · exact .inr (.inl h)
theorem Args.rel (h : Args K (Ox F ρ) H σ δ 0 pat vs ws) (r : Rel K π F ρ H σ δ) (nd : (pat.filterMap id).Nodup) : Rel K (piC pat ρ) (FC F ρ pat) (piC pat ρ) H (vs.map some) (ws.map some) := by
  have le : ∀ b, Ox (FC F ρ pat) (piC pat ρ) b → Ox F ρ b := fun b => oxC_iff.mp
  refine ⟨by simp [h.len.1], fun j x e => ?_, fun j t o e => ?_, fun j l a h1 h2 => ?_, fun b z => r.trk b (le b z), fun b z q => ?_, fun p a z => ?_⟩
  · have e' : ws[j]? = some x.w := by simpa using e
    obtain ⟨v, h1, h2⟩ := h.dat j x e'
    exact ⟨v, by simp [h1], h2.mono le⟩
  · have e' : ws[j]? = some (.own t o) := by simpa using e
    obtain ⟨i, v, t0, h1, h2, h3, h4, h5⟩ := h.own j t o e'
    obtain ⟨a, k1, k2, k3, k4⟩ := r.own i t0 o h5
    rw [h4] at k2; cases k2
    have pj : piC pat ρ j = some a := by unfold piC; rw [h1]; exact k1
    refine ⟨a, pj, by simp [h3], k3.mono le, fun p z => ?_, fun z => by omega⟩
    have : p = j := by omega
    rw [this]; exact pj
  · obtain ⟨i, p1, q1⟩ := piC_some h1
    obtain ⟨i', p2, q2⟩ := piC_some h2
    have := r.inj i i' a q1 q2
    subst this
    exact refs_inj nd p1 p2
  · rcases z with z | z
    · exact r.dis b z (piC_le b q)
    · exact z.2 q
  · exact r.trk a (.inl (piC_le a ⟨p, z⟩))
/-- stale contents at the slots S -/
structure RelX (K : PySem.W.Frag) (π : Rho) (F : Addr → Prop) (ρ : Rho) (H : Hp) (σ : St) (S : Nat → Prop) (δ : Sl) : Prop where
  len : σ.length = δ.length
  dat : ∀ (i : Nat) (x : DV), δ[i]? = some (some x.w) → ∃ v, σ[i]? = some (some v) ∧ RpV K (Ox F ρ) H v x
  own : ∀ (i : Nat) t o, δ[i]? = some (some (.own t o)) → ∃ a, ρ i = some a ∧ σ[i]? = some (some (.ref a)) ∧ (¬ S i → ObOk K (Ox F ρ) H a o) ∧ (∀ p, t = p + 1 → π p = some a) ∧ (t = 0 → ∀ p, π p ≠ some a)
theorem RelX.put {O : Addr → Prop} {πc : Rho} {Fc : Addr → Prop} {ρ' : Rho} (lex : ∀ b, Ox F ρ b → Ox Fc ρ' b) : ∀ {pat : List (Option Nat)} {vs : List V} {ws : List W} {os : List Ob} {p : Nat} {δ0 δ : Sl}, Args K O H σ δ0 p pat vs ws → OutsOk K πc Fc ρ' H' p ws os → (∀ j i : Nat, pat[j]? = some (some i) → πc (p + j) = ρ i) →
    RelX K π F ρ H' σ (fun i => ∃ j : Nat, pat[j]? = some (some i)) δ → RelX K π F ρ H' σ (fun _ => False) (putB pat δ os)
  | [], vs, ws, os, p, δ0, δ, a, oo, hp, r => by
    cases a
    unfold putB
    exact ⟨r.len, r.dat, fun i t o e => by
      obtain ⟨a, h1, h2, h3, h4⟩ := r.own i t o e
      exact ⟨a, h1, h2, fun _ => h3 (fun ⟨j, z⟩ => by simp at z), h4⟩⟩
  | none :: pat, vs, ws, os, p, δ0, δ, a, oo, hp, r => by
    cases a with
    | @d _ _ y _ _ ws' _ a =>
      unfold putB
      have oo' : OutsOk K πc Fc ρ' H' (p + 1) ws' os := by cases y <;> exact oo
      refine RelX.put lex a oo' (fun j i e => ?_) ⟨r.len, r.dat, fun i t o e => ?_⟩
      · have := hp (j + 1) i (by simpa using e)
        rw [show p + 1 + j = p + (j + 1) by omega]; exact this
      · obtain ⟨a, h1, h2, h3, h4⟩ := r.own i t o e
        exact ⟨a, h1, h2, fun n => h3 fun ⟨j, z⟩ => by
          cases j with
          | zero => simp at z
          | succ j => exact n ⟨j, by simpa using z⟩, h4⟩
  | some k :: pat, vs, ws, os, p, δ0, δ, a, oo, hp, r => by
    cases a with
    | @r _ v _ t0 ob0 _ _ _ hσ hδ a =>
      obtain ⟨o, os', b, rfl, hb, ho, hob, oo'⟩ := oo
      unfold putB
      have hk : ρ k = some b := by rw [← hp 0 k (by simp)]; exact hb
      refine RelX.put lex a oo' (fun j i e => ?_) ?_
      · have := hp (j + 1) i (by simpa using e)
        rw [show p + 1 + j = p + (j + 1) by omega]; exact this
      · rw [putO_eq]
        split
        · rename_i t o2 e
          have hl := (List.getElem?_eq_some_iff.mp e).1
          refine ⟨by rw [List.length_set]; exact r.len, fun i x q => ?_, fun i t' o' q => ?_⟩
          · by_cases hi : k = i
            · subst hi; rw [List.getElem?_set_self hl] at q; cases x <;> cases q
            · rw [List.getElem?_set_ne hi] at q; exact r.dat i x q
          · by_cases hi : k = i
            · subst hi
              rw [List.getElem?_set_self hl] at q; cases q
              obtain ⟨a', h1, h2, h3, h4⟩ := r.own k _ _ e
              rw [hk] at h1; cases h1
              exact ⟨b, hk, h2, fun _ => hob.mono lex, h4⟩
            · rw [List.getElem?_set_ne hi] at q
              obtain ⟨a', h1, h2, h3, h4⟩ := r.own i _ _ q
              exact ⟨a', h1, h2, fun n => h3 fun ⟨j, z⟩ => by
                cases j with
                | zero => simp at z; exact hi z
                | succ j => exact n ⟨j, by simpa using z⟩, h4⟩
        · rename_i hno
          refine ⟨r.len, r.dat, fun i t o' e => ?_⟩
          obtain ⟨a, h1, h2, h3, h4⟩ := r.own i t o' e
          exact ⟨a, h1, h2, fun n => h3 fun ⟨j, z⟩ => by
            cases j with
            | zero => simp at z; subst z; exact hno _ _ e
            | succ j => exact n ⟨j, by simpa using z⟩, h4⟩
theorem outs_ow {O : Addr → Prop} {πc : Rho} {Fc : Addr → Prop} {ρ' : Rho} : ∀ {pat : List (Option Nat)} {vs : List V} {ws : List W} {os : List Ob} {p : Nat} {δ0 : Sl}, Args K O H σ δ0 p pat vs ws → OutsOk K πc Fc ρ' H' p ws os → ∀ j i : Nat, pat[j]? = some (some i) → ∃ a, πc (p + j) = some a ∧ Ow ρ' a
  | [], _, _, _, _, _, _, _, j, i, e => by simp at e
  | none :: pat, _, _, _, p, _, a, oo, j, i, e => by
    cases a with
    | @d _ _ y _ _ _ _ a => cases j with
      | zero => simp at e
      | succ j =>
        rw [show p + (j + 1) = p + 1 + j by omega]
        exact outs_ow a (by cases y <;> exact oo) j i (by simpa using e)
  | some k :: pat, _, _, _, p, _, a, oo, j, i, e => by
    cases a with
    | r _ _ a =>
      obtain ⟨o, os', b, rfl, hb, ho, _, oo'⟩ := oo
      cases j with
      | zero => exact ⟨b, hb, ho⟩
      | succ j => rw [show p + (j + 1) = p + 1 + j by omega]; exact outs_ow a oo' j i (by simpa using e)
theorem Args.lt {O : Addr → Prop} {p : Nat} (h : Args K O H σ δ p pat vs ws) : ∀ j i : Nat, pat[j]? = some (some i) → i < δ.length := by
  induction h with
  | nil => intro j i e; simp at e
  | d _ _ ih => intro j i e; cases j with
    | zero => simp at e
    | succ j => exact ih j i (by simpa using e)
  | r _ hδ _ ih => intro j i e; cases j with
    | zero => simp at e; subst e; exact (List.getElem?_eq_some_iff.mp hδ).1
    | succ j => exact ih j i (by simpa using e)
/-- behind the call, where ρ2 owns what ρ owned and perhaps new things -/
theorem Args.after {ρ' ρ2 : Rho} {os : List Ob} (h : Args K (Ox F ρ) H σ δ 0 pat vs ws) (r : Rel K π F ρ H σ δ) (e : Ex (FC F ρ pat) (piC pat ρ) H ρ' H') (oo : OutsOk K (piC pat ρ) (FC F ρ pat) ρ' H' 0 ws os)
    (agree : ∀ i, i < δ.length → ρ2 i = ρ i) (inj2 : ∀ i j a, ρ2 i = some a → ρ2 j = some a → i = j) (ow2 : ∀ b, Ow ρ2 b → Ow ρ b ∨ (H b = none ∧ Ow ρ' b)) (trk2 : ∀ b, Ow ρ' b → ∃ o, H' b = some o) :
    Rel K π F ρ2 H' σ (putB pat δ os) ∧ Ex F ρ H ρ2 H' ∧ ∀ b, Ox F ρ2 b → Ox (FC F ρ pat) ρ' b := by
  have lex : ∀ b, Ox F ρ b → Ox (FC F ρ pat) ρ' b := fun b z => by
    rcases oxC_iff (pat := pat) |>.mpr z with ⟨j, q⟩ | q
    · obtain ⟨i, q1, q2⟩ := piC_some q
      obtain ⟨a, h1, h2⟩ := outs_ow h oo j i q1
      rw [Nat.zero_add, q] at h1; cases h1
      exact .inl h2
    · exact .inr q
  have lex2 : ∀ b, Ox F ρ2 b → Ox (FC F ρ pat) ρ' b := fun b z => by
    rcases z with z | z
    · rcases ow2 b z with z | z
      · exact lex b (.inl z)
      · exact .inl z.2
    · exact lex b (.inr z)
  have ex : Ex F ρ H ρ2 H' := ⟨fun b o hb n => e.fr b o hb fun z => n (piC_le b z), fun b z => (ow2 b z).imp id fun z => z.1, e.tk⟩
  have ex' := ex.frn (F := F)
  have base : RelX K π F ρ2 H' σ (fun i => ∃ j : Nat, pat[j]? = some (some i)) δ := ⟨r.len, fun i x q => by
      obtain ⟨v, h1, h2⟩ := r.dat i x q
      exact ⟨v, h1, h2.ext ex' fun _ => .inl⟩, fun i t o q => by
      obtain ⟨a, h1, h2, h3, h4⟩ := r.own i t o q
      refine ⟨a, by rw [agree i (List.getElem?_eq_some_iff.mp q).1]; exact h1, h2, fun n => h3.extG ex' (fun _ => .inl) fun u hu => e.fr a u hu fun ⟨j, z⟩ => ?_, h4⟩
      obtain ⟨i', z1, z2⟩ := piC_some z
      have := r.inj i i' a h1 z2
      subst this
      exact n ⟨j, z1⟩⟩
  have fin := RelX.put lex2 h oo (fun j i q => by rw [Nat.zero_add, agree i (h.lt j i q)]; unfold piC; rw [q]; rfl) base
  refine ⟨⟨fin.len, fin.dat, fun i t o q => ?_, inj2, fun b z => ?_, fun b z q => ?_, fun p b z => ?_⟩, ex, lex2⟩
  · obtain ⟨a, h1, h2, h3, h4⟩ := fin.own i t o q
    exact ⟨a, h1, h2, h3 id, h4⟩
  · rcases z with z | z
    · rcases ow2 b z with z | z
      · obtain ⟨u, hu⟩ := r.trk b (.inl z); exact ex.tk b u hu
      · exact trk2 b z.2
    · obtain ⟨u, hu⟩ := r.trk b (.inr z); exact ex.tk b u hu
  · rcases ow2 b q with q | q
    · exact r.dis b z q
    · obtain ⟨u, hu⟩ := r.trk b (.inr z); rw [q.1] at hu; cases hu
  · obtain ⟨u, hu⟩ := r.pit p b z; exact ex.tk b u hu
end
section
variable {X : Cx} {E : XK} {CX : CXT} {k : Nat} {f : Addr} {fd : FuncData} {ps : List Str} {sp : Sp3} {e : Expr} {es : List Expr} {x : Str} {p pos : Pos} {pat : List (Option Nat)} {t : TV3}
theorem liftX.call {K : PySem.W.Frag} {F : Addr → Prop} {ρ : Rho} {H : Hp} {pat : List (Option Nat)} : ∀ ex, liftX K E F ρ H ex → liftX K E (FC F ρ pat) (piC pat ρ) H ex :=
  fun ex h d H' ρ' e x => h d H' ρ ⟨fun b o hb n => e.fr b o hb fun z => n (piC_le b z), fun _ z => .inl z, e.tk⟩ x
theorem mkW_mono {k k' : List W → Prop} (hk : ∀ ws, k ws → k' ws) : ∀ (pat : List (Option Nat)) (ds : List DV) (δ : Sl) (p : Nat), mkW pat ds δ p k → mkW pat ds δ p k'
  | [], [], _, _, h => hk _ h
  | none :: ps, x :: xs, δ, p, h => mkW_mono (fun ws => hk _) ps xs δ (p + 1) h
  | some i :: ps, xs, δ, p, h => by
    unfold mkW at h ⊢
    split at h
    · exact mkW_mono (fun ws => hk _) ps xs δ (p + 1) h
    · exact h.elim
  | [], _ :: _, _, _, h => h.elim
  | none :: _, [], _, _, h => h.elim
theorem retD_mono {r : R3} {k k' : D → Prop} (hk : ∀ x, k x → k' x) (h : retD r k) : retD r k' := by
  unfold retD at h ⊢
  split at h
  · exact hk _ h
  · exact hk _ h
  · exact h.elim
theorem call3 (F : FnOk X.prog X.w X.K X.mg X.base CX k f fd ps (liftF X.K sp)) (mp : MonoP sp) (hr : Room k X.A) (hg : Gl X x) (hm : X.mg x = some (.ref f)) (hk : PySem.W.keepIn X.K (.ref f) = true) (hb : Binds X.K fd ps []) (hx : Passes CX X E)
    (ha : PAr X E (e :: es) pat t) (nd : (pat.filterMap id).Nodup := by decide) (hdb : (x == ("__debug__" : Str)) = false := by decide) (he : starEach (e :: es) X.env = (false, eval e X.env) :: starEach es X.env := by rfl) (hpl : (backTo pos (starEach es X.env)).any (·.1) = false := by rfl) :
    PE3 X E (.Call (.Name x p) (e :: es) [] pos) (tCall3 sp pat t) := by
  refine ⟨fun _ _ _ _ _ he hq q => ha.mono _ _ _ _ _ he (fun ds δ1 => mkW_mono (fun ws => mp _ _ _ _ _ (fun r os => retD_mono fun x => hq _ _) he) _ _ _ _) q, (pe_call F hr hg hm hk hb .nil hx ha.pa hdb he hpl).imp fun σ H Q h => ?_⟩
  obtain ⟨π, Fo, ρ, δ, rel, q⟩ := h
  refine ⟨π, Fo, ρ, δ, rel, ha.mono _ _ _ _ _ (fun _ z => z) (fun ds δ1 q vs H1 ρ1 e1 rel1 ao => ?_) q⟩
  obtain ⟨ws, q, ar⟩ := args_of ao 0 _ q
  rw [List.append_nil]
  have relc := ar.rel rel1 nd
  refine ⟨piC pat ρ1, FC Fo ρ1 pat, piC pat ρ1, ws, relc, ar.tagged, fun j hj => ?_, mp _ _ _ _ _ (fun r os q v H' ρ' e' oo tk ds rr => ?_) (fun ex z => liftX.call ex (liftX.mono e1 ex z)) q⟩
  · unfold piC
    rw [List.getElem?_eq_none (by rw [ar.len.2]; exact hj)]; rfl
  · obtain ⟨r2, ex2, lex⟩ := ar.after rel1 e' oo (fun _ _ => rfl) rel1.inj (fun _ z => .inl z) (fun b z => tk b (.inl z))
    unfold retD at q
    split at q
    · exact q v H' ρ1 (e1.trans ex2) r2 (Rp.mono lex rr)
    · obtain ⟨a, rfl, oa, na, vs', h1, h2⟩ := rr
      refine q _ H' ρ1 (e1.trans ex2) r2 (.lst ⟨h1, fun z => ?_⟩ (h2.mono lex))
      -- the new list is no one's
      have : H1 a = none := by
        rcases e'.ow a oa with w | w
        · obtain ⟨j, w⟩ := w; exact absurd w (na j)
        · exact w
      obtain ⟨u, hu⟩ := rel1.trk a z
      rw [this] at hu; cases hu
    · exact q.elim
theorem callO3 (F : FnOk X.prog X.w X.K X.mg X.base CX k f fd ps (liftF X.K sp)) (mp : MonoP sp) (hr : Room k X.A) (hg : Gl X x) (hm : X.mg x = some (.ref f)) (hk : PySem.W.keepIn X.K (.ref f) = true) (hb : Binds X.K fd ps []) (hx : Passes CX X E)
    (ha : PAr X E (e :: es) pat t) (nd : (pat.filterMap id).Nodup := by decide) (hdb : (x == ("__debug__" : Str)) = false := by decide) (he : starEach (e :: es) X.env = (false, eval e X.env) :: starEach es X.env := by rfl) (hpl : (backTo pos (starEach es X.env)).any (·.1) = false := by rfl) :
    POw X E (.Call (.Name x p) (e :: es) [] pos) (tCallO sp pat t) := by
  refine ⟨fun _ _ _ _ _ he hq q => ha.mono _ _ _ _ _ he (fun ds δ1 => mkW_mono (fun ws => mp _ _ _ _ _ (fun r os z => ?_) he) _ _ _ _) q, (pe_call F hr hg hm hk hb .nil hx ha.pa hdb he hpl).imp fun σ H Q h => ?_⟩
  · cases r with
    | d x => exact z.elim
    | own o => exact hq _ _ z
  obtain ⟨π, Fo, ρ, δ, rel, q⟩ := h
  refine ⟨π, Fo, ρ, δ, rel, ha.mono _ _ _ _ _ (fun _ z => z) (fun ds δ1 q vs H1 ρ1 e1 rel1 ao => ?_) q⟩
  obtain ⟨ws, q, ar⟩ := args_of ao 0 _ q
  rw [List.append_nil]
  have relc := ar.rel rel1 nd
  refine ⟨piC pat ρ1, FC Fo ρ1 pat, piC pat ρ1, ws, relc, ar.tagged, fun j hj => ?_, mp _ _ _ _ _ (fun r os q v H' ρ' e' oo tk ds rr => ?_) (fun ex z => liftX.call ex (liftX.mono e1 ex z)) q⟩
  · unfold piC
    rw [List.getElem?_eq_none (by rw [ar.len.2]; exact hj)]; rfl
  · cases r with
    | d x => exact q.elim
    | own o =>
      obtain ⟨a, rfl, oa, na, ho⟩ := rr
      have hn : H1 a = none := by
        rcases e'.ow a oa with w | w
        · obtain ⟨j, w⟩ := w; exact absurd w (na j)
        · exact w
      have nr : ∀ j, ρ1 j ≠ some a := fun j z => by
        obtain ⟨u, hu⟩ := rel1.trk a (.inl ⟨j, z⟩)
        rw [hn] at hu; cases hu
      have np : ∀ p, π p ≠ some a := fun p z => by
        obtain ⟨u, hu⟩ := rel1.pit p a z
        rw [hn] at hu; cases hu
      obtain ⟨r2, ex2, lex⟩ := ar.after (ρ2 := own1 ρ1 δ1.length a) rel1 e' oo (fun i hi => by unfold own1; rw [if_neg (by omega)]) (fun i j b h1 h2 => by
        unfold own1 at h1 h2
        split at h1
        · cases h1
          split at h2
          · rename_i z1 z2; rw [z1, z2]
          · exact absurd h2 (nr j)
        · split at h2
          · cases h2; exact absurd h1 (nr i)
          · exact rel1.inj i j b h1 h2) (fun b z => (own1_le b z).imp id fun z => by rw [z]; exact ⟨hn, oa⟩) (fun b z => tk b (.inl z))
      have pl : (putB pat δ1 os).length = δ1.length := by rw [← r2.len, rel1.len]
      exact q a H' _ δ1.length (e1.trans ex2) r2 (by rw [pl]; exact Nat.le_refl _) (by unfold own1; rw [if_pos rfl]) np (ho.mono lex)
end
end M3

set_option Elab.async false
set_option linter.all false
set_option maxRecDepth 100000
namespace M3
open PySem L2

/-! ## promises by what is asked and what is told -/
/-- a: what is handed in; tell: what is wanted holds of all that may come back -/
structure Prm where
  ι : Type
  pre : ι → Prop
  args : ι → List W
  tell : ι → (R3 → List Ob → Prop) → Prop
  mono : ∀ a Q Q', (∀ r os, Q r os → Q' r os) → tell a Q → tell a Q'
def Prm.sp (S : Prm) : Sp3 := fun ws Q _ => ∃ a : S.ι, S.pre a ∧ ws = S.args a ∧ S.tell a Q
theorem Prm.monoP (S : Prm) : MonoP S.sp := fun _ _ _ _ _ hq _ ⟨a, h1, h2, h3⟩ => ⟨a, h1, h2, S.mono _ _ _ hq h3⟩
/-- what a body is to reach -/
def ends (ws : List W) (Q : R3 → List Ob → Prop) : End3 where
  nx := fun δ => outs 0 ws δ (Q (.d .none))
  rt := fun r δ => outs 0 ws δ (Q r)
theorem fnS {P : Program} {w : World} {K : PySem.W.Frag} {mg : Str → Option Value} {base : Heap} {x qual : Str} {st : Stmt} {f : Addr} {fd : FuncData} {N ps : List Str} {k : Nat} {S : Prm} (F : Fun K x qual st f fd) (Sc : FnScope N ps (defScope st)) (len : ∀ a, (S.args a).length = ps.length)
    (hbody : ∀ (cdv : Value) (A : Around) (outer : List Env) (s : Shared) (H : Hp) (E : XK), Room k (A.deeper (PyProof.Rows.envOfC qual (defScope st) s.heap.objs.size f cdv)) →
      ∃ t, PSs3 (cxOf CX0 P w K mg base N qual (defScope st) f cdv A outer s H E).nox XF (defBody st) t ∧ ∀ (a : S.ι) (Q : R3 → List Ob → Prop), S.pre a → S.tell a Q → t (fun _ => False) (ends (S.args a) Q) (start3 N (S.args a))) :
    FnOk P w K mg base CX0 (k + 1) f fd ps (liftF K S.sp) := by
  refine fn3 (sp := S.sp) F Sc (fun ws Q E ⟨a, _, h2, _⟩ => by rw [h2]; exact len a) (fun cdv A outer s H E hr => ?_) S.monoP
  obtain ⟨t, h1, h2⟩ := hbody cdv A outer s H E hr
  refine ⟨t, h1, fun ws Q ⟨a, p1, p2, p3⟩ tg => ?_⟩
  subst p2
  exact h2 a Q p1 p3
/-- a plain function of data -/
def PD {ι : Type} (pre : ι → Prop) (args : ι → List D) (res : ι → D) : Prm where
  ι := ι
  pre := pre
  args := fun a => (args a).map .d
  tell := fun a Q => Q (.d (res a)) []
  mono := fun _ _ _ h q => h _ _ q
/-- b: what may come back -/
def PR {ι β : Type} (pre : ι → Prop) (args : ι → List W) (post : ι → β → Prop) (res : ι → β → R3) (out : ι → β → List Ob) : Prm where
  ι := ι
  pre := pre
  args := args
  tell := fun a Q => ∀ b, post a b → Q (res a b) (out a b)
  mono := fun _ _ _ h q b hb => h _ _ (q b hb)
theorem cpw (k : Nat) {i j : Int} (h : i.natAbs < 2 ^ k) (hj : 0 ≤ j) (hk : (k : Int) * j ≤ 2 ^ 27) : CPw i j := by
  refine ⟨hj, Int.le_trans (Int.mul_le_mul_of_nonneg_right (Int.ofNat_le.mpr (PyProof.Rows.intBits_le h)) hj) hk⟩
theorem neverE3 {X : Cx} {E : XK} {e : Expr} : PE3 X E e (fun _ _ _ => False) := ⟨fun _ _ _ _ _ _ _ q => q, ⟨fun _ _ _ _ _ _ ⟨_, _, _, _, _, q⟩ => q.elim⟩⟩
theorem br_t {b : Bool} {A B : Prop} (h : b = true) (a : A) : br b A B := ⟨fun _ => a, fun z => by rw [h] at z; cases z⟩
theorem br_f {b : Bool} {A B : Prop} (h : b = false) (a : B) : br b A B := ⟨fun z => (by rw [h] at z; cases z), fun _ => a⟩
/-! ## a def as its callers know it -/
structure Cal (P : Program) (w : World) (K : PySem.W.Frag) (mg : Str → Option Value) (base : Heap) (k : Nat) (x : Str) (ps : List Str) (S : Prm) : Prop where
  ex : ∃ f fd, FnOk P w K mg base CX0 k f fd ps (liftF K S.sp) ∧ mg x = some (.ref f) ∧ PySem.W.keepIn K (.ref f) = true ∧ Binds K fd ps []
section
variable {X : Cx} {E : XK} {k j : Nat} {S : Prm} {ps : List Str} {e : Expr} {es : List Expr} {x : Str} {p pos : Pos} {pat : List (Option Nat)} {t : TV3}
theorem cl3 (C : Cal X.prog X.w X.K X.mg X.base k x ps S) (hr : Room j X.A) (ha : PAr X XF (e :: es) pat t) (hk : k ≤ j := by first | decide | omega) (hg : Gl X x := by rfl) (nd : (pat.filterMap id).Nodup := by decide) (hdb : (x == ("__debug__" : Str)) = false := by decide)
    (he : starEach (e :: es) X.env = (false, eval e X.env) :: starEach es X.env := by rfl) (hpl : (backTo pos (starEach es X.env)).any (·.1) = false := by rfl) : PE3 X XF (.Call (.Name x p) (e :: es) [] pos) (tCall3 S.sp pat t) := by
  obtain ⟨f, fd, F, hm, hk', hb⟩ := C.ex
  exact call3 F S.monoP (hr.mono hk) hg hm hk' hb pass0 ha nd hdb he hpl
theorem clO3 (C : Cal X.prog X.w X.K X.mg X.base k x ps S) (hr : Room j X.A) (ha : PAr X XF (e :: es) pat t) (hk : k ≤ j := by first | decide | omega) (hg : Gl X x := by rfl) (nd : (pat.filterMap id).Nodup := by decide) (hdb : (x == ("__debug__" : Str)) = false := by decide)
    (he : starEach (e :: es) X.env = (false, eval e X.env) :: starEach es X.env := by rfl) (hpl : (backTo pos (starEach es X.env)).any (·.1) = false := by rfl) : POw X XF (.Call (.Name x p) (e :: es) [] pos) (tCallO S.sp pat t) := by
  obtain ⟨f, fd, F, hm, hk', hb⟩ := C.ex
  exact callO3 F S.monoP (hr.mono hk) hg hm hk' hb pass0 ha nd hdb he hpl
theorem gl3 {x : Str} {i : Int} {pos : Pos} (hm : ∃ t, X.mg x = some (.int i t)) (hg : Gl X x := by rfl) (hd : (x == ("__debug__" : Str)) = false := by decide) : PE3 X E (.Name x pos) (tC3 (.int i)) := by
  obtain ⟨t, hm⟩ := hm
  exact globI3 hg hm hd
end
/-! ## the law -/
def S_law : Prm where
  ι := List Int
  pre := fun ns => ns.length ≤ 63
  args := fun ns => [.ro (ns.map .int)]
  tell := fun _ Q => Q (.d (.bool true)) []
  mono := fun _ _ _ h q => h _ _ q
theorem rpall_ints {K : PySem.W.Frag} {O : Addr → Prop} {H : Hp} : ∀ ns : List Int, RpAll K O H (ns.map V.int) (ns.map PyData.int)
  | [] => .nil
  | n :: r => .cons (.int n) (rpall_ints r)
theorem law_hsp {K : PySem.W.Frag} {H : Hp} {a : Addr} {ns : List Int} (hl : ns.length ≤ 63) (hO : Only H) (hS : SqL K H a (ns.map V.int)) : liftF K S_law.sp [.ref a] H (fun v _ => v = .bl true) (fun _ _ _ => False) := by
  have nx : ∀ b, ¬ Ox (fun _ => False) (fun _ => none) b := fun b z => by
    rcases z with ⟨i, z⟩ | z
    · cases z
    · exact z
  have hT : TR K (Ox (fun _ => False) (fun _ => none)) H a (ns.map V.int) := by
    rcases hS with (h | ⟨o, h⟩) | h
    · rcases hO a with z | ⟨o, xs, z⟩
      · rw [z] at h; cases h
      · rw [z] at h; cases h
    · exact .inl ⟨⟨o, h⟩, nx a⟩
    · exact .inr (.inr h)
  refine ⟨fun _ => none, fun _ => False, fun _ => none, [.ro (ns.map .int)], ⟨rfl, fun i x e => ?_, fun i t o e => ?_, fun i j b h => (nomatch h), fun b z => absurd z (nx b), fun b z => z.elim, fun p b z => (nomatch z)⟩, trivial, fun _ _ => rfl, ns, hl, rfl, fun v H' ρ' e oo tk ds rr => ?_⟩
  · cases i with
    | zero =>
      have e' : x = .ro (ns.map .int) := by cases x <;> simp [DV.w] at e <;> simp [e]
      subst e'
      exact ⟨_, rfl, a, _, rfl, hT, rpall_ints ns⟩
    | succ i => simp at e
  · cases i with
    | zero => simp at e
    | succ i => simp at e
  · cases rr
    rfl
theorem walk3 {l : PySem.W.OpenLaw} {k : Nat} {q : Program} {loose : List Str} {XP : (Str → Option Value) → Heap → Prop} {YP : World → Heap → Prop} {d : DefRec} {K : Params → PySem.W.Frag} (hn : l.most = some 63) (hdf : d.params.defaults = []) (hr : Room k callerA)
    (hY : ∀ (w : World) (h : Heap), YP w h → (K w.params).In h)
    (F : ∀ (w : World) (mg : Str → Option Value) (fa : Addr) (h : Heap), (K w.params).In h → h.Ns mainGlobals mg → mg d.name = some (.ref fa) →
      ∃ fd : FuncData, (∀ (s : Shared) (u : Value), BindsTo s fd ⟨[u], []⟩ [("script", u)]) ∧ ∀ base : Heap, (K w.params).In base → base.Ns mainGlobals mg → FnOk l.prog w (K w.params) mg base CX0 k fa fd ["script"] (liftF (K w.params) S_law.sp)) :
    PySem.W.WalkO q loose XP YP l.row.toRowW d [] (fun f vs => PySem.call f vs) :=
  L2.walk_of (n := 63) (k := k) (x := "script") (CX := fun _ => CX0) (sp := fun w => liftF (K w.params) S_law.sp) hn (by decide) hdf hr hY F (fun _ _ _ _ h1 h2 h3 => law_hsp h1 h2 h3) fun _ _ _ _ _ z => z
end M3

set_option Elab.async false
set_option linter.all false
set_option maxRecDepth 100000
namespace M3
open PySem L2

/-! ## t[::-1] of a tuple -/
section
open PySem PySem.Spec PyProof.Rows HT
variable {prog : Program} {w : World} {A : Around} {E : Value → Shared → Prop} {s : Shared}
theorem rev_places (n : Nat) : Builtin.Slice.slicePlaces ((n : Int) - 1) (-1) (-1) = n := by
  unfold Builtin.Slice.slicePlaces
  rw [if_neg (by decide)]
  by_cases h : (n : Int) - 1 > -1
  · rw [if_pos h]
    have : ((n : Int) - 1 - -1 - 1) / (- -1) + 1 = (n : Int) := by
      show ((n : Int) - 1 - -1 - 1) / 1 + 1 = (n : Int)
      rw [Int.ediv_one]; omega
    rw [this]; simp
  · rw [if_neg h]
    have : n = 0 := by omega
    subst this; rfl
theorem sliceApplied_rev {sl : Addr} {t : Tok} {n : Nat} {Q : Int × Int × Nat → Shared → Prop} (hs : s.heap.IsSliceOf sl .none .none (.int (-1) t)) (h : Q ((n : Int) - 1, -1, n) s) : wpAny (model prog w) A (Builtin.Slice.sliceApplied (.ref sl) (pure (n : Int))) Q E s := by
  obtain ⟨os, hos, hcs, hds⟩ := id hs
  unfold Builtin.Slice.sliceApplied Builtin.Slice.sliceFields
  refine wpAny_bind (wpAny_bind (wpAny_field hos hds (x := .none) rfl (wpAny_bind (wpAny_field hos hds (x := .none) rfl (wpAny_bind (wpAny_field hos hds (x := .int (-1) t) rfl (wpAny_pure ?_)))))))
  refine wpAny_bind (slicePart_int ?_)
  show wpAny _ _ (if ((-1 : Int) == 0) = true then _ else _) _ _ s
  rw [if_neg (by decide)]
  refine wpAny_bind (slicePart_none (wpAny_bind (slicePart_none (wpAny_bind (wpAny_pure ?_)))))
  show wpAny _ _ (pure ((n : Int) - 1, (-1 : Int), Builtin.Slice.slicePlaces ((n : Int) - 1) (-1) (-1))) _ _ s
  rw [rev_places]
  exact wpAny_pure h
theorem pick_rev (xs : Array Value) : ((List.range xs.size).filterMap fun (m : Nat) => xs[((xs.size : Int) - 1 + (m : Int) * (-1)).toNat]?).toArray = xs.toList.reverse.toArray := by
  congr 1
  refine List.ext_getElem? fun i => ?_
  have gen : ∀ l : List Nat, (∀ m ∈ l, m < xs.size) → l.filterMap (fun (m : Nat) => xs[((xs.size : Int) - 1 + (m : Int) * (-1)).toNat]?) = l.map (fun (m : Nat) => xs.toList.getD (xs.size - 1 - m) .none) := by
    intro l
    induction l with
    | nil => intro _; rfl
    | cons m l ih =>
      intro hm
      have hm' : m < xs.size := hm m List.mem_cons_self
      have e1 : ((xs.size : Int) - 1 + (m : Int) * (-1)).toNat = xs.size - 1 - m := by omega
      have hlt : xs.size - 1 - m < xs.size := by omega
      have e2 : xs[((xs.size : Int) - 1 + (m : Int) * (-1)).toNat]? = some (xs.toList.getD (xs.size - 1 - m) .none) := by rw [e1]; simp [hlt]
      rw [List.filterMap_cons, e2, List.map_cons, ih fun k hk => hm k (List.mem_cons_of_mem _ hk)]
  have e := gen (List.range xs.size) fun m hm => List.mem_range.mp hm
  rw [e, List.getElem?_map]
  by_cases hi : i < xs.size
  · rw [List.getElem?_range hi, List.getElem?_reverse (by simpa using hi)]
    have hlt : xs.size - 1 - i < xs.size := by omega
    simp [hlt]
  · rw [List.getElem?_eq_none (by simpa using hi), List.getElem?_eq_none (by simpa using hi)]
    rfl
theorem getItem_tuple_rev {t sl : Addr} {items : Array Value} {tk : Tok} {Q : Value → Shared → Prop} (ht : IsTup s.heap t items) (hs : s.heap.IsSliceOf sl .none .none (.int (-1) tk))
    (h : Q (.ref s.heap.objs.size) { s with heap := s.heap.push { cls := .type "tuple", data := .seq items.toList.reverse.toArray } }) (hsz : items.size ≤ sizeLine) : wpAny (model prog w) A (getItem (.ref t) (.ref sl)) Q E s := by
  have htake : sizeOk (.seq items.toList.reverse.toArray) := by
    show items.toList.reverse.toArray.size ≤ sizeLine
    rw [List.size_toArray, List.length_reverse, Array.length_toList]
    exact hsz
  obtain ⟨os, hos, hcs, hds⟩ := id hs
  have hTs : s.TypeIs (.ref sl) "slice" := ⟨os, hos, hcs⟩
  unfold getItem
  try with_reducible refine wpAny_holding ?_
  first | refine wpAny_bind (wpAny_pure ?_) | skip
  refine wpAny_bind (wpAny_sequenceKey ht.typeIs (by decide) ?_)
  refine wpAny_bind (wpAny_callSpecial?_slot (name := Str.ofString "__getitem__") ht.typeIs PyProof.Rows.slot_tuple_getitem
    (wpAny_call_entry PyProof.Rows.slot_tuple_getitem ht.typeIs entry_tuple_getitem ?_ (args_tuple_getitem _ _)))
  show wpAny _ _ (Builtin.Tuple.tupleItemsOf (.ref t) >>= _) _ _ s
  refine wpAny_bind (tupleItemsOf_ ht ?_)
  refine wpAny_bind (wpAny_typeOf hTs ?_)
  rw [if_pos (by decide)]
  refine wpAny_bind (sliceApplied_rev hs ?_)
  have hno : ¬ ((((items.size : Int) - 1) == 0 && (-1 : Int) == 1 && items.size == items.size) = true) := by
    intro q
    rw [Bool.and_eq_true, Bool.and_eq_true] at q
    exact absurd (eq_of_beq q.1.2) (by decide)
  show wpAny _ _ (if (((items.size : Int) - 1) == 0 && (-1 : Int) == 1 && items.size == items.size) = true then _ else _) _ _ s
  rw [if_neg hno, pick_rev]
  first
    | exact wpAny_bind (m := Builtin.Tuple.tupleExact _) (wpAny_newObj_type (wpAny_pure ⟨_, rfl, wpAny_pure h⟩) htake)
    | exact wpAny_bind (m := Builtin.Tuple.tupleExact _) (wpAny_newObj_type (wpAny_bind (wpAny_pure (wpAny_pure ⟨_, rfl, wpAny_pure h⟩))) htake)
    | exact wpAny_bind (wpAny_bind (m := Builtin.Tuple.tupleExact _) (wpAny_newObj_type (wpAny_pure (wpAny_pure ⟨_, rfl, wpAny_pure h⟩)) htake))
    | exact wpAny_bind (wpAny_bind (m := Builtin.Tuple.tupleExact _) (wpAny_newObj_type (wpAny_pure ⟨_, rfl, wpAny_pure h⟩) htake))
end
section
variable {X : Cx} {E : XK} {e : Expr} {te : T3} {pos : Pos}
def tRevT (K : PySem.W.Frag) (te : TE) : TE := fun σ H Q => te σ H fun x H1 => ∃ a xs, x = .ref a ∧ SqT K H1 a xs ∧ ∀ p, H1 p = none → Q (.ref p) (upd H1 p (.tup xs.reverse))
theorem pe_revT {te : TE} {k : Nat} {p1 p2 p3 pos : Pos} (he : PE X e te) : PE X (.Subscript e (.Slice none none (some (.UnaryOp .USub (.Constant (.int 1) k p1) p2)) p3) pos) (tRevT X.K te) := by
  refine ⟨fun pins s σ H Q I h => ?_⟩
  refine PyProof.Rows.Subscript_ (thn (he.run pins s σ H _ I h) fun v s1 ⟨x, H1, I1, r1, q1⟩ => ?_)
  obtain ⟨a, xs, ex, hx, q⟩ := q1
  subst ex
  cases r1
  have hst : PO X (some (.UnaryOp .USub (.Constant (.int 1) k p1) p2)) (tPart (tUn (rU fun i => .int (-i)) (tC (.int 1)))) := po_some (pe_un un_neg pe_int)
  refine wpAny_Slice (thn (po_none.run pins s1 σ H1 (fun o H2 => o = none ∧ H2 = H1) I1 ⟨rfl, rfl⟩) fun vl s2 ⟨l, H2, I2, pl, el, e2⟩ => ?_)
  subst el e2
  refine thn (po_none.run pins s2 σ H2 (fun o H3 => o = none ∧ H3 = H2) I2 ⟨rfl, rfl⟩) fun vu s3 ⟨u, H3, I3, pu, eu, e3⟩ => ?_
  subst eu e3
  refine thn (hst.run pins s3 σ H3 (fun o H4 => o = some (-1) ∧ H4 = H3) I3 ⟨1, rfl, -1, rfl, rfl, rfl⟩) fun vs s4 ⟨o, H4, I4, ps, eo, e4⟩ => ?_
  subst eo e4
  cases pl; cases pu; cases ps with
  | int i t =>
  have I5 : Inv X pins σ H4 { s4 with heap := s4.heap.push { cls := .type "slice", data := .fields #[.none, .none, .int (-1) t] } } := I4.kept (t' := s4.toks) fun b ob q => Heap.get?_push_of_some _ q
  obtain ⟨its, r, ht, hz⟩ := I5.tuple hx
  have hlen := r.length
  show wpAny (model X.prog X.w) X.A (PyProof.Rows.subscriptTail e (.Slice none none (some (.UnaryOp .USub (.Constant (.int 1) k p1) p2)) p3) (.ref a) (.ref s4.heap.objs.size)) (EP X pins σ Q) X.xe { s4 with heap := s4.heap.push { cls := .type "slice", data := .fields #[.none, .none, .int (-1) t] } }
  refine PyProof.Rows.tail_any (ops := [.ref a, .ref s4.heap.objs.size]) ht.typeIs (PyProof.Rows.slot_tuple_getitem.lookup) ?_ (by with_unfolding_all rfl)
  refine getItem_tuple_rev ht (Heap.IsSliceOf.new _ .none .none (.int (-1) t)) ?_ (by rw [List.size_toArray]; omega)
  refine ⟨.ref _, _, I5.laid (t' := s4.toks) (o := .tup xs.reverse) (fun b ob q => Heap.get?_push_of_some _ q) (Nat.le_refl _) ?_, rfl, q _ (I5.hok.fresh (Nat.le_refl _))⟩
  exact ⟨by rw [List.length_reverse]; exact hz, its.reverse, r.reverse, by rw [List.toList_toArray]; exact PyProof.Rows.IsTup.new _ _⟩
def asT (x : D) (k : List D → Prop) : Prop := match x with | .tuple xs => k xs | _ => False
theorem asT.to {x : D} {k : List D → Prop} (h : asT x k) : ∃ xs, x = .tuple xs ∧ k xs := by
  cases x <;> first | exact ⟨_, rfl, h⟩ | exact False.elim h
theorem rev3 {k : Nat} {p1 p2 p3 : Pos} (he : PE3 X E e te) : PE3 X E (.Subscript e (.Slice none none (some (.UnaryOp .USub (.Constant (.int 1) k p1) p2)) p3) pos) (tU3 (fun x k => asT x fun xs => k (.tuple xs.reverse)) te) :=
  un3 (r := fun x H Q => ∃ a xs, x = .ref a ∧ SqT X.K H a xs ∧ ∀ p, H p = none → Q (.ref p) (upd H p (.tup xs.reverse))) (fun _ h => pe_revT h) (fun O H v x k Q tr rx h hq => by
    obtain ⟨xs, rfl, h1⟩ := asT.to h
    cases rx with
    | tup ht hr => exact ⟨_, _, rfl, ht.sq, fun p hp => hq _ _ _ (same_upd hp) (rp_tup tr hp hr.reverse) h1⟩) (fun x k k' hk h => by obtain ⟨xs, rfl, h1⟩ := asT.to h; exact hk _ h1) he
/-! ## dicts that stay as they are -/
theorem dict03 : PE3 X E (.Dict [] [] pos) (tC3 (.dict [])) := by
  refine ⟨mono_tC3, pe_dnewK.imp fun σ H Q h => ?_⟩
  obtain ⟨π, F, ρ, δ, rel, q⟩ := h
  intro p hp
  exact q _ _ ρ (Ext.same (same_upd hp)) (rel.same (same_upd hp)) (.dic upd_same (rel.fresh hp) .nil)
def asK (x : D) (k : Key → Prop) : Prop := match x with | .int i => k (.inl i) | .str s => k (.inr s) | _ => False
theorem asK.to {x : D} {k : Key → Prop} (h : asK x k) : ∃ y, x = kD y ∧ k y := by
  cases x <;> first | exact ⟨.inl _, rfl, h⟩ | exact ⟨.inr _, rfl, h⟩ | exact False.elim h
theorem rp_key {K : PySem.W.Frag} {O : Addr → Prop} {H : Hp} {v : V} {y : Key} (h : Rp K O H v (kD y)) : v = kV y := by
  cases y <;> (cases h; rfl)
def tDict1 (tk tv : T3) : T3 := fun E δ Q => tk E δ fun x δ1 => tv E δ1 fun y δ2 => asK x fun _ => Q (.dict [(x, y)]) δ2
theorem dict13 {ke ve : Expr} {tk tv : T3} (hk : PE3 X E ke tk) (hv : PE3 X E ve tv) : PE3 X E (.Dict [some ke] [ve] pos) (tDict1 tk tv) := by
  refine ⟨fun _ _ _ _ _ hx hq q => hk.mono _ _ _ _ _ hx (fun x δ1 => hv.mono _ _ _ _ _ hx fun y δ2 z => by
    obtain ⟨k, rfl, z1⟩ := asK.to z
    cases k <;> exact hq _ _ z1) q, (pe_disp (pps_cons hk.pe hv.pe pps_nil) rfl rfl (by simp) (show 1 ≤ 15 by decide)).imp fun σ H Q h => ?_⟩
  obtain ⟨π, F, ρ, δ, rel, q⟩ := h
  intro p hp
  have ex0 : Ex F ρ H ρ (upd H p (.dK [])) := Ext.same (same_upd hp)
  have nF : ¬ Ox F ρ p := rel.fresh hp
  refine ⟨π, FD F p, ρ, δ, rel.addF hp, hk.mono _ _ _ _ _ (liftX.mono ex0) (fun x δ1 q v H1 ρ1 e1 rel1 r1 => ?_) q⟩
  refine ⟨π, FD F p, ρ1, δ1, rel1, hv.mono _ _ _ _ _ (liftX.mono (ex0.trans e1)) (fun y δ2 q u H2 ρ2 e2 rel2 r2 => ?_) q⟩
  obtain ⟨k, rfl, q1⟩ := asK.to q
  have e12 := e1.trans e2
  have hH2 : H2 p = some (.dK []) := e12.fr p _ upd_same fun z => nF (.inl z)
  obtain ⟨rel3, ex3⟩ := rel2.updF (d := p) (o := .dK [(k, u)]) (.inr rfl)
  have np2 : ¬ Ow ρ2 p := rel2.dis p (.inr rfl)
  have hv' := rp_key r1
  subst hv'
  refine ⟨hH2, [(k, u)], rfl, (show 1 ≤ 15 by decide), ?_⟩
  have ex4 : Ex F ρ H ρ2 (upd H2 p (.dK [(k, u)])) := ⟨fun b o hb n => by
    have hbp : b ≠ p := fun z => by rw [z, hp] at hb; cases hb
    rw [upd_ne hbp]
    exact (ex0.trans e12).fr b o hb n, (ex0.trans e12).ow, fun b o hb => by
    obtain ⟨o', h'⟩ := (ex0.trans e12).tk b o hb
    exact ex3.tk b o' h'⟩
  have lex : ∀ b, Ox F ρ2 b → Ox (FD F p) ρ2 b := fun b z => z.imp id .inl
  exact q1 _ _ ρ2 ex4 (rel3.lessF fun _ => .inl) (.dic upd_same (fun z => z.elim np2 fun z => nF (.inr z)) (.cons ((r2.ext ex3 fun b z => by rw [z]; exact .inr (.inr rfl)).mono lex) .nil))
end
end M3

set_option Elab.async false
set_option linter.all false
set_option maxRecDepth 100000
namespace M3
open PySem L2
/-! ### the plain functions -/
def isW (d : D) : Bool := match d with | .int _ => true | _ => false
def isB (d : D) (m : Int) : Bool := match d with | .int i => decide (0 ≤ i) && decide (i < m) | _ => false
def isC (d : D) : Bool := match d with | .int i => decide (1 ≤ i) && decide (i ≤ 9) | _ => false
def isRw (d : D) (n : Int) : Bool := match d with | .tuple xs => decide ((xs.length : Int) = n) | _ => false
def cellB (m : Int) (c : D) : Bool := isNone c || isB c m
def rowB (n m : Int) (d : D) : Bool := match d with | .tuple cs => decide ((cs.length : Int) = n) && cs.all (cellB m) | _ => false
def roomB (s n m : Int) (d : D) : Bool := match d with | .tuple rs => decide ((rs.length : Int) = s) && rs.all (rowB n m) | _ => false
def intOf (d : D) : Int := match d with | .int i => i | _ => 0
def sayB (d : D) : Bool := match d with
  | .tuple [x, y, .tuple rooms] => isC x && isC y && (decide (1 ≤ (rooms.length : Int)) && decide ((rooms.length : Int) ≤ 100)) && rooms.all (roomB (intOf x) (intOf y) rooms.length)
  | _ => false
theorem three {d : D} (h : isRw d 3 = true) : ∃ x y z, d = .tuple [x, y, z] := by
  cases d <;> try exact Bool.noConfusion (show false = true from h)
  rename_i xs
  have h' : ((xs.length : Nat) : Int) = 3 := of_decide_eq_true h
  match xs, h' with
  | [x, y, z], _ => exact ⟨x, y, z, rfl⟩
  | [], h' => simp at h'
  | [_], h' => simp at h'
  | [_, _], h' => simp at h'
  | _ :: _ :: _ :: _ :: r, h' => simp at h'; omega
theorem not_three {d : D} (h : isRw d 3 = false) : sayB d = false := by
  unfold sayB
  split
  · exact Bool.noConfusion (show true = false from h)
  · rfl
theorem isC_int {d : D} (h : isC d = true) : ∃ i, d = .int i ∧ 1 ≤ i ∧ i ≤ 9 := by
  cases d <;> try exact Bool.noConfusion (show false = true from h)
  rename_i i
  have h' : (decide (1 ≤ i) && decide (i ≤ 9)) = true := h
  simp at h'
  exact ⟨i, rfl, h'.1, h'.2⟩
theorem isW_int {d : D} (h : isW d = true) : ∃ i, d = .int i := by cases d <;> first | exact ⟨_, rfl⟩ | exact Bool.noConfusion (show false = true from h)
theorem tup_or (d : D) : (∃ xs, d = .tuple xs) ∨ isTup d = false := by cases d <;> simp [isTup]
theorem all_take_succ {α : Type} {p : α → Bool} {xs : List α} {i : Nat} {x : α} (h : xs[i]? = some x) (h1 : (xs.take i).all p = true) (h2 : p x = true) : (xs.take (i + 1)).all p = true := by
  rw [List.take_succ, h, List.all_append, h1]
  simp [h2]
theorem all_false {α : Type} {p : α → Bool} {xs : List α} {i : Nat} {x : α} (h : xs[i]? = some x) (h2 : p x = false) : xs.all p = false := by
  rw [Bool.eq_false_iff]
  intro z
  rw [List.all_eq_true.mp z x (List.mem_of_getElem? h)] at h2
  cases h2
theorem qb {Q : R3 → List Ob → Prop} {b c : Bool} (h : Q (.d (.bool b)) []) (e : b = c) : Q (.d (.bool c)) [] := by rw [← e]; exact h
def S_is_whole : Prm := PD (ι := D) (fun _ => True) (fun a => [a]) (fun a => .bool (isW a))
def S__law_whole : Prm := S_is_whole
def S_is_below : Prm := PD (ι := D × Int) (fun _ => True) (fun a => [a.1, .int a.2]) (fun a => .bool (isB a.1 a.2))
def S_is_count : Prm := PD (ι := D) (fun _ => True) (fun a => [a]) (fun a => .bool (isC a))
def S_is_row : Prm := PD (ι := D × Int) (fun _ => True) (fun a => [a.1, .int a.2]) (fun a => .bool (isRw a.1 a.2))
def S_is_room : Prm := PD (ι := D × Int × Int × Int) (fun _ => True) (fun a => [a.1, .int a.2.1, .int a.2.2.1, .int a.2.2.2]) (fun a => .bool (roomB a.2.1 a.2.2.1 a.2.2.2 a.1))
def S__law_is_saying : Prm := PD (ι := D) (fun _ => True) (fun a => [a]) (fun a => .bool (sayB a))
def S_is_saying : Prm := PD (ι := D) (fun _ => True) (fun a => [a]) (fun a => .bool (sayB a))
theorem atI_nat {α : Type} {xs : List α} {i : Int} {x : α} (h0 : 0 ≤ i) (h : xs[i.toNat]? = some x) : atI xs i = some x := by
  have hl : i.toNat < xs.length := by
    rcases Nat.lt_or_ge i.toNat xs.length with z | z
    · exact z
    · rw [List.getElem?_eq_none z] at h; cases h
  unfold atI ixN
  rw [if_pos h0, if_pos (by omega)]
  exact h
theorem at_lt {α : Type} {xs : List α} {i : Int} (h0 : 0 ≤ i) (h : i < (xs.length : Int)) : ∃ x, atI xs i = some x ∧ xs[i.toNat]? = some x := by
  have hl : i.toNat < xs.length := by omega
  exact ⟨xs[i.toNat], atI_nat h0 (List.getElem?_eq_getElem hl), List.getElem?_eq_getElem hl⟩
theorem at_ints {ns : List Int} {k : Int} (h0 : 0 ≤ k) (h : k < ((ns.map PyData.int).length : Int)) : ∃ m, atI (ns.map PyData.int) k = some (.int m) := by
  obtain ⟨x, h1, h2⟩ := at_lt h0 h
  rw [List.getElem?_map] at h2
  cases e : ns[k.toNat]? with
  | none => rw [e] at h2; cases h2
  | some m => rw [e] at h2; cases h2; exact ⟨m, h1⟩
theorem cmul_if {i : Int} {b : Bool} : CMul i (if b = true then 1 else 0) := .inr (by split <;> decide)
theorem cmul_r {i j : Int} (h1 : -(2 ^ 64) < j) (h2 : j < 2 ^ 64) : CMul i j := .inr ⟨h1, h2⟩
theorem cmul_l {i j : Int} (h1 : -(2 ^ 64) < i) (h2 : i < 2 ^ 64) : CMul i j := .inl ⟨h1, h2⟩
theorem rng_len {a : Int} {n : Nat} : (rngD a n).length = n := by unfold rngD; simp
theorem rng_at {a : Int} {n k : Nat} {x : D} (h : (rngD a n)[k]? = some x) : x = .int (a + k) ∧ k < n := by
  unfold rngD at h
  rw [List.getElem?_map] at h
  have hk : k < n := by
    rcases Nat.lt_or_ge k n with z | z
    · exact z
    · rw [List.getElem?_eq_none (by simpa using z)] at h; cases h
  rw [List.getElem?_range hk] at h
  exact ⟨(Option.some.inj h).symm, hk⟩
theorem all_snoc {α : Type} {p : α → Bool} {xs : List α} {x : α} (h1 : xs.all p = true) (h2 : p x = true) : (xs ++ [x]).all p = true := by
  rw [List.all_append, h1]; simp [h2]
theorem ix_mem {xs : List D} {j : Int} {k : D → Prop} (h0 : 0 ≤ j) (h1 : j < (xs.length : Int)) (h : ∀ x ∈ xs, k x) : ∃ d, atI xs j = some d ∧ k d := by
  obtain ⟨x, h2, h3⟩ := at_lt h0 h1
  exact ⟨x, h2, h x (List.mem_of_getElem? h3)⟩
theorem sIx_nat {n d : Nat} {j : Int} (h : 0 ≤ j) : HT.sIx n d (some j) = min j.toNat n := by
  unfold HT.sIx
  simp
  omega
theorem cut_hi {xs : List D} {j : Int} (h : 0 ≤ j) : cutG xs none (some j) = xs.take j.toNat := by
  unfold cutG
  rw [sIx_nat h]
  simp [HT.sIx]
theorem cut_lo {xs : List D} {j : Int} (h : 0 ≤ j) : cutG xs (some j) none = xs.drop j.toNat := by
  unfold cutG
  rw [sIx_nat h]
  simp only [HT.sIx]
  rw [List.take_of_length_le (by simp)]
  rcases Nat.le_total j.toNat xs.length with z | z
  · rw [Nat.min_eq_left z]
  · rw [Nat.min_eq_right z, List.drop_of_length_le (Nat.le_refl _), List.drop_of_length_le z]
theorem cut_len {xs : List D} {a b : Option Int} : (cutG xs a b).length ≤ xs.length := by
  unfold cutG; simp; omega
theorem cut_mem {xs : List D} {a b : Option Int} {x : D} (h : x ∈ cutG xs a b) : x ∈ xs := by
  unfold cutG at h
  exact List.mem_of_mem_drop (List.mem_of_mem_take h)
theorem cut_one {xs : List D} : (cutG xs none (some 1)).length ≤ 1 := by
  rw [cut_hi (by decide), List.length_take]
  exact Nat.min_le_left _ _
/-! ### pots -/
/-- a pot: at most c numbers were taken -/
def IsPot (c : Nat) (o : Ob) : Prop := ∃ x y z : Int, o = .lst [.int x, .int y, .int z] ∧ 0 ≤ x ∧ 0 ≤ y ∧ y < 2 ^ 61 ∧ 0 ≤ z ∧ z ≤ c
theorem IsPot.mono {c c' : Nat} {o : Ob} (h : IsPot c o) (hc : c ≤ c') : IsPot c' o := by
  obtain ⟨x, y, z, e, h1, h2, h3, h4, h5⟩ := h
  exact ⟨x, y, z, e, h1, h2, h3, h4, Int.le_trans h5 (Int.ofNat_le.mpr hc)⟩
def S_take : Prm := PR (ι := Ob × Nat × Int) (β := Int × Ob) (fun a => IsPot a.2.1 a.1 ∧ a.2.1 ≤ 10 ^ 12 ∧ 0 < a.2.2 ∧ a.2.2 < 2 ^ 29)
  (fun a => [.own 1 a.1, .d (.int a.2.2)]) (fun a b => 0 ≤ b.1 ∧ b.1 < a.2.2 ∧ IsPot (a.2.1 + 1) b.2) (fun _ b => .d (.int b.1)) (fun _ b => [b.2])
def S_pot : Prm := PR (ι := List Int × Int) (β := Ob) (fun a => 0 ≤ a.2 ∧ a.2 ≤ 10 ^ 12)
  (fun a => [.ro (a.1.map .int), .d (.int a.2)]) (fun _ b => IsPot 0 b) (fun _ b => .own b) (fun _ _ => [])
def S_room : Prm := PR (ι := Ob × Nat × Int × Int) (β := D × Ob) (fun a => IsPot a.2.1 a.1 ∧ a.2.1 ≤ 10 ^ 11 ∧ (0 < a.2.2.1 ∧ a.2.2.1 < 2 ^ 29) ∧ (0 < a.2.2.2 ∧ a.2.2.2 < 2 ^ 29))
  (fun a => [.own 1 a.1, .d (.int a.2.2.1), .d (.int a.2.2.2)]) (fun a b => cellB a.2.2.1 b.1 = true ∧ IsPot (a.2.1 + 2) b.2) (fun _ b => .d b.1) (fun _ b => [b.2])
def S_sayg : Prm := PR (ι := Ob × Nat × Int × Int × Int × Int) (β := List D × Ob) (fun a => IsPot a.2.1 a.1 ∧ a.2.1 ≤ 10 ^ 10 ∧ (0 ≤ a.2.2.1 ∧ a.2.2.1 ≤ 200) ∧ (0 ≤ a.2.2.2.1 ∧ a.2.2.2.1 ≤ 200) ∧ (0 < a.2.2.2.2.1 ∧ a.2.2.2.2.1 ≤ 200) ∧ (0 < a.2.2.2.2.2 ∧ a.2.2.2.2.2 < 2 ^ 29))
  (fun a => [.own 1 a.1, .d (.int a.2.2.1), .d (.int a.2.2.2.1), .d (.int a.2.2.2.2.1), .d (.int a.2.2.2.2.2)]) (fun a b => (b.1.length : Int) = a.2.2.2.2.1 ∧ b.1.all (roomB a.2.2.1 a.2.2.2.1 a.2.2.2.2.1) = true ∧ IsPot (a.2.1 + 20000000) b.2) (fun a b => .d (.tuple [.int a.2.2.1, .int a.2.2.2.1, .tuple b.1])) (fun _ b => [b.2])
end M3

set_option Elab.async false
set_option linter.all false
set_option maxRecDepth 100000
set_option maxHeartbeats 4000000
namespace K02
open PySem L2 M3
def topS (i : Nat) : Stmt := PySem.Challenge.pw_mildwarden_k02_what_is_a_saying.main.body.getD i (.Pass ⟨0, 0, 0, 0⟩)
structure Txt (mg : Str → Option Value) : Prop where
  b_abs : mg "abs" = none
  b_all : mg "all" = none
  b_bool : mg "bool" = none
  b_int : mg "int" = none
  b_isinstance : mg "isinstance" = none
  b_len : mg "len" = none
  b_list : mg "list" = none
  b_max : mg "max" = none
  b_min : mg "min" = none
  b_range : mg "range" = none
  b_tuple : mg "tuple" = none
  c_DEAR : ∃ t, mg "DEAR" = some (.int 99 t)
  c_MOST : ∃ t, mg "MOST" = some (.int 100 t)
  c_WIDE : ∃ t, mg "WIDE" = some (.int 9 t)
abbrev s__law_pot : Stmt := topS 11
theorem sc__law_pot : FnScope ["script", "k", "cell"] ["script", "k"] (defScope s__law_pot) := ⟨rfl, rfl, rfl, by decide +kernel, rfl, by decide +kernel, by decide +kernel⟩
abbrev s__law_take : Stmt := topS 12
theorem sc__law_take : FnScope ["pot", "many", "found", "one", "other"] ["pot", "many"] (defScope s__law_take) := ⟨rfl, rfl, rfl, by decide +kernel, rfl, by decide +kernel, by decide +kernel⟩
abbrev s__law_sizes : Stmt := topS 16
theorem sc__law_sizes : FnScope ["pot", "way"] ["pot"] (defScope s__law_sizes) := ⟨rfl, rfl, rfl, by decide +kernel, rfl, by decide +kernel, by decide +kernel⟩
abbrev s__law_room : Stmt := topS 14
theorem sc__law_room : FnScope ["pot", "rooms", "rate"] ["pot", "rooms", "rate"] (defScope s__law_room) := ⟨rfl, rfl, rfl, by decide +kernel, rfl, by decide +kernel, by decide +kernel⟩
abbrev s__law_saying : Stmt := topS 15
theorem sc__law_saying : FnScope ["pot", "signs", "deeds", "rooms", "rate", "table", "room", "s", "d"] ["pot", "signs", "deeds", "rooms", "rate"] (defScope s__law_saying) := ⟨rfl, rfl, rfl, by decide +kernel, rfl, by decide +kernel, by decide +kernel⟩
abbrev s__law_odd : Stmt := topS 17
theorem sc__law_odd : FnScope ["pot", "thing", "some"] ["pot", "thing"] (defScope s__law_odd) := ⟨rfl, rfl, rfl, by decide +kernel, rfl, by decide +kernel, by decide +kernel⟩
abbrev s__law_spoilt : Stmt := topS 18
theorem sc__law_spoilt : FnScope ["pot", "thing", "at"] ["pot", "thing"] (defScope s__law_spoilt) := ⟨rfl, rfl, rfl, by decide +kernel, rfl, by decide +kernel, by decide +kernel⟩
abbrev s_is_row : Stmt := topS 7
theorem sc_is_row : FnScope ["thing", "many"] ["thing", "many"] (defScope s_is_row) := ⟨rfl, rfl, rfl, by decide +kernel, rfl, by decide +kernel, by decide +kernel⟩
abbrev s_is_whole : Stmt := topS 4
theorem sc_is_whole : FnScope ["thing"] ["thing"] (defScope s_is_whole) := ⟨rfl, rfl, rfl, by decide +kernel, rfl, by decide +kernel, by decide +kernel⟩
abbrev s_is_count : Stmt := topS 6
theorem sc_is_count : FnScope ["thing"] ["thing"] (defScope s_is_count) := ⟨rfl, rfl, rfl, by decide +kernel, rfl, by decide +kernel, by decide +kernel⟩
abbrev s_is_below : Stmt := topS 5
theorem sc_is_below : FnScope ["thing", "most"] ["thing", "most"] (defScope s_is_below) := ⟨rfl, rfl, rfl, by decide +kernel, rfl, by decide +kernel, by decide +kernel⟩
abbrev s_is_room : Stmt := topS 8
theorem sc_is_room : FnScope ["thing", "signs", "deeds", "many", "row", "behind"] ["thing", "signs", "deeds", "many"] (defScope s_is_room) := ⟨rfl, rfl, rfl, by decide +kernel, rfl, by decide +kernel, by decide +kernel⟩
abbrev s_is_saying : Stmt := topS 9
theorem sc_is_saying : FnScope ["thing", "signs", "deeds", "rooms", "room"] ["thing"] (defScope s_is_saying) := ⟨rfl, rfl, rfl, by decide +kernel, rfl, by decide +kernel, by decide +kernel⟩
abbrev s__law_whole : Stmt := topS 13
theorem sc__law_whole : FnScope ["found"] ["found"] (defScope s__law_whole) := ⟨rfl, rfl, rfl, by decide +kernel, rfl, by decide +kernel, by decide +kernel⟩
abbrev s__law_is_saying : Stmt := topS 19
theorem sc__law_is_saying : FnScope ["thing", "signs", "deeds", "rooms", "room", "row", "goal"] ["thing"] (defScope s__law_is_saying) := ⟨rfl, rfl, rfl, by decide +kernel, rfl, by decide +kernel, by decide +kernel⟩
abbrev s_law : Stmt := topS 20
theorem sc_law : FnScope ["script", "k", "pot", "signs", "deeds", "rooms", "saying", "once", "thing", "found", "one"] ["script"] (defScope s_law) := ⟨rfl, rfl, rfl, by decide +kernel, rfl, by decide +kernel, by decide +kernel⟩
def S__law_sizes : Prm := PR (ι := Ob × Nat) (β := Int × Int × Int × Ob) (fun a => IsPot a.2 a.1 ∧ a.2 ≤ 10 ^ 10)
  (fun a => [.own 1 a.1]) (fun a b => (1 ≤ b.1 ∧ b.1 ≤ 10) ∧ (1 ≤ b.2.1 ∧ b.2.1 ≤ 10) ∧ (1 ≤ b.2.2.1 ∧ b.2.2.1 ≤ 101) ∧ IsPot (a.2 + 4) b.2.2.2) (fun _ b => .d (.tuple [.int b.1, .int b.2.1, .int b.2.2.1])) (fun _ b => [b.2.2.2])
def fit : Nat → Nat → D → Prop
  | 0, _, d => isTup d = false
  | n + 1, L, d => ∀ xs, d = .tuple xs → xs.length ≤ L ∧ ∀ x ∈ xs, fit n L x
theorem fit.mono {L L' : Nat} (hL : L ≤ L') : ∀ {n n' : Nat} {d : D}, n ≤ n' → fit n L d → fit n' L' d
  | 0, 0, _, _, h => h
  | 0, n' + 1, d, _, h => fun xs e => by subst e; cases h
  | n + 1, n' + 1, d, hn, h => fun xs e => ⟨Nat.le_trans (h xs e).1 hL, fun x hx => fit.mono hL (by omega) ((h xs e).2 x hx)⟩
theorem fit.no {n L : Nat} {d : D} (h : isTup d = false) : fit n L d := by
  cases n with
  | zero => exact h
  | succ n => intro xs e; subst e; cases h
theorem fit.tup {n L : Nat} {xs : List D} (h : xs.length ≤ L) (h2 : ∀ x ∈ xs, fit n L x) : fit (n + 1) L (.tuple xs) := fun ys e => by cases e; exact ⟨h, h2⟩
theorem fit.of {n L : Nat} {xs : List D} (h : fit n L (.tuple xs)) : ∃ m, n = m + 1 ∧ xs.length ≤ L ∧ ∀ x ∈ xs, fit m L x := by
  cases n with
  | zero => cases h
  | succ n => exact ⟨n, rfl, h xs rfl⟩
def S_odd : Prm := PR (ι := Ob × Nat × Nat × Nat × D) (β := D × Ob) (fun a => IsPot a.2.1 a.1 ∧ a.2.1 ≤ 10 ^ 11 ∧ (2 ≤ a.2.2.2.1 ∧ a.2.2.2.1 ≤ 10 ^ 6) ∧ fit a.2.2.1 a.2.2.2.1 a.2.2.2.2)
  (fun a => [.own 1 a.1, .d a.2.2.2.2]) (fun a b => fit (a.2.2.1 + 1) (a.2.2.2.1 + 1) b.1 ∧ IsPot (a.2.1 + 1) b.2) (fun _ b => .d b.1) (fun _ b => [b.2])
def S_sp (n : Nat) : Prm := PR (ι := Ob × Nat × Nat × Nat × D) (β := D × Ob) (fun a => IsPot a.2.1 a.1 ∧ a.2.1 + 2 * n ≤ 10 ^ 10 ∧ (2 ≤ a.2.2.2.1 ∧ a.2.2.2.1 ≤ 10 ^ 6) ∧ a.2.2.1 ≤ n ∧ fit a.2.2.1 a.2.2.2.1 a.2.2.2.2)
  (fun a => [.own 1 a.1, .d a.2.2.2.2]) (fun a b => fit (a.2.2.1 + 1) (a.2.2.2.1 + 1) b.1 ∧ IsPot (a.2.1 + (3 * n + 3)) b.2) (fun _ b => .d b.1) (fun _ b => [b.2])
theorem fit_say {i j : Int} {rs : List D} {L : Nat} (hL : 101 ≤ L) (hi : 0 ≤ i ∧ i ≤ 10) (hj : 0 ≤ j ∧ j ≤ 10) (hr : (rs.length : Int) ≤ 101) {m : Int} (h : rs.all (roomB i j m) = true) : fit 4 L (.tuple [.int i, .int j, .tuple rs]) := by
  have h0 : ∀ {n k}, fit n L (.int k) := fit.no rfl
  refine fit.tup (show 3 ≤ L by omega) fun x hx => ?_
  simp only [List.mem_cons, List.not_mem_nil, or_false] at hx
  rcases hx with rfl | rfl | rfl
  · exact h0
  · exact h0
  refine fit.tup (by omega) fun r hr => ?_
  have h1 := List.all_eq_true.mp h r hr
  rcases tup_or r with ⟨rows, rfl⟩ | z
  case inr => exact fit.no z
  simp only [roomB, Bool.and_eq_true, decide_eq_true_eq] at h1
  refine fit.tup (by omega) fun w hw => ?_
  have h2 := List.all_eq_true.mp h1.2 w hw
  rcases tup_or w with ⟨cells, rfl⟩ | z
  case inr => exact fit.no z
  simp only [rowB, Bool.and_eq_true, decide_eq_true_eq] at h2
  refine fit.tup (by omega) fun c hc => ?_
  have h3 := List.all_eq_true.mp h2.2 c hc
  cases c <;> first | exact fit.no rfl | exact Bool.noConfusion (show false = true from h3)
section
variable {P : Program} {w : World} {K : PySem.W.Frag} {mg : Str → Option Value} {base : Heap}
theorem ok__law_pot {f : Addr} {fd : FuncData} (F : Fun K "_law_pot" "_law_pot" s__law_pot f fd) (T : Txt mg)  : FnOk P w K mg base CX0 1 f fd ["script", "k"] (liftF K S_pot.sp) := by
  refine fnS F sc__law_pot (fun _ => rfl) (fun cdv A outer s H E hr => ⟨_, (sc3 (set3 2 sc__law_pot.nd int3)
      (sc3 (if3 (lt3T (v3 1) (lenO3 0 (by rfl) T.b_len))
      (s13 (set3 2 sc__law_pot.nd (mod3 (abs3  (by rfl) T.b_abs (ixO3 0 (v3 1))) (pow3 (pow3 int3 int3) int3))))
      sn3)
      (s13 (retO3 (olst3 (ac3 (mulI3 (v3 2) (int3c  (by rfl) T.b_int (ge3 (v3 2) (pow3 int3 int3)))) (ac3 (mod3 (pow3 (add3 (add3 (mod3 (v3 2) int3) (mulI3 int3 (v3 1))) int3) int3) int3) (ac3 int3 an3)))))))), fun a Q pr q => ?_⟩)
  obtain ⟨ns, k⟩ := a
  obtain ⟨hk, hk2⟩ := pr
  have hk : 0 ≤ k := hk
  have hk2 : k ≤ 10 ^ 12 := hk2
  -- what the end does with a cell
  have fin : ∀ cell : Int, 0 ≤ cell → IsPot 0 (.lst [.int (cell * (if decide ((10 : Int) ^ Int.toNat 18 ≤ cell) then 1 else 0)), .int ((cell % 2147483629 + 7919 * k + 1) ^ Int.toNat 5 % 2305843009213693951), .int 0]) := by
    intro cell h0
    refine ⟨_, _, _, rfl, ?_, ?_, ?_, by decide, by decide⟩
    · split
      · omega
      · simp
    · exact Int.emod_nonneg _ (by decide)
    · exact Int.lt_trans (Int.emod_lt_of_pos _ (by decide)) (by decide)
  have bnd : ∀ cell : Int, (cell % 2147483629 + 7919 * k + 1).natAbs < 2 ^ 60 := fun cell => by
    have h1 := Int.emod_nonneg cell (show (2147483629 : Int) ≠ 0 by decide)
    have h2 := Int.emod_lt_of_pos cell (show (0 : Int) < 2147483629 by decide)
    omega
  repeat' ((conv => whnf); first | (refine Exists.intro _ (And.intro rfl ?_)) | (refine br.mk (fun hbr => ?_) (fun hbr => ?_) <;> (first | exact Bool.noConfusion (show false = true from hbr) | exact Bool.noConfusion (show true = false from hbr) | simp only [decide_eq_true_eq, decide_eq_false_iff_not, Bool.not_eq_true', Bool.not_eq_false', Bool.and_eq_true, Bool.not_not, id_eq] at hbr | skip)) | (refine And.intro ?side ?_; case side => (first | rfl | assumption | omega | decide | exact Nat.le_of_ble_eq_true rfl | (dsimp only; omega) | (simp only [sizeLine, List.length_cons, List.length_nil, List.length_append]; omega) | (refine And.intro ?_ ?_ <;> omega) | (refine Or.inl (And.intro ?_ ?_) <;> omega) | (refine Or.inr (And.intro ?_ ?_) <;> omega) | fail)) | fail)
  · obtain ⟨m, hm⟩ := at_ints hk hbr
    (conv => whnf)
    refine Exists.intro _ (And.intro hm ?_)
    (conv => whnf)
    refine And.intro (cpw 4 (by decide) (by decide) (by decide)) ?_
    (conv => whnf)
    refine And.intro (cpw 200 (by decide) (by decide) (by decide)) ?_
    (conv => whnf)
    refine And.intro (show (0 : Int) < (10 ^ Int.toNat 60) ^ Int.toNat 10 by decide +kernel) ?_
    (conv => whnf)
    refine And.intro (cpw 4 (by decide) (by decide) (by decide)) ?_
    (conv => whnf)
    refine And.intro cmul_if ?_
    (conv => whnf)
    refine And.intro (show (0 : Int) < 2147483629 by decide) ?_
    (conv => whnf)
    refine And.intro (cmul_l (by decide) (by decide)) ?_
    (conv => whnf)
    refine And.intro (cpw 60 (bnd _) (by decide) (by decide)) ?_
    (conv => whnf)
    refine And.intro (show (0 : Int) < 2305843009213693951 by decide) ?_
    (conv => whnf)
    refine And.intro (show 3 ≤ 2 ^ 24 by decide) ?_
    exact q _ (fin _ (Int.emod_nonneg _ (by decide +kernel)))
  · (conv => whnf)
    refine And.intro (cpw 4 (by decide) (by decide) (by decide)) ?_
    (conv => whnf)
    refine And.intro cmul_if ?_
    (conv => whnf)
    refine And.intro (show (0 : Int) < 2147483629 by decide) ?_
    (conv => whnf)
    refine And.intro (cmul_l (by decide) (by decide)) ?_
    (conv => whnf)
    refine And.intro (cpw 60 (bnd _) (by decide) (by decide)) ?_
    (conv => whnf)
    refine And.intro (show (0 : Int) < 2305843009213693951 by decide) ?_
    (conv => whnf)
    refine And.intro (show 3 ≤ 2 ^ 24 by decide) ?_
    exact q _ (fin _ (by decide))
theorem ok__law_take {f : Addr} {fd : FuncData} (F : Fun K "_law_take" "_law_take" s__law_take f fd) (T : Txt mg)  : FnOk P w K mg base CX0 1 f fd ["pot", "many"] (liftF K S_take.sp) := by
  refine fnS F sc__law_take (fun _ => rfl) (fun cdv A outer s H E hr => ⟨_, (sc3 (if3 (gt3T (ixO3 0 int3) int3)
      (sc3 (set3 2 sc__law_take.nd (mod3 (ixO3 0 int3) (v3 1)))
      (sc3 (setIx3 0 (fdiv3 (ixO3 0 int3) (v3 1)) int3)
      (s13 (ret3 (v3 2)))))
      sn3)
      (sc3 (setIx3 0 (add3 (ixO3 0 int3) int3) int3)
      (sc3 (set3 3 sc__law_take.nd (mod3 (pow3 (add3 (ixO3 0 int3) (mulI3 int3 (ixO3 0 int3))) int3) int3))
      (sc3 (set3 4 sc__law_take.nd (mod3 (pow3 (add3 (add3 (v3 3) (mod3 (ixO3 0 int3) int3)) (mulI3 int3 (ixO3 0 int3))) int3) int3))
      (s13 (ret3 (mod3 (fdiv3 (v3 4) int3) (v3 1)))))))), fun a Q pr q => ?_⟩)
  obtain ⟨ob, c, many⟩ := a
  obtain ⟨⟨x, y, z, rfl, hx, hy, hy2, hz, hz2⟩, hc, hm, hm2⟩ := pr
  have hz3 : z ≤ 10 ^ 12 := Int.le_trans hz2 (by have : ((c : Nat) : Int) ≤ ((10 ^ 12 : Nat) : Int) := Int.ofNat_le.mpr hc; simpa using this)
  have hc' : c ≤ 10 ^ 12 := hc
  have hm' : 0 < many := hm
  have hm2' : many < 2 ^ 29 := hm2
  have hz2' : z ≤ (c : Int) := hz2
  repeat' ((conv => whnf); first | (refine Exists.intro _ (And.intro rfl ?_)) | (refine br.mk (fun hbr => ?_) (fun hbr => ?_) <;> (first | exact Bool.noConfusion (show false = true from hbr) | exact Bool.noConfusion (show true = false from hbr) | simp only [decide_eq_true_eq, decide_eq_false_iff_not, Bool.not_eq_true', Bool.not_eq_false', Bool.and_eq_true, Bool.not_not, id_eq] at hbr | skip)) | (refine And.intro ?side ?_; case side => (first | rfl | assumption | omega | decide | exact Nat.le_of_ble_eq_true rfl | (dsimp only; omega) | (simp only [sizeLine, List.length_cons, List.length_nil, List.length_append]; omega) | (refine And.intro ?_ ?_ <;> omega) | (refine Or.inl (And.intro ?_ ?_) <;> omega) | (refine Or.inr (And.intro ?_ ?_) <;> omega) | fail)) | fail)
  · refine q (x % many, .lst [.int (x / many), .int y, .int z]) ⟨Int.emod_nonneg _ (by omega), Int.emod_lt_of_pos _ hm', x / many, y, z, rfl, Int.ediv_nonneg hx (by omega), hy, hy2, hz, ?_⟩
    show z ≤ ((c + 1 : Nat) : Int)
    omega
  · refine And.intro (cpw 62 (by omega) (by decide) (by decide)) ?_
    repeat' ((conv => whnf); first | (refine Exists.intro _ (And.intro rfl ?_)) | (refine br.mk (fun hbr => ?_) (fun hbr => ?_) <;> (first | exact Bool.noConfusion (show false = true from hbr) | exact Bool.noConfusion (show true = false from hbr) | simp only [decide_eq_true_eq, decide_eq_false_iff_not, Bool.not_eq_true', Bool.not_eq_false', Bool.and_eq_true, Bool.not_not, id_eq] at hbr | skip)) | (refine And.intro ?side ?_; case side => (first | rfl | assumption | omega | decide | exact Nat.le_of_ble_eq_true rfl | (dsimp only; omega) | (simp only [sizeLine, List.length_cons, List.length_nil, List.length_append]; omega) | (refine And.intro ?_ ?_ <;> omega) | (refine Or.inl (And.intro ?_ ?_) <;> omega) | (refine Or.inr (And.intro ?_ ?_) <;> omega) | fail)) | fail)
    refine And.intro (cpw 63 (by have h1 := Int.emod_nonneg ((y + 104729 * (z + 1)) ^ Int.toNat 3) (show (2305843009213693921 : Int) ≠ 0 by decide); have h2 := Int.emod_lt_of_pos ((y + 104729 * (z + 1)) ^ Int.toNat 3) (show (0 : Int) < 2305843009213693921 by decide); omega) (by decide) (by decide)) ?_
    repeat' ((conv => whnf); first | (refine Exists.intro _ (And.intro rfl ?_)) | (refine br.mk (fun hbr => ?_) (fun hbr => ?_) <;> (first | exact Bool.noConfusion (show false = true from hbr) | exact Bool.noConfusion (show true = false from hbr) | simp only [decide_eq_true_eq, decide_eq_false_iff_not, Bool.not_eq_true', Bool.not_eq_false', Bool.and_eq_true, Bool.not_not, id_eq] at hbr | skip)) | (refine And.intro ?side ?_; case side => (first | rfl | assumption | omega | decide | exact Nat.le_of_ble_eq_true rfl | (dsimp only; omega) | (simp only [sizeLine, List.length_cons, List.length_nil, List.length_append]; omega) | (refine And.intro ?_ ?_ <;> omega) | (refine Or.inl (And.intro ?_ ?_) <;> omega) | (refine Or.inr (And.intro ?_ ?_) <;> omega) | fail)) | fail)
    refine q (_, .lst [.int x, .int y, .int (z + 1)]) ⟨Int.emod_nonneg _ (by omega), Int.emod_lt_of_pos _ hm', x, y, z + 1, rfl, hx, hy, hy2, by omega, ?_⟩
    show z + 1 ≤ ((c + 1 : Nat) : Int)
    omega
theorem ok__law_room {f : Addr} {fd : FuncData} (F : Fun K "_law_room" "_law_room" s__law_room f fd) (T : Txt mg) (C__law_take : Cal P w K mg base 1 "_law_take" ["pot", "many"] S_take) : FnOk P w K mg base CX0 2 f fd ["pot", "rooms", "rate"] (liftF K S_room.sp) := by
  refine fnS F sc__law_room (fun _ => rfl) (fun cdv A outer s H E hr => ⟨_, (sc3 (if3 (eq3T hr.units (cl3 C__law_take hr (ro3 0 (rd3 (v3 2) rn3))) int3)
      (s13 (ret3 non3))
      sn3)
      (s13 (ret3 (cl3 C__law_take hr (ro3 0 (rd3 (v3 1) rn3)))))), fun a Q pr q => ?_⟩)
  obtain ⟨ob, c, rooms, rate⟩ := a
  obtain ⟨hp, hc, hr1, hr2⟩ := pr
  replace hp : IsPot c ob := hp
  replace hc : c ≤ 10 ^ 11 := hc
  replace hr1 : 0 < rooms ∧ rooms < 2 ^ 29 := hr1
  replace hr2 : 0 < rate ∧ rate < 2 ^ 29 := hr2
  repeat' ((conv => whnf); first | (refine Exists.intro _ (And.intro rfl ?_)) | (refine br.mk (fun hbr => ?_) (fun hbr => ?_) <;> (first | exact Bool.noConfusion (show false = true from hbr) | exact Bool.noConfusion (show true = false from hbr) | simp only [decide_eq_true_eq, decide_eq_false_iff_not, Bool.not_eq_true', Bool.not_eq_false', Bool.and_eq_true, Bool.not_not, id_eq] at hbr | skip)) | (refine And.intro ?side ?_; case side => (first | rfl | assumption | omega | decide | exact Nat.le_of_ble_eq_true rfl | (dsimp only; omega) | (simp only [sizeLine, List.length_cons, List.length_nil, List.length_append]; omega) | (refine And.intro ?_ ?_ <;> omega) | (refine Or.inl (And.intro ?_ ?_) <;> omega) | (refine Or.inr (And.intro ?_ ?_) <;> omega) | fail)) | fail)
  refine Exists.intro (_, c, rate) (And.intro ⟨hp, (show c ≤ 10 ^ 12 by omega), (show (0 : Int) < rate by first | decide | omega), (show rate < (2 : Int) ^ 29 by first | decide | omega)⟩ (And.intro rfl ?_))
  rintro ⟨i, ob⟩ ⟨h0_i, h1_i, hp⟩
  replace h0_i : 0 ≤ i := h0_i
  replace h1_i : i < rate := h1_i
  replace hp : IsPot (c + 1) ob := hp
  repeat' ((conv => whnf); first | (refine Exists.intro _ (And.intro rfl ?_)) | (refine br.mk (fun hbr => ?_) (fun hbr => ?_) <;> (first | exact Bool.noConfusion (show false = true from hbr) | exact Bool.noConfusion (show true = false from hbr) | simp only [decide_eq_true_eq, decide_eq_false_iff_not, Bool.not_eq_true', Bool.not_eq_false', Bool.and_eq_true, Bool.not_not, id_eq] at hbr | skip)) | (refine And.intro ?side ?_; case side => (first | rfl | assumption | omega | decide | exact Nat.le_of_ble_eq_true rfl | (dsimp only; omega) | (simp only [sizeLine, List.length_cons, List.length_nil, List.length_append]; omega) | (refine And.intro ?_ ?_ <;> omega) | (refine Or.inl (And.intro ?_ ?_) <;> omega) | (refine Or.inr (And.intro ?_ ?_) <;> omega) | fail)) | fail)
  · exact q (.none, ob) ⟨rfl, hp.mono (by (try dsimp only); omega)⟩
  · refine Exists.intro (_, (c+1), rooms) (And.intro ⟨hp, (show (c+1) ≤ 10 ^ 12 by omega), (show (0 : Int) < rooms by first | decide | omega), (show rooms < (2 : Int) ^ 29 by first | decide | omega)⟩ (And.intro rfl ?_))
    rintro ⟨j, ob⟩ ⟨h0_j, h1_j, hp⟩
    replace h0_j : 0 ≤ j := h0_j
    replace h1_j : j < rooms := h1_j
    replace hp : IsPot ((c+1) + 1) ob := hp
    repeat' ((conv => whnf); first | (refine Exists.intro _ (And.intro rfl ?_)) | (refine br.mk (fun hbr => ?_) (fun hbr => ?_) <;> (first | exact Bool.noConfusion (show false = true from hbr) | exact Bool.noConfusion (show true = false from hbr) | simp only [decide_eq_true_eq, decide_eq_false_iff_not, Bool.not_eq_true', Bool.not_eq_false', Bool.and_eq_true, Bool.not_not, id_eq] at hbr | skip)) | (refine And.intro ?side ?_; case side => (first | rfl | assumption | omega | decide | exact Nat.le_of_ble_eq_true rfl | (dsimp only; omega) | (simp only [sizeLine, List.length_cons, List.length_nil, List.length_append]; omega) | (refine And.intro ?_ ?_ <;> omega) | (refine Or.inl (And.intro ?_ ?_) <;> omega) | (refine Or.inr (And.intro ?_ ?_) <;> omega) | fail)) | fail)
    exact q (.int j, ob) ⟨by simp [cellB, isB, isNone]; (try dsimp only); omega, hp.mono (by (try dsimp only); omega)⟩
theorem ok__law_saying {f : Addr} {fd : FuncData} (F : Fun K "_law_saying" "_law_saying" s__law_saying f fd) (T : Txt mg) (C__law_room : Cal P w K mg base 2 "_law_room" ["pot", "rooms", "rate"] S_room) : FnOk P w K mg base CX0 3 f fd ["pot", "signs", "deeds", "rooms", "rate"] (liftF K S_sayg.sp) := by
  refine fnS F sc__law_saying (fun _ => rfl) (fun cdv A outer s H E hr => ⟨_, (sc3 (setO3 5 sc__law_saying.nd (olst3 an3))
      (sc3 (for3 (ws := [6]) PassesOwn.never rfl (range3 (by rfl) T.b_range (v3 3)) (gn3 6 sc__law_saying.nd)
      (s13 (app3 5 (tuple3  (by rfl) T.b_tuple (lc3 (own := [("s", 7)]) rfl sc__law_saying.nd (range3 (by rfl) T.b_range (v3 1)) (blkOk_by (by kernel_rfl)) (fun _ _ _ _ _ => (gn3 7 sc__law_saying.nd)) (fun _ _ _ _ _ => yes3) (fun _ _ _ _ _ => (tuple3  (by rfl) T.b_tuple (lc3 (own := [("d", 8)]) rfl sc__law_saying.nd (range3 (by rfl) T.b_range (v3 2)) (blkOk_by (by kernel_rfl)) (fun _ _ _ _ _ => (gn3 8 sc__law_saying.nd)) (fun _ _ _ _ _ => yes3) (fun _ _ _ _ _ => (cl3 C__law_room hr (ro3 0 (rd3 (v3 3) (rd3 (v3 4) rn3))))) (s0 := s)))) (s0 := s))))))
      (frz3 5 (s13 (ret3 (tup3 (ac3 (v3 1) (ac3 (v3 2) (ac3 (tuple3  (by rfl) T.b_tuple (v3 5)) an3))))))))), fun a Q pr q => ?_⟩)
  obtain ⟨ob, c, signs, deeds, rooms, rate⟩ := a
  obtain ⟨hp, hc, hs1, hd1, hr1, hr2⟩ := pr
  replace hp : IsPot c ob := hp
  replace hc : c ≤ 10 ^ 10 := hc
  replace hs1 : 0 ≤ signs ∧ signs ≤ 200 := hs1
  replace hd1 : 0 ≤ deeds ∧ deeds ≤ 200 := hd1
  replace hr1 : 0 < rooms ∧ rooms ≤ 200 := hr1
  replace hr2 : 0 < rate ∧ rate < 2 ^ 29 := hr2
  repeat' ((conv => whnf); first | (refine Exists.intro _ (And.intro rfl ?_)) | (refine br.mk (fun hbr => ?_) (fun hbr => ?_) <;> (first | exact Bool.noConfusion (show false = true from hbr) | exact Bool.noConfusion (show true = false from hbr) | simp only [decide_eq_true_eq, decide_eq_false_iff_not, Bool.not_eq_true', Bool.not_eq_false', Bool.and_eq_true, Bool.not_not, id_eq] at hbr | skip)) | (refine And.intro ?side ?_; case side => (first | rfl | assumption | omega | decide | exact Nat.le_of_ble_eq_true rfl | (dsimp only; omega) | (simp only [sizeLine, List.length_cons, List.length_nil, List.length_append]; omega) | (refine And.intro ?_ ?_ <;> omega) | (refine Or.inl (And.intro ?_ ?_) <;> omega) | (refine Or.inr (And.intro ?_ ?_) <;> omega) | fail)) | fail)
  refine ⟨fun k δ => ∃ ob tb r, δ = [some (.own 1 ob), some (.d (.int signs)), some (.d (.int deeds)), some (.d (.int rooms)), some (.d (.int rate)), some (.own 0 (.lst tb)), r, none, none] ∧ IsPot (c + 80000 * k) ob ∧ tb.length = k ∧ tb.all (roomB signs deeds rooms) = true, ⟨ob, [], none, rfl, hp, rfl, rfl⟩, ?_, ?_⟩
  · rintro k x δ hx ⟨ob, tb, r, rfl, hp, hl, hall⟩
    obtain ⟨rfl, hk⟩ := rng_at hx
    replace hk : k < rooms.toNat := hk
    repeat' ((conv => whnf); first | (refine Exists.intro _ (And.intro rfl ?_)) | (refine br.mk (fun hbr => ?_) (fun hbr => ?_) <;> (first | exact Bool.noConfusion (show false = true from hbr) | exact Bool.noConfusion (show true = false from hbr) | simp only [decide_eq_true_eq, decide_eq_false_iff_not, Bool.not_eq_true', Bool.not_eq_false', Bool.and_eq_true, Bool.not_not, id_eq] at hbr | skip)) | (refine And.intro ?side ?_; case side => (first | rfl | assumption | omega | decide | exact Nat.le_of_ble_eq_true rfl | (dsimp only; omega) | (simp only [sizeLine, List.length_cons, List.length_nil, List.length_append]; omega) | (refine And.intro ?_ ?_ <;> omega) | (refine Or.inl (And.intro ?_ ?_) <;> omega) | (refine Or.inr (And.intro ?_ ?_) <;> omega) | fail)) | fail)
    refine And.intro (by rw [rng_len]; unfold sizeLine; omega) ⟨fun m acc δ => ∃ ob, δ = [some (.own 1 ob), some (.d (.int signs)), some (.d (.int deeds)), some (.d (.int rooms)), some (.d (.int rate)), some (.own 0 (.lst tb)), some (.d (.int (0 + k))), none, none] ∧ IsPot (c + 80000 * k + 400 * m) ob ∧ acc.length = m ∧ acc.all (rowB deeds rooms) = true, ⟨ob, rfl, hp, rfl, rfl⟩, ?_, ?_⟩
    · rintro m x acc δ hx ⟨ob, rfl, hp, hl2, hall2⟩
      obtain ⟨rfl, hm⟩ := rng_at hx
      repeat' ((conv => whnf); first | (refine Exists.intro _ (And.intro rfl ?_)) | (refine br.mk (fun hbr => ?_) (fun hbr => ?_) <;> (first | exact Bool.noConfusion (show false = true from hbr) | exact Bool.noConfusion (show true = false from hbr) | simp only [decide_eq_true_eq, decide_eq_false_iff_not, Bool.not_eq_true', Bool.not_eq_false', Bool.and_eq_true, Bool.not_not, id_eq] at hbr | skip)) | (refine And.intro ?side ?_; case side => (first | rfl | assumption | omega | decide | exact Nat.le_of_ble_eq_true rfl | (dsimp only; omega) | (simp only [sizeLine, List.length_cons, List.length_nil, List.length_append]; omega) | (refine And.intro ?_ ?_ <;> omega) | (refine Or.inl (And.intro ?_ ?_) <;> omega) | (refine Or.inr (And.intro ?_ ?_) <;> omega) | fail)) | fail)
      refine And.intro (by rw [rng_len]; unfold sizeLine; omega) ⟨fun n acc δ => ∃ ob, δ = [some (.own 1 ob), some (.d (.int signs)), some (.d (.int deeds)), some (.d (.int rooms)), some (.d (.int rate)), some (.own 0 (.lst tb)), some (.d (.int (0 + k))), some (.d (.int (0 + m))), none] ∧ IsPot (c + 80000 * k + 400 * m + 2 * n) ob ∧ acc.length = n ∧ acc.all (cellB rooms) = true, ⟨ob, rfl, hp, rfl, rfl⟩, ?_, ?_⟩
      · rintro n x acc δ hx ⟨ob, rfl, hp, hl3, hall3⟩
        obtain ⟨rfl, hn⟩ := rng_at hx
        repeat' ((conv => whnf); first | (refine Exists.intro _ (And.intro rfl ?_)) | (refine br.mk (fun hbr => ?_) (fun hbr => ?_) <;> (first | exact Bool.noConfusion (show false = true from hbr) | exact Bool.noConfusion (show true = false from hbr) | simp only [decide_eq_true_eq, decide_eq_false_iff_not, Bool.not_eq_true', Bool.not_eq_false', Bool.and_eq_true, Bool.not_not, id_eq] at hbr | skip)) | (refine And.intro ?side ?_; case side => (first | rfl | assumption | omega | decide | exact Nat.le_of_ble_eq_true rfl | (dsimp only; omega) | (simp only [sizeLine, List.length_cons, List.length_nil, List.length_append]; omega) | (refine And.intro ?_ ?_ <;> omega) | (refine Or.inl (And.intro ?_ ?_) <;> omega) | (refine Or.inr (And.intro ?_ ?_) <;> omega) | fail)) | fail)
        refine Exists.intro (ob, c + 80000 * k + 400 * m + 2 * n, rooms, rate) (And.intro ⟨hp, (show c + 80000 * k + 400 * m + 2 * n ≤ 10 ^ 11 by omega), (show 0 < rooms ∧ rooms < 2 ^ 29 by omega), hr2⟩ (And.intro rfl ?_))
        rintro ⟨d, ob⟩ ⟨hd, hp⟩
        exact ⟨ob, rfl, IsPot.mono hp (by (try dsimp only); omega), by rw [List.length_append, hl3]; rfl, all_snoc hall3 hd⟩
      · rintro acc δ ⟨ob, rfl, hp, hl3, hall3⟩
        rw [rng_len] at hp hl3
        exact ⟨ob, rfl, IsPot.mono hp (by (try dsimp only); omega), by rw [List.length_append, hl2]; rfl, all_snoc hall2 (by simp only [rowB, hall3, hl3, Bool.and_true, decide_eq_true_eq]; omega)⟩
    · rintro acc δ ⟨ob, rfl, hp, hl2, hall2⟩
      rw [rng_len] at hp hl2
      (conv => whnf)
      refine And.intro (by unfold sizeLine; omega) ?_
      exact ⟨ob, _, _, rfl, IsPot.mono hp (by (try dsimp only); omega), by rw [List.length_append, hl]; rfl, all_snoc hall (by simp only [roomB, hall2, hl2, Bool.and_true, decide_eq_true_eq]; omega)⟩
  · rintro δ ⟨ob, tb, r, rfl, hp, hl, hall⟩
    rw [rng_len] at hp hl
    replace hp : IsPot (c + 80000 * rooms.toNat) ob := hp
    replace hl : tb.length = rooms.toNat := hl
    repeat' ((conv => whnf); first | (refine Exists.intro _ (And.intro rfl ?_)) | (refine br.mk (fun hbr => ?_) (fun hbr => ?_) <;> (first | exact Bool.noConfusion (show false = true from hbr) | exact Bool.noConfusion (show true = false from hbr) | simp only [decide_eq_true_eq, decide_eq_false_iff_not, Bool.not_eq_true', Bool.not_eq_false', Bool.and_eq_true, Bool.not_not, id_eq] at hbr | skip)) | (refine And.intro ?side ?_; case side => (first | rfl | assumption | omega | decide | exact Nat.le_of_ble_eq_true rfl | (dsimp only; omega) | (simp only [sizeLine, List.length_cons, List.length_nil, List.length_append]; omega) | (refine And.intro ?_ ?_ <;> omega) | (refine Or.inl (And.intro ?_ ?_) <;> omega) | (refine Or.inr (And.intro ?_ ?_) <;> omega) | fail)) | fail)
    exact q (tb, ob) ⟨(by (try dsimp only); omega), hall, hp.mono (by (try dsimp only); omega)⟩
theorem ok_is_row {f : Addr} {fd : FuncData} (F : Fun K "is_row" "is_row" s_is_row f fd) (T : Txt mg)  : FnOk P w K mg base CX0 1 f fd ["thing", "many"] (liftF K S_is_row.sp) := by
  refine fnS F sc_is_row (fun _ => rfl) (fun cdv A outer s H E hr => ⟨_, (s13 (ret3 (andV3 (isi3 kit_tuple (by decide +kernel) (by rfl) T.b_isinstance (by rfl) T.b_tuple (v3 0)) (one3 (eq3 hr.units (len3  (by rfl) T.b_len (v3 0)) (v3 1)))))), fun a Q pr q => ?_⟩)
  obtain ⟨d, m⟩ := a
  cases d
  all_goals repeat' ((conv => whnf); first | (refine Exists.intro _ (And.intro rfl ?_)) | (refine br.mk (fun hbr => ?_) (fun hbr => ?_) <;> (first | exact Bool.noConfusion (show false = true from hbr) | exact Bool.noConfusion (show true = false from hbr) | simp only [decide_eq_true_eq, decide_eq_false_iff_not, Bool.not_eq_true', Bool.not_eq_false', Bool.and_eq_true, Bool.not_not, id_eq] at hbr | skip)) | (refine And.intro ?side ?_; case side => (first | rfl | assumption | omega | decide | exact Nat.le_of_ble_eq_true rfl | (dsimp only; omega) | (simp only [sizeLine, List.length_cons, List.length_nil, List.length_append]; omega) | (refine And.intro ?_ ?_ <;> omega) | (refine Or.inl (And.intro ?_ ?_) <;> omega) | (refine Or.inr (And.intro ?_ ?_) <;> omega) | fail)) | fail)
  all_goals exact q
theorem ok_is_whole {f : Addr} {fd : FuncData} (F : Fun K "is_whole" "is_whole" s_is_whole f fd) (T : Txt mg)  : FnOk P w K mg base CX0 1 f fd ["thing"] (liftF K S_is_whole.sp) := by
  refine fnS F sc_is_whole (fun _ => rfl) (fun cdv A outer s H E hr => ⟨_, (s13 (ret3 (andV3 (isi3 kit_int (by decide +kernel) (by rfl) T.b_isinstance (by rfl) T.b_int (v3 0)) (one3 (notV3 (isi3 kit_bool (by decide +kernel) (by rfl) T.b_isinstance (by rfl) T.b_bool (v3 0))))))), fun a Q pr q => ?_⟩)
  cases a
  all_goals repeat' ((conv => whnf); first | (refine Exists.intro _ (And.intro rfl ?_)) | (refine br.mk (fun hbr => ?_) (fun hbr => ?_) <;> (first | exact Bool.noConfusion (show false = true from hbr) | exact Bool.noConfusion (show true = false from hbr) | simp only [decide_eq_true_eq, decide_eq_false_iff_not, Bool.not_eq_true', Bool.not_eq_false', Bool.and_eq_true, Bool.not_not, id_eq] at hbr | skip)) | (refine And.intro ?side ?_; case side => (first | rfl | assumption | omega | decide | exact Nat.le_of_ble_eq_true rfl | (dsimp only; omega) | (simp only [sizeLine, List.length_cons, List.length_nil, List.length_append]; omega) | (refine And.intro ?_ ?_ <;> omega) | (refine Or.inl (And.intro ?_ ?_) <;> omega) | (refine Or.inr (And.intro ?_ ?_) <;> omega) | fail)) | fail)
  all_goals exact q
theorem ok_is_count {f : Addr} {fd : FuncData} (F : Fun K "is_count" "is_count" s_is_count f fd) (T : Txt mg) (C_is_whole : Cal P w K mg base 1 "is_whole" ["thing"] S_is_whole) : FnOk P w K mg base CX0 2 f fd ["thing"] (liftF K S_is_count.sp) := by
  refine fnS F sc_is_count (fun _ => rfl) (fun cdv A outer s H E hr => ⟨_, (s13 (ret3 (andV3 (cl3 C_is_whole hr (rd3 (v3 0) rn3)) (one3 (chLeLe3 int3 (v3 0) (gl3 T.c_WIDE)))))), fun a Q pr q => ?_⟩)
  (conv => whnf)
  refine ⟨a, trivial, rfl, ?_⟩
  cases a
  all_goals repeat' ((conv => whnf); first | (refine Exists.intro _ (And.intro rfl ?_)) | (refine br.mk (fun hbr => ?_) (fun hbr => ?_) <;> (first | exact Bool.noConfusion (show false = true from hbr) | exact Bool.noConfusion (show true = false from hbr) | simp only [decide_eq_true_eq, decide_eq_false_iff_not, Bool.not_eq_true', Bool.not_eq_false', Bool.and_eq_true, Bool.not_not, id_eq] at hbr | skip)) | (refine And.intro ?side ?_; case side => (first | rfl | assumption | omega | decide | exact Nat.le_of_ble_eq_true rfl | (dsimp only; omega) | (simp only [sizeLine, List.length_cons, List.length_nil, List.length_append]; omega) | (refine And.intro ?_ ?_ <;> omega) | (refine Or.inl (And.intro ?_ ?_) <;> omega) | (refine Or.inr (And.intro ?_ ?_) <;> omega) | fail)) | fail)
  all_goals first | exact q | (rename_i i _; exact qb q (show (decide (1 ≤ i) && decide (i ≤ 9)) = _ by simp [hbr]))
theorem ok_is_below {f : Addr} {fd : FuncData} (F : Fun K "is_below" "is_below" s_is_below f fd) (T : Txt mg) (C_is_whole : Cal P w K mg base 1 "is_whole" ["thing"] S_is_whole) : FnOk P w K mg base CX0 2 f fd ["thing", "most"] (liftF K S_is_below.sp) := by
  refine fnS F sc_is_below (fun _ => rfl) (fun cdv A outer s H E hr => ⟨_, (s13 (ret3 (andV3 (cl3 C_is_whole hr (rd3 (v3 0) rn3)) (one3 (chLeLt3 int3 (v3 0) (v3 1)))))), fun a Q pr q => ?_⟩)
  obtain ⟨d, m⟩ := a
  (conv => whnf)
  refine ⟨d, trivial, rfl, ?_⟩
  cases d
  all_goals repeat' ((conv => whnf); first | (refine Exists.intro _ (And.intro rfl ?_)) | (refine br.mk (fun hbr => ?_) (fun hbr => ?_) <;> (first | exact Bool.noConfusion (show false = true from hbr) | exact Bool.noConfusion (show true = false from hbr) | simp only [decide_eq_true_eq, decide_eq_false_iff_not, Bool.not_eq_true', Bool.not_eq_false', Bool.and_eq_true, Bool.not_not, id_eq] at hbr | skip)) | (refine And.intro ?side ?_; case side => (first | rfl | assumption | omega | decide | exact Nat.le_of_ble_eq_true rfl | (dsimp only; omega) | (simp only [sizeLine, List.length_cons, List.length_nil, List.length_append]; omega) | (refine And.intro ?_ ?_ <;> omega) | (refine Or.inl (And.intro ?_ ?_) <;> omega) | (refine Or.inr (And.intro ?_ ?_) <;> omega) | fail)) | fail)
  all_goals first | exact q | (rename_i i _; exact qb q (show (decide (0 ≤ i) && decide (i < m)) = _ by simp [hbr]))
theorem ok_is_room {f : Addr} {fd : FuncData} (F : Fun K "is_room" "is_room" s_is_room f fd) (T : Txt mg) (C_is_row : Cal P w K mg base 1 "is_row" ["thing", "many"] S_is_row) (C_is_below : Cal P w K mg base 2 "is_below" ["thing", "most"] S_is_below) : FnOk P w K mg base CX0 3 f fd ["thing", "signs", "deeds", "many"] (liftF K S_is_room.sp) := by
  refine fnS F sc_is_room (fun _ => rfl) (fun cdv A outer s H E hr => ⟨_, (sc3 (if3 (not3 (pt3_val (cl3 C_is_row hr (rd3 (v3 0) (rd3 (v3 1) rn3)))))
      (s13 (ret3 bl3))
      sn3)
      (sc3 (for3 (ws := [4]) PassesOwn.never rfl (seq3 (v3 0)) (gn3 4 sc_is_room.nd)
      (sc3 (if3 (not3 (pt3_val (cl3 C_is_row hr (rd3 (v3 4) (rd3 (v3 2) rn3)))))
      (s13 (ret3 bl3))
      sn3)
      (s13 (for3 (ws := [5]) PassesOwn.never rfl (seq3 (v3 4)) (gn3 5 sc_is_room.nd)
      (s13 (if3 (PW3.pt (and3 (isNotN3T (v3 5)) (and1_3 (not3 (pt3_val (cl3 C_is_below hr (rd3 (v3 5) (rd3 (v3 3) rn3))))))))
      (s13 (ret3 bl3))
      sn3))))))
      (s13 (ret3 bl3)))), fun a Q pr q => ?_⟩)
  obtain ⟨d, s1, n1, m1⟩ := a
  replace q : Q (.d (.bool (roomB s1 n1 m1 d))) [] := q
  (conv => whnf)
  refine ⟨(d, s1), trivial, rfl, ?_⟩
  rcases tup_or d with ⟨rows, rfl⟩ | hd
  case inr =>
    refine br_t (show (!isRw d s1) = true by cases d <;> first | rfl | cases hd) ?_
    exact qb q (by cases d <;> first | rfl | cases hd)
  ((conv => whnf); (refine br.mk (fun hbr => ?_) (fun hbr => ?_) <;> (first | exact Bool.noConfusion (show false = true from hbr) | exact Bool.noConfusion (show true = false from hbr) | simp only [decide_eq_true_eq, decide_eq_false_iff_not, Bool.not_eq_true', Bool.not_eq_false', Bool.and_eq_true, Bool.not_not, id_eq] at hbr | skip)))
  · have hbr' : decide ((rows.length : Int) = s1) = false := hbr
    exact qb q (by simp only [roomB, hbr', Bool.false_and])
  have hbr' : decide ((rows.length : Int) = s1) = true := hbr
  (conv => whnf)
  refine ⟨fun i δ => ∃ r b, δ = [some (.d (.tuple rows)), some (.d (.int s1)), some (.d (.int n1)), some (.d (.int m1)), r, b] ∧ (rows.take i).all (rowB n1 m1) = true, ⟨none, none, rfl, rfl⟩, ?_, ?_⟩
  · rintro i x δ hx ⟨r, b, rfl, hall⟩
    have bad : rowB n1 m1 x = false → Q (.d (.bool false)) [] := fun z => qb q (by simp only [roomB, all_false hx z, Bool.and_false])
    (conv => whnf)
    refine ⟨(x, n1), trivial, rfl, ?_⟩
    rcases tup_or x with ⟨cells, rfl⟩ | hd
    case inr =>
      refine br_t (show (!isRw x n1) = true by cases x <;> first | rfl | cases hd) ?_
      exact bad (by cases x <;> first | rfl | cases hd)
    ((conv => whnf); (refine br.mk (fun hbr => ?_) (fun hbr => ?_) <;> (first | exact Bool.noConfusion (show false = true from hbr) | exact Bool.noConfusion (show true = false from hbr) | simp only [decide_eq_true_eq, decide_eq_false_iff_not, Bool.not_eq_true', Bool.not_eq_false', Bool.and_eq_true, Bool.not_not, id_eq] at hbr | skip)))
    · have hbr2 : decide ((cells.length : Int) = n1) = false := hbr
      exact bad (by simp only [rowB, hbr2, Bool.false_and])
    have hbr2 : decide ((cells.length : Int) = n1) = true := hbr
    (conv => whnf)
    refine ⟨fun j δ => ∃ b, δ = [some (.d (.tuple rows)), some (.d (.int s1)), some (.d (.int n1)), some (.d (.int m1)), some (.d (.tuple cells)), b] ∧ (cells.take j).all (cellB m1) = true, ⟨b, rfl, rfl⟩, ?_, ?_⟩
    · rintro j c δ hc ⟨b, rfl, hall2⟩
      ((conv => whnf); (refine br.mk (fun hbr => ?_) (fun hbr => ?_) <;> (first | exact Bool.noConfusion (show false = true from hbr) | exact Bool.noConfusion (show true = false from hbr) | simp only [decide_eq_true_eq, decide_eq_false_iff_not, Bool.not_eq_true', Bool.not_eq_false', Bool.and_eq_true, Bool.not_not, id_eq] at hbr | skip)))
      · have h2 : isNone c = false := hbr
        (conv => whnf)
        refine ⟨(c, m1), trivial, rfl, ?_⟩
        ((conv => whnf); (refine br.mk (fun hbr => ?_) (fun hbr => ?_) <;> (first | exact Bool.noConfusion (show false = true from hbr) | exact Bool.noConfusion (show true = false from hbr) | simp only [decide_eq_true_eq, decide_eq_false_iff_not, Bool.not_eq_true', Bool.not_eq_false', Bool.and_eq_true, Bool.not_not, id_eq] at hbr | skip)))
        · have h1 : isB c m1 = false := hbr
          exact bad (by simp only [rowB, all_false (p := cellB m1) hc (by simp only [cellB, h1, h2, Bool.or_self]), Bool.and_false])
        · have h1 : isB c m1 = true := hbr
          exact ⟨_, rfl, all_take_succ hc hall2 (by simp only [cellB, h1, Bool.or_true])⟩
      · have h2 : isNone c = true := hbr
        repeat' ((conv => whnf); first | (refine Exists.intro _ (And.intro rfl ?_)) | (refine br.mk (fun hbr => ?_) (fun hbr => ?_) <;> (first | exact Bool.noConfusion (show false = true from hbr) | exact Bool.noConfusion (show true = false from hbr) | simp only [decide_eq_true_eq, decide_eq_false_iff_not, Bool.not_eq_true', Bool.not_eq_false', Bool.and_eq_true, Bool.not_not, id_eq] at hbr | skip)) | (refine And.intro ?side ?_; case side => (first | rfl | assumption | omega | decide | exact Nat.le_of_ble_eq_true rfl | (dsimp only; omega) | (simp only [sizeLine, List.length_cons, List.length_nil, List.length_append]; omega) | (refine And.intro ?_ ?_ <;> omega) | (refine Or.inl (And.intro ?_ ?_) <;> omega) | (refine Or.inr (And.intro ?_ ?_) <;> omega) | fail)) | fail)
        exact all_take_succ hc hall2 (by simp only [cellB, h2, Bool.true_or])
    · rintro δ ⟨b, rfl, hall2⟩
      rw [List.take_length] at hall2
      refine Exists.intro _ (Exists.intro _ (And.intro rfl ?_))
      exact all_take_succ hx hall (by simp only [rowB, hbr2, hall2, Bool.and_self])
  · rintro δ ⟨r, b, rfl, hall⟩
    rw [List.take_length] at hall
    exact qb q (by simp only [roomB, hall, hbr', Bool.and_self])
theorem ok_is_saying {f : Addr} {fd : FuncData} (F : Fun K "is_saying" "is_saying" s_is_saying f fd) (T : Txt mg) (C_is_row : Cal P w K mg base 1 "is_row" ["thing", "many"] S_is_row) (C_is_count : Cal P w K mg base 2 "is_count" ["thing"] S_is_count) (C_is_room : Cal P w K mg base 3 "is_room" ["thing", "signs", "deeds", "many"] S_is_room) : FnOk P w K mg base CX0 4 f fd ["thing"] (liftF K S_is_saying.sp) := by
  refine fnS F sc_is_saying (fun _ => rfl) (fun cdv A outer s H E hr => ⟨_, (sc3 (if3 (not3 (pt3_val (cl3 C_is_row hr (rd3 (v3 0) (rd3 int3 rn3)))))
      (s13 (ret3 bl3))
      sn3)
      (sc3 (asg3 (ws := [1, 2, 3]) (v3 0) (gt3' (n := 3) rfl (gs1 (gn3 1 sc_is_saying.nd) (gs1 (gn3 2 sc_is_saying.nd) (gs1 (gn3 3 sc_is_saying.nd) gs0)))))
      (sc3 (if3 (PW3.pt (or3 (not3 (pt3_val (cl3 C_is_count hr (rd3 (v3 1) rn3)))) (or3 (not3 (pt3_val (cl3 C_is_count hr (rd3 (v3 2) rn3)))) (or1_3 (not3 (pt3_val (isi3 kit_tuple (by decide +kernel) (by rfl) T.b_isinstance (by rfl) T.b_tuple (v3 3))))))))
      (s13 (ret3 bl3))
      sn3)
      (s13 (ret3 (andV3 (chLeLe3 int3 (len3  (by rfl) T.b_len (v3 3)) (gl3 T.c_MOST)) (one3 (all3 rfl (by rfl) T.b_all (lc3 (own := [("room", 4)]) rfl sc_is_saying.nd (seq3 (v3 3)) (blkOk_by (by kernel_rfl)) (fun _ _ _ _ _ => (gn3 4 sc_is_saying.nd)) (fun _ _ _ _ _ => yes3) (fun _ _ _ _ _ => (cl3 C_is_room hr (rd3 (v3 4) (rd3 (v3 1) (rd3 (v3 2) (rd3 (len3  (by rfl) T.b_len (v3 3)) rn3)))))) (s0 := s)))))))))), fun a Q pr q => ?_⟩)
  replace q : Q (.d (.bool (sayB a))) [] := q
  (conv => whnf)
  refine ⟨(a, 3), trivial, rfl, ?_⟩
  ((conv => whnf); (refine br.mk (fun hbr => ?_) (fun hbr => ?_) <;> (first | exact Bool.noConfusion (show false = true from hbr) | exact Bool.noConfusion (show true = false from hbr) | simp only [decide_eq_true_eq, decide_eq_false_iff_not, Bool.not_eq_true', Bool.not_eq_false', Bool.and_eq_true, Bool.not_not, id_eq] at hbr | skip)))
  · exact qb q (not_three hbr)
  obtain ⟨x, y, z, rfl⟩ := three hbr
  repeat' ((conv => whnf); first | (refine Exists.intro _ (And.intro rfl ?_)) | (refine br.mk (fun hbr => ?_) (fun hbr => ?_) <;> (first | exact Bool.noConfusion (show false = true from hbr) | exact Bool.noConfusion (show true = false from hbr) | simp only [decide_eq_true_eq, decide_eq_false_iff_not, Bool.not_eq_true', Bool.not_eq_false', Bool.and_eq_true, Bool.not_not, id_eq] at hbr | skip)) | (refine And.intro ?side ?_; case side => (first | rfl | assumption | omega | decide | exact Nat.le_of_ble_eq_true rfl | (dsimp only; omega) | (simp only [sizeLine, List.length_cons, List.length_nil, List.length_append]; omega) | (refine And.intro ?_ ?_ <;> omega) | (refine Or.inl (And.intro ?_ ?_) <;> omega) | (refine Or.inr (And.intro ?_ ?_) <;> omega) | fail)) | fail)
  refine ⟨x, trivial, rfl, ?_⟩
  by_cases h1 : isC x = true
  case neg =>
    have h1 : isC x = false := by simpa using h1
    refine br_t (show (!isC x) = true by rw [h1]; rfl) ?_
    repeat' ((conv => whnf); first | (refine Exists.intro _ (And.intro rfl ?_)) | (refine br.mk (fun hbr => ?_) (fun hbr => ?_) <;> (first | exact Bool.noConfusion (show false = true from hbr) | exact Bool.noConfusion (show true = false from hbr) | simp only [decide_eq_true_eq, decide_eq_false_iff_not, Bool.not_eq_true', Bool.not_eq_false', Bool.and_eq_true, Bool.not_not, id_eq] at hbr | skip)) | (refine And.intro ?side ?_; case side => (first | rfl | assumption | omega | decide | exact Nat.le_of_ble_eq_true rfl | (dsimp only; omega) | (simp only [sizeLine, List.length_cons, List.length_nil, List.length_append]; omega) | (refine And.intro ?_ ?_ <;> omega) | (refine Or.inl (And.intro ?_ ?_) <;> omega) | (refine Or.inr (And.intro ?_ ?_) <;> omega) | fail)) | fail)
    exact qb q (by cases z <;> first | rfl | simp only [sayB, h1, Bool.false_and])
  obtain ⟨i, rfl, hi1, hi2⟩ := isC_int h1
  refine br_f (show (!isC (.int i)) = false by rw [h1]; rfl) ?_
  repeat' ((conv => whnf); first | (refine Exists.intro _ (And.intro rfl ?_)) | (refine br.mk (fun hbr => ?_) (fun hbr => ?_) <;> (first | exact Bool.noConfusion (show false = true from hbr) | exact Bool.noConfusion (show true = false from hbr) | simp only [decide_eq_true_eq, decide_eq_false_iff_not, Bool.not_eq_true', Bool.not_eq_false', Bool.and_eq_true, Bool.not_not, id_eq] at hbr | skip)) | (refine And.intro ?side ?_; case side => (first | rfl | assumption | omega | decide | exact Nat.le_of_ble_eq_true rfl | (dsimp only; omega) | (simp only [sizeLine, List.length_cons, List.length_nil, List.length_append]; omega) | (refine And.intro ?_ ?_ <;> omega) | (refine Or.inl (And.intro ?_ ?_) <;> omega) | (refine Or.inr (And.intro ?_ ?_) <;> omega) | fail)) | fail)
  refine ⟨y, trivial, rfl, ?_⟩
  by_cases h2 : isC y = true
  case neg =>
    have h2 : isC y = false := by simpa using h2
    refine br_t (show (!isC y) = true by rw [h2]; rfl) ?_
    repeat' ((conv => whnf); first | (refine Exists.intro _ (And.intro rfl ?_)) | (refine br.mk (fun hbr => ?_) (fun hbr => ?_) <;> (first | exact Bool.noConfusion (show false = true from hbr) | exact Bool.noConfusion (show true = false from hbr) | simp only [decide_eq_true_eq, decide_eq_false_iff_not, Bool.not_eq_true', Bool.not_eq_false', Bool.and_eq_true, Bool.not_not, id_eq] at hbr | skip)) | (refine And.intro ?side ?_; case side => (first | rfl | assumption | omega | decide | exact Nat.le_of_ble_eq_true rfl | (dsimp only; omega) | (simp only [sizeLine, List.length_cons, List.length_nil, List.length_append]; omega) | (refine And.intro ?_ ?_ <;> omega) | (refine Or.inl (And.intro ?_ ?_) <;> omega) | (refine Or.inr (And.intro ?_ ?_) <;> omega) | fail)) | fail)
    exact qb q (by cases z <;> first | rfl | simp only [sayB, h1, h2, Bool.false_and, Bool.and_false])
  obtain ⟨j, rfl, hj1, hj2⟩ := isC_int h2
  refine br_f (show (!isC (.int j)) = false by rw [h2]; rfl) ?_
  rcases tup_or z with ⟨rooms, rfl⟩ | hd
  case inr =>
    refine br_t (show (!isTup z) = true by rw [hd]; rfl) ?_
    repeat' ((conv => whnf); first | (refine Exists.intro _ (And.intro rfl ?_)) | (refine br.mk (fun hbr => ?_) (fun hbr => ?_) <;> (first | exact Bool.noConfusion (show false = true from hbr) | exact Bool.noConfusion (show true = false from hbr) | simp only [decide_eq_true_eq, decide_eq_false_iff_not, Bool.not_eq_true', Bool.not_eq_false', Bool.and_eq_true, Bool.not_not, id_eq] at hbr | skip)) | (refine And.intro ?side ?_; case side => (first | rfl | assumption | omega | decide | exact Nat.le_of_ble_eq_true rfl | (dsimp only; omega) | (simp only [sizeLine, List.length_cons, List.length_nil, List.length_append]; omega) | (refine And.intro ?_ ?_ <;> omega) | (refine Or.inl (And.intro ?_ ?_) <;> omega) | (refine Or.inr (And.intro ?_ ?_) <;> omega) | fail)) | fail)
    exact qb q (by cases z <;> first | rfl | cases hd)
  repeat' ((conv => whnf); first | (refine Exists.intro _ (And.intro rfl ?_)) | (refine br.mk (fun hbr => ?_) (fun hbr => ?_) <;> (first | exact Bool.noConfusion (show false = true from hbr) | exact Bool.noConfusion (show true = false from hbr) | simp only [decide_eq_true_eq, decide_eq_false_iff_not, Bool.not_eq_true', Bool.not_eq_false', Bool.and_eq_true, Bool.not_not, id_eq] at hbr | skip)) | (refine And.intro ?side ?_; case side => (first | rfl | assumption | omega | decide | exact Nat.le_of_ble_eq_true rfl | (dsimp only; omega) | (simp only [sizeLine, List.length_cons, List.length_nil, List.length_append]; omega) | (refine And.intro ?_ ?_ <;> omega) | (refine Or.inl (And.intro ?_ ?_) <;> omega) | (refine Or.inr (And.intro ?_ ?_) <;> omega) | fail)) | fail)
  · rename_i hge
    have hl : rooms.length ≤ 100 := by omega
    refine ⟨fun k acc δ => δ = [some (.d (.tuple [.int i, .int j, .tuple rooms])), some (.d (.int i)), some (.d (.int j)), some (.d (.tuple rooms)), none] ∧ acc = (rooms.take k).map fun r => .bool (roomB i j rooms.length r), ⟨rfl, rfl⟩, ?_, ?_⟩
    · rintro k r acc δ hr ⟨rfl, rfl⟩
      repeat' ((conv => whnf); first | (refine Exists.intro _ (And.intro rfl ?_)) | (refine br.mk (fun hbr => ?_) (fun hbr => ?_) <;> (first | exact Bool.noConfusion (show false = true from hbr) | exact Bool.noConfusion (show true = false from hbr) | simp only [decide_eq_true_eq, decide_eq_false_iff_not, Bool.not_eq_true', Bool.not_eq_false', Bool.and_eq_true, Bool.not_not, id_eq] at hbr | skip)) | (refine And.intro ?side ?_; case side => (first | rfl | assumption | omega | decide | exact Nat.le_of_ble_eq_true rfl | (dsimp only; omega) | (simp only [sizeLine, List.length_cons, List.length_nil, List.length_append]; omega) | (refine And.intro ?_ ?_ <;> omega) | (refine Or.inl (And.intro ?_ ?_) <;> omega) | (refine Or.inr (And.intro ?_ ?_) <;> omega) | fail)) | fail)
      refine ⟨(r, i, j, rooms.length), trivial, rfl, rfl, ?_⟩
      rw [List.take_succ, hr]
      simp
    · rintro acc δ ⟨rfl, rfl⟩
      refine ⟨rooms.map (roomB i j rooms.length), by rw [List.take_length, List.map_map]; rfl, ?_⟩
      exact qb q (by simp [sayB, h1, h2, hge, hbr, intOf, List.all_map])
  · rename_i hge
    exact qb q (by simp [sayB, h1, h2, hge, hbr])
  · rename_i hge
    exact qb q (by simp only [sayB, h1, h2, decide_eq_false hge, Bool.false_and, Bool.and_false])
theorem ok__law_whole {f : Addr} {fd : FuncData} (F : Fun K "_law_whole" "_law_whole" s__law_whole f fd) (T : Txt mg)  : FnOk P w K mg base CX0 1 f fd ["found"] (liftF K S__law_whole.sp) := by
  refine fnS F sc__law_whole (fun _ => rfl) (fun cdv A outer s H E hr => ⟨_, (s13 (ret3 (andV3 (isi3 kit_int (by decide +kernel) (by rfl) T.b_isinstance (by rfl) T.b_int (v3 0)) (one3 (notV3 (isi3 kit_bool (by decide +kernel) (by rfl) T.b_isinstance (by rfl) T.b_bool (v3 0))))))), fun a Q pr q => ?_⟩)
  cases a
  all_goals repeat' ((conv => whnf); first | (refine Exists.intro _ (And.intro rfl ?_)) | (refine br.mk (fun hbr => ?_) (fun hbr => ?_) <;> (first | exact Bool.noConfusion (show false = true from hbr) | exact Bool.noConfusion (show true = false from hbr) | simp only [decide_eq_true_eq, decide_eq_false_iff_not, Bool.not_eq_true', Bool.not_eq_false', Bool.and_eq_true, Bool.not_not, id_eq] at hbr | skip)) | (refine And.intro ?side ?_; case side => (first | rfl | assumption | omega | decide | exact Nat.le_of_ble_eq_true rfl | (dsimp only; omega) | (simp only [sizeLine, List.length_cons, List.length_nil, List.length_append]; omega) | (refine And.intro ?_ ?_ <;> omega) | (refine Or.inl (And.intro ?_ ?_) <;> omega) | (refine Or.inr (And.intro ?_ ?_) <;> omega) | fail)) | fail)
  all_goals exact q
theorem ok__law_is_saying {f : Addr} {fd : FuncData} (F : Fun K "_law_is_saying" "_law_is_saying" s__law_is_saying f fd) (T : Txt mg) (C__law_whole : Cal P w K mg base 1 "_law_whole" ["found"] S__law_whole) : FnOk P w K mg base CX0 2 f fd ["thing"] (liftF K S__law_is_saying.sp) := by
  refine fnS F sc__law_is_saying (fun _ => rfl) (fun cdv A outer s H E hr => ⟨_, (sc3 (if3 (PW3.pt (or3 (not3 (pt3_val (isi3 kit_tuple (by decide +kernel) (by rfl) T.b_isinstance (by rfl) T.b_tuple (v3 0)))) (or1_3 (ne3T hr.units (len3  (by rfl) T.b_len (v3 0)) int3))))
      (s13 (ret3 bl3))
      sn3)
      (sc3 (asg3 (ws := [1, 2, 3]) (v3 0) (gt3' (n := 3) rfl (gs1 (gn3 1 sc__law_is_saying.nd) (gs1 (gn3 2 sc__law_is_saying.nd) (gs1 (gn3 3 sc__law_is_saying.nd) gs0)))))
      (sc3 (if3 (PW3.pt (or3 (not3 (pt3_val (cl3 C__law_whole hr (rd3 (v3 1) rn3)))) (or3 (not3 (pt3_val (cl3 C__law_whole hr (rd3 (v3 2) rn3)))) (or1_3 (not3 (pt3_val (isi3 kit_tuple (by decide +kernel) (by rfl) T.b_isinstance (by rfl) T.b_tuple (v3 3))))))))
      (s13 (ret3 bl3))
      sn3)
      (sc3 (if3 (PW3.pt (or3 (not3 (chLeLe3T int3 (v3 1) int3)) (or3 (not3 (chLeLe3T int3 (v3 2) int3)) (or1_3 (not3 (chLeLe3T int3 (len3  (by rfl) T.b_len (v3 3)) int3))))))
      (s13 (ret3 bl3))
      sn3)
      (sc3 (for3 (ws := [4]) PassesOwn.never rfl (seq3 (v3 3)) (gn3 4 sc__law_is_saying.nd)
      (sc3 (if3 (PW3.pt (or3 (not3 (pt3_val (isi3 kit_tuple (by decide +kernel) (by rfl) T.b_isinstance (by rfl) T.b_tuple (v3 4)))) (or1_3 (ne3T hr.units (len3  (by rfl) T.b_len (v3 4)) (v3 1)))))
      (s13 (ret3 bl3))
      sn3)
      (s13 (for3 (ws := [5]) PassesOwn.never rfl (seq3 (v3 4)) (gn3 5 sc__law_is_saying.nd)
      (sc3 (if3 (PW3.pt (or3 (not3 (pt3_val (isi3 kit_tuple (by decide +kernel) (by rfl) T.b_isinstance (by rfl) T.b_tuple (v3 5)))) (or1_3 (ne3T hr.units (len3  (by rfl) T.b_len (v3 5)) (v3 2)))))
      (s13 (ret3 bl3))
      sn3)
      (s13 (for3 (ws := [6]) PassesOwn.never rfl (seq3 (v3 5)) (gn3 6 sc__law_is_saying.nd)
      (s13 (if3 (PW3.pt (and3 (isNotN3T (v3 6)) (and1_3 (PW3.pt (or3 (not3 (pt3_val (cl3 C__law_whole hr (rd3 (v3 6) rn3)))) (or1_3 (not3 (chLeLt3T int3 (v3 6) (len3  (by rfl) T.b_len (v3 3))))))))))
      (s13 (ret3 bl3))
      sn3)))))))))
      (s13 (ret3 bl3))))))), fun a Q pr q => ?_⟩)
  replace q : Q (.d (.bool (sayB a))) [] := q
  (conv => whnf)
  rcases tup_or a with ⟨xs, rfl⟩ | hd
  case inr =>
    refine br_t (show (!isTup a) = true by rw [hd]; rfl) ?_
    repeat' ((conv => whnf); first | (refine Exists.intro _ (And.intro rfl ?_)) | (refine br.mk (fun hbr => ?_) (fun hbr => ?_) <;> (first | exact Bool.noConfusion (show false = true from hbr) | exact Bool.noConfusion (show true = false from hbr) | simp only [decide_eq_true_eq, decide_eq_false_iff_not, Bool.not_eq_true', Bool.not_eq_false', Bool.and_eq_true, Bool.not_not, id_eq] at hbr | skip)) | (refine And.intro ?side ?_; case side => (first | rfl | assumption | omega | decide | exact Nat.le_of_ble_eq_true rfl | (dsimp only; omega) | (simp only [sizeLine, List.length_cons, List.length_nil, List.length_append]; omega) | (refine And.intro ?_ ?_ <;> omega) | (refine Or.inl (And.intro ?_ ?_) <;> omega) | (refine Or.inr (And.intro ?_ ?_) <;> omega) | fail)) | fail)
    exact qb q (by cases a <;> first | rfl | cases hd)
  by_cases h3 : isRw (.tuple xs) 3 = true
  case neg =>
    have h3 : isRw (.tuple xs) 3 = false := by simpa using h3
    repeat' ((conv => whnf); first | (refine Exists.intro _ (And.intro rfl ?_)) | (refine br.mk (fun hbr => ?_) (fun hbr => ?_) <;> (first | exact Bool.noConfusion (show false = true from hbr) | exact Bool.noConfusion (show true = false from hbr) | simp only [decide_eq_true_eq, decide_eq_false_iff_not, Bool.not_eq_true', Bool.not_eq_false', Bool.and_eq_true, Bool.not_not, id_eq] at hbr | skip)) | (refine And.intro ?side ?_; case side => (first | rfl | assumption | omega | decide | exact Nat.le_of_ble_eq_true rfl | (dsimp only; omega) | (simp only [sizeLine, List.length_cons, List.length_nil, List.length_append]; omega) | (refine And.intro ?_ ?_ <;> omega) | (refine Or.inl (And.intro ?_ ?_) <;> omega) | (refine Or.inr (And.intro ?_ ?_) <;> omega) | fail)) | fail)
    all_goals first | exact qb q (not_three h3) | exact absurd (show ((xs.length : Nat) : Int) = 3 by assumption) (of_decide_eq_false h3)
  obtain ⟨x, y, z, h⟩ := three h3
  cases h
  repeat' ((conv => whnf); first | (refine Exists.intro _ (And.intro rfl ?_)) | (refine br.mk (fun hbr => ?_) (fun hbr => ?_) <;> (first | exact Bool.noConfusion (show false = true from hbr) | exact Bool.noConfusion (show true = false from hbr) | simp only [decide_eq_true_eq, decide_eq_false_iff_not, Bool.not_eq_true', Bool.not_eq_false', Bool.and_eq_true, Bool.not_not, id_eq] at hbr | skip)) | (refine And.intro ?side ?_; case side => (first | rfl | assumption | omega | decide | exact Nat.le_of_ble_eq_true rfl | (dsimp only; omega) | (simp only [sizeLine, List.length_cons, List.length_nil, List.length_append]; omega) | (refine And.intro ?_ ?_ <;> omega) | (refine Or.inl (And.intro ?_ ?_) <;> omega) | (refine Or.inr (And.intro ?_ ?_) <;> omega) | fail)) | fail)
  refine ⟨x, trivial, rfl, ?_⟩
  by_cases hx : isW x = true
  case neg =>
    have hx : isW x = false := by simpa using hx
    refine br_t (show (!isW x) = true by rw [hx]; rfl) ?_
    repeat' ((conv => whnf); first | (refine Exists.intro _ (And.intro rfl ?_)) | (refine br.mk (fun hbr => ?_) (fun hbr => ?_) <;> (first | exact Bool.noConfusion (show false = true from hbr) | exact Bool.noConfusion (show true = false from hbr) | simp only [decide_eq_true_eq, decide_eq_false_iff_not, Bool.not_eq_true', Bool.not_eq_false', Bool.and_eq_true, Bool.not_not, id_eq] at hbr | skip)) | (refine And.intro ?side ?_; case side => (first | rfl | assumption | omega | decide | exact Nat.le_of_ble_eq_true rfl | (dsimp only; omega) | (simp only [sizeLine, List.length_cons, List.length_nil, List.length_append]; omega) | (refine And.intro ?_ ?_ <;> omega) | (refine Or.inl (And.intro ?_ ?_) <;> omega) | (refine Or.inr (And.intro ?_ ?_) <;> omega) | fail)) | fail)
    exact qb q (by cases z <;> first | rfl | (cases x <;> first | rfl | cases hx))
  refine br_f (show (!isW x) = false by rw [hx]; rfl) ?_
  repeat' ((conv => whnf); first | (refine Exists.intro _ (And.intro rfl ?_)) | (refine br.mk (fun hbr => ?_) (fun hbr => ?_) <;> (first | exact Bool.noConfusion (show false = true from hbr) | exact Bool.noConfusion (show true = false from hbr) | simp only [decide_eq_true_eq, decide_eq_false_iff_not, Bool.not_eq_true', Bool.not_eq_false', Bool.and_eq_true, Bool.not_not, id_eq] at hbr | skip)) | (refine And.intro ?side ?_; case side => (first | rfl | assumption | omega | decide | exact Nat.le_of_ble_eq_true rfl | (dsimp only; omega) | (simp only [sizeLine, List.length_cons, List.length_nil, List.length_append]; omega) | (refine And.intro ?_ ?_ <;> omega) | (refine Or.inl (And.intro ?_ ?_) <;> omega) | (refine Or.inr (And.intro ?_ ?_) <;> omega) | fail)) | fail)
  refine ⟨y, trivial, rfl, ?_⟩
  by_cases hy : isW y = true
  case neg =>
    have hy : isW y = false := by simpa using hy
    refine br_t (show (!isW y) = true by rw [hy]; rfl) ?_
    repeat' ((conv => whnf); first | (refine Exists.intro _ (And.intro rfl ?_)) | (refine br.mk (fun hbr => ?_) (fun hbr => ?_) <;> (first | exact Bool.noConfusion (show false = true from hbr) | exact Bool.noConfusion (show true = false from hbr) | simp only [decide_eq_true_eq, decide_eq_false_iff_not, Bool.not_eq_true', Bool.not_eq_false', Bool.and_eq_true, Bool.not_not, id_eq] at hbr | skip)) | (refine And.intro ?side ?_; case side => (first | rfl | assumption | omega | decide | exact Nat.le_of_ble_eq_true rfl | (dsimp only; omega) | (simp only [sizeLine, List.length_cons, List.length_nil, List.length_append]; omega) | (refine And.intro ?_ ?_ <;> omega) | (refine Or.inl (And.intro ?_ ?_) <;> omega) | (refine Or.inr (And.intro ?_ ?_) <;> omega) | fail)) | fail)
    exact qb q (by cases z <;> first | rfl | (cases y <;> first | (simp only [sayB, isC, Bool.and_false, Bool.false_and]; done) | cases hy))
  refine br_f (show (!isW y) = false by rw [hy]; rfl) ?_
  rcases tup_or z with ⟨rooms, rfl⟩ | hd
  case inr =>
    refine br_t (show (!isTup z) = true by rw [hd]; rfl) ?_
    repeat' ((conv => whnf); first | (refine Exists.intro _ (And.intro rfl ?_)) | (refine br.mk (fun hbr => ?_) (fun hbr => ?_) <;> (first | exact Bool.noConfusion (show false = true from hbr) | exact Bool.noConfusion (show true = false from hbr) | simp only [decide_eq_true_eq, decide_eq_false_iff_not, Bool.not_eq_true', Bool.not_eq_false', Bool.and_eq_true, Bool.not_not, id_eq] at hbr | skip)) | (refine And.intro ?side ?_; case side => (first | rfl | assumption | omega | decide | exact Nat.le_of_ble_eq_true rfl | (dsimp only; omega) | (simp only [sizeLine, List.length_cons, List.length_nil, List.length_append]; omega) | (refine And.intro ?_ ?_ <;> omega) | (refine Or.inl (And.intro ?_ ?_) <;> omega) | (refine Or.inr (And.intro ?_ ?_) <;> omega) | fail)) | fail)
    exact qb q (by cases z <;> first | rfl | cases hd)
  obtain ⟨i, rfl⟩ := isW_int hx
  obtain ⟨j, rfl⟩ := isW_int hy
  have e0 : sayB (.tuple [.int i, .int j, .tuple rooms]) = (decide ((1 ≤ i ∧ i ≤ 9) ∧ (1 ≤ j ∧ j ≤ 9) ∧ 1 ≤ (rooms.length : Int) ∧ (rooms.length : Int) ≤ 100) && rooms.all (roomB i j rooms.length)) := by
    simp [sayB, isC, intOf, Bool.and_assoc]
  by_cases hc : (1 ≤ i ∧ i ≤ 9) ∧ (1 ≤ j ∧ j ≤ 9) ∧ 1 ≤ (rooms.length : Int) ∧ (rooms.length : Int) ≤ 100
  case neg =>
    rw [decide_eq_false hc, Bool.false_and] at e0
    repeat' ((conv => whnf); first | (refine Exists.intro _ (And.intro rfl ?_)) | (refine br.mk (fun hbr => ?_) (fun hbr => ?_) <;> (first | exact Bool.noConfusion (show false = true from hbr) | exact Bool.noConfusion (show true = false from hbr) | simp only [decide_eq_true_eq, decide_eq_false_iff_not, Bool.not_eq_true', Bool.not_eq_false', Bool.and_eq_true, Bool.not_not, id_eq] at hbr | skip)) | (refine And.intro ?side ?_; case side => (first | rfl | assumption | omega | decide | exact Nat.le_of_ble_eq_true rfl | (dsimp only; omega) | (simp only [sizeLine, List.length_cons, List.length_nil, List.length_append]; omega) | (refine And.intro ?_ ?_ <;> omega) | (refine Or.inl (And.intro ?_ ?_) <;> omega) | (refine Or.inr (And.intro ?_ ?_) <;> omega) | fail)) | fail)
    all_goals first | exact qb q e0 | (exfalso; omega)
  rw [decide_eq_true hc, Bool.true_and] at e0
  rw [e0] at q
  repeat' ((conv => whnf); first | (refine Exists.intro _ (And.intro rfl ?_)) | (refine br.mk (fun hbr => ?_) (fun hbr => ?_) <;> (first | exact Bool.noConfusion (show false = true from hbr) | exact Bool.noConfusion (show true = false from hbr) | simp only [decide_eq_true_eq, decide_eq_false_iff_not, Bool.not_eq_true', Bool.not_eq_false', Bool.and_eq_true, Bool.not_not, id_eq] at hbr | skip)) | (refine And.intro ?side ?_; case side => (first | rfl | assumption | omega | decide | exact Nat.le_of_ble_eq_true rfl | (dsimp only; omega) | (simp only [sizeLine, List.length_cons, List.length_nil, List.length_append]; omega) | (refine And.intro ?_ ?_ <;> omega) | (refine Or.inl (And.intro ?_ ?_) <;> omega) | (refine Or.inr (And.intro ?_ ?_) <;> omega) | fail)) | fail)
  all_goals try (exfalso; omega)
  refine ⟨fun k δ => ∃ r b c, δ = [some (.d (.tuple [.int i, .int j, .tuple rooms])), some (.d (.int i)), some (.d (.int j)), some (.d (.tuple rooms)), r, b, c] ∧ (rooms.take k).all (roomB i j rooms.length) = true, ⟨_, _, _, rfl, rfl⟩, ?_, ?_⟩
  · rintro k x δ hx ⟨r, b, c, rfl, hall⟩
    have bad : roomB i j rooms.length x = false → Q (.d (.bool false)) [] := fun z => qb q (all_false hx z)
    rcases tup_or x with ⟨rows, rfl⟩ | hd
    case inr =>
      (conv => whnf)
      refine br_t (show (!isTup x) = true by rw [hd]; rfl) ?_
      repeat' ((conv => whnf); first | (refine Exists.intro _ (And.intro rfl ?_)) | (refine br.mk (fun hbr => ?_) (fun hbr => ?_) <;> (first | exact Bool.noConfusion (show false = true from hbr) | exact Bool.noConfusion (show true = false from hbr) | simp only [decide_eq_true_eq, decide_eq_false_iff_not, Bool.not_eq_true', Bool.not_eq_false', Bool.and_eq_true, Bool.not_not, id_eq] at hbr | skip)) | (refine And.intro ?side ?_; case side => (first | rfl | assumption | omega | decide | exact Nat.le_of_ble_eq_true rfl | (dsimp only; omega) | (simp only [sizeLine, List.length_cons, List.length_nil, List.length_append]; omega) | (refine And.intro ?_ ?_ <;> omega) | (refine Or.inl (And.intro ?_ ?_) <;> omega) | (refine Or.inr (And.intro ?_ ?_) <;> omega) | fail)) | fail)
      exact bad (by cases x <;> first | rfl | cases hd)
    repeat' ((conv => whnf); first | (refine Exists.intro _ (And.intro rfl ?_)) | (refine br.mk (fun hbr => ?_) (fun hbr => ?_) <;> (first | exact Bool.noConfusion (show false = true from hbr) | exact Bool.noConfusion (show true = false from hbr) | simp only [decide_eq_true_eq, decide_eq_false_iff_not, Bool.not_eq_true', Bool.not_eq_false', Bool.and_eq_true, Bool.not_not, id_eq] at hbr | skip)) | (refine And.intro ?side ?_; case side => (first | rfl | assumption | omega | decide | exact Nat.le_of_ble_eq_true rfl | (dsimp only; omega) | (simp only [sizeLine, List.length_cons, List.length_nil, List.length_append]; omega) | (refine And.intro ?_ ?_ <;> omega) | (refine Or.inl (And.intro ?_ ?_) <;> omega) | (refine Or.inr (And.intro ?_ ?_) <;> omega) | fail)) | fail)
    · exact bad (by simp only [roomB, decide_eq_false hbr, Bool.false_and])
    have hr1 : (rows.length : Int) = i := by assumption
    refine ⟨fun k δ => ∃ b c, δ = [some (.d (.tuple [.int i, .int j, .tuple rooms])), some (.d (.int i)), some (.d (.int j)), some (.d (.tuple rooms)), some (.d (.tuple rows)), b, c] ∧ (rows.take k).all (rowB j rooms.length) = true, ⟨_, _, rfl, rfl⟩, ?_, ?_⟩
    · rintro k1 x δ hx1 ⟨b, c, rfl, hall1⟩
      have bad : rowB j rooms.length x = false → Q (.d (.bool false)) [] := fun z => bad (by simp only [roomB, all_false hx1 z, Bool.and_false])
      rcases tup_or x with ⟨cells, rfl⟩ | hd
      case inr =>
        (conv => whnf)
        refine br_t (show (!isTup x) = true by rw [hd]; rfl) ?_
        repeat' ((conv => whnf); first | (refine Exists.intro _ (And.intro rfl ?_)) | (refine br.mk (fun hbr => ?_) (fun hbr => ?_) <;> (first | exact Bool.noConfusion (show false = true from hbr) | exact Bool.noConfusion (show true = false from hbr) | simp only [decide_eq_true_eq, decide_eq_false_iff_not, Bool.not_eq_true', Bool.not_eq_false', Bool.and_eq_true, Bool.not_not, id_eq] at hbr | skip)) | (refine And.intro ?side ?_; case side => (first | rfl | assumption | omega | decide | exact Nat.le_of_ble_eq_true rfl | (dsimp only; omega) | (simp only [sizeLine, List.length_cons, List.length_nil, List.length_append]; omega) | (refine And.intro ?_ ?_ <;> omega) | (refine Or.inl (And.intro ?_ ?_) <;> omega) | (refine Or.inr (And.intro ?_ ?_) <;> omega) | fail)) | fail)
        exact bad (by cases x <;> first | rfl | cases hd)
      repeat' ((conv => whnf); first | (refine Exists.intro _ (And.intro rfl ?_)) | (refine br.mk (fun hbr => ?_) (fun hbr => ?_) <;> (first | exact Bool.noConfusion (show false = true from hbr) | exact Bool.noConfusion (show true = false from hbr) | simp only [decide_eq_true_eq, decide_eq_false_iff_not, Bool.not_eq_true', Bool.not_eq_false', Bool.and_eq_true, Bool.not_not, id_eq] at hbr | skip)) | (refine And.intro ?side ?_; case side => (first | rfl | assumption | omega | decide | exact Nat.le_of_ble_eq_true rfl | (dsimp only; omega) | (simp only [sizeLine, List.length_cons, List.length_nil, List.length_append]; omega) | (refine And.intro ?_ ?_ <;> omega) | (refine Or.inl (And.intro ?_ ?_) <;> omega) | (refine Or.inr (And.intro ?_ ?_) <;> omega) | fail)) | fail)
      · exact bad (by simp only [rowB, decide_eq_false hbr, Bool.false_and])
      have hr2 : (cells.length : Int) = j := by assumption
      refine ⟨fun k δ => ∃ c, δ = [some (.d (.tuple [.int i, .int j, .tuple rooms])), some (.d (.int i)), some (.d (.int j)), some (.d (.tuple rooms)), some (.d (.tuple rows)), some (.d (.tuple cells)), c] ∧ (cells.take k).all (cellB rooms.length) = true, ⟨_, rfl, rfl⟩, ?_, ?_⟩
      · rintro k2 x δ hx2 ⟨c, rfl, hall2⟩
        have bad : cellB rooms.length x = false → Q (.d (.bool false)) [] := fun z => bad (by simp only [rowB, all_false hx2 z, Bool.and_false])
        have good : cellB rooms.length x = true → ∃ c, [some (W.d (.tuple [.int i, .int j, .tuple rooms])), some (.d (.int i)), some (.d (.int j)), some (.d (.tuple rooms)), some (.d (.tuple rows)), some (.d (.tuple cells)), some (.d x)] = [some (W.d (.tuple [.int i, .int j, .tuple rooms])), some (.d (.int i)), some (.d (.int j)), some (.d (.tuple rooms)), some (.d (.tuple rows)), some (.d (.tuple cells)), c] ∧ (cells.take (k2 + 1)).all (cellB rooms.length) = true := fun z => ⟨_, rfl, all_take_succ hx2 hall2 z⟩
        (conv => whnf)
        cases x
        case none => exact br_f rfl (br_f rfl (good rfl))
        all_goals refine br_t rfl ?_
        all_goals (conv => whnf)
        all_goals refine ⟨_, trivial, rfl, ?_⟩
        all_goals repeat' ((conv => whnf); first | (refine Exists.intro _ (And.intro rfl ?_)) | (refine br.mk (fun hbr => ?_) (fun hbr => ?_) <;> (first | exact Bool.noConfusion (show false = true from hbr) | exact Bool.noConfusion (show true = false from hbr) | simp only [decide_eq_true_eq, decide_eq_false_iff_not, Bool.not_eq_true', Bool.not_eq_false', Bool.and_eq_true, Bool.not_not, id_eq] at hbr | skip)) | (refine And.intro ?side ?_; case side => (first | rfl | assumption | omega | decide | exact Nat.le_of_ble_eq_true rfl | (dsimp only; omega) | (simp only [sizeLine, List.length_cons, List.length_nil, List.length_append]; omega) | (refine And.intro ?_ ?_ <;> omega) | (refine Or.inl (And.intro ?_ ?_) <;> omega) | (refine Or.inr (And.intro ?_ ?_) <;> omega) | fail)) | fail)
        all_goals first | exact bad rfl | exact bad (by simp [cellB, isNone, isB]; omega) | exact all_take_succ hx2 hall2 (by simp [cellB, isNone, isB]; omega) | trace_state
      · rintro δ ⟨c, rfl, hall2⟩
        rw [List.take_length] at hall2
        exact ⟨_, _, rfl, all_take_succ hx1 hall1 (by simp only [rowB, decide_eq_true hr2, hall2, Bool.and_self])⟩
    · rintro δ ⟨b, c, rfl, hall1⟩
      rw [List.take_length] at hall1
      exact ⟨_, _, _, rfl, all_take_succ hx hall (by simp only [roomB, decide_eq_true hr1, hall1, Bool.and_self])⟩
  · rintro δ ⟨r, b, c, rfl, hall⟩
    rw [List.take_length] at hall
    exact qb q hall
theorem ok__law_sizes {f : Addr} {fd : FuncData} (F : Fun K "_law_sizes" "_law_sizes" s__law_sizes f fd) (T : Txt mg) (C__law_take : Cal P w K mg base 1 "_law_take" ["pot", "many"] S_take) : FnOk P w K mg base CX0 2 f fd ["pot"] (liftF K S__law_sizes.sp) := by
  refine fnS F sc__law_sizes (fun _ => rfl) (fun cdv A outer s H E hr => ⟨_, (sc3 (set3 1 sc__law_sizes.nd (cl3 C__law_take hr (ro3 0 (rd3 int3 rn3))))
      (sc3 (if3 (eq3T hr.units (v3 1) int3)
      (s13 (ret3 (tup3 (ac3 (add3 int3 (cl3 C__law_take hr (ro3 0 (rd3 int3 rn3)))) (ac3 (add3 int3 (cl3 C__law_take hr (ro3 0 (rd3 int3 rn3)))) (ac3 (add3 int3 (cl3 C__law_take hr (ro3 0 (rd3 int3 rn3)))) an3))))))
      sn3)
      (sc3 (if3 (eq3T hr.units (v3 1) int3)
      (s13 (ret3 (tup3 (ac3 (add3 int3 (cl3 C__law_take hr (ro3 0 (rd3 int3 rn3)))) (ac3 (add3 int3 (cl3 C__law_take hr (ro3 0 (rd3 int3 rn3)))) (ac3 (add3 int3 (cl3 C__law_take hr (ro3 0 (rd3 int3 rn3)))) an3))))))
      sn3)
      (s13 (ret3 (tup3 (ac3 (add3 int3 (cl3 C__law_take hr (ro3 0 (rd3 int3 rn3)))) (ac3 (add3 int3 (cl3 C__law_take hr (ro3 0 (rd3 int3 rn3)))) (ac3 (add3 int3 (cl3 C__law_take hr (ro3 0 (rd3 int3 rn3)))) an3))))))))), fun a Q pr q => ?_⟩)
  obtain ⟨ob, c⟩ := a
  obtain ⟨hp, hc⟩ := pr
  replace hp : IsPot c ob := hp
  replace hc : c ≤ 10 ^ 10 := hc
  repeat' ((conv => whnf); first | (refine Exists.intro _ (And.intro rfl ?_)) | (refine br.mk (fun hbr => ?_) (fun hbr => ?_) <;> (first | exact Bool.noConfusion (show false = true from hbr) | exact Bool.noConfusion (show true = false from hbr) | simp only [decide_eq_true_eq, decide_eq_false_iff_not, Bool.not_eq_true', Bool.not_eq_false', Bool.and_eq_true, Bool.not_not, id_eq] at hbr | skip)) | (refine And.intro ?side ?_; case side => (first | rfl | assumption | omega | decide | exact Nat.le_of_ble_eq_true rfl | (dsimp only; omega) | (simp only [sizeLine, List.length_cons, List.length_nil, List.length_append]; omega) | (refine And.intro ?_ ?_ <;> omega) | (refine Or.inl (And.intro ?_ ?_) <;> omega) | (refine Or.inr (And.intro ?_ ?_) <;> omega) | fail)) | fail)
  refine Exists.intro (_, c, 8) (And.intro ⟨hp, (show c ≤ 10 ^ 12 by omega), (show (0 : Int) < 8 by first | decide | omega), (show 8 < (2 : Int) ^ 29 by first | decide | omega)⟩ (And.intro rfl ?_))
  rintro ⟨u, ob⟩ ⟨h0_u, h1_u, hp⟩
  replace h0_u : 0 ≤ u := h0_u
  replace h1_u : u < 8 := h1_u
  replace hp : IsPot (c + 1) ob := hp
  repeat' ((conv => whnf); first | (refine Exists.intro _ (And.intro rfl ?_)) | (refine br.mk (fun hbr => ?_) (fun hbr => ?_) <;> (first | exact Bool.noConfusion (show false = true from hbr) | exact Bool.noConfusion (show true = false from hbr) | simp only [decide_eq_true_eq, decide_eq_false_iff_not, Bool.not_eq_true', Bool.not_eq_false', Bool.and_eq_true, Bool.not_not, id_eq] at hbr | skip)) | (refine And.intro ?side ?_; case side => (first | rfl | assumption | omega | decide | exact Nat.le_of_ble_eq_true rfl | (dsimp only; omega) | (simp only [sizeLine, List.length_cons, List.length_nil, List.length_append]; omega) | (refine And.intro ?_ ?_ <;> omega) | (refine Or.inl (And.intro ?_ ?_) <;> omega) | (refine Or.inr (And.intro ?_ ?_) <;> omega) | fail)) | fail)
  · refine Exists.intro (_, (c+1), 10) (And.intro ⟨hp, (show (c+1) ≤ 10 ^ 12 by omega), (show (0 : Int) < 10 by first | decide | omega), (show 10 < (2 : Int) ^ 29 by first | decide | omega)⟩ (And.intro rfl ?_))
    rintro ⟨x, ob⟩ ⟨h0_x, h1_x, hp⟩
    replace h0_x : 0 ≤ x := h0_x
    replace h1_x : x < 10 := h1_x
    replace hp : IsPot ((c+1) + 1) ob := hp
    repeat' ((conv => whnf); first | (refine Exists.intro _ (And.intro rfl ?_)) | (refine br.mk (fun hbr => ?_) (fun hbr => ?_) <;> (first | exact Bool.noConfusion (show false = true from hbr) | exact Bool.noConfusion (show true = false from hbr) | simp only [decide_eq_true_eq, decide_eq_false_iff_not, Bool.not_eq_true', Bool.not_eq_false', Bool.and_eq_true, Bool.not_not, id_eq] at hbr | skip)) | (refine And.intro ?side ?_; case side => (first | rfl | assumption | omega | decide | exact Nat.le_of_ble_eq_true rfl | (dsimp only; omega) | (simp only [sizeLine, List.length_cons, List.length_nil, List.length_append]; omega) | (refine And.intro ?_ ?_ <;> omega) | (refine Or.inl (And.intro ?_ ?_) <;> omega) | (refine Or.inr (And.intro ?_ ?_) <;> omega) | fail)) | fail)
    refine Exists.intro (_, (c+2), 10) (And.intro ⟨hp, (show (c+2) ≤ 10 ^ 12 by omega), (show (0 : Int) < 10 by first | decide | omega), (show 10 < (2 : Int) ^ 29 by first | decide | omega)⟩ (And.intro rfl ?_))
    rintro ⟨y, ob⟩ ⟨h0_y, h1_y, hp⟩
    replace h0_y : 0 ≤ y := h0_y
    replace h1_y : y < 10 := h1_y
    replace hp : IsPot ((c+2) + 1) ob := hp
    repeat' ((conv => whnf); first | (refine Exists.intro _ (And.intro rfl ?_)) | (refine br.mk (fun hbr => ?_) (fun hbr => ?_) <;> (first | exact Bool.noConfusion (show false = true from hbr) | exact Bool.noConfusion (show true = false from hbr) | simp only [decide_eq_true_eq, decide_eq_false_iff_not, Bool.not_eq_true', Bool.not_eq_false', Bool.and_eq_true, Bool.not_not, id_eq] at hbr | skip)) | (refine And.intro ?side ?_; case side => (first | rfl | assumption | omega | decide | exact Nat.le_of_ble_eq_true rfl | (dsimp only; omega) | (simp only [sizeLine, List.length_cons, List.length_nil, List.length_append]; omega) | (refine And.intro ?_ ?_ <;> omega) | (refine Or.inl (And.intro ?_ ?_) <;> omega) | (refine Or.inr (And.intro ?_ ?_) <;> omega) | fail)) | fail)
    refine Exists.intro (_, (c+3), 2) (And.intro ⟨hp, (show (c+3) ≤ 10 ^ 12 by omega), (show (0 : Int) < 2 by first | decide | omega), (show 2 < (2 : Int) ^ 29 by first | decide | omega)⟩ (And.intro rfl ?_))
    rintro ⟨z, ob⟩ ⟨h0_z, h1_z, hp⟩
    replace h0_z : 0 ≤ z := h0_z
    replace h1_z : z < 2 := h1_z
    replace hp : IsPot ((c+3) + 1) ob := hp
    repeat' ((conv => whnf); first | (refine Exists.intro _ (And.intro rfl ?_)) | (refine br.mk (fun hbr => ?_) (fun hbr => ?_) <;> (first | exact Bool.noConfusion (show false = true from hbr) | exact Bool.noConfusion (show true = false from hbr) | simp only [decide_eq_true_eq, decide_eq_false_iff_not, Bool.not_eq_true', Bool.not_eq_false', Bool.and_eq_true, Bool.not_not, id_eq] at hbr | skip)) | (refine And.intro ?side ?_; case side => (first | rfl | assumption | omega | decide | exact Nat.le_of_ble_eq_true rfl | (dsimp only; omega) | (simp only [sizeLine, List.length_cons, List.length_nil, List.length_append]; omega) | (refine And.intro ?_ ?_ <;> omega) | (refine Or.inl (And.intro ?_ ?_) <;> omega) | (refine Or.inr (And.intro ?_ ?_) <;> omega) | fail)) | fail)
    exact q (1 + x, 1 + y, 1 + z, ob) ⟨(by (try dsimp only); omega), (by (try dsimp only); omega), (by (try dsimp only); omega), hp⟩
  · refine Exists.intro (_, (c+1), 2) (And.intro ⟨hp, (show (c+1) ≤ 10 ^ 12 by omega), (show (0 : Int) < 2 by first | decide | omega), (show 2 < (2 : Int) ^ 29 by first | decide | omega)⟩ (And.intro rfl ?_))
    rintro ⟨x, ob⟩ ⟨h0_x, h1_x, hp⟩
    replace h0_x : 0 ≤ x := h0_x
    replace h1_x : x < 2 := h1_x
    replace hp : IsPot ((c+1) + 1) ob := hp
    repeat' ((conv => whnf); first | (refine Exists.intro _ (And.intro rfl ?_)) | (refine br.mk (fun hbr => ?_) (fun hbr => ?_) <;> (first | exact Bool.noConfusion (show false = true from hbr) | exact Bool.noConfusion (show true = false from hbr) | simp only [decide_eq_true_eq, decide_eq_false_iff_not, Bool.not_eq_true', Bool.not_eq_false', Bool.and_eq_true, Bool.not_not, id_eq] at hbr | skip)) | (refine And.intro ?side ?_; case side => (first | rfl | assumption | omega | decide | exact Nat.le_of_ble_eq_true rfl | (dsimp only; omega) | (simp only [sizeLine, List.length_cons, List.length_nil, List.length_append]; omega) | (refine And.intro ?_ ?_ <;> omega) | (refine Or.inl (And.intro ?_ ?_) <;> omega) | (refine Or.inr (And.intro ?_ ?_) <;> omega) | fail)) | fail)
    refine Exists.intro (_, (c+2), 2) (And.intro ⟨hp, (show (c+2) ≤ 10 ^ 12 by omega), (show (0 : Int) < 2 by first | decide | omega), (show 2 < (2 : Int) ^ 29 by first | decide | omega)⟩ (And.intro rfl ?_))
    rintro ⟨y, ob⟩ ⟨h0_y, h1_y, hp⟩
    replace h0_y : 0 ≤ y := h0_y
    replace h1_y : y < 2 := h1_y
    replace hp : IsPot ((c+2) + 1) ob := hp
    repeat' ((conv => whnf); first | (refine Exists.intro _ (And.intro rfl ?_)) | (refine br.mk (fun hbr => ?_) (fun hbr => ?_) <;> (first | exact Bool.noConfusion (show false = true from hbr) | exact Bool.noConfusion (show true = false from hbr) | simp only [decide_eq_true_eq, decide_eq_false_iff_not, Bool.not_eq_true', Bool.not_eq_false', Bool.and_eq_true, Bool.not_not, id_eq] at hbr | skip)) | (refine And.intro ?side ?_; case side => (first | rfl | assumption | omega | decide | exact Nat.le_of_ble_eq_true rfl | (dsimp only; omega) | (simp only [sizeLine, List.length_cons, List.length_nil, List.length_append]; omega) | (refine And.intro ?_ ?_ <;> omega) | (refine Or.inl (And.intro ?_ ?_) <;> omega) | (refine Or.inr (And.intro ?_ ?_) <;> omega) | fail)) | fail)
    refine Exists.intro (_, (c+3), 4) (And.intro ⟨hp, (show (c+3) ≤ 10 ^ 12 by omega), (show (0 : Int) < 4 by first | decide | omega), (show 4 < (2 : Int) ^ 29 by first | decide | omega)⟩ (And.intro rfl ?_))
    rintro ⟨z, ob⟩ ⟨h0_z, h1_z, hp⟩
    replace h0_z : 0 ≤ z := h0_z
    replace h1_z : z < 4 := h1_z
    replace hp : IsPot ((c+3) + 1) ob := hp
    repeat' ((conv => whnf); first | (refine Exists.intro _ (And.intro rfl ?_)) | (refine br.mk (fun hbr => ?_) (fun hbr => ?_) <;> (first | exact Bool.noConfusion (show false = true from hbr) | exact Bool.noConfusion (show true = false from hbr) | simp only [decide_eq_true_eq, decide_eq_false_iff_not, Bool.not_eq_true', Bool.not_eq_false', Bool.and_eq_true, Bool.not_not, id_eq] at hbr | skip)) | (refine And.intro ?side ?_; case side => (first | rfl | assumption | omega | decide | exact Nat.le_of_ble_eq_true rfl | (dsimp only; omega) | (simp only [sizeLine, List.length_cons, List.length_nil, List.length_append]; omega) | (refine And.intro ?_ ?_ <;> omega) | (refine Or.inl (And.intro ?_ ?_) <;> omega) | (refine Or.inr (And.intro ?_ ?_) <;> omega) | fail)) | fail)
    exact q (1 + x, 1 + y, 98 + z, ob) ⟨(by (try dsimp only); omega), (by (try dsimp only); omega), (by (try dsimp only); omega), hp⟩
  · refine Exists.intro (_, (c+1), 3) (And.intro ⟨hp, (show (c+1) ≤ 10 ^ 12 by omega), (show (0 : Int) < 3 by first | decide | omega), (show 3 < (2 : Int) ^ 29 by first | decide | omega)⟩ (And.intro rfl ?_))
    rintro ⟨x, ob⟩ ⟨h0_x, h1_x, hp⟩
    replace h0_x : 0 ≤ x := h0_x
    replace h1_x : x < 3 := h1_x
    replace hp : IsPot ((c+1) + 1) ob := hp
    repeat' ((conv => whnf); first | (refine Exists.intro _ (And.intro rfl ?_)) | (refine br.mk (fun hbr => ?_) (fun hbr => ?_) <;> (first | exact Bool.noConfusion (show false = true from hbr) | exact Bool.noConfusion (show true = false from hbr) | simp only [decide_eq_true_eq, decide_eq_false_iff_not, Bool.not_eq_true', Bool.not_eq_false', Bool.and_eq_true, Bool.not_not, id_eq] at hbr | skip)) | (refine And.intro ?side ?_; case side => (first | rfl | assumption | omega | decide | exact Nat.le_of_ble_eq_true rfl | (dsimp only; omega) | (simp only [sizeLine, List.length_cons, List.length_nil, List.length_append]; omega) | (refine And.intro ?_ ?_ <;> omega) | (refine Or.inl (And.intro ?_ ?_) <;> omega) | (refine Or.inr (And.intro ?_ ?_) <;> omega) | fail)) | fail)
    refine Exists.intro (_, (c+2), 3) (And.intro ⟨hp, (show (c+2) ≤ 10 ^ 12 by omega), (show (0 : Int) < 3 by first | decide | omega), (show 3 < (2 : Int) ^ 29 by first | decide | omega)⟩ (And.intro rfl ?_))
    rintro ⟨y, ob⟩ ⟨h0_y, h1_y, hp⟩
    replace h0_y : 0 ≤ y := h0_y
    replace h1_y : y < 3 := h1_y
    replace hp : IsPot ((c+2) + 1) ob := hp
    repeat' ((conv => whnf); first | (refine Exists.intro _ (And.intro rfl ?_)) | (refine br.mk (fun hbr => ?_) (fun hbr => ?_) <;> (first | exact Bool.noConfusion (show false = true from hbr) | exact Bool.noConfusion (show true = false from hbr) | simp only [decide_eq_true_eq, decide_eq_false_iff_not, Bool.not_eq_true', Bool.not_eq_false', Bool.and_eq_true, Bool.not_not, id_eq] at hbr | skip)) | (refine And.intro ?side ?_; case side => (first | rfl | assumption | omega | decide | exact Nat.le_of_ble_eq_true rfl | (dsimp only; omega) | (simp only [sizeLine, List.length_cons, List.length_nil, List.length_append]; omega) | (refine And.intro ?_ ?_ <;> omega) | (refine Or.inl (And.intro ?_ ?_) <;> omega) | (refine Or.inr (And.intro ?_ ?_) <;> omega) | fail)) | fail)
    refine Exists.intro (_, (c+3), 6) (And.intro ⟨hp, (show (c+3) ≤ 10 ^ 12 by omega), (show (0 : Int) < 6 by first | decide | omega), (show 6 < (2 : Int) ^ 29 by first | decide | omega)⟩ (And.intro rfl ?_))
    rintro ⟨z, ob⟩ ⟨h0_z, h1_z, hp⟩
    replace h0_z : 0 ≤ z := h0_z
    replace h1_z : z < 6 := h1_z
    replace hp : IsPot ((c+3) + 1) ob := hp
    repeat' ((conv => whnf); first | (refine Exists.intro _ (And.intro rfl ?_)) | (refine br.mk (fun hbr => ?_) (fun hbr => ?_) <;> (first | exact Bool.noConfusion (show false = true from hbr) | exact Bool.noConfusion (show true = false from hbr) | simp only [decide_eq_true_eq, decide_eq_false_iff_not, Bool.not_eq_true', Bool.not_eq_false', Bool.and_eq_true, Bool.not_not, id_eq] at hbr | skip)) | (refine And.intro ?side ?_; case side => (first | rfl | assumption | omega | decide | exact Nat.le_of_ble_eq_true rfl | (dsimp only; omega) | (simp only [sizeLine, List.length_cons, List.length_nil, List.length_append]; omega) | (refine And.intro ?_ ?_ <;> omega) | (refine Or.inl (And.intro ?_ ?_) <;> omega) | (refine Or.inr (And.intro ?_ ?_) <;> omega) | fail)) | fail)
    exact q (1 + x, 1 + y, 1 + z, ob) ⟨(by (try dsimp only); omega), (by (try dsimp only); omega), (by (try dsimp only); omega), hp⟩
theorem ok__law_odd {f : Addr} {fd : FuncData} (F : Fun K "_law_odd" "_law_odd" s__law_odd f fd) (T : Txt mg) (C__law_take : Cal P w K mg base 1 "_law_take" ["pot", "many"] S_take) : FnOk P w K mg base CX0 2 f fd ["pot", "thing"] (liftF K S_odd.sp) := by
  refine fnS F sc__law_odd (fun _ => rfl) (fun cdv A outer s H E hr => ⟨_, (sc3 (if3 (pt3_val (isi3 kit_tuple (by decide +kernel) (by rfl) T.b_isinstance (by rfl) T.b_tuple (v3 1)))
      (sc3 (set3 2 sc__law_odd.nd (lst3 (ac3 (list3  (by rfl) T.b_list (v3 1)) (ac3 (add3 (v3 1) (sl3 (v3 1) pn3 (ps3 int3))) (ac3 (sl3 (v3 1) (ps3 int3) pn3) (ac3 (sl3 (v3 1) pn3 (ps3 (neg3 int3))) (ac3 (tup3 an3) (ac3 (tup3 (ac3 (v3 1) an3)) (ac3 (rev3 (v3 1)) (ac3 non3 (ac3 str3 (ac3 dict03 an3))))))))))))
      (s13 (ret3 (ix3 (add3 (v3 2) (lst3 (ac3 bl3 (ac3 (len3  (by rfl) T.b_len (v3 1)) (ac3 (dict13 int3 (v3 1)) (ac3 (add3 (v3 1) (tup3 (ac3 non3 an3))) (ac3 (sl3 (v3 1) pn3 (ps3 int3)) an3))))))) (cl3 C__law_take hr (ro3 0 (rd3 int3 rn3)))))))
      sn3)
      (sc3 (set3 2 sc__law_odd.nd (lst3 (ac3 non3 (ac3 bl3 (ac3 bl3 (ac3 int3 (ac3 int3 (ac3 (neg3 int3) (ac3 int3 (ac3 int3 (ac3 int3 (ac3 int3 (ac3 int3 (ac3 (pow3 int3 int3) (ac3 str3 (ac3 str3 (ac3 (tup3 an3) (ac3 (lst3 an3) (ac3 dict03 (ac3 (tup3 (ac3 int3 an3)) (ac3 (lst3 (ac3 (v3 1) an3)) an3)))))))))))))))))))))
      (s13 (ret3 (ix3 (add3 (v3 2) (lst3 (ac3 (tup3 (ac3 (v3 1) (ac3 (v3 1) an3))) an3))) (cl3 C__law_take hr (ro3 0 (rd3 int3 rn3)))))))), fun a Q pr q => ?_⟩)
  obtain ⟨ob, c, n, L, d⟩ := a
  obtain ⟨hp, hc, hL, hf⟩ := pr
  replace hp : IsPot c ob := hp
  replace hc : c ≤ 10 ^ 11 := hc
  replace hL : 2 ≤ L ∧ L ≤ 10 ^ 6 := hL
  replace hf : fit n L d := hf
  rcases tup_or d with ⟨xs, rfl⟩ | hd
  · obtain ⟨m, rfl, hl, hx⟩ := hf.of
    have fitx : fit (m + 2) (L + 1) (.tuple xs) := hf.mono (by omega) (by omega)
    have fits : ∀ ys : List D, ys.length ≤ L + 1 → (∀ x ∈ ys, x ∈ xs ∨ isTup x = false) → fit (m + 2) (L + 1) (.tuple ys) := fun ys h1 h2 => fit.tup h1 fun x z => by
      rcases h2 x z with z | z
      · exact (hx x z).mono (by omega) (by omega)
      · exact fit.no z
    have cl : ∀ a b, (cutG xs a b).length ≤ L := fun a b => Nat.le_trans cut_len hl
    repeat' ((conv => whnf); first | (refine Exists.intro _ (And.intro rfl ?_)) | (refine br.mk (fun hbr => ?_) (fun hbr => ?_) <;> (first | exact Bool.noConfusion (show false = true from hbr) | exact Bool.noConfusion (show true = false from hbr) | simp only [decide_eq_true_eq, decide_eq_false_iff_not, Bool.not_eq_true', Bool.not_eq_false', Bool.and_eq_true, Bool.not_not, id_eq] at hbr | skip)) | (refine And.intro ?side ?_; case side => (first | rfl | assumption | omega | decide | exact Nat.le_of_ble_eq_true rfl | (dsimp only; omega) | (simp only [sizeLine, List.length_cons, List.length_nil, List.length_append]; omega) | (refine And.intro ?_ ?_ <;> omega) | (refine Or.inl (And.intro ?_ ?_) <;> omega) | (refine Or.inr (And.intro ?_ ?_) <;> omega) | fail)) | fail)
    (conv => whnf)
    refine And.intro (show xs.length + (cutG xs none (some 1)).length ≤ 2 ^ 24 by have := cl none (some 1); omega) ?_
    repeat' ((conv => whnf); first | (refine Exists.intro _ (And.intro rfl ?_)) | (refine br.mk (fun hbr => ?_) (fun hbr => ?_) <;> (first | exact Bool.noConfusion (show false = true from hbr) | exact Bool.noConfusion (show true = false from hbr) | simp only [decide_eq_true_eq, decide_eq_false_iff_not, Bool.not_eq_true', Bool.not_eq_false', Bool.and_eq_true, Bool.not_not, id_eq] at hbr | skip)) | (refine And.intro ?side ?_; case side => (first | rfl | assumption | omega | decide | exact Nat.le_of_ble_eq_true rfl | (dsimp only; omega) | (simp only [sizeLine, List.length_cons, List.length_nil, List.length_append]; omega) | (refine And.intro ?_ ?_ <;> omega) | (refine Or.inl (And.intro ?_ ?_) <;> omega) | (refine Or.inr (And.intro ?_ ?_) <;> omega) | fail)) | fail)
    refine Exists.intro (_, c, 15) (And.intro ⟨hp, (show c ≤ 10 ^ 12 by omega), (show (0 : Int) < 15 by first | decide | omega), (show 15 < (2 : Int) ^ 29 by first | decide | omega)⟩ (And.intro rfl ?_))
    rintro ⟨i, ob⟩ ⟨h0_i, h1_i, hp⟩
    replace h0_i : 0 ≤ i := h0_i
    replace h1_i : i < 15 := h1_i
    replace hp : IsPot (c + 1) ob := hp
    (conv => whnf)
    refine ix_mem h0_i (by simp; omega) fun x hx2 => ?_
    repeat' ((conv => whnf); first | (refine Exists.intro _ (And.intro rfl ?_)) | (refine br.mk (fun hbr => ?_) (fun hbr => ?_) <;> (first | exact Bool.noConfusion (show false = true from hbr) | exact Bool.noConfusion (show true = false from hbr) | simp only [decide_eq_true_eq, decide_eq_false_iff_not, Bool.not_eq_true', Bool.not_eq_false', Bool.and_eq_true, Bool.not_not, id_eq] at hbr | skip)) | (refine And.intro ?side ?_; case side => (first | rfl | assumption | omega | decide | exact Nat.le_of_ble_eq_true rfl | (dsimp only; omega) | (simp only [sizeLine, List.length_cons, List.length_nil, List.length_append]; omega) | (refine And.intro ?_ ?_ <;> omega) | (refine Or.inl (And.intro ?_ ?_) <;> omega) | (refine Or.inr (And.intro ?_ ?_) <;> omega) | fail)) | fail)
    refine q (x, ob) ⟨?_, hp⟩
    show fit (m + 2) (L + 1) x
    have ft : fit (m + 1) (L + 1) (.tuple xs) := hf.mono (by omega) (by omega)
    simp only [List.mem_append, List.mem_cons, List.not_mem_nil, or_false] at hx2
    repeat' rcases hx2 with hx2 | hx2
    all_goals first | exact fit.no rfl | exact fitx | skip
    · refine fits _ ?_ ?_
      · have h1 : (cutG xs none (some 1)).length ≤ 1 := cut_one
        rw [List.length_append]; omega
      · intro x z
        rcases List.mem_append.mp z with z | z
        · exact .inl z
        · exact .inl (cut_mem z)
    · exact fits _ (Nat.le_trans cut_len (by omega)) (fun x z => .inl (cut_mem z))
    · exact fits _ (Nat.le_trans cut_len (by omega)) (fun x z => .inl (cut_mem z))
    · exact fit.tup (Nat.zero_le _) (fun x z => nomatch z)
    · exact fit.tup (by simp) (fun x z => by rw [List.mem_singleton.mp z]; exact ft)
    · exact fits _ (by simp; omega) (fun x z => .inl (by simpa using z))
    · refine fits _ (by simp; omega) ?_
      intro x z
      rcases List.mem_append.mp z with z | z
      · exact .inl z
      · exact .inr (by rw [List.mem_singleton.mp z]; rfl)
    · exact fits _ (Nat.le_trans cut_len (by omega)) (fun x z => .inl (cut_mem z))
  · (conv => whnf)
    refine br_f hd ?_
    (conv => whnf)
    refine And.intro (cpw 4 (by decide) (by decide) (by decide)) ?_
    repeat' ((conv => whnf); first | (refine Exists.intro _ (And.intro rfl ?_)) | (refine br.mk (fun hbr => ?_) (fun hbr => ?_) <;> (first | exact Bool.noConfusion (show false = true from hbr) | exact Bool.noConfusion (show true = false from hbr) | simp only [decide_eq_true_eq, decide_eq_false_iff_not, Bool.not_eq_true', Bool.not_eq_false', Bool.and_eq_true, Bool.not_not, id_eq] at hbr | skip)) | (refine And.intro ?side ?_; case side => (first | rfl | assumption | omega | decide | exact Nat.le_of_ble_eq_true rfl | (dsimp only; omega) | (simp only [sizeLine, List.length_cons, List.length_nil, List.length_append]; omega) | (refine And.intro ?_ ?_ <;> omega) | (refine Or.inl (And.intro ?_ ?_) <;> omega) | (refine Or.inr (And.intro ?_ ?_) <;> omega) | fail)) | fail)
    refine Exists.intro (_, c, 20) (And.intro ⟨hp, (show c ≤ 10 ^ 12 by omega), (show (0 : Int) < 20 by first | decide | omega), (show 20 < (2 : Int) ^ 29 by first | decide | omega)⟩ (And.intro rfl ?_))
    rintro ⟨i, ob⟩ ⟨h0_i, h1_i, hp⟩
    replace h0_i : 0 ≤ i := h0_i
    replace h1_i : i < 20 := h1_i
    replace hp : IsPot (c + 1) ob := hp
    (conv => whnf)
    refine ix_mem h0_i (by simp; omega) fun x hx2 => ?_
    repeat' ((conv => whnf); first | (refine Exists.intro _ (And.intro rfl ?_)) | (refine br.mk (fun hbr => ?_) (fun hbr => ?_) <;> (first | exact Bool.noConfusion (show false = true from hbr) | exact Bool.noConfusion (show true = false from hbr) | simp only [decide_eq_true_eq, decide_eq_false_iff_not, Bool.not_eq_true', Bool.not_eq_false', Bool.and_eq_true, Bool.not_not, id_eq] at hbr | skip)) | (refine And.intro ?side ?_; case side => (first | rfl | assumption | omega | decide | exact Nat.le_of_ble_eq_true rfl | (dsimp only; omega) | (simp only [sizeLine, List.length_cons, List.length_nil, List.length_append]; omega) | (refine And.intro ?_ ?_ <;> omega) | (refine Or.inl (And.intro ?_ ?_) <;> omega) | (refine Or.inr (And.intro ?_ ?_) <;> omega) | fail)) | fail)
    refine q (x, ob) ⟨?_, hp⟩
    show fit (n + 1) (L + 1) x
    simp only [List.mem_append, List.mem_cons, List.not_mem_nil, or_false] at hx2
    have ft : fit n (L + 1) d := hf.mono (by omega) (by omega)
    repeat' rcases hx2 with hx2 | hx2
    all_goals first | exact fit.no rfl | skip
    · exact fit.tup (Nat.zero_le _) (fun x z => nomatch z)
    · exact fit.tup (by simp) (fun x z => by rw [List.mem_singleton.mp z]; exact fit.no rfl)
    · refine fit.tup (show 2 ≤ L + 1 by omega) (fun x z => ?_)
      rcases List.mem_cons.mp z with z | z
      · rw [z]; exact ft
      · rw [List.mem_singleton.mp z]; exact ft
theorem rec_spoilt {f : Addr} {fd : FuncData} (F : Fun K "_law_spoilt" "_law_spoilt" s__law_spoilt f fd) (T : Txt mg) (C__law_take : Cal P w K mg base 1 "_law_take" ["pot", "many"] S_take) (C__law_odd : Cal P w K mg base 2 "_law_odd" ["pot", "thing"] S_odd)
    (hm : mg "_law_spoilt" = some (.ref f)) (hk : PySem.W.keepIn K (.ref f) = true) (hb : Binds K fd ["pot", "thing"] []) : ∀ n, n ≤ 5 → FnOk P w K mg base CX0 (3 + n) f fd ["pot", "thing"] (liftF K (S_sp n).sp)
  | 0, _ => by
    refine fnS F sc__law_spoilt (fun _ => rfl) (fun cdv A outer s H E hr => ⟨_, (sc3 (if3 (PW3.pt (and3 (pt3_val (isi3 kit_tuple (by decide +kernel) (by rfl) T.b_isinstance (by rfl) T.b_tuple (v3 1))) (and3 (ne3T hr.units (v3 1) (tup3 an3)) (and1_3 (gt3T (cl3 C__law_take hr (ro3 0 (rd3 int3 rn3))) int3)))))
      (sc3 (set3 2 sc__law_spoilt.nd (cl3 C__law_take hr (ro3 0 (rd3 (len3  (by rfl) T.b_len (v3 1)) rn3))))
      (s13 (ret3 (add3 (add3 (sl3 (v3 1) pn3 (ps3 (v3 2))) (tup3 (ac3 neverE3 an3))) (sl3 (v3 1) (ps3 (add3 (v3 2) int3)) pn3)))))
      sn3)
      (s13 (ret3 (cl3 C__law_odd hr (ro3 0 (rd3 (v3 1) rn3)))))), fun a Q pr q => ?_⟩)
    obtain ⟨ob, c, m, L, d⟩ := a
    obtain ⟨hp, hc, hL, hm0, hf⟩ := pr
    replace hp : IsPot c ob := hp
    replace hc : c + 2 * 0 ≤ 10 ^ 10 := hc
    replace hL : 2 ≤ L ∧ L ≤ 10 ^ 6 := hL
    replace hf : fit m L d := hf
    replace hm0 : m ≤ 0 := hm0
    obtain rfl : m = 0 := by omega
    replace hf : isTup d = false := hf
    (conv => whnf)
    refine br_f hf ?_
    (conv => whnf)
    refine br_f rfl ?_
    (conv => whnf)
    refine Exists.intro (ob, c, 0, L, d) (And.intro ⟨hp, (show c ≤ 10 ^ 11 by omega), hL, hf⟩ (And.intro rfl ?_))
    rintro ⟨r, ob⟩ ⟨h1, hp⟩
    repeat' ((conv => whnf); first | (refine Exists.intro _ (And.intro rfl ?_)) | (refine br.mk (fun hbr => ?_) (fun hbr => ?_) <;> (first | exact Bool.noConfusion (show false = true from hbr) | exact Bool.noConfusion (show true = false from hbr) | simp only [decide_eq_true_eq, decide_eq_false_iff_not, Bool.not_eq_true', Bool.not_eq_false', Bool.and_eq_true, Bool.not_not, id_eq] at hbr | skip)) | (refine And.intro ?side ?_; case side => (first | rfl | assumption | omega | decide | exact Nat.le_of_ble_eq_true rfl | (dsimp only; omega) | (simp only [sizeLine, List.length_cons, List.length_nil, List.length_append]; omega) | (refine And.intro ?_ ?_ <;> omega) | (refine Or.inl (And.intro ?_ ?_) <;> omega) | (refine Or.inr (And.intro ?_ ?_) <;> omega) | fail)) | fail)
    exact q (r, ob) ⟨h1, hp.mono (show c + 1 ≤ c + (3 * 0 + 3) by omega)⟩
  | n + 1, hn => by
    have C__law_spoilt : Cal P w K mg base (3 + n) "_law_spoilt" ["pot", "thing"] (S_sp n) := ⟨f, fd, rec_spoilt F T C__law_take C__law_odd hm hk hb n (by omega), hm, hk, hb⟩
    refine fnS (k := 3 + n) F sc__law_spoilt (fun _ => rfl) (fun cdv A outer s H E hr => ⟨_, (sc3 (if3 (PW3.pt (and3 (pt3_val (isi3 kit_tuple (by decide +kernel) (by rfl) T.b_isinstance (by rfl) T.b_tuple (v3 1))) (and3 (ne3T hr.units (v3 1) (tup3 an3)) (and1_3 (gt3T (cl3 C__law_take hr (ro3 0 (rd3 int3 rn3))) int3)))))
      (sc3 (set3 2 sc__law_spoilt.nd (cl3 C__law_take hr (ro3 0 (rd3 (len3  (by rfl) T.b_len (v3 1)) rn3))))
      (s13 (ret3 (add3 (add3 (sl3 (v3 1) pn3 (ps3 (v3 2))) (tup3 (ac3 (cl3 C__law_spoilt hr (ro3 0 (rd3 (ix3 (v3 1) (v3 2)) rn3))) an3))) (sl3 (v3 1) (ps3 (add3 (v3 2) int3)) pn3)))))
      sn3)
      (s13 (ret3 (cl3 C__law_odd hr (ro3 0 (rd3 (v3 1) rn3)))))), fun a Q pr q => ?_⟩)
    obtain ⟨ob, c, m, L, d⟩ := a
    obtain ⟨hp, hc, hL, hm0, hf⟩ := pr
    replace hp : IsPot c ob := hp
    replace hc : c + 2 * (n + 1) ≤ 10 ^ 10 := hc
    replace hL : 2 ≤ L ∧ L ≤ 10 ^ 6 := hL
    replace hf : fit m L d := hf
    replace hm0 : m ≤ n + 1 := hm0
    rcases tup_or d with ⟨xs, rfl⟩ | hd
    case inr =>
      (conv => whnf)
      refine br_f hd ?_
      (conv => whnf)
      refine br_f rfl ?_
      (conv => whnf)
      refine Exists.intro (ob, c, m, L, d) (And.intro ⟨hp, (show c ≤ 10 ^ 11 by omega), hL, hf⟩ (And.intro rfl ?_))
      rintro ⟨r, ob⟩ ⟨h1, hp⟩
      repeat' ((conv => whnf); first | (refine Exists.intro _ (And.intro rfl ?_)) | (refine br.mk (fun hbr => ?_) (fun hbr => ?_) <;> (first | exact Bool.noConfusion (show false = true from hbr) | exact Bool.noConfusion (show true = false from hbr) | simp only [decide_eq_true_eq, decide_eq_false_iff_not, Bool.not_eq_true', Bool.not_eq_false', Bool.and_eq_true, Bool.not_not, id_eq] at hbr | skip)) | (refine And.intro ?side ?_; case side => (first | rfl | assumption | omega | decide | exact Nat.le_of_ble_eq_true rfl | (dsimp only; omega) | (simp only [sizeLine, List.length_cons, List.length_nil, List.length_append]; omega) | (refine And.intro ?_ ?_ <;> omega) | (refine Or.inl (And.intro ?_ ?_) <;> omega) | (refine Or.inr (And.intro ?_ ?_) <;> omega) | fail)) | fail)
      exact q (r, ob) ⟨h1, IsPot.mono hp (show c + 1 ≤ c + (3 * (n + 1) + 3) by omega)⟩
    obtain ⟨m', e, hl, hx⟩ := hf.of
    cases e
    cases xs with
    | nil =>
      repeat' ((conv => whnf); first | (refine Exists.intro _ (And.intro rfl ?_)) | (refine br.mk (fun hbr => ?_) (fun hbr => ?_) <;> (first | exact Bool.noConfusion (show false = true from hbr) | exact Bool.noConfusion (show true = false from hbr) | simp only [decide_eq_true_eq, decide_eq_false_iff_not, Bool.not_eq_true', Bool.not_eq_false', Bool.and_eq_true, Bool.not_not, id_eq] at hbr | skip)) | (refine And.intro ?side ?_; case side => (first | rfl | assumption | omega | decide | exact Nat.le_of_ble_eq_true rfl | (dsimp only; omega) | (simp only [sizeLine, List.length_cons, List.length_nil, List.length_append]; omega) | (refine And.intro ?_ ?_ <;> omega) | (refine Or.inl (And.intro ?_ ?_) <;> omega) | (refine Or.inr (And.intro ?_ ?_) <;> omega) | fail)) | fail)
      refine Exists.intro (ob, c, m' + 1, L, .tuple []) (And.intro ⟨hp, (show c ≤ 10 ^ 11 by omega), hL, hf⟩ (And.intro rfl ?_))
      rintro ⟨r, ob⟩ ⟨h1, hp⟩
      repeat' ((conv => whnf); first | (refine Exists.intro _ (And.intro rfl ?_)) | (refine br.mk (fun hbr => ?_) (fun hbr => ?_) <;> (first | exact Bool.noConfusion (show false = true from hbr) | exact Bool.noConfusion (show true = false from hbr) | simp only [decide_eq_true_eq, decide_eq_false_iff_not, Bool.not_eq_true', Bool.not_eq_false', Bool.and_eq_true, Bool.not_not, id_eq] at hbr | skip)) | (refine And.intro ?side ?_; case side => (first | rfl | assumption | omega | decide | exact Nat.le_of_ble_eq_true rfl | (dsimp only; omega) | (simp only [sizeLine, List.length_cons, List.length_nil, List.length_append]; omega) | (refine And.intro ?_ ?_ <;> omega) | (refine Or.inl (And.intro ?_ ?_) <;> omega) | (refine Or.inr (And.intro ?_ ?_) <;> omega) | fail)) | fail)
      exact q (r, ob) ⟨h1, IsPot.mono hp (show c + 1 ≤ c + (3 * (n + 1) + 3) by omega)⟩
    | cons x0 xr =>
      repeat' ((conv => whnf); first | (refine Exists.intro _ (And.intro rfl ?_)) | (refine br.mk (fun hbr => ?_) (fun hbr => ?_) <;> (first | exact Bool.noConfusion (show false = true from hbr) | exact Bool.noConfusion (show true = false from hbr) | simp only [decide_eq_true_eq, decide_eq_false_iff_not, Bool.not_eq_true', Bool.not_eq_false', Bool.and_eq_true, Bool.not_not, id_eq] at hbr | skip)) | (refine And.intro ?side ?_; case side => (first | rfl | assumption | omega | decide | exact Nat.le_of_ble_eq_true rfl | (dsimp only; omega) | (simp only [sizeLine, List.length_cons, List.length_nil, List.length_append]; omega) | (refine And.intro ?_ ?_ <;> omega) | (refine Or.inl (And.intro ?_ ?_) <;> omega) | (refine Or.inr (And.intro ?_ ?_) <;> omega) | fail)) | fail)
      refine Exists.intro (_, c, 5) (And.intro ⟨hp, (show c ≤ 10 ^ 12 by omega), (show (0 : Int) < 5 by first | decide | omega), (show 5 < (2 : Int) ^ 29 by first | decide | omega)⟩ (And.intro rfl ?_))
      rintro ⟨g, ob⟩ ⟨h0_g, h1_g, hp⟩
      replace h0_g : 0 ≤ g := h0_g
      replace h1_g : g < 5 := h1_g
      replace hp : IsPot (c + 1) ob := hp
      ((conv => whnf); (refine br.mk (fun hbr => ?_) (fun hbr => ?_) <;> (first | exact Bool.noConfusion (show false = true from hbr) | exact Bool.noConfusion (show true = false from hbr) | simp only [decide_eq_true_eq, decide_eq_false_iff_not, Bool.not_eq_true', Bool.not_eq_false', Bool.and_eq_true, Bool.not_not, id_eq] at hbr | skip)))
      case refine_2 =>
        (conv => whnf)
        (conv => whnf)
        refine Exists.intro (ob, (c+1), m' + 1, L, .tuple (x0 :: xr)) (And.intro ⟨hp, (show (c+1) ≤ 10 ^ 11 by omega), hL, hf⟩ (And.intro rfl ?_))
        rintro ⟨r, ob⟩ ⟨h1, hp⟩
        repeat' ((conv => whnf); first | (refine Exists.intro _ (And.intro rfl ?_)) | (refine br.mk (fun hbr => ?_) (fun hbr => ?_) <;> (first | exact Bool.noConfusion (show false = true from hbr) | exact Bool.noConfusion (show true = false from hbr) | simp only [decide_eq_true_eq, decide_eq_false_iff_not, Bool.not_eq_true', Bool.not_eq_false', Bool.and_eq_true, Bool.not_not, id_eq] at hbr | skip)) | (refine And.intro ?side ?_; case side => (first | rfl | assumption | omega | decide | exact Nat.le_of_ble_eq_true rfl | (dsimp only; omega) | (simp only [sizeLine, List.length_cons, List.length_nil, List.length_append]; omega) | (refine And.intro ?_ ?_ <;> omega) | (refine Or.inl (And.intro ?_ ?_) <;> omega) | (refine Or.inr (And.intro ?_ ?_) <;> omega) | fail)) | fail)
        exact q (r, ob) ⟨h1, IsPot.mono hp (show (c+1) + 1 ≤ c + (3 * (n + 1) + 3) by omega)⟩
      repeat' ((conv => whnf); first | (refine Exists.intro _ (And.intro rfl ?_)) | (refine br.mk (fun hbr => ?_) (fun hbr => ?_) <;> (first | exact Bool.noConfusion (show false = true from hbr) | exact Bool.noConfusion (show true = false from hbr) | simp only [decide_eq_true_eq, decide_eq_false_iff_not, Bool.not_eq_true', Bool.not_eq_false', Bool.and_eq_true, Bool.not_not, id_eq] at hbr | skip)) | (refine And.intro ?side ?_; case side => (first | rfl | assumption | omega | decide | exact Nat.le_of_ble_eq_true rfl | (dsimp only; omega) | (simp only [sizeLine, List.length_cons, List.length_nil, List.length_append]; omega) | (refine And.intro ?_ ?_ <;> omega) | (refine Or.inl (And.intro ?_ ?_) <;> omega) | (refine Or.inr (And.intro ?_ ?_) <;> omega) | fail)) | fail)
      have hn0 : (0 : Int) < ((x0 :: xr).length : Int) ∧ ((x0 :: xr).length : Int) ≤ 1000000 := by
        have : (x0 :: xr).length = xr.length + 1 := rfl
        omega
      refine Exists.intro (_, (c+1), ((x0 :: xr).length : Int)) (And.intro ⟨hp, (show (c+1) ≤ 10 ^ 12 by omega), (show (0 : Int) < ((x0 :: xr).length : Int) by first | decide | omega), (show ((x0 :: xr).length : Int) < (2 : Int) ^ 29 by first | decide | omega)⟩ (And.intro rfl ?_))
      rintro ⟨p, ob⟩ ⟨h0_p, h1_p, hp⟩
      replace h0_p : 0 ≤ p := h0_p
      replace h1_p : p < ((x0 :: xr).length : Int) := h1_p
      replace hp : IsPot ((c+1) + 1) ob := hp
      repeat' ((conv => whnf); first | (refine Exists.intro _ (And.intro rfl ?_)) | (refine br.mk (fun hbr => ?_) (fun hbr => ?_) <;> (first | exact Bool.noConfusion (show false = true from hbr) | exact Bool.noConfusion (show true = false from hbr) | simp only [decide_eq_true_eq, decide_eq_false_iff_not, Bool.not_eq_true', Bool.not_eq_false', Bool.and_eq_true, Bool.not_not, id_eq] at hbr | skip)) | (refine And.intro ?side ?_; case side => (first | rfl | assumption | omega | decide | exact Nat.le_of_ble_eq_true rfl | (dsimp only; omega) | (simp only [sizeLine, List.length_cons, List.length_nil, List.length_append]; omega) | (refine And.intro ?_ ?_ <;> omega) | (refine Or.inl (And.intro ?_ ?_) <;> omega) | (refine Or.inr (And.intro ?_ ?_) <;> omega) | fail)) | fail)
      obtain ⟨x, hx1, hx2⟩ := at_lt h0_p h1_p
      (conv => whnf)
      refine Exists.intro x (And.intro hx1 ?_)
      (conv => whnf)
      refine Exists.intro (ob, c + 1 + 1, m', L, x) (And.intro ⟨hp, (show c + 1 + 1 + 2 * n ≤ 10 ^ 10 by omega), hL, (show m' ≤ n by omega), hx x (List.mem_of_getElem? hx2)⟩ (And.intro rfl ?_))
      rintro ⟨r, ob⟩ ⟨h1, hp⟩
      have l1 : (cutG (x0 :: xr) none (some p)).length ≤ 10 ^ 6 := Nat.le_trans cut_len (by omega)
      have l2 : (cutG (x0 :: xr) (some (p + 1)) none).length ≤ 10 ^ 6 := Nat.le_trans cut_len (by omega)
      (conv => whnf)
      refine And.intro (show 1 ≤ 2 ^ 24 by decide) ?_
      (conv => whnf)
      refine And.intro (show (cutG (x0 :: xr) none (some p)).length + 1 ≤ 2 ^ 24 by omega) ?_
      (conv => whnf)
      refine And.intro (show (cutG (x0 :: xr) none (some p) ++ [r]).length + (cutG (x0 :: xr) (some (p + 1)) none).length ≤ 2 ^ 24 by rw [List.length_append]; show _ + 1 + _ ≤ _; omega) ?_
      repeat' ((conv => whnf); first | (refine Exists.intro _ (And.intro rfl ?_)) | (refine br.mk (fun hbr => ?_) (fun hbr => ?_) <;> (first | exact Bool.noConfusion (show false = true from hbr) | exact Bool.noConfusion (show true = false from hbr) | simp only [decide_eq_true_eq, decide_eq_false_iff_not, Bool.not_eq_true', Bool.not_eq_false', Bool.and_eq_true, Bool.not_not, id_eq] at hbr | skip)) | (refine And.intro ?side ?_; case side => (first | rfl | assumption | omega | decide | exact Nat.le_of_ble_eq_true rfl | (dsimp only; omega) | (simp only [sizeLine, List.length_cons, List.length_nil, List.length_append]; omega) | (refine And.intro ?_ ?_ <;> omega) | (refine Or.inl (And.intro ?_ ?_) <;> omega) | (refine Or.inr (And.intro ?_ ?_) <;> omega) | fail)) | fail)
      refine q (.tuple (cutG (x0 :: xr) none (some p) ++ [r] ++ cutG (x0 :: xr) (some (p + 1)) none), ob) ⟨?_, IsPot.mono hp (show c + 1 + 1 + (3 * n + 3) ≤ c + (3 * (n + 1) + 3) by omega)⟩
      show fit (m' + 1 + 1) (L + 1) _
      rw [cut_hi h0_p, cut_lo (by omega)]
      refine fit.tup ?_ ?_
      · simp only [List.length_append, List.length_take, List.length_drop, List.length_singleton]
        omega
      · intro y hy
        rcases List.mem_append.mp hy with hy | hy
        · rcases List.mem_append.mp hy with hy | hy
          · exact (hx y (List.mem_of_mem_take hy)).mono (by omega) (by omega)
          · rw [List.mem_singleton.mp hy]; exact h1
        · exact (hx y (List.mem_of_mem_drop hy)).mono (by omega) (by omega)
theorem ok__law_spoilt {f : Addr} {fd : FuncData} (F : Fun K "_law_spoilt" "_law_spoilt" s__law_spoilt f fd) (T : Txt mg) (C__law_odd : Cal P w K mg base 2 "_law_odd" ["pot", "thing"] S_odd) (C__law_take : Cal P w K mg base 1 "_law_take" ["pot", "many"] S_take)
    (hm : mg "_law_spoilt" = some (.ref f)) (hk : PySem.W.keepIn K (.ref f) = true) (hb : Binds K fd ["pot", "thing"] []) : FnOk P w K mg base CX0 8 f fd ["pot", "thing"] (liftF K (S_sp 5).sp) := rec_spoilt F T C__law_take C__law_odd hm hk hb 5 (by omega)
theorem ok_law {f : Addr} {fd : FuncData} (F : Fun K "law" "law" s_law f fd) (T : Txt mg) (C__law_pot : Cal P w K mg base 1 "_law_pot" ["script", "k"] S_pot) (C__law_sizes : Cal P w K mg base 2 "_law_sizes" ["pot"] S__law_sizes) (C__law_saying : Cal P w K mg base 3 "_law_saying" ["pot", "signs", "deeds", "rooms", "rate"] S_sayg) (C__law_spoilt : Cal P w K mg base 8 "_law_spoilt" ["pot", "thing"] (S_sp 5)) (C__law_odd : Cal P w K mg base 2 "_law_odd" ["pot", "thing"] S_odd) (C_is_saying : Cal P w K mg base 4 "is_saying" ["thing"] S_is_saying) (C__law_take : Cal P w K mg base 1 "_law_take" ["pot", "many"] S_take) (C__law_whole : Cal P w K mg base 1 "_law_whole" ["found"] S__law_whole) (C__law_is_saying : Cal P w K mg base 2 "_law_is_saying" ["thing"] S__law_is_saying) : FnOk P w K mg base CX0 9 f fd ["script"] (liftF K S_law.sp) := by
  refine fnS F sc_law (fun _ => rfl) (fun cdv A outer s H E hr => ⟨_, (sc3 (for3 (ws := [1]) PassesOwn.never rfl (range3 (by rfl) T.b_range (max3 rfl (by rfl) T.b_max int3 (min3 rfl (by rfl) T.b_min int3 (lenO3 0 (by rfl) T.b_len)))) (gn3 1 sc_law.nd)
      (sc3 (setO3 2 sc_law.nd (clO3 C__law_pot hr (rr3 0 (rd3 (v3 1) rn3))))
      (sc3 (asg3 (ws := [3, 4, 5]) (cl3 C__law_sizes hr (ro3 2 rn3)) (gt3' (n := 3) rfl (gs1 (gn3 3 sc_law.nd) (gs1 (gn3 4 sc_law.nd) (gs1 (gn3 5 sc_law.nd) gs0)))))
      (sc3 (set3 6 sc_law.nd (cl3 C__law_saying hr (ro3 2 (rd3 (v3 3) (rd3 (v3 4) (rd3 (v3 5) (rd3 (add3 int3 (cl3 C__law_take hr (ro3 2 (rd3 int3 rn3)))) rn3)))))))
      (sc3 (set3 7 sc_law.nd (cl3 C__law_spoilt hr (ro3 2 (rd3 (v3 6) rn3))))
      (s13 (for3 (ws := [8]) PassesOwn.never rfl (seq3 (lst3 (ac3 (v3 6) (ac3 (v3 7) (ac3 (cl3 C__law_spoilt hr (ro3 2 (rd3 (v3 6) rn3))) (ac3 (cl3 C__law_spoilt hr (ro3 2 (rd3 (v3 7) rn3))) (ac3 (cl3 C__law_odd hr (ro3 2 (rd3 int3 rn3))) (ac3 (tup3 (ac3 (v3 6) an3)) an3)))))))) (gn3 8 sc_law.nd)
      (sc3 (set3 9 sc_law.nd (cl3 C_is_saying hr (rd3 (v3 8) rn3)))
      (s13 (if3 (PW3.pt (or3 (not3 (pt3_val (isi3 kit_bool (by decide +kernel) (by rfl) T.b_isinstance (by rfl) T.b_bool (v3 9)))) (or1_3 (ne3T hr.units (v3 9) (cl3 C__law_is_saying hr (rd3 (v3 8) rn3))))))
      (s13 (ret3 bl3))
      sn3))))))))))
      (s13 (ret3 (andV3 (all3 rfl (by rfl) T.b_all (lc3 (own := [("one", 10)]) rfl sc_law.nd (seq3 (lst3 (ac3 (gl3 T.c_MOST) (ac3 (gl3 T.c_WIDE) (ac3 (gl3 T.c_DEAR) an3))))) (blkOk_by (by kernel_rfl)) (fun _ _ _ _ _ => (gn3 10 sc_law.nd)) (fun _ _ _ _ _ => yes3) (fun _ _ _ _ _ => (cl3 C__law_whole hr (rd3 (v3 10) rn3))) (s0 := s))) (one3 (eq3 hr.units (lst3 (ac3 (gl3 T.c_MOST) (ac3 (gl3 T.c_WIDE) (ac3 (gl3 T.c_DEAR) an3)))) (lst3 (ac3 int3 (ac3 int3 (ac3 int3 an3)))))))))), fun a Q pr q => ?_⟩)
  replace q : Q (.d (.bool true)) [] := q
  replace pr : a.length ≤ 63 := pr
  repeat' ((conv => whnf); first | (refine Exists.intro _ (And.intro rfl ?_)) | (refine br.mk (fun hbr => ?_) (fun hbr => ?_) <;> (first | exact Bool.noConfusion (show false = true from hbr) | exact Bool.noConfusion (show true = false from hbr) | simp only [decide_eq_true_eq, decide_eq_false_iff_not, Bool.not_eq_true', Bool.not_eq_false', Bool.and_eq_true, Bool.not_not, id_eq] at hbr | skip)) | (refine And.intro ?side ?_; case side => (first | rfl | assumption | omega | decide | exact Nat.le_of_ble_eq_true rfl | (dsimp only; omega) | (simp only [sizeLine, List.length_cons, List.length_nil, List.length_append]; omega) | (refine And.intro ?_ ?_ <;> omega) | (refine Or.inl (And.intro ?_ ?_) <;> omega) | (refine Or.inr (And.intro ?_ ?_) <;> omega) | fail)) | fail)
  refine ⟨fun k δ => ∃ x1 x2 x3 x4 x5 x6 x7 x8 x9, δ = [some (.ro (a.map .int)), x1, x2, x3, x4, x5, x6, x7, x8, x9, none], ⟨none, none, none, none, none, none, none, none, none, rfl⟩, ?_, ?_⟩
  · rintro k x δ hx ⟨x1, x2, x3, x4, x5, x6, x7, x8, x9, rfl⟩
    obtain ⟨rfl, hk⟩ := rng_at hx
    (conv => whnf)
    refine Exists.intro (a, (0 : Int) + k) (And.intro ⟨(show (0 : Int) ≤ 0 + k by omega), (show (0 : Int) + k ≤ 10 ^ 12 by have h1 := hk; omega)⟩ (And.intro rfl ?_))
    rintro ob hp
    replace hp : IsPot 0 ob := hp
    (conv => whnf)
    refine Exists.intro (ob, 0) (And.intro ⟨hp, (show 0 ≤ 10 ^ 10 by decide)⟩ (And.intro rfl ?_))
    rintro ⟨i, j, m, ob⟩ ⟨hi, hj, hm, hp⟩
    replace hi : 1 ≤ i ∧ i ≤ 10 := hi
    replace hj : 1 ≤ j ∧ j ≤ 10 := hj
    replace hm : 1 ≤ m ∧ m ≤ 101 := hm
    replace hp : IsPot 4 ob := hp
    repeat' ((conv => whnf); first | (refine Exists.intro _ (And.intro rfl ?_)) | (refine br.mk (fun hbr => ?_) (fun hbr => ?_) <;> (first | exact Bool.noConfusion (show false = true from hbr) | exact Bool.noConfusion (show true = false from hbr) | simp only [decide_eq_true_eq, decide_eq_false_iff_not, Bool.not_eq_true', Bool.not_eq_false', Bool.and_eq_true, Bool.not_not, id_eq] at hbr | skip)) | (refine And.intro ?side ?_; case side => (first | rfl | assumption | omega | decide | exact Nat.le_of_ble_eq_true rfl | (dsimp only; omega) | (simp only [sizeLine, List.length_cons, List.length_nil, List.length_append]; omega) | (refine And.intro ?_ ?_ <;> omega) | (refine Or.inl (And.intro ?_ ?_) <;> omega) | (refine Or.inr (And.intro ?_ ?_) <;> omega) | fail)) | fail)
    refine Exists.intro (_, 4, 9) (And.intro ⟨hp, (show 4 ≤ 10 ^ 12 by omega), (show (0 : Int) < 9 by first | decide | omega), (show 9 < (2 : Int) ^ 29 by first | decide | omega)⟩ (And.intro rfl ?_))
    rintro ⟨u, ob⟩ ⟨h0_u, h1_u, hp⟩
    replace h0_u : 0 ≤ u := h0_u
    replace h1_u : u < 9 := h1_u
    replace hp : IsPot (4 + 1) ob := hp
    (conv => whnf)
    refine Exists.intro (ob, 4 + 1, i, j, m, 1 + u) (And.intro ⟨hp, (show 4 + 1 ≤ 10 ^ 10 by decide), (show 0 ≤ i ∧ i ≤ 200 by omega), (show 0 ≤ j ∧ j ≤ 200 by omega), (show 0 < m ∧ m ≤ 200 by omega), (show 0 < 1 + u ∧ 1 + u < 2 ^ 29 by omega)⟩ (And.intro rfl ?_))
    rintro ⟨rs, ob⟩ ⟨hl, hall, hp⟩
    replace hl : (rs.length : Int) = m := hl
    replace hall : rs.all (roomB i j m) = true := hall
    replace hp : IsPot (4 + 1 + 20000000) ob := hp
    replace hp : IsPot 20000005 ob := hp.mono (by decide)
    have hf : fit 4 101 (.tuple [.int i, .int j, .tuple rs]) := fit_say (by decide) (by omega) (by omega) (by omega) hall
    (conv => whnf)
    refine Exists.intro (ob, 20000005, 4, 101, .tuple [.int i, .int j, .tuple rs]) (And.intro ⟨hp, (show 20000005 + 2 * 5 ≤ 10 ^ 10 by decide), (show 2 ≤ 101 ∧ 101 ≤ 10 ^ 6 by decide), (show 4 ≤ 5 by decide), hf⟩ (And.intro rfl ?_))
    rintro ⟨once, ob⟩ ⟨hf1, hp⟩
    replace hp : IsPot (20000005 + (3 * 5 + 3)) ob := hp
    replace hp : IsPot 20000023 ob := hp.mono (by decide)
    replace hf1 : fit (4 + 1) (101 + 1) once := hf1
    (conv => whnf)
    refine Exists.intro (ob, 20000023, 4, 101, .tuple [.int i, .int j, .tuple rs]) (And.intro ⟨hp, (show 20000023 + 2 * 5 ≤ 10 ^ 10 by decide), (show 2 ≤ 101 ∧ 101 ≤ 10 ^ 6 by decide), (show 4 ≤ 5 by decide), hf⟩ (And.intro rfl ?_))
    rintro ⟨r1, ob⟩ ⟨-, hp⟩
    replace hp : IsPot (20000023 + (3 * 5 + 3)) ob := hp
    replace hp : IsPot 20000041 ob := hp.mono (by decide)
    (conv => whnf)
    refine Exists.intro (ob, 20000041, 5, 102, once) (And.intro ⟨hp, (show 20000041 + 2 * 5 ≤ 10 ^ 10 by decide), (show 2 ≤ 102 ∧ 102 ≤ 10 ^ 6 by decide), (show 5 ≤ 5 by decide), hf1⟩ (And.intro rfl ?_))
    rintro ⟨r2, ob⟩ ⟨-, hp⟩
    replace hp : IsPot (20000041 + (3 * 5 + 3)) ob := hp
    replace hp : IsPot 20000059 ob := hp.mono (by decide)
    (conv => whnf)
    refine Exists.intro (ob, 20000059, 0, 2, .int 0) (And.intro ⟨hp, (show 20000059 ≤ 10 ^ 11 by decide), (show 2 ≤ 2 ∧ 2 ≤ 10 ^ 6 by decide), rfl⟩ (And.intro rfl ?_))
    rintro ⟨r3, ob⟩ ⟨-, -⟩
    repeat' ((conv => whnf); first | (refine Exists.intro _ (And.intro rfl ?_)) | (refine br.mk (fun hbr => ?_) (fun hbr => ?_) <;> (first | exact Bool.noConfusion (show false = true from hbr) | exact Bool.noConfusion (show true = false from hbr) | simp only [decide_eq_true_eq, decide_eq_false_iff_not, Bool.not_eq_true', Bool.not_eq_false', Bool.and_eq_true, Bool.not_not, id_eq] at hbr | skip)) | (refine And.intro ?side ?_; case side => (first | rfl | assumption | omega | decide | exact Nat.le_of_ble_eq_true rfl | (dsimp only; omega) | (simp only [sizeLine, List.length_cons, List.length_nil, List.length_append]; omega) | (refine And.intro ?_ ?_ <;> omega) | (refine Or.inl (And.intro ?_ ?_) <;> omega) | (refine Or.inr (And.intro ?_ ?_) <;> omega) | fail)) | fail)
    refine ⟨fun n δ => ∃ x1 x2 x3 x4 x5 x6 x7 x8 x9, δ = [some (.ro (a.map .int)), x1, x2, x3, x4, x5, x6, x7, x8, x9, none], ⟨_, _, _, _, _, _, _, _, _, rfl⟩, ?_, ?_⟩
    · rintro n x δ hx ⟨x1, x2, x3, x4, x5, x6, x7, x8, x9, rfl⟩
      (conv => whnf)
      refine Exists.intro x (And.intro trivial (And.intro rfl ?_))
      repeat' ((conv => whnf); first | (refine Exists.intro _ (And.intro rfl ?_)) | (refine br.mk (fun hbr => ?_) (fun hbr => ?_) <;> (first | exact Bool.noConfusion (show false = true from hbr) | exact Bool.noConfusion (show true = false from hbr) | simp only [decide_eq_true_eq, decide_eq_false_iff_not, Bool.not_eq_true', Bool.not_eq_false', Bool.and_eq_true, Bool.not_not, id_eq] at hbr | skip)) | (refine And.intro ?side ?_; case side => (first | rfl | assumption | omega | decide | exact Nat.le_of_ble_eq_true rfl | (dsimp only; omega) | (simp only [sizeLine, List.length_cons, List.length_nil, List.length_append]; omega) | (refine And.intro ?_ ?_ <;> omega) | (refine Or.inl (And.intro ?_ ?_) <;> omega) | (refine Or.inr (And.intro ?_ ?_) <;> omega) | fail)) | fail)
      refine Exists.intro x (And.intro trivial (And.intro rfl ?_))
      (conv => whnf)
      refine br_f (by cases sayB x <;> rfl) ?_
      exact ⟨_, _, _, _, _, _, _, _, _, rfl⟩
    · rintro δ ⟨x1, x2, x3, x4, x5, x6, x7, x8, x9, rfl⟩
      exact ⟨_, _, _, _, _, _, _, _, _, rfl⟩
  · rintro δ ⟨x1, x2, x3, x4, x5, x6, x7, x8, x9, rfl⟩
    repeat' ((conv => whnf); first | (refine Exists.intro _ (And.intro rfl ?_)) | (refine br.mk (fun hbr => ?_) (fun hbr => ?_) <;> (first | exact Bool.noConfusion (show false = true from hbr) | exact Bool.noConfusion (show true = false from hbr) | simp only [decide_eq_true_eq, decide_eq_false_iff_not, Bool.not_eq_true', Bool.not_eq_false', Bool.and_eq_true, Bool.not_not, id_eq] at hbr | skip)) | (refine And.intro ?side ?_; case side => (first | rfl | assumption | omega | decide | exact Nat.le_of_ble_eq_true rfl | (dsimp only; omega) | (simp only [sizeLine, List.length_cons, List.length_nil, List.length_append]; omega) | (refine And.intro ?_ ?_ <;> omega) | (refine Or.inl (And.intro ?_ ?_) <;> omega) | (refine Or.inr (And.intro ?_ ?_) <;> omega) | fail)) | fail)
    refine ⟨fun n acc δ => δ = [some (.ro (a.map .int)), x1, x2, x3, x4, x5, x6, x7, x8, x9, none] ∧ acc = List.replicate n (.bool true), ⟨rfl, rfl⟩, ?_, ?_⟩
    · rintro n x acc δ hx ⟨rfl, rfl⟩
      have hw : isW x = true := by
        match n, hx with
        | 0, hx => cases hx; rfl
        | 1, hx => cases hx; rfl
        | 2, hx => cases hx; rfl
        | n + 3, hx => simp at hx
      (conv => whnf)
      refine br_t rfl ?_
      (conv => whnf)
      refine Exists.intro x (And.intro trivial (And.intro rfl ?_))
      refine And.intro rfl ?_
      rw [List.replicate_succ']
      show _ ++ [PyData.bool (isW x)] = _
      rw [hw]
    · rintro acc δ ⟨rfl, rfl⟩
      refine Exists.intro [true, true, true] (And.intro rfl ?_)
      repeat' ((conv => whnf); first | (refine Exists.intro _ (And.intro rfl ?_)) | (refine br.mk (fun hbr => ?_) (fun hbr => ?_) <;> (first | exact Bool.noConfusion (show false = true from hbr) | exact Bool.noConfusion (show true = false from hbr) | simp only [decide_eq_true_eq, decide_eq_false_iff_not, Bool.not_eq_true', Bool.not_eq_false', Bool.and_eq_true, Bool.not_not, id_eq] at hbr | skip)) | (refine And.intro ?side ?_; case side => (first | rfl | assumption | omega | decide | exact Nat.le_of_ble_eq_true rfl | (dsimp only; omega) | (simp only [sizeLine, List.length_cons, List.length_nil, List.length_append]; omega) | (refine And.intro ?_ ?_ <;> omega) | (refine Or.inl (And.intro ?_ ?_) <;> omega) | (refine Or.inr (And.intro ?_ ?_) <;> omega) | fail)) | fail)
      exact q
end
theorem all_mk {l : PySem.W.OpenLaw} {w : World} {K : PySem.W.Frag} {h : Heap} {mg : Str → Option Value} {fa : Addr} (X : K.In h) (G : h.Ns mainGlobals mg) (hfa : mg "law" = some (.ref fa))
    {f0 : Addr} {od0 an0 : Option Addr} {sl0 : Array (Option Value)} {oc0 kV0 dc0 pm0 cd0 ct0 : Value}
    {f1 : Addr} {od1 an1 : Option Addr} {sl1 : Array (Option Value)} {oc1 kV1 dc1 pm1 cd1 ct1 : Value}
    {f2 : Addr} {od2 an2 : Option Addr} {sl2 : Array (Option Value)} {oc2 kV2 dc2 pm2 cd2 ct2 : Value}
    {f3 : Addr} {od3 an3 : Option Addr} {sl3 : Array (Option Value)} {oc3 kV3 dc3 pm3 cd3 ct3 : Value}
    {f4 : Addr} {od4 an4 : Option Addr} {sl4 : Array (Option Value)} {oc4 kV4 dc4 pm4 cd4 ct4 : Value}
    {f5 : Addr} {od5 an5 : Option Addr} {sl5 : Array (Option Value)} {oc5 kV5 dc5 pm5 cd5 ct5 : Value}
    {f6 : Addr} {od6 an6 : Option Addr} {sl6 : Array (Option Value)} {oc6 kV6 dc6 pm6 cd6 ct6 : Value}
    {f7 : Addr} {od7 an7 : Option Addr} {sl7 : Array (Option Value)} {oc7 kV7 dc7 pm7 cd7 ct7 : Value}
    {f8 : Addr} {od8 an8 : Option Addr} {sl8 : Array (Option Value)} {oc8 kV8 dc8 pm8 cd8 ct8 : Value}
    {f9 : Addr} {od9 an9 : Option Addr} {sl9 : Array (Option Value)} {oc9 kV9 dc9 pm9 cd9 ct9 : Value}
    {f10 : Addr} {od10 an10 : Option Addr} {sl10 : Array (Option Value)} {oc10 kV10 dc10 pm10 cd10 ct10 : Value}
    {f11 : Addr} {od11 an11 : Option Addr} {sl11 : Array (Option Value)} {oc11 kV11 dc11 pm11 cd11 ct11 : Value}
    {f12 : Addr} {od12 an12 : Option Addr} {sl12 : Array (Option Value)} {oc12 kV12 dc12 pm12 cd12 ct12 : Value}
    {f13 : Addr} {od13 an13 : Option Addr} {sl13 : Array (Option Value)} {oc13 kV13 dc13 pm13 cd13 ct13 : Value}
    {f14 : Addr} {od14 an14 : Option Addr} {sl14 : Array (Option Value)} {oc14 kV14 dc14 pm14 cd14 ct14 : Value}
    {f15 : Addr} {od15 an15 : Option Addr} {sl15 : Array (Option Value)} {oc15 kV15 dc15 pm15 cd15 ct15 : Value}
    {t_DEAR : Tok}
    {t_MOST : Tok}
    {t_WIDE : Tok}
    (a0 : PySem.W.nsIn K mainGlobals "_law_pot" = some (some (.ref f0))) (l0 : K.lookup f0 = some ⟨oc0, od0, .func (PySem.W.fnOf "_law_pot" "_law_pot" (defArgs s__law_pot) (defBody s__law_pot) (defScope s__law_pot) .none kV0 dc0 pm0 an0 cd0 ct0), sl0⟩) (c0 : PySem.W.codeIn K cd0 "_law_pot" = true) (k0 : PySem.W.keepIn K (.ref f0) = true)
    (a1 : PySem.W.nsIn K mainGlobals "_law_take" = some (some (.ref f1))) (l1 : K.lookup f1 = some ⟨oc1, od1, .func (PySem.W.fnOf "_law_take" "_law_take" (defArgs s__law_take) (defBody s__law_take) (defScope s__law_take) .none kV1 dc1 pm1 an1 cd1 ct1), sl1⟩) (c1 : PySem.W.codeIn K cd1 "_law_take" = true) (k1 : PySem.W.keepIn K (.ref f1) = true)
    (a2 : PySem.W.nsIn K mainGlobals "_law_sizes" = some (some (.ref f2))) (l2 : K.lookup f2 = some ⟨oc2, od2, .func (PySem.W.fnOf "_law_sizes" "_law_sizes" (defArgs s__law_sizes) (defBody s__law_sizes) (defScope s__law_sizes) .none kV2 dc2 pm2 an2 cd2 ct2), sl2⟩) (c2 : PySem.W.codeIn K cd2 "_law_sizes" = true) (k2 : PySem.W.keepIn K (.ref f2) = true)
    (a3 : PySem.W.nsIn K mainGlobals "_law_room" = some (some (.ref f3))) (l3 : K.lookup f3 = some ⟨oc3, od3, .func (PySem.W.fnOf "_law_room" "_law_room" (defArgs s__law_room) (defBody s__law_room) (defScope s__law_room) .none kV3 dc3 pm3 an3 cd3 ct3), sl3⟩) (c3 : PySem.W.codeIn K cd3 "_law_room" = true) (k3 : PySem.W.keepIn K (.ref f3) = true)
    (a4 : PySem.W.nsIn K mainGlobals "_law_saying" = some (some (.ref f4))) (l4 : K.lookup f4 = some ⟨oc4, od4, .func (PySem.W.fnOf "_law_saying" "_law_saying" (defArgs s__law_saying) (defBody s__law_saying) (defScope s__law_saying) .none kV4 dc4 pm4 an4 cd4 ct4), sl4⟩) (c4 : PySem.W.codeIn K cd4 "_law_saying" = true) (k4 : PySem.W.keepIn K (.ref f4) = true)
    (a5 : PySem.W.nsIn K mainGlobals "_law_odd" = some (some (.ref f5))) (l5 : K.lookup f5 = some ⟨oc5, od5, .func (PySem.W.fnOf "_law_odd" "_law_odd" (defArgs s__law_odd) (defBody s__law_odd) (defScope s__law_odd) .none kV5 dc5 pm5 an5 cd5 ct5), sl5⟩) (c5 : PySem.W.codeIn K cd5 "_law_odd" = true) (k5 : PySem.W.keepIn K (.ref f5) = true)
    (a6 : PySem.W.nsIn K mainGlobals "_law_spoilt" = some (some (.ref f6))) (l6 : K.lookup f6 = some ⟨oc6, od6, .func (PySem.W.fnOf "_law_spoilt" "_law_spoilt" (defArgs s__law_spoilt) (defBody s__law_spoilt) (defScope s__law_spoilt) .none kV6 dc6 pm6 an6 cd6 ct6), sl6⟩) (c6 : PySem.W.codeIn K cd6 "_law_spoilt" = true) (k6 : PySem.W.keepIn K (.ref f6) = true)
    (a7 : PySem.W.nsIn K mainGlobals "is_row" = some (some (.ref f7))) (l7 : K.lookup f7 = some ⟨oc7, od7, .func (PySem.W.fnOf "is_row" "is_row" (defArgs s_is_row) (defBody s_is_row) (defScope s_is_row) .none kV7 dc7 pm7 an7 cd7 ct7), sl7⟩) (c7 : PySem.W.codeIn K cd7 "is_row" = true) (k7 : PySem.W.keepIn K (.ref f7) = true)
    (a8 : PySem.W.nsIn K mainGlobals "is_whole" = some (some (.ref f8))) (l8 : K.lookup f8 = some ⟨oc8, od8, .func (PySem.W.fnOf "is_whole" "is_whole" (defArgs s_is_whole) (defBody s_is_whole) (defScope s_is_whole) .none kV8 dc8 pm8 an8 cd8 ct8), sl8⟩) (c8 : PySem.W.codeIn K cd8 "is_whole" = true) (k8 : PySem.W.keepIn K (.ref f8) = true)
    (a9 : PySem.W.nsIn K mainGlobals "is_count" = some (some (.ref f9))) (l9 : K.lookup f9 = some ⟨oc9, od9, .func (PySem.W.fnOf "is_count" "is_count" (defArgs s_is_count) (defBody s_is_count) (defScope s_is_count) .none kV9 dc9 pm9 an9 cd9 ct9), sl9⟩) (c9 : PySem.W.codeIn K cd9 "is_count" = true) (k9 : PySem.W.keepIn K (.ref f9) = true)
    (a10 : PySem.W.nsIn K mainGlobals "is_below" = some (some (.ref f10))) (l10 : K.lookup f10 = some ⟨oc10, od10, .func (PySem.W.fnOf "is_below" "is_below" (defArgs s_is_below) (defBody s_is_below) (defScope s_is_below) .none kV10 dc10 pm10 an10 cd10 ct10), sl10⟩) (c10 : PySem.W.codeIn K cd10 "is_below" = true) (k10 : PySem.W.keepIn K (.ref f10) = true)
    (a11 : PySem.W.nsIn K mainGlobals "is_room" = some (some (.ref f11))) (l11 : K.lookup f11 = some ⟨oc11, od11, .func (PySem.W.fnOf "is_room" "is_room" (defArgs s_is_room) (defBody s_is_room) (defScope s_is_room) .none kV11 dc11 pm11 an11 cd11 ct11), sl11⟩) (c11 : PySem.W.codeIn K cd11 "is_room" = true) (k11 : PySem.W.keepIn K (.ref f11) = true)
    (a12 : PySem.W.nsIn K mainGlobals "is_saying" = some (some (.ref f12))) (l12 : K.lookup f12 = some ⟨oc12, od12, .func (PySem.W.fnOf "is_saying" "is_saying" (defArgs s_is_saying) (defBody s_is_saying) (defScope s_is_saying) .none kV12 dc12 pm12 an12 cd12 ct12), sl12⟩) (c12 : PySem.W.codeIn K cd12 "is_saying" = true) (k12 : PySem.W.keepIn K (.ref f12) = true)
    (a13 : PySem.W.nsIn K mainGlobals "_law_whole" = some (some (.ref f13))) (l13 : K.lookup f13 = some ⟨oc13, od13, .func (PySem.W.fnOf "_law_whole" "_law_whole" (defArgs s__law_whole) (defBody s__law_whole) (defScope s__law_whole) .none kV13 dc13 pm13 an13 cd13 ct13), sl13⟩) (c13 : PySem.W.codeIn K cd13 "_law_whole" = true) (k13 : PySem.W.keepIn K (.ref f13) = true)
    (a14 : PySem.W.nsIn K mainGlobals "_law_is_saying" = some (some (.ref f14))) (l14 : K.lookup f14 = some ⟨oc14, od14, .func (PySem.W.fnOf "_law_is_saying" "_law_is_saying" (defArgs s__law_is_saying) (defBody s__law_is_saying) (defScope s__law_is_saying) .none kV14 dc14 pm14 an14 cd14 ct14), sl14⟩) (c14 : PySem.W.codeIn K cd14 "_law_is_saying" = true) (k14 : PySem.W.keepIn K (.ref f14) = true)
    (a15 : PySem.W.nsIn K mainGlobals "law" = some (some (.ref f15))) (l15 : K.lookup f15 = some ⟨oc15, od15, .func (PySem.W.fnOf "law" "law" (defArgs s_law) (defBody s_law) (defScope s_law) .none kV15 dc15 pm15 an15 cd15 ct15), sl15⟩) (c15 : PySem.W.codeIn K cd15 "law" = true) (k15 : PySem.W.keepIn K (.ref f15) = true)
    (b_abs : PySem.W.nsIn K mainGlobals "abs" = some none)
    (b_all : PySem.W.nsIn K mainGlobals "all" = some none)
    (b_bool : PySem.W.nsIn K mainGlobals "bool" = some none)
    (b_int : PySem.W.nsIn K mainGlobals "int" = some none)
    (b_isinstance : PySem.W.nsIn K mainGlobals "isinstance" = some none)
    (b_len : PySem.W.nsIn K mainGlobals "len" = some none)
    (b_list : PySem.W.nsIn K mainGlobals "list" = some none)
    (b_max : PySem.W.nsIn K mainGlobals "max" = some none)
    (b_min : PySem.W.nsIn K mainGlobals "min" = some none)
    (b_range : PySem.W.nsIn K mainGlobals "range" = some none)
    (b_tuple : PySem.W.nsIn K mainGlobals "tuple" = some none)
    (c_DEAR : PySem.W.nsIn K mainGlobals "DEAR" = some (some (.int 99 t_DEAR)))
    (c_MOST : PySem.W.nsIn K mainGlobals "MOST" = some (some (.int 100 t_MOST)))
    (c_WIDE : PySem.W.nsIn K mainGlobals "WIDE" = some (some (.int 9 t_WIDE))) :
    ∃ fd : FuncData, (∀ (s : Shared) (v : Value), BindsTo s fd ⟨[v], []⟩ [("script", v)]) ∧ ∀ base : Heap, K.In base → base.Ns mainGlobals mg → FnOk l.prog w K mg base CX0 9 fa fd ["script"] (liftF K S_law.sp) := by
  have e := hfa.symm.trans (PySem.W.mg_of X G a15)
  cases e
  have T : Txt mg := ⟨PySem.W.mg_none_of X G b_abs, PySem.W.mg_none_of X G b_all, PySem.W.mg_none_of X G b_bool, PySem.W.mg_none_of X G b_int, PySem.W.mg_none_of X G b_isinstance, PySem.W.mg_none_of X G b_len, PySem.W.mg_none_of X G b_list, PySem.W.mg_none_of X G b_max, PySem.W.mg_none_of X G b_min, PySem.W.mg_none_of X G b_range, PySem.W.mg_none_of X G b_tuple, ⟨_, PySem.W.mg_of X G c_DEAR⟩, ⟨_, PySem.W.mg_of X G c_MOST⟩, ⟨_, PySem.W.mg_of X G c_WIDE⟩⟩
  have F0 := fun_mk (st := s__law_pot) l0 c0 k0
  have B0 := F0.binds (ps := ["script", "k"]) fun _ _ _ _ _ _ us hl => match us, hl with | [_, _], _ => rfl
  have F1 := fun_mk (st := s__law_take) l1 c1 k1
  have B1 := F1.binds (ps := ["pot", "many"]) fun _ _ _ _ _ _ us hl => match us, hl with | [_, _], _ => rfl
  have F2 := fun_mk (st := s__law_sizes) l2 c2 k2
  have B2 := F2.binds (ps := ["pot"]) fun _ _ _ _ _ _ us hl => match us, hl with | [_], _ => rfl
  have F3 := fun_mk (st := s__law_room) l3 c3 k3
  have B3 := F3.binds (ps := ["pot", "rooms", "rate"]) fun _ _ _ _ _ _ us hl => match us, hl with | [_, _, _], _ => rfl
  have F4 := fun_mk (st := s__law_saying) l4 c4 k4
  have B4 := F4.binds (ps := ["pot", "signs", "deeds", "rooms", "rate"]) fun _ _ _ _ _ _ us hl => match us, hl with | [_, _, _, _, _], _ => rfl
  have F5 := fun_mk (st := s__law_odd) l5 c5 k5
  have B5 := F5.binds (ps := ["pot", "thing"]) fun _ _ _ _ _ _ us hl => match us, hl with | [_, _], _ => rfl
  have F6 := fun_mk (st := s__law_spoilt) l6 c6 k6
  have B6 := F6.binds (ps := ["pot", "thing"]) fun _ _ _ _ _ _ us hl => match us, hl with | [_, _], _ => rfl
  have F7 := fun_mk (st := s_is_row) l7 c7 k7
  have B7 := F7.binds (ps := ["thing", "many"]) fun _ _ _ _ _ _ us hl => match us, hl with | [_, _], _ => rfl
  have F8 := fun_mk (st := s_is_whole) l8 c8 k8
  have B8 := F8.binds (ps := ["thing"]) fun _ _ _ _ _ _ us hl => match us, hl with | [_], _ => rfl
  have F9 := fun_mk (st := s_is_count) l9 c9 k9
  have B9 := F9.binds (ps := ["thing"]) fun _ _ _ _ _ _ us hl => match us, hl with | [_], _ => rfl
  have F10 := fun_mk (st := s_is_below) l10 c10 k10
  have B10 := F10.binds (ps := ["thing", "most"]) fun _ _ _ _ _ _ us hl => match us, hl with | [_, _], _ => rfl
  have F11 := fun_mk (st := s_is_room) l11 c11 k11
  have B11 := F11.binds (ps := ["thing", "signs", "deeds", "many"]) fun _ _ _ _ _ _ us hl => match us, hl with | [_, _, _, _], _ => rfl
  have F12 := fun_mk (st := s_is_saying) l12 c12 k12
  have B12 := F12.binds (ps := ["thing"]) fun _ _ _ _ _ _ us hl => match us, hl with | [_], _ => rfl
  have F13 := fun_mk (st := s__law_whole) l13 c13 k13
  have B13 := F13.binds (ps := ["found"]) fun _ _ _ _ _ _ us hl => match us, hl with | [_], _ => rfl
  have F14 := fun_mk (st := s__law_is_saying) l14 c14 k14
  have B14 := F14.binds (ps := ["thing"]) fun _ _ _ _ _ _ us hl => match us, hl with | [_], _ => rfl
  have F15 := fun_mk (st := s_law) l15 c15 k15
  have B15 := F15.binds (ps := ["script"]) fun _ _ _ _ _ _ us hl => match us, hl with | [_], _ => rfl
  refine ⟨PySem.W.fnOf "law" "law" (defArgs s_law) (defBody s_law) (defScope s_law) .none kV15 dc15 pm15 an15 cd15 ct15, fun s v => .of_eq rfl, fun base _ _ => ?_⟩
  have C__law_pot : Cal l.prog w K mg base 1 "_law_pot" ["script", "k"] S_pot := ⟨f0, _, ok__law_pot F0 T , PySem.W.mg_of X G a0, k0, B0⟩
  have C__law_take : Cal l.prog w K mg base 1 "_law_take" ["pot", "many"] S_take := ⟨f1, _, ok__law_take F1 T , PySem.W.mg_of X G a1, k1, B1⟩
  have C__law_sizes : Cal l.prog w K mg base 2 "_law_sizes" ["pot"] S__law_sizes := ⟨f2, _, ok__law_sizes F2 T C__law_take, PySem.W.mg_of X G a2, k2, B2⟩
  have C__law_room : Cal l.prog w K mg base 2 "_law_room" ["pot", "rooms", "rate"] S_room := ⟨f3, _, ok__law_room F3 T C__law_take, PySem.W.mg_of X G a3, k3, B3⟩
  have C__law_saying : Cal l.prog w K mg base 3 "_law_saying" ["pot", "signs", "deeds", "rooms", "rate"] S_sayg := ⟨f4, _, ok__law_saying F4 T C__law_room, PySem.W.mg_of X G a4, k4, B4⟩
  have C__law_odd : Cal l.prog w K mg base 2 "_law_odd" ["pot", "thing"] S_odd := ⟨f5, _, ok__law_odd F5 T C__law_take, PySem.W.mg_of X G a5, k5, B5⟩
  have C__law_spoilt : Cal l.prog w K mg base 8 "_law_spoilt" ["pot", "thing"] (S_sp 5) := ⟨f6, _, ok__law_spoilt F6 T C__law_odd C__law_take (PySem.W.mg_of X G a6) k6 B6, PySem.W.mg_of X G a6, k6, B6⟩
  have C_is_row : Cal l.prog w K mg base 1 "is_row" ["thing", "many"] S_is_row := ⟨f7, _, ok_is_row F7 T , PySem.W.mg_of X G a7, k7, B7⟩
  have C_is_whole : Cal l.prog w K mg base 1 "is_whole" ["thing"] S_is_whole := ⟨f8, _, ok_is_whole F8 T , PySem.W.mg_of X G a8, k8, B8⟩
  have C_is_count : Cal l.prog w K mg base 2 "is_count" ["thing"] S_is_count := ⟨f9, _, ok_is_count F9 T C_is_whole, PySem.W.mg_of X G a9, k9, B9⟩
  have C_is_below : Cal l.prog w K mg base 2 "is_below" ["thing", "most"] S_is_below := ⟨f10, _, ok_is_below F10 T C_is_whole, PySem.W.mg_of X G a10, k10, B10⟩
  have C_is_room : Cal l.prog w K mg base 3 "is_room" ["thing", "signs", "deeds", "many"] S_is_room := ⟨f11, _, ok_is_room F11 T C_is_row C_is_below, PySem.W.mg_of X G a11, k11, B11⟩
  have C_is_saying : Cal l.prog w K mg base 4 "is_saying" ["thing"] S_is_saying := ⟨f12, _, ok_is_saying F12 T C_is_row C_is_count C_is_room, PySem.W.mg_of X G a12, k12, B12⟩
  have C__law_whole : Cal l.prog w K mg base 1 "_law_whole" ["found"] S__law_whole := ⟨f13, _, ok__law_whole F13 T , PySem.W.mg_of X G a13, k13, B13⟩
  have C__law_is_saying : Cal l.prog w K mg base 2 "_law_is_saying" ["thing"] S__law_is_saying := ⟨f14, _, ok__law_is_saying F14 T C__law_whole, PySem.W.mg_of X G a14, k14, B14⟩
  exact ok_law F15 T C__law_pot C__law_sizes C__law_saying C__law_spoilt C__law_odd C_is_saying C__law_take C__law_whole C__law_is_saying
end K02
open PySem PySem.W PyProof.Rows
set_option maxRecDepth 100000 in
set_option maxHeartbeats 0 in
theorem PySem.Challenge.cw_mildwarden_k02_what_is_a_saying_holds : PySem.Challenge.rw_mildwarden_k02_what_is_a_saying.Holds := by
  w_on; o_law; k_head; (case hw => w_witness2)
  k_fill
  refine M3.walk3 (l := PySem.Challenge.rw_mildwarden_k02_what_is_a_saying) (k := 9) rfl rfl ⟨rfl, by decide, by decide⟩ (fun w h Y => PySem.W.kIn_of Y) ?F
  case F =>
    intro w mg fa h KX G hmg
    refine' K02.all_mk KX G hmg ?a0 ?l0 ?c0 ?k0 ?a1 ?l1 ?c1 ?k1 ?a2 ?l2 ?c2 ?k2 ?a3 ?l3 ?c3 ?k3 ?a4 ?l4 ?c4 ?k4 ?a5 ?l5 ?c5 ?k5 ?a6 ?l6 ?c6 ?k6 ?a7 ?l7 ?c7 ?k7 ?a8 ?l8 ?c8 ?k8 ?a9 ?l9 ?c9 ?k9 ?a10 ?l10 ?c10 ?k10 ?a11 ?l11 ?c11 ?k11 ?a12 ?l12 ?c12 ?k12 ?a13 ?l13 ?c13 ?k13 ?a14 ?l14 ?c14 ?k14 ?a15 ?l15 ?c15 ?k15 ?b_abs ?b_all ?b_bool ?b_int ?b_isinstance ?b_len ?b_list ?b_max ?b_min ?b_range ?b_tuple ?c_DEAR ?c_MOST ?c_WIDE
    (case a0 => k_is)
    (case l0 => k_is)
    (case c0 => k_is)
    (case k0 => k_is)
    (case a1 => k_is)
    (case l1 => k_is)
    (case c1 => k_is)
    (case k1 => k_is)
    (case a2 => k_is)
    (case l2 => k_is)
    (case c2 => k_is)
    (case k2 => k_is)
    (case a3 => k_is)
    (case l3 => k_is)
    (case c3 => k_is)
    (case k3 => k_is)
    (case a4 => k_is)
    (case l4 => k_is)
    (case c4 => k_is)
    (case k4 => k_is)
    (case a5 => k_is)
    (case l5 => k_is)
    (case c5 => k_is)
    (case k5 => k_is)
    (case a6 => k_is)
    (case l6 => k_is)
    (case c6 => k_is)
    (case k6 => k_is)
    (case a7 => k_is)
    (case l7 => k_is)
    (case c7 => k_is)
    (case k7 => k_is)
    (case a8 => k_is)
    (case l8 => k_is)
    (case c8 => k_is)
    (case k8 => k_is)
    (case a9 => k_is)
    (case l9 => k_is)
    (case c9 => k_is)
    (case k9 => k_is)
    (case a10 => k_is)
    (case l10 => k_is)
    (case c10 => k_is)
    (case k10 => k_is)
    (case a11 => k_is)
    (case l11 => k_is)
    (case c11 => k_is)
    (case k11 => k_is)
    (case a12 => k_is)
    (case l12 => k_is)
    (case c12 => k_is)
    (case k12 => k_is)
    (case a13 => k_is)
    (case l13 => k_is)
    (case c13 => k_is)
    (case k13 => k_is)
    (case a14 => k_is)
    (case l14 => k_is)
    (case c14 => k_is)
    (case k14 => k_is)
    (case a15 => k_is)
    (case l15 => k_is)
    (case c15 => k_is)
    (case k15 => k_is)
    (case b_abs => k_is)
    (case b_all => k_is)
    (case b_bool => k_is)
    (case b_int => k_is)
    (case b_isinstance => k_is)
    (case b_len => k_is)
    (case b_list => k_is)
    (case b_max => k_is)
    (case b_min => k_is)
    (case b_range => k_is)
    (case b_tuple => k_is)
    (case c_DEAR => k_is)
    (case c_MOST => k_is)
    (case c_WIDE => k_is)

