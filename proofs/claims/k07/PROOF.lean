import PyProof.Rows.All
import Wide.All
import OpenK.AllK
import Wide.FinOn
import HandS.ForMost
import HandS.IsInst
import HandS.TupAny
import HandS.TupMul
import HandS.Style
import HandS.Flow
import HandS.Walk
import HandS.Nested
import KE.DataEq
import HandS.Zip
import HandS.Iter
import HandS.Deep
import KE.GoesMore
import PyProof.CollectIter
import HandS.RaiseMore
import PyProof.CallFns
import HandS.NoneIn
import HandS.Defaults
import HandS.MakeKwOnly
import HandS.Conv
import HandS.Dict
import HandS.Sort
import HandS.WordsExc
import HandS.TryOnly
import HandS.ExcIs
import HandS.DictComp
import KE.KDictDisplayH
import KE.KDictPairs
import HandS.EndTab
import PyProof.ReprRoads
import HandS.FStrTup
import PySem.Challenge.RW_mildwarden_k07_either_room_by_room
set_option Elab.async false
set_option linter.all false
set_option maxRecDepth 100000
namespace M3
open PySem L2

/-! ## data, owned objects, slots -/
abbrev D := PyData
inductive Ob where
  | lst (xs : List D)
  | dct (kvs : List (D × D))
  | dcT (kvs : List (D × D))
inductive W where
  | d (x : D)
  | ro (xs : List D)
  | own (t : Nat) (o : Ob)
  | lnt (p : Nat)
  | ad (a : Addr)
  | lk (a : Addr) (ds : List (D × D))
  | cl (f : Addr) (F : NdefX.NF)
  | fv (a : Addr) (I : (Addr → Prop) → Hp → Prop)
/-- what isn't owned: data, or a list that is only read -/
inductive DV where
  | d (x : D)
  | ro (xs : List D)
  | ad (a : Addr)
  | lk (a : Addr) (ds : List (D × D))
  | cl (f : Addr) (F : NdefX.NF)
  | fv (a : Addr) (I : (Addr → Prop) → Hp → Prop)
def DV.w : DV → W
  | .d x => .d x
  | .ro xs => .ro xs
  | .ad a => .ad a
  | .lk a ds => .lk a ds
  | .cl f F => .cl f F
  | .fv a I => .fv a I
abbrev Sl := List (Option W)
structure Ex3 where
  cls : Value
  arg : Option Int
inductive R3 where
  | d (x : D)
  | own (o : Ob)

def kD : Key → D
  | .inl i => .int i
  | .inr x => .str x

/-! ### tables of code objects: what makes functions writes them -/
abbrev NTab := Addr × (Nat → Nat → Str)
class TabsC where
  T : List NTab
variable [TabsC]
def isTbl (o : HO) : Bool := match o with | .tbl _ => true | _ => false
/-- code objects are locked twice: so they are known among all others -/
def isFrz (o : HO) : Bool := match o with | .frz _ (.frz _ (.ext _)) => true | _ => false
def TabM (H : Hp) (P : Addr) (nm : Nat → Nat → Str) : Prop := ∃ ps : Array Value, H P = some (.tbl ps) ∧ TriplesOk ps.toList ∧ ∀ (pos : Pos) (cv : Value), codeAmong pos ps.toList = some cv → ∃ c o, cv = .ref c ∧ H c = some (.frz o (.frz o (LamX.CodeO c (nm pos.line pos.col))))
def TabsM (H : Hp) : Prop := ∀ p ∈ TabsC.T, TabM H p.1 p.2
theorem TabM.ext {H H' : Hp} {P : Addr} {nm : Nat → Nat → Str} (t : TabM H P nm) (e : ∀ b o, H b = some o → isTbl o = true ∨ isFrz o = true → H' b = some o) : TabM H' P nm := by
  obtain ⟨ps, h1, h2, h3⟩ := t
  refine ⟨ps, e _ _ h1 (.inl rfl), h2, fun pos cv hc => ?_⟩
  obtain ⟨c, o, e1, e2⟩ := h3 pos cv hc
  exact ⟨c, o, e1, e _ _ e2 (.inr rfl)⟩
theorem TabsM.ext {H H' : Hp} (t : TabsM H) (e : ∀ b o, H b = some o → isTbl o = true ∨ isFrz o = true → H' b = some o) : TabsM H' := fun p hp => (t p hp).ext e
theorem TabsM.same {H H' : Hp} (t : TabsM H) (e : Same H H') : TabsM H' := t.ext fun b o h _ => e b o h
/-- an object that is neither may change -/
def Ord (o : HO) : Prop := isTbl o = false ∧ isFrz o = false
theorem TabsM.upd {H : Hp} {a : Addr} {u o : HO} (t : TabsM H) (h : H a = some u) (n : Ord u) : TabsM (upd H a o) := t.ext fun b v hb hv => by
  by_cases z : b = a
  · subst z
    rw [h] at hb; cases hb
    rcases hv with k | k
    · rw [n.1] at k; cases k
    · rw [n.2] at k; cases k
  · rw [upd_ne z]; exact hb
theorem TabsM.fresh {H : Hp} {a : Addr} {o : HO} (t : TabsM H) (h : H a = none) : TabsM (L2.upd H a o) := t.ext fun b v hb hv => by
  rw [upd_ne (ne_of_none hb h)]; exact hb
structure Tb (H H' : Hp) : Prop where
  t : TabsM H → TabsM H'
  c : ∀ b o, H b = some o → isFrz o = true → H' b = some o
theorem Tb.refl {H : Hp} : Tb H H := ⟨fun t => t, fun _ _ h _ => h⟩
theorem Tb.same {H H' : Hp} (e : Same H H') : Tb H H' := ⟨fun t => t.same e, fun b o h _ => e b o h⟩
theorem Tb.trans {H H1 H2 : Hp} (a : Tb H H1) (b : Tb H1 H2) : Tb H H2 := ⟨fun t => b.t (a.t t), fun c o h n => b.c c o (a.c c o h n) n⟩
theorem Tb.upd {H : Hp} {a : Addr} {u o : HO} (h : H a = some u) (n : Ord u) : Tb H (L2.upd H a o) := ⟨fun t => t.upd h n, fun b v hb hv => by
  by_cases z : b = a
  · subst z
    rw [h] at hb; cases hb
    rw [n.2] at hv; cases hv
  · rw [upd_ne z]; exact hb⟩
theorem Tb.fresh {H : Hp} {a : Addr} {o : HO} (h : H a = none) : Tb H (L2.upd H a o) := ⟨fun t => t.fresh h, fun b v hb _ => by rw [upd_ne (ne_of_none hb h)]; exact hb⟩
def none0 : Hp := fun _ => none
def TL (K : PySem.W.Frag) (O : Addr → Prop) (H : Hp) (a : Addr) (xs : List V) : Prop := H a = some (.lst xs) ∧ ¬ O a
def TT (K : PySem.W.Frag) (O : Addr → Prop) (H : Hp) (a : Addr) (xs : List V) : Prop := (Rd H a (.tup xs) ∧ ¬ O a) ∨ SqT K none0 a xs
theorem sqL0 {K : PySem.W.Frag} {H : Hp} {a : Addr} {xs : List V} (h : SqL K none0 a xs) : SqL K H a xs := by
  rcases h with (h | ⟨o, h⟩) | h
  · cases h
  · cases h
  · exact .inr h
theorem sqT0 {K : PySem.W.Frag} {H : Hp} {a : Addr} {xs : List V} (h : SqT K none0 a xs) : SqT K H a xs := by
  rcases h with (h | ⟨o, h⟩) | h
  · cases h
  · cases h
  · exact .inr h
theorem TL.sq {K : PySem.W.Frag} {O : Addr → Prop} {H : Hp} {a : Addr} {xs : List V} (h : TL K O H a xs) : SqL K H a xs := SqL.of h.1
theorem TT.sq {K : PySem.W.Frag} {O : Addr → Prop} {H : Hp} {a : Addr} {xs : List V} (h : TT K O H a xs) : SqT K H a xs := by
  rcases h with ⟨h, _⟩ | h
  · exact .inl h
  · exact sqT0 h

mutual
inductive Rp (K : PySem.W.Frag) (O : Addr → Prop) (H : Hp) : V → D → Prop
  | non : Rp K O H .non .none
  | bl (b : Bool) : Rp K O H (.bl b) (.bool b)
  | int (i : Int) : Rp K O H (.int i) (.int i)
  | str (x : Str) : Rp K O H (.str x) (.str x)
  | lst {a : Addr} {xs : List V} {ds : List D} : TL K O H a xs → RpAll K O H xs ds → Rp K O H (.ref a) (.list ds)
  | tup {a : Addr} {xs : List V} {ds : List D} : TT K O H a xs → RpAll K O H xs ds → Rp K O H (.ref a) (.tuple ds)
  | dic {a : Addr} {o : Obj} {kvs : List (Key × V)} {ds : List (D × D)} : H a = some (.frz o (.dK kvs)) → ¬ O a → RpKV K O H kvs ds → Rp K O H (.ref a) (.dict ds)
inductive RpAll (K : PySem.W.Frag) (O : Addr → Prop) (H : Hp) : List V → List D → Prop
  | nil : RpAll K O H [] []
  | cons {v : V} {vs : List V} {d : D} {ds : List D} : Rp K O H v d → RpAll K O H vs ds → RpAll K O H (v :: vs) (d :: ds)
inductive RpKV (K : PySem.W.Frag) (O : Addr → Prop) (H : Hp) : List (Key × V) → List (D × D) → Prop
  | nil : RpKV K O H [] []
  | cons {k : Key} {v : V} {vs : List (Key × V)} {d : D} {ds : List (D × D)} : Rp K O H v d → RpKV K O H vs ds → RpKV K O H ((k, v) :: vs) ((kD k, d) :: ds)
end

/-- what stays: tracked things outside O are as they were; what is new in O' was in O or is new -/
structure Ext (P : Addr → Prop) (O : Addr → Prop) (H : Hp) (O' : Addr → Prop) (H' : Hp) : Prop where
  fr : ∀ b o, H b = some o → ¬ P b → isTbl o = false → H' b = some o
  ow : ∀ b, O' b → O b ∨ H b = none
  tk : ∀ b o, H b = some o → ∃ o', H' b = some o'
  tb : Tb H H'

section
variable {K : PySem.W.Frag} {P O O' : Addr → Prop} {H H' : Hp}
theorem TL.ext {a : Addr} {xs : List V} (e : Ext P O H O' H') (po : ∀ b, P b → O b) (h : TL K O H a xs) : TL K O' H' a xs := by
  obtain ⟨h, n⟩ := h
  refine ⟨e.fr _ _ h (fun z => n (po a z)) rfl, fun z => ?_⟩
  rcases e.ow _ z with q | q
  · exact n q
  · rw [q] at h; cases h
theorem TT.ext {a : Addr} {xs : List V} (e : Ext P O H O' H') (po : ∀ b, P b → O b) (h : TT K O H a xs) : TT K O' H' a xs := by
  rcases h with ⟨h, n⟩ | h
  · have np : ¬ P a := fun z => n (po a z)
    refine .inl ⟨?_, fun z => ?_⟩
    · rcases h with h | ⟨o, h⟩
      · exact .inl (e.fr _ _ h np rfl)
      · exact .inr ⟨o, e.fr _ _ h np rfl⟩
    · rcases e.ow _ z with q | q
      · exact n q
      · rcases h with h | ⟨o, h⟩ <;> (rw [q] at h; cases h)
  · exact .inr h
mutual
theorem Rp.ext (e : Ext P O H O' H') (po : ∀ b, P b → O b) : ∀ {v : V} {d : D}, Rp K O H v d → Rp K O' H' v d
  | _, _, .non => .non
  | _, _, .bl b => .bl b
  | _, _, .int i => .int i
  | _, _, .str x => .str x
  | _, _, .lst h r => .lst (h.ext e po) (RpAll.ext e po r)
  | _, _, .tup h r => .tup (h.ext e po) (RpAll.ext e po r)
  | _, _, .dic h n r => .dic (e.fr _ _ h (fun z => n (po _ z)) rfl) (fun z => (e.ow _ z).elim n fun q => by rw [q] at h; cases h) (RpKV.ext e po r)
theorem RpAll.ext (e : Ext P O H O' H') (po : ∀ b, P b → O b) : ∀ {vs : List V} {ds : List D}, RpAll K O H vs ds → RpAll K O' H' vs ds
  | _, _, .nil => .nil
  | _, _, .cons r t => .cons (Rp.ext e po r) (RpAll.ext e po t)
theorem RpKV.ext (e : Ext P O H O' H') (po : ∀ b, P b → O b) : ∀ {vs : List (Key × V)} {ds : List (D × D)}, RpKV K O H vs ds → RpKV K O' H' vs ds
  | _, _, .nil => .nil
  | _, _, .cons r t => .cons (Rp.ext e po r) (RpKV.ext e po t)
end
end

/-- tables whose keys are rows of ints and None -/
def oV : Option Int → V
  | none => .non
  | some i => .int i
def oD : Option Int → D
  | none => .none
  | some i => .int i
def oT (ks : List (Option Int)) : D := .tuple (ks.map oD)
def oiHash : Option Int → Int
  | none => reduceHash 0xFCA86420
  | some i => hashInt i
def thash (ks : List (Option Int)) : Int := reduceHash (Builtin.Tuple.tupleHashOf (ks.map oiHash))
abbrev Row := List (Option Int)
def enX (y : Row × Addr × Value) : DictEntry := ⟨thash y.1, .ref y.2.1, y.2.2⟩
def TxP (x : Row × Addr × V) (y : Row × Addr × Value) : Prop := (x.1 = y.1 ∧ x.2.1 = y.2.1) ∧ RelV x.2.2 y.2.2
/-- the object of such a table -/
def DTOk (a : Addr) (xs : List (Row × Addr × V)) (h : Heap) : Prop := (xs.length ≤ sizeLine ∧ (a == sysModules) = false) ∧ ∃ ob es ep ys, h.get? a = some ob ∧ ob.ExactDict ∧ ob.data = .dict es ep ∧ es.toList = ys.map enX ∧ (ys.map fun y => y.1).Nodup ∧ Paired TxP xs ys
def dTx (a : Addr) (xs : List (Row × Addr × V)) : HO := .ext (DTOk a xs)
inductive RpTX (K : PySem.W.Frag) (O : Addr → Prop) (H : Hp) : List (Row × Addr × V) → List (D × D) → Prop
  | nil : RpTX K O H [] []
  | cons {k : Row} {b : Addr} {v : V} {vs : List (Row × Addr × V)} {d : D} {ds : List (D × D)} : TT K O H b (k.map oV) → Rp K O H v d → RpTX K O H vs ds → RpTX K O H ((k, b, v) :: vs) ((oT k, d) :: ds)
theorem RpTX.ext {K : PySem.W.Frag} {P O O' : Addr → Prop} {H H' : Hp} (e : Ext P O H O' H') (po : ∀ b, P b → O b) : ∀ {vs : List (Row × Addr × V)} {ds : List (D × D)}, RpTX K O H vs ds → RpTX K O' H' vs ds
  | _, _, .nil => .nil
  | _, _, .cons h r t => .cons (h.ext e po) (r.ext e po) (RpTX.ext e po t)
def ObOk (K : PySem.W.Frag) (O : Addr → Prop) (H : Hp) (a : Addr) : Ob → Prop
  | .lst xs => ∃ vs, H a = some (.lst vs) ∧ RpAll K O H vs xs
  | .dct ds => ∃ kvs, H a = some (.dK kvs) ∧ RpKV K O H kvs ds
  | .dcT ds => ∃ xs, H a = some (dTx a xs) ∧ RpTX K O H xs ds
def TR (K : PySem.W.Frag) (O : Addr → Prop) (H : Hp) (a : Addr) (xs : List V) : Prop := (Rd H a (.lst xs) ∧ ¬ O a) ∨ SqL K none0 a xs
theorem TR.sq {K : PySem.W.Frag} {O : Addr → Prop} {H : Hp} {a : Addr} {xs : List V} (h : TR K O H a xs) : SqL K H a xs := by
  rcases h with ⟨h, _⟩ | h
  · exact .inl h
  · exact sqL0 h
theorem TR.ext {K : PySem.W.Frag} {P O O' : Addr → Prop} {H H' : Hp} {a : Addr} {xs : List V} (e : Ext P O H O' H') (po : ∀ b, P b → O b) (h : TR K O H a xs) : TR K O' H' a xs := by
  rcases h with ⟨h, n⟩ | h
  · have np : ¬ P a := fun z => n (po a z)
    refine .inl ⟨?_, fun z => ?_⟩
    · rcases h with h | ⟨o, h⟩
      · exact .inl (e.fr _ _ h np rfl)
      · exact .inr ⟨o, e.fr _ _ h np rfl⟩
    · rcases e.ow _ z with q | q
      · exact n q
      · rcases h with h | ⟨o, h⟩ <;> (rw [q] at h; cases h)
  · exact .inr h
/-- the object at f is the function F, its code object is known -/
def ClH (f : Addr) (F : NdefX.NF) (O : Addr → Prop) (H : Hp) : Prop := (∃ o, H f = some (.frz o (NdefX.FnO f F))) ∧ ¬ O f ∧ ∃ o, H F.c = some (.frz o (.frz o (LamX.CodeO F.c F.qual)))
theorem ClH.ext {f : Addr} {F : NdefX.NF} {P O O' : Addr → Prop} {H H' : Hp} (e : Ext P O H O' H') (po : ∀ b, P b → O b) (h : ClH f F O H) : ClH f F O' H' := by
  obtain ⟨⟨o, h1⟩, h2, ⟨oc, h3⟩⟩ := h
  refine ⟨⟨o, e.fr _ _ h1 (fun z => h2 (po _ z)) rfl⟩, fun z => ?_, ⟨oc, e.tb.c _ _ h3 rfl⟩⟩
  rcases e.ow _ z with q | q
  · exact h2 q
  · rw [q] at h1; cases h1
/-- what stays true while what isn't owned stays -/
def Stable (I : (Addr → Prop) → Hp → Prop) : Prop := (∀ P O H O' H', Ext P O H O' H' → (∀ b, P b → O b) → I O H → I O' H') ∧ ∀ O O' H, (∀ b, O' b → O b) → I O H → I O' H
def RpV (K : PySem.W.Frag) (O : Addr → Prop) (H : Hp) (v : V) : DV → Prop
  | .d x => Rp K O H v x
  | .ro xs => ∃ a vs, v = .ref a ∧ TR K O H a vs ∧ RpAll K O H vs xs
  | .ad a => v = .ref a
  | .lk a ds => v = .ref a ∧ ∃ o kvs, H a = some (.frz o (.dK kvs)) ∧ ¬ O a ∧ RpKV K O H kvs ds
  | .cl f F => v = .ref f ∧ ClH f F O H
  | .fv a I => v = .ref a ∧ I O H ∧ Stable I
theorem RpV.ext {K : PySem.W.Frag} {P O O' : Addr → Prop} {H H' : Hp} {v : V} {x : DV} (e : Ext P O H O' H') (po : ∀ b, P b → O b) (h : RpV K O H v x) : RpV K O' H' v x := by
  cases x with
  | d x => exact Rp.ext e po h
  | ro xs => obtain ⟨a, vs, h1, h2, h3⟩ := h; exact ⟨a, vs, h1, h2.ext e po, h3.ext e po⟩
  | ad a => exact h
  | cl f F => exact ⟨h.1, h.2.ext e po⟩
  | fv a I => exact ⟨h.1, h.2.2.1 _ _ _ _ _ e po h.2.1, h.2.2⟩
  | lk a ds => obtain ⟨h1, o, kvs, h, n, r⟩ := h; exact ⟨h1, o, kvs, e.fr _ _ h (fun z => n (po _ z)) rfl, (fun z => (e.ow _ z).elim n fun q => by rw [q] at h; cases h), RpKV.ext e po r⟩

abbrev Rho := Nat → Option Addr
def Ow (ρ : Rho) (a : Addr) : Prop := ∃ i, ρ i = some a
def Ox (F : Addr → Prop) (ρ : Rho) (a : Addr) : Prop := Ow ρ a ∨ F a
abbrev Ex (F : Addr → Prop) (ρ : Rho) (H : Hp) (ρ' : Rho) (H' : Hp) : Prop := Ext (Ow ρ) (Ow ρ) H (Ow ρ') H'

theorem Ext.refl {P O : Addr → Prop} {H : Hp} : Ext P O H O H := ⟨fun _ _ h _ _ => h, fun _ h => .inl h, fun _ o h => ⟨o, h⟩, Tb.refl⟩
theorem Ext.same {P O : Addr → Prop} {H H' : Hp} (s : Same H H') : Ext P O H O H' := ⟨fun _ _ h _ _ => s _ _ h, fun _ h => .inl h, fun _ o h => ⟨o, s _ _ h⟩, Tb.same s⟩
/-- with what is foreign -/
theorem Ext.frn {F : Addr → Prop} {ρ ρ' : Rho} {H H' : Hp} (e : Ext (Ow ρ) (Ow ρ) H (Ow ρ') H') : Ext (Ow ρ) (Ox F ρ) H (Ox F ρ') H' :=
  ⟨e.fr, fun b z => z.elim (fun q => (e.ow b q).elim (fun q => .inl (.inl q)) .inr) fun q => .inl (.inr q), e.tk, e.tb⟩
theorem Ext.trans {ρ ρ1 ρ2 : Rho} {H H1 H2 : Hp} (a : Ext (Ow ρ) (Ow ρ) H (Ow ρ1) H1) (b : Ext (Ow ρ1) (Ow ρ1) H1 (Ow ρ2) H2) : Ext (Ow ρ) (Ow ρ) H (Ow ρ2) H2 where
  fr := fun c o h n t => b.fr c o (a.fr c o h n t) (fun z => (a.ow c z).elim n fun q => by rw [q] at h; cases h) t
  ow := fun c z => by
    rcases b.ow c z with q | q
    · exact a.ow c q
    · cases h : H c with
      | none => exact .inr rfl
      | some o =>
        obtain ⟨o', z⟩ := a.tk c o h
        rw [z] at q; cases q
  tk := fun c o h => let ⟨o1, h1⟩ := a.tk c o h; b.tk c o1 h1
  tb := a.tb.trans b.tb

/-- a slot that holds the object of parameter p, which another slot owns just now -/
def LN (π : Rho) (σ : St) (δ : Sl) : Prop := ∀ (i p : Nat), δ[i]? = some (some (.lnt p)) → ∃ a, π p = some a ∧ σ[i]? = some (some (.ref a))
theorem LN.setδ {π : Rho} {σ : St} {δ : Sl} (h : LN π σ δ) {j : Nat} {x : Option W} (hx : ∀ p, x ≠ some (.lnt p)) : LN π σ (δ.set j x) := fun i p e => by
  by_cases hj : j = i
  · subst hj
    by_cases hl : j < δ.length
    · rw [List.getElem?_set_self hl] at e; exact absurd (Option.some.inj e) (hx p)
    · rw [List.getElem?_eq_none (by rw [List.length_set]; omega)] at e; cases e
  · rw [List.getElem?_set_ne hj] at e; exact h i p e
theorem LN.set {π : Rho} {σ : St} {δ : Sl} (h : LN π σ δ) {j : Nat} {x : Option W} {w : Option V} (hx : ∀ p, x ≠ some (.lnt p)) : LN π (σ.set j w) (δ.set j x) := fun i p e => by
  by_cases hj : j = i
  · subst hj
    by_cases hl : j < δ.length
    · rw [List.getElem?_set_self hl] at e; exact absurd (Option.some.inj e) (hx p)
    · rw [List.getElem?_eq_none (by rw [List.length_set]; omega)] at e; cases e
  · rw [List.getElem?_set_ne hj] at e
    obtain ⟨a, h1, h2⟩ := h i p e
    exact ⟨a, h1, by rw [List.getElem?_set_ne hj]; exact h2⟩
structure Rel (K : PySem.W.Frag) (π : Rho) (F : Addr → Prop) (ρ : Rho) (H : Hp) (σ : St) (δ : Sl) : Prop where
  len : σ.length = δ.length
  dat : ∀ (i : Nat) (x : DV), δ[i]? = some (some x.w) → ∃ v, σ[i]? = some (some v) ∧ RpV K (Ox F ρ) H v x
  own : ∀ (i : Nat) t o, δ[i]? = some (some (.own t o)) → ∃ a, ρ i = some a ∧ σ[i]? = some (some (.ref a)) ∧ ObOk K (Ox F ρ) H a o ∧ (∀ p, t = p + 1 → π p = some a) ∧ (t = 0 → ∀ p, π p ≠ some a)
  inj : ∀ i j a, ρ i = some a → ρ j = some a → i = j
  trk : ∀ a, Ox F ρ a → ∃ o, H a = some o
  dis : ∀ a, F a → ¬ Ow ρ a
  pit : ∀ p a, π p = some a → ∃ o, H a = some o
  ln : LN π σ δ
  tab : TabsM H

theorem ObOk.ord {K : PySem.W.Frag} {O : Addr → Prop} {H : Hp} {a : Addr} {o : Ob} (h : ObOk K O H a o) : ∃ u, H a = some u ∧ Ord u := by
  cases o <;> (obtain ⟨_, h, _⟩ := h; exact ⟨_, h, rfl, rfl⟩)
theorem ObOk.ext {K : PySem.W.Frag} {F : Addr → Prop} {ρ ρ' : Rho} {H H' : Hp} {a : Addr} {o : Ob} (e : Ext (Ow ρ) (Ow ρ) H (Ow ρ') H') (ha : ∀ u, H a = some u → Ord u → H' a = some u) (h : ObOk K (Ox F ρ) H a o) : ObOk K (Ox F ρ') H' a o := by
  have e' := e.frn (F := F)
  cases o with
  | lst xs => obtain ⟨vs, h, r⟩ := h; exact ⟨vs, ha _ h ⟨rfl, rfl⟩, r.ext e' fun _ => .inl⟩
  | dct ds => obtain ⟨kvs, h, r⟩ := h; exact ⟨kvs, ha _ h ⟨rfl, rfl⟩, r.ext e' fun _ => .inl⟩
  | dcT ds => obtain ⟨kvs, h, r⟩ := h; exact ⟨kvs, ha _ h ⟨rfl, rfl⟩, r.ext e' fun _ => .inl⟩

theorem Rel.same {K : PySem.W.Frag} {π : Rho} {F : Addr → Prop} {ρ : Rho} {H H' : Hp} {σ : St} {δ : Sl} (s : Same H H') (r : Rel K π F ρ H σ δ) : Rel K π F ρ H' σ δ where
  len := r.len
  dat := fun i x e => by
    obtain ⟨v, h1, h2⟩ := r.dat i x e
    exact ⟨v, h1, h2.ext (P := Ow ρ) ((Ext.same s).frn) fun _ => .inl⟩
  own := fun i t o e => by
    obtain ⟨a, h1, h2, h3, h4⟩ := r.own i t o e
    exact ⟨a, h1, h2, h3.ext (Ext.same s) (fun _ z _ => s _ _ z), h4⟩
  inj := r.inj
  trk := fun a z => let ⟨o, h⟩ := r.trk a z; ⟨o, s _ _ h⟩
  dis := r.dis
  pit := fun p a z => let ⟨o, h⟩ := r.pit p a z; ⟨o, s _ _ h⟩
  ln := r.ln
  tab := r.tab.same s
theorem Rel.fresh {K : PySem.W.Frag} {π : Rho} {F : Addr → Prop} {ρ : Rho} {H : Hp} {σ : St} {δ : Sl} (r : Rel K π F ρ H σ δ) {p : Addr} (h : H p = none) : ¬ Ox F ρ p := fun z => by
  obtain ⟨o, q⟩ := r.trk p z
  rw [h] at q; cases q

/-- an exception of class cls, its dict at d -/
def XOk (H : Hp) (x : Option Int) (d : Option Addr) : Prop := match x with
  | none => d = none
  | some i => ∃ a, d = some a ∧ H a = some (.xd [("at", .int i)])
def liftX (K : PySem.W.Frag) (E : XK) (F : Addr → Prop) (ρ : Rho) (H : Hp) : Ex3 → Prop := fun ex => ∀ d H' ρ', Ex F ρ H ρ' H' → XOk H' ex.arg d → E ex.cls d H'
theorem liftX.mono {K : PySem.W.Frag} {E : XK} {F : Addr → Prop} {ρ ρ1 : Rho} {H H1 : Hp} (e : Ex F ρ H ρ1 H1) : ∀ ex, liftX K E F ρ H ex → liftX K E F ρ1 H1 ex :=
  fun ex h d H' ρ' e' x => h d H' ρ' (e.trans e') x

/-! ## readings over slots -/
abbrev G3 (β : Type) := (Ex3 → Prop) → Sl → (β → Sl → Prop) → Prop
abbrev T3 := G3 D
abbrev TB3 := G3 Bool
abbrev TA3 := G3 (List D)
def Mono3 {β : Type} (t : G3 β) : Prop := ∀ E E' δ Q Q', (∀ e, E e → E' e) → (∀ y δ', Q y δ' → Q' y δ') → t E δ Q → t E' δ Q'
/-- lifted to heaps -/
def lift (K : PySem.W.Frag) (E : XK) {α β : Type} (R : (Addr → Prop) → Hp → α → β → Prop) (t : G3 β) : St → Hp → (α → Hp → Prop) → Prop := fun σ H Q =>
  ∃ π F ρ δ, Rel K π F ρ H σ δ ∧ t (liftX K E F ρ H) δ fun y δ' => ∀ x H' ρ', Ex F ρ H ρ' H' → Rel K π F ρ' H' σ δ' → R (Ox F ρ') H' x y → Q x H'
structure PE3 (X : Cx) (E : XK) (e : Expr) (t : T3) : Prop where
  mono : Mono3 t
  pe : PE X e (lift X.K E (Rp X.K) t)
structure PT3 (X : Cx) (E : XK) (e : Expr) (t : TB3) : Prop where
  mono : Mono3 t
  pe : PT X e (lift X.K E (fun _ _ (x y : Bool) => x = y) t)
structure PW3 (X : Cx) (E : XK) (e : Expr) (t : TB3) : Prop where
  mono : Mono3 t
  pe : PW X e (lift X.K E (fun _ _ (x y : Bool) => x = y) t)
theorem PW3.pt {X : Cx} {E : XK} {e : Expr} {t : TB3} (h : PW3 X E e t) : PT3 X E e t := ⟨h.mono, h.pe.pt⟩

theorem _root_.L2.PE.imp {X : Cx} {e : Expr} {t t' : TE} (h : PE X e t) (k : ∀ σ H Q, t' σ H Q → t σ H Q) : PE X e t' := ⟨fun pins s σ H Q I q => h.run pins s σ H Q I (k σ H Q q)⟩
theorem _root_.L2.PT.imp {X : Cx} {e : Expr} {t t' : L2.TT} (h : PT X e t) (k : ∀ σ H Q, t' σ H Q → t σ H Q) : PT X e t' := ⟨fun pins s σ H Q I q => h.run pins s σ H Q I (k σ H Q q)⟩
theorem _root_.L2.PW.imp {X : Cx} {e : Expr} {t t' : L2.TT} (h : PW X e t) (k : ∀ σ H Q, t' σ H Q → t σ H Q) : PW X e t' := ⟨fun wh pins s σ H Q I q => h.run wh pins s σ H Q I (k σ H Q q)⟩
theorem _root_.L2.PA.imp {X : Cx} {e : List Expr} {t t' : TA} (h : PA X e t) (k : ∀ σ H Q, t' σ H Q → t σ H Q) : PA X e t' := ⟨fun pos pins s σ H Q I q => h.run pos pins s σ H Q I (k σ H Q q)⟩
theorem _root_.L2.PS.imp {X : Cx} {e : Stmt} {t t' : TS} (h : PS X e t) (k : ∀ D σ H, t' D σ H → t D σ H) : PS X e t' := ⟨fun pins s σ H D I q => h.run pins s σ H D I (k D σ H q)⟩
theorem _root_.L2.PSs.imp {X : Cx} {e : List Stmt} {t t' : TS} (h : PSs X e t) (k : ∀ D σ H, t' D σ H → t D σ H) : PSs X e t' := ⟨fun pins s σ H D I q => h.run pins s σ H D I (k D σ H q)⟩
theorem _root_.L2.PG.imp {X : Cx} {e : Expr} {t t' : TG} (h : PG X e t) (k : ∀ v σ H Q, t' v σ H Q → t v σ H Q) : PG X e t' := ⟨fun pins s σ H v u Q I r q => h.run pins s σ H v u Q I r (k v σ H Q q)⟩
theorem _root_.L2.PI.imp {X : Cx} {tg e : Expr} {t t' : TI} (h : PI X tg e t) (k : ∀ σ H Q, t' σ H Q → t σ H Q) : PI X tg e t' := ⟨fun pins s σ H Q I q => h.run pins s σ H Q I (k σ H Q q)⟩

/-! ### two ways -/
structure br (b : Bool) (A B : Prop) : Prop where
  yes : b = true → A
  no : b = false → B
theorem br.ite {b : Bool} {A B : Prop} (h : br b A B) : if b = true then A else B := by
  cases b
  · rw [if_neg Bool.false_ne_true]; exact h.2 rfl
  · rw [if_pos rfl]; exact h.1 rfl
theorem br.imp {b : Bool} {A B A' B' : Prop} (h : br b A B) (f : A → A') (g : B → B') : br b A' B' := ⟨fun e => f (h.1 e), fun e => g (h.2 e)⟩
def asI (x : D) (k : Int → Prop) : Prop := match x with | .int i => k i | _ => False
def asB (x : D) (k : Bool → Prop) : Prop := match x with | .bool i => k i | _ => False
theorem asI.to {x : D} {k : Int → Prop} (h : asI x k) : ∃ i, x = .int i ∧ k i := by
  cases x <;> first | exact ⟨_, rfl, h⟩ | exact False.elim h
theorem asB.to {x : D} {k : Bool → Prop} (h : asB x k) : ∃ i, x = .bool i ∧ k i := by
  cases x <;> first | exact ⟨_, rfl, h⟩ | exact False.elim h
theorem asI.of {i : Int} {k : Int → Prop} (h : k i) : asI (.int i) k := h
theorem asB.of {i : Bool} {k : Bool → Prop} (h : k i) : asB (.bool i) k := h
end M3

set_option Elab.async false
set_option linter.all false
set_option maxRecDepth 100000
namespace M3
open PySem L2
variable [TabsC]

/-! ## the general forms -/
section
variable {X : Cx} {E : XK}
abbrev Trk (O : Addr → Prop) (H : Hp) : Prop := ∀ b, O b → ∃ o, H b = some o
def tU3 (r3 : D → (D → Prop) → Prop) (ta : T3) : T3 := fun E δ Q => ta E δ fun x δ1 => r3 x fun z => Q z δ1
def tB2 (r3 : D → D → (D → Prop) → Prop) (ta tb : T3) : T3 := fun E δ Q => ta E δ fun x δ1 => tb E δ1 fun y δ2 => r3 x y fun z => Q z δ2
def tBool (t : T3) : TB3 := fun E δ Q => t E δ fun x δ1 => asB x fun b => Q b δ1
def M1 (r3 : D → (D → Prop) → Prop) : Prop := ∀ x k k', (∀ z, k z → k' z) → r3 x k → r3 x k'
def M2 (r3 : D → D → (D → Prop) → Prop) : Prop := ∀ x y k k', (∀ z, k z → k' z) → r3 x y k → r3 x y k'
theorem mono_tU3 {r3 ta} (h : Mono3 ta) (m : M1 r3) : Mono3 (tU3 r3 ta) := fun _ _ _ _ _ he hq q => h _ _ _ _ _ he (fun x δ1 => m x _ _ fun z => hq z δ1) q
theorem mono_tB2 {r3 ta tb} (h : Mono3 ta) (h' : Mono3 tb) (m : M2 r3) : Mono3 (tB2 r3 ta tb) := fun _ _ _ _ _ he hq q => h _ _ _ _ _ he (fun x δ1 => h' _ _ _ _ _ he fun y δ2 => m x y _ _ fun z => hq z δ2) q
theorem mono_tBool {t} (h : Mono3 t) : Mono3 (tBool t) := fun _ _ _ _ _ he hq q => h _ _ _ _ _ he (fun x δ1 z => by obtain ⟨b, rfl, z1⟩ := asB.to z; exact asB.of (hq _ _ z1)) q
/-- what a value-level rule of the layer below is worth -/
def OpOk1 (K : PySem.W.Frag) (r : V → Hp → VK → Prop) (r3 : D → (D → Prop) → Prop) : Prop := ∀ (O : Addr → Prop) (H : Hp) (v : V) (x : D) (k : D → Prop) (Q : VK), Trk O H → Rp K O H v x → r3 x k → (∀ z w H', Same H H' → Rp K O H' w z → k z → Q w H') → r v H Q
def OpOk2 (K : PySem.W.Frag) (r : R2) (r3 : D → D → (D → Prop) → Prop) : Prop := ∀ (O : Addr → Prop) (H : Hp) (v u : V) (x y : D) (k : D → Prop) (Q : VK), Trk O H → Rp K O H v x → Rp K O H u y → r3 x y k → (∀ z w H', Same H H' → Rp K O H' w z → k z → Q w H') → r v u H Q
theorem lift_un {t ta : T3} {r : V → Hp → VK → Prop} {r3} (ha : Mono3 ta) (hr : OpOk1 X.K r r3) {σ : St} {H : Hp} {Q : VK} (h : lift X.K E (Rp X.K) (tU3 r3 ta) σ H Q) : tUn r (lift X.K E (Rp X.K) ta) σ H Q := by
  obtain ⟨π, F, ρ, δ, rel, q⟩ := h
  refine ⟨π, F, ρ, δ, rel, ha _ _ _ _ _ (fun _ z => z) (fun x δ1 q v H1 ρ1 e1 rel1 r1 => ?_) q⟩
  exact hr _ H1 v x _ Q rel1.trk r1 q fun z w H2 s r2 q2 => q2 w H2 ρ1 (e1.trans (Ext.same s)) (rel1.same s) r2
theorem lift_bin {ta tb : T3} {r : R2} {r3} (ha : Mono3 ta) (hb : Mono3 tb) (hr : OpOk2 X.K r r3) {σ : St} {H : Hp} {Q : VK} (h : lift X.K E (Rp X.K) (tB2 r3 ta tb) σ H Q) : tOp r (lift X.K E (Rp X.K) ta) (lift X.K E (Rp X.K) tb) σ H Q := by
  obtain ⟨π, F, ρ, δ, rel, q⟩ := h
  refine ⟨π, F, ρ, δ, rel, ha _ _ _ _ _ (fun _ z => z) (fun x δ1 q v H1 ρ1 e1 rel1 r1 => ?_) q⟩
  refine ⟨π, F, ρ1, δ1, rel1, hb _ _ _ _ _ (liftX.mono e1) (fun y δ2 q u H2 ρ2 e2 rel2 r2 => ?_) q⟩
  exact hr _ H2 v u x y _ Q rel2.trk (r1.ext (e2.frn) fun _ => .inl) r2 q fun z w H3 s r3 q3 => q3 w H3 ρ2 ((e1.trans e2).trans (Ext.same s)) (rel2.same s) r3
theorem bin3 {a b e : Expr} {ta tb : T3} {r : R2} {r3} (mk : ∀ ta' tb', PE X a ta' → PE X b tb' → PE X e (tOp r ta' tb')) (hr : OpOk2 X.K r r3) (m : M2 r3) (ha : PE3 X E a ta) (hb : PE3 X E b tb) : PE3 X E e (tB2 r3 ta tb) :=
  ⟨mono_tB2 ha.mono hb.mono m, (mk _ _ ha.pe hb.pe).imp fun _ _ _ h => lift_bin ha.mono hb.mono hr h⟩
theorem un3 {a e : Expr} {ta : T3} {r : V → Hp → VK → Prop} {r3} (mk : ∀ ta', PE X a ta' → PE X e (tUn r ta')) (hr : OpOk1 X.K r r3) (m : M1 r3) (ha : PE3 X E a ta) : PE3 X E e (tU3 r3 ta) :=
  ⟨mono_tU3 ha.mono m, (mk _ ha.pe).imp fun _ _ _ h => lift_un (t := ta) ha.mono hr h⟩
/-- a value that is a truth, as a test -/
theorem lift_bool {t : T3} (ht : Mono3 t) {σ : St} {H : Hp} {Q : Bool → Hp → Prop} (h : lift X.K E (fun _ _ (x y : Bool) => x = y) (tBool t) σ H Q) : lift X.K E (Rp X.K) t σ H fun x H1 => ∃ c, x = .bl c ∧ Q c H1 := by
  obtain ⟨π, F, ρ, δ, rel, q⟩ := h
  refine ⟨π, F, ρ, δ, rel, ht _ _ _ _ _ (fun _ z => z) (fun x δ1 q v H1 ρ1 e1 rel1 r1 => ?_) q⟩
  obtain ⟨b, rfl, q⟩ := asB.to q
  cases r1
  exact ⟨b, rfl, q b H1 ρ1 e1 rel1 rfl⟩
theorem pt3_val {e : Expr} {t : T3} (h : PE3 X E e t) (he : ∀ whole, isTrue e X.env whole = (do let v ← whole; standAt e.pos; holding [v] (truthy v)) := by intro _; rfl) : PT3 X E e (tBool t) :=
  ⟨mono_tBool h.mono, (pt_val h.pe he).imp fun _ _ _ q => lift_bool h.mono q⟩
theorem bin3T {a b e : Expr} {ta tb : T3} {r : R2} {r3} (mk : ∀ ta' tb', PE X a ta' → PE X b tb' → PT X e (tTest (tOp r ta' tb'))) (hr : OpOk2 X.K r r3) (m : M2 r3) (ha : PE3 X E a ta) (hb : PE3 X E b tb) : PT3 X E e (tBool (tB2 r3 ta tb)) :=
  ⟨mono_tBool (mono_tB2 ha.mono hb.mono m), (mk _ _ ha.pe hb.pe).imp fun _ _ _ h => lift_bin ha.mono hb.mono hr (lift_bool (mono_tB2 ha.mono hb.mono m) h)⟩

/-! ## names, constants -/
def tV3 (i : Nat) : T3 := fun _ δ Q => match δ[i]? with | some (some (.d x)) => Q x δ | _ => False
theorem tV3.to {i : Nat} {E : Ex3 → Prop} {δ : Sl} {Q : D → Sl → Prop} (h : tV3 i E δ Q) : ∃ x, δ[i]? = some (some (.d x)) ∧ Q x δ := by
  unfold tV3 at h
  split at h
  · exact ⟨_, by assumption, h⟩
  · exact h.elim
theorem tV3.of {i : Nat} {E : Ex3 → Prop} {δ : Sl} {Q : D → Sl → Prop} {x : D} (e : δ[i]? = some (some (.d x))) (h : Q x δ) : tV3 i E δ Q := by
  unfold tV3
  rw [e]
  exact h
theorem mono_tV3 {i : Nat} : Mono3 (tV3 i) := fun _ _ _ _ _ _ hq q => by
  obtain ⟨x, e, q⟩ := q.to
  exact tV3.of e (hq _ _ q)
theorem v3 (i : Nat) {x : Str} {pos : Pos} (hN : X.N[i]? = some x := by rfl) (hv : Vis X.env.scope x := by first | exact Or.inl rfl | exact Or.inr (Or.inl rfl) | exact Or.inr (Or.inr rfl)) (hd : (x == ("__debug__" : Str)) = false := by decide)
    (hcd : (x == ("__classdict__" : Str)) = false := by decide) : PE3 X E (.Name x pos) (tV3 i) := by
  refine ⟨mono_tV3, (pe_var hN hv hd hcd).imp fun σ H Q h => ?_⟩
  obtain ⟨π, F, ρ, δ, rel, q⟩ := h
  obtain ⟨x, e, q⟩ := q.to
  obtain ⟨v, e1, r⟩ := rel.dat i (.d x) e
  exact ⟨v, e1, q v H ρ Ext.refl rel r⟩
def tC3 (x : D) : T3 := fun _ δ Q => Q x δ
theorem mono_tC3 {x : D} : Mono3 (tC3 x) := fun _ _ _ _ _ _ hq q => hq _ _ q
theorem const3 {e : Expr} {v : V} {x : D} (h : PE X e (tC v)) (hr : ∀ O H, Rp X.K O H v x) : PE3 X E e (tC3 x) := by
  refine ⟨mono_tC3, h.imp fun σ H Q h => ?_⟩
  obtain ⟨π, F, ρ, δ, rel, q⟩ := h
  exact q v H ρ Ext.refl rel (hr _ _)
theorem int3 {i j pos} : PE3 X E (.Constant (.int i) j pos) (tC3 (.int i)) := const3 pe_int fun _ _ => .int i
theorem bl3 {b j pos} : PE3 X E (.Constant (.bool b) j pos) (tC3 (.bool b)) := const3 pe_bl fun _ _ => .bl b
theorem non3 {j pos} : PE3 X E (.Constant .none j pos) (tC3 .none) := const3 pe_non fun _ _ => .non
theorem str3 {x j pos} : PE3 X E (.Constant (.str x) j pos) (tC3 (.str x)) := const3 pe_str fun _ _ => .str x
theorem glob3 {x : Str} {v : V} {y : D} {u : Value} {pos : Pos} (hg : Gl X x) (hm : X.mg x = some u) (r : RelV v u) (hr : ∀ O H, Rp X.K O H v y) (hd : (x == ("__debug__" : Str)) = false := by decide) : PE3 X E (.Name x pos) (tC3 y) := const3 (pe_glob hg hm r hd) hr
theorem globI3 {x : Str} {i : Int} {t : Tok} {pos : Pos} (hg : Gl X x) (hm : X.mg x = some (.int i t)) (hd : (x == ("__debug__" : Str)) = false := by decide) : PE3 X E (.Name x pos) (tC3 (.int i)) := glob3 (v := .int i) hg hm ⟨_, rfl⟩ (fun _ _ => .int i) hd

/-! ## arithmetic -/
variable {a b : Expr} {ta tb : T3} {pos : Pos}
def rII (C : Int → Int → Prop) (f : Int → Int → D) (x y : D) (k : D → Prop) : Prop := asI x fun i => asI y fun j => C i j ∧ k (f i j)
def rII0 (f : Int → Int → D) (x y : D) (k : D → Prop) : Prop := asI x fun i => asI y fun j => k (f i j)
theorem m_rII {C f} : M2 (rII C f) := fun x y k k' hk h => by
  obtain ⟨i, rfl, h1⟩ := asI.to h
  obtain ⟨j, rfl, c, h2⟩ := asI.to h1
  exact asI.of (asI.of ⟨c, hk _ h2⟩)
theorem m_rII0 {f} : M2 (rII0 f) := fun x y k k' hk h => by
  obtain ⟨i, rfl, h1⟩ := asI.to h
  obtain ⟨j, rfl, h2⟩ := asI.to h1
  exact asI.of (asI.of (hk _ h2))
theorem ok_rII {K : PySem.W.Frag} {C : Int → Int → Prop} {g : Int → Int → V} {f : Int → Int → D} (hf : ∀ i j O H, Rp K O H (g i j) (f i j)) : OpOk2 K (rI C g) (rII C f) := by
  intro O H v u x y k Q _ rx ry h hq
  obtain ⟨i, rfl, h1⟩ := asI.to h
  obtain ⟨j, rfl, c, h2⟩ := asI.to h1
  cases rx; cases ry
  exact ⟨i, j, rfl, rfl, c, hq _ _ H (Same.refl H) (hf i j O H) h2⟩
theorem ok_rII0 {K : PySem.W.Frag} {g : Int → Int → V} {f : Int → Int → D} (hf : ∀ i j O H, Rp K O H (g i j) (f i j)) : OpOk2 K (rI0 g) (rII0 f) := by
  intro O H v u x y k Q _ rx ry h hq
  obtain ⟨i, rfl, h1⟩ := asI.to h
  obtain ⟨j, rfl, h2⟩ := asI.to h1
  cases rx; cases ry
  exact ⟨i, j, rfl, rfl, hq _ _ H (Same.refl H) (hf i j O H) h2⟩
theorem sub3 (ha : PE3 X E a ta) (hb : PE3 X E b tb) : PE3 X E (.BinOp a .Sub b pos) (tB2 (rII0 fun i j => .int (i - j)) ta tb) := bin3 (fun _ _ h h' => pe_op op_sub h h') (ok_rII0 fun _ _ _ _ => .int _) m_rII0 ha hb
theorem mod3 (ha : PE3 X E a ta) (hb : PE3 X E b tb) : PE3 X E (.BinOp a .Mod b pos) (tB2 (rII (fun _ j => 0 < j) fun i j => .int (i % j)) ta tb) := bin3 (fun _ _ h h' => pe_op op_mod h h') (ok_rII fun _ _ _ _ => .int _) m_rII ha hb
theorem fdiv3 (ha : PE3 X E a ta) (hb : PE3 X E b tb) : PE3 X E (.BinOp a .FloorDiv b pos) (tB2 (rII CDiv fun i j => .int (i / j)) ta tb) := bin3 (fun _ _ h h' => pe_op op_fdiv h h') (ok_rII fun _ _ _ _ => .int _) m_rII ha hb
/-- powers, by their bits -/
def CPw (i j : Int) : Prop := 0 ≤ j ∧ (Builtin.Int.intBits i : Int) * j ≤ 2 ^ 27
theorem op_pw : OpR X (binaryOp .Pow) (rI CPw fun i j => .int (i ^ j.toNat)) := opI fun _ _ _ _ _ _ _ hc q => PyProof.Rows.pow_int hc.1 hc.2 q
theorem pow3 (ha : PE3 X E a ta) (hb : PE3 X E b tb) : PE3 X E (.BinOp a .Pow b pos) (tB2 (rII CPw fun i j => .int (i ^ j.toNat)) ta tb) := bin3 (fun _ _ h h' => pe_op op_pw h h') (ok_rII fun _ _ _ _ => .int _) m_rII ha hb
theorem neg3 (ha : PE3 X E a ta) : PE3 X E (.UnaryOp .USub a pos) (tU3 (fun x k => asI x fun i => k (.int (-i))) ta) :=
  un3 (fun _ h => pe_un un_neg h) (fun O H v x k Q _ rx h hq => by
    obtain ⟨i, rfl, h1⟩ := asI.to h
    cases rx
    exact ⟨i, rfl, hq _ _ H (Same.refl H) (.int _) h1⟩) (fun x k k' hk h => by obtain ⟨i, rfl, h1⟩ := asI.to h; exact asI.of (hk _ h1)) ha

/-! ## new tuples and lists -/
theorem same_upd {H : Hp} {p : Addr} {o : HO} (h : H p = none) : Same H (upd H p o) := fun b u e => by rw [upd_ne (ne_of_none e h)]; exact e
theorem Trk.fresh {O : Addr → Prop} {H : Hp} (t : Trk O H) {p : Addr} (h : H p = none) : ¬ O p := fun z => by
  obtain ⟨o, q⟩ := t p z
  rw [h] at q; cases q
theorem Rp.same {K : PySem.W.Frag} {O : Addr → Prop} {H H' : Hp} {v : V} {d : D} (s : Same H H') (h : Rp K O H v d) : Rp K O H' v d := h.ext (P := O) (Ext.same s) fun _ z => z
theorem RpAll.same {K : PySem.W.Frag} {O : Addr → Prop} {H H' : Hp} {v : List V} {d : List D} (s : Same H H') (h : RpAll K O H v d) : RpAll K O H' v d := h.ext (P := O) (Ext.same s) fun _ z => z
theorem rp_tup {K : PySem.W.Frag} {O : Addr → Prop} {H : Hp} {vs : List V} {ds : List D} {p : Addr} (t : Trk O H) (h : H p = none) (r : RpAll K O H vs ds) : Rp K O (upd H p (.tup vs)) (.ref p) (.tuple ds) :=
  .tup (.inl ⟨.inl upd_same, t.fresh h⟩) (r.same (same_upd h))
theorem rp_lst {K : PySem.W.Frag} {O : Addr → Prop} {H : Hp} {vs : List V} {ds : List D} {p : Addr} (t : Trk O H) (h : H p = none) (r : RpAll K O H vs ds) : Rp K O (upd H p (.lst vs)) (.ref p) (.list ds) :=
  .lst ⟨upd_same, t.fresh h⟩ (r.same (same_upd h))
theorem RpAll.length {K : PySem.W.Frag} {O : Addr → Prop} {H : Hp} : ∀ {vs : List V} {ds : List D}, RpAll K O H vs ds → vs.length = ds.length
  | _, _, .nil => rfl
  | _, _, .cons _ t => congrArg (· + 1) t.length
theorem RpAll.append {K : PySem.W.Frag} {O : Addr → Prop} {H : Hp} : ∀ {vs us : List V} {ds es : List D}, RpAll K O H vs ds → RpAll K O H us es → RpAll K O H (vs ++ us) (ds ++ es)
  | _, _, _, _, .nil, h => h
  | _, _, _, _, .cons r t, h => .cons r (t.append h)
theorem RpAll.get {K : PySem.W.Frag} {O : Addr → Prop} {H : Hp} : ∀ {vs : List V} {ds : List D} {i : Nat} {d : D}, RpAll K O H vs ds → ds[i]? = some d → ∃ v, vs[i]? = some v ∧ Rp K O H v d
  | _, _, _, _, .nil, h => by simp at h
  | _, _, 0, _, .cons r t, h => by simp at h; subst h; exact ⟨_, rfl, r⟩
  | _, _, i + 1, d, .cons r t, h => by
    obtain ⟨v, h1, h2⟩ := t.get (i := i) (d := d) (by simpa using h)
    exact ⟨v, by simpa using h1, h2⟩
theorem RpAll.drop {K : PySem.W.Frag} {O : Addr → Prop} {H : Hp} : ∀ {vs : List V} {ds : List D} (n : Nat), RpAll K O H vs ds → RpAll K O H (vs.drop n) (ds.drop n)
  | _, _, 0, h => h
  | _, _, _ + 1, .nil => .nil
  | _, _, n + 1, .cons _ t => t.drop n
theorem RpAll.take {K : PySem.W.Frag} {O : Addr → Prop} {H : Hp} : ∀ {vs : List V} {ds : List D} (n : Nat), RpAll K O H vs ds → RpAll K O H (vs.take n) (ds.take n)
  | _, _, 0, _ => .nil
  | _, _, _ + 1, .nil => .nil
  | _, _, n + 1, .cons r t => .cons r (t.take n)
theorem RpAll.reverse {K : PySem.W.Frag} {O : Addr → Prop} {H : Hp} : ∀ {vs : List V} {ds : List D}, RpAll K O H vs ds → RpAll K O H vs.reverse ds.reverse
  | _, _, .nil => .nil
  | _, _, .cons r t => by rw [List.reverse_cons, List.reverse_cons]; exact t.reverse.append (.cons r .nil)
theorem RpAll.set {K : PySem.W.Frag} {O : Addr → Prop} {H : Hp} {v : V} {d : D} (r : Rp K O H v d) : ∀ {vs : List V} {ds : List D} (i : Nat), RpAll K O H vs ds → RpAll K O H (vs.set i v) (ds.set i d)
  | _, _, _, .nil => .nil
  | _, _, 0, .cons _ t => .cons r t
  | _, _, i + 1, .cons q t => .cons q (t.set r i)
theorem RpAll.rep {K : PySem.W.Frag} {O : Addr → Prop} {H : Hp} {vs : List V} {ds : List D} (h : RpAll K O H vs ds) : ∀ n : Nat, RpAll K O H (List.replicate n vs).flatten (List.replicate n ds).flatten
  | 0 => .nil
  | n + 1 => by
    rw [List.replicate_succ, List.replicate_succ, List.flatten_cons, List.flatten_cons]
    exact h.append (h.rep n)
/-- argument lists -/
structure PA3 (X : Cx) (E : XK) (es : List Expr) (t : TA3) : Prop where
  mono : Mono3 t
  pa : PA X es (lift X.K E (RpAll X.K) t)
def tNil3 : TA3 := fun _ δ Q => Q [] δ
def tCons3 (ta : T3) (tr : TA3) : TA3 := fun E δ Q => ta E δ fun x δ1 => tr E δ1 fun xs δ2 => Q (x :: xs) δ2
theorem an3 : PA3 X E [] tNil3 := ⟨fun _ _ _ _ _ _ hq q => hq _ _ q, pa_nil.imp fun σ H Q h => by
  obtain ⟨π, F, ρ, δ, rel, q⟩ := h
  exact q [] H ρ Ext.refl rel .nil⟩
theorem ac3 {e : Expr} {es : List Expr} {te : T3} {t : TA3} (ha : PE3 X E e te) (hr : PA3 X E es t) (hs : starEach (e :: es) X.env = (false, eval e X.env) :: starEach es X.env := by rfl) : PA3 X E (e :: es) (tCons3 te t) := by
  refine ⟨fun _ _ _ _ _ he hq q => ha.mono _ _ _ _ _ he (fun x δ1 => hr.mono _ _ _ _ _ he fun xs δ2 => hq _ _) q, (pa_cons ha.pe hr.pa hs).imp fun σ H Q h => ?_⟩
  obtain ⟨π, F, ρ, δ, rel, q⟩ := h
  refine ⟨π, F, ρ, δ, rel, ha.mono _ _ _ _ _ (fun _ z => z) (fun x δ1 q v H1 ρ1 e1 rel1 r1 => ?_) q⟩
  refine ⟨π, F, ρ1, δ1, rel1, hr.mono _ _ _ _ _ (liftX.mono e1) (fun y δ2 q us H2 ρ2 e2 rel2 r2 => ?_) q⟩
  exact q (v :: us) H2 ρ2 (e1.trans e2) rel2 (.cons (r1.ext (e2.frn) fun _ => .inl) r2)
def tTup3 (t : TA3) : T3 := fun E δ Q => t E δ fun xs δ1 => xs.length ≤ sizeLine ∧ Q (.tuple xs) δ1
def tLst3 (t : TA3) : T3 := fun E δ Q => t E δ fun xs δ1 => xs.length ≤ sizeLine ∧ Q (.list xs) δ1
theorem tup3 {es : List Expr} {t : TA3} {x1} (h : PA3 X E es t) : PE3 X E (.Tuple es x1 pos) (tTup3 t) := by
  refine ⟨fun _ _ _ _ _ he hq q => h.mono _ _ _ _ _ he (fun xs δ1 z => ⟨z.1, hq _ _ z.2⟩) q, (pe_tup h.pa).imp fun σ H Q q => ?_⟩
  obtain ⟨π, F, ρ, δ, rel, q⟩ := q
  refine ⟨π, F, ρ, δ, rel, h.mono _ _ _ _ _ (fun _ z => z) (fun xs δ1 q vs H1 ρ1 e1 rel1 r1 => ⟨by rw [r1.length]; exact q.1, fun p hp => ?_⟩) q⟩
  exact q.2 (.ref p) _ ρ1 (e1.trans (Ext.same (same_upd hp))) (rel1.same (same_upd hp)) (rp_tup rel1.trk hp r1)
theorem lst3 {es : List Expr} {t : TA3} (h : PA3 X E es t) : PE3 X E (.List es pos) (tLst3 t) := by
  refine ⟨fun _ _ _ _ _ he hq q => h.mono _ _ _ _ _ he (fun xs δ1 z => ⟨z.1, hq _ _ z.2⟩) q, (pe_lst h.pa).imp fun σ H Q q => ?_⟩
  obtain ⟨π, F, ρ, δ, rel, q⟩ := q
  refine ⟨π, F, ρ, δ, rel, h.mono _ _ _ _ _ (fun _ z => z) (fun xs δ1 q vs H1 ρ1 e1 rel1 r1 => ⟨by rw [r1.length]; exact q.1, fun p hp => ?_⟩) q⟩
  exact q.2 (.ref p) _ ρ1 (e1.trans (Ext.same (same_upd hp))) (rel1.same (same_upd hp)) (rp_lst rel1.trk hp r1)

/-! ## + and * of numbers, rows and texts -/
def rAdd3 (x y : D) (k : D → Prop) : Prop := match x, y with
  | .int i, .int j => k (.int (i + j))
  | .tuple xs, .tuple ys => xs.length + ys.length ≤ sizeLine ∧ k (.tuple (xs ++ ys))
  | .list xs, .list ys => xs.length + ys.length ≤ sizeLine ∧ k (.list (xs ++ ys))
  | .str i, .str j => i.length + j.length ≤ sizeLine ∧ k (.str (i ++ j))
  | _, _ => False
theorem m_rAdd3 : M2 rAdd3 := fun x y k k' hk h => by
  unfold rAdd3 at h ⊢
  split at h
  · exact hk _ h
  · exact ⟨h.1, hk _ h.2⟩
  · exact ⟨h.1, hk _ h.2⟩
  · exact ⟨h.1, hk _ h.2⟩
  · exact h.elim
end
end M3

set_option Elab.async false
set_option linter.all false
set_option maxRecDepth 100000
namespace M3
open PySem L2
variable [TabsC]
section
variable {X : Cx} {E : XK} {a b c e : Expr} {ta tb tc : T3} {pos : Pos}

theorem op_addA : OpR X (binaryOp .Add) (fun x y H Q => rI0 (fun i j => .int (i + j)) x y H Q ∨ rCatA X.K x y H Q ∨ rCat x y H Q ∨ (∃ i j, x = .str i ∧ y = .str j ∧ i.length + j.length ≤ sizeLine ∧ Q (.str (i ++ j)) H)) :=
  op_add.or (op_catA.or (op_cat.or op_add_str))
theorem ok_rAdd3 {K : PySem.W.Frag} : OpOk2 K (fun x y H Q => rI0 (fun i j => .int (i + j)) x y H Q ∨ rCatA K x y H Q ∨ rCat x y H Q ∨ (∃ i j, x = .str i ∧ y = .str j ∧ i.length + j.length ≤ sizeLine ∧ Q (.str (i ++ j)) H)) rAdd3 := by
  intro O H v u x y k Q tr rx ry h hq
  unfold rAdd3 at h
  split at h
  · cases rx; cases ry
    exact .inl ⟨_, _, rfl, rfl, hq _ _ H (Same.refl H) (.int _) h⟩
  · obtain ⟨hz, h⟩ := h
    cases rx with
    | tup ht hr =>
      cases ry with
      | tup ht' hr' =>
        refine .inr (.inl ⟨_, _, _, _, rfl, rfl, ht.sq, ht'.sq, by rw [hr.length, hr'.length]; exact hz, fun e => ?_, fun _ e => ?_, fun _ _ p hp => ?_⟩)
        · subst e; cases hr
          exact hq _ _ H (Same.refl H) (.tup ht' hr') h
        · subst e; cases hr'
          exact hq _ _ H (Same.refl H) (by rw [List.append_nil]; exact .tup ht hr) h
        · exact hq _ _ _ (same_upd hp) (rp_tup tr hp (hr.append hr')) h
  · obtain ⟨hz, h⟩ := h
    cases rx with
    | lst ht hr =>
      cases ry with
      | lst ht' hr' =>
        exact .inr (.inr (.inl ⟨_, _, _, _, rfl, rfl, ht.1, ht'.1, by rw [hr.length, hr'.length]; exact hz, fun p hp => hq _ _ _ (same_upd hp) (rp_lst tr hp (hr.append hr')) h⟩))
  · obtain ⟨hz, h⟩ := h
    cases rx; cases ry
    exact .inr (.inr (.inr ⟨_, _, rfl, rfl, hz, hq _ _ H (Same.refl H) (.str _) h⟩))
  · exact h.elim
theorem add3 (ha : PE3 X E a ta) (hb : PE3 X E b tb) : PE3 X E (.BinOp a .Add b pos) (tB2 rAdd3 ta tb) := bin3 (fun _ _ h h' => pe_op op_addA h h') ok_rAdd3 m_rAdd3 ha hb
theorem mulI3 (ha : PE3 X E a ta) (hb : PE3 X E b tb) : PE3 X E (.BinOp a .Mult b pos) (tB2 (rII CMul fun i j => .int (i * j)) ta tb) := bin3 (fun _ _ h h' => pe_op op_mul h h') (ok_rII fun _ _ _ _ => .int _) m_rII ha hb

/-! ## comparisons -/
theorem lt3 (ha : PE3 X E a ta) (hb : PE3 X E b tb) : PE3 X E (.Compare a [.Lt] [b] pos) (tB2 (rII0 fun i j => .bool (decide (i < j))) ta tb) := bin3 (fun _ _ h h' => pe_cmpR op_lt h h' (nomark _)) (ok_rII0 fun _ _ _ _ => .bl _) m_rII0 ha hb
theorem le3 (ha : PE3 X E a ta) (hb : PE3 X E b tb) : PE3 X E (.Compare a [.LtE] [b] pos) (tB2 (rII0 fun i j => .bool (decide (i ≤ j))) ta tb) := bin3 (fun _ _ h h' => pe_cmpR op_le h h' (nomark _)) (ok_rII0 fun _ _ _ _ => .bl _) m_rII0 ha hb
theorem gt3 (ha : PE3 X E a ta) (hb : PE3 X E b tb) : PE3 X E (.Compare a [.Gt] [b] pos) (tB2 (rII0 fun i j => .bool (decide (j < i))) ta tb) := bin3 (fun _ _ h h' => pe_cmpR op_gt h h' (nomark _)) (ok_rII0 fun _ _ _ _ => .bl _) m_rII0 ha hb
theorem ge3 (ha : PE3 X E a ta) (hb : PE3 X E b tb) : PE3 X E (.Compare a [.GtE] [b] pos) (tB2 (rII0 fun i j => .bool (decide (j ≤ i))) ta tb) := bin3 (fun _ _ h h' => pe_cmpR op_ge h h' (nomark _)) (ok_rII0 fun _ _ _ _ => .bl _) m_rII0 ha hb
theorem lt3T (ha : PE3 X E a ta) (hb : PE3 X E b tb) : PT3 X E (.Compare a [.Lt] [b] pos) (tBool (tB2 (rII0 fun i j => .bool (decide (i < j))) ta tb)) := bin3T (fun _ _ h h' => pt_cmpR op_lt h h' (nomark _)) (ok_rII0 fun _ _ _ _ => .bl _) m_rII0 ha hb
theorem le3T (ha : PE3 X E a ta) (hb : PE3 X E b tb) : PT3 X E (.Compare a [.LtE] [b] pos) (tBool (tB2 (rII0 fun i j => .bool (decide (i ≤ j))) ta tb)) := bin3T (fun _ _ h h' => pt_cmpR op_le h h' (nomark _)) (ok_rII0 fun _ _ _ _ => .bl _) m_rII0 ha hb
theorem gt3T (ha : PE3 X E a ta) (hb : PE3 X E b tb) : PT3 X E (.Compare a [.Gt] [b] pos) (tBool (tB2 (rII0 fun i j => .bool (decide (j < i))) ta tb)) := bin3T (fun _ _ h h' => pt_cmpR op_gt h h' (nomark _)) (ok_rII0 fun _ _ _ _ => .bl _) m_rII0 ha hb
theorem ge3T (ha : PE3 X E a ta) (hb : PE3 X E b tb) : PT3 X E (.Compare a [.GtE] [b] pos) (tBool (tB2 (rII0 fun i j => .bool (decide (j ≤ i))) ta tb)) := bin3T (fun _ _ h h' => pt_cmpR op_ge h h' (nomark _)) (ok_rII0 fun _ _ _ _ => .bl _) m_rII0 ha hb
/-! ==, != of data -/
mutual
theorem Rp.dp {K : PySem.W.Frag} {O : Addr → Prop} {H : Hp} : ∀ {v : V} {d : D}, d.plain = true → Rp K O H v d → Dp K H v d
  | _, _, _, .non => .non
  | _, _, _, .bl b => .bl b
  | _, _, _, .int i => .int i
  | _, _, _, .str x => .str x
  | _, _, p, .lst h r => .lst h.sq (RpAll.dp p r)
  | _, _, p, .tup h r => .tup h.sq (RpAll.dp p r)
  | _, _, p, .dic h n r => by cases p
theorem RpAll.dp {K : PySem.W.Frag} {O : Addr → Prop} {H : Hp} : ∀ {v : List V} {d : List D}, PyData.plainAll d = true → RpAll K O H v d → DpAll K H v d
  | _, _, _, .nil => .nil
  | _, _, p, .cons r t => by
    have p' := Bool.and_eq_true_iff.mp p
    exact .cons (Rp.dp p'.1 r) (RpAll.dp p'.2 t)
end
def rEqP (K : PySem.W.Frag) : R2 := fun x y H Q => ∃ d e, Dp K H x d ∧ Dp K H y e ∧ d.plain = true ∧ e.plain = true ∧ min d.depth e.depth ≤ 64 ∧ Q (.bl (PyData.eqv d e)) H
def rNeP (K : PySem.W.Frag) : R2 := fun x y H Q => ∃ d e, Dp K H x d ∧ Dp K H y e ∧ d.plain = true ∧ e.plain = true ∧ min d.depth e.depth ≤ 64 ∧ Q (.bl (!PyData.eqv d e)) H
theorem op_eqP (hu : X.A.units + 64 < cLine) : OpR X (compareOp .Eq) (rEqP X.K) := by
  intro pins s σ H x y v u Q I rx ry h
  obtain ⟨d, e, hd, he, sd, se, hz, q⟩ := h
  obtain ⟨as, r1⟩ := Dp.reads I d x v hd rx
  obtain ⟨bs, r2⟩ := Dp.reads I e y u he ry
  exact SeqAt.eq_plain r1 r2 sd se (by omega) ⟨.bl _, H, I, rfl, q⟩
theorem op_neP (hu : X.A.units + 64 < cLine) : OpR X (compareOp .NotEq) (rNeP X.K) := by
  intro pins s σ H x y v u Q I rx ry h
  obtain ⟨d, e, hd, he, sd, se, hz, q⟩ := h
  obtain ⟨as, r1⟩ := Dp.reads I d x v hd rx
  obtain ⟨bs, r2⟩ := Dp.reads I e y u he ry
  exact SeqAt.ne_plain r1 r2 sd se (by omega) ⟨.bl _, H, I, rfl, q⟩
/-- against an empty row nothing within is asked -/
def rEqNT (K : PySem.W.Frag) (f : Bool → Bool) : R2 := fun x y H Q => ∃ a b xs, x = .ref a ∧ y = .ref b ∧ SqT K H a xs ∧ SqT K H b [] ∧ Q (.bl (f xs.isEmpty)) H
theorem op_eqNT (hu : X.A.units + 64 < cLine) : OpR X (compareOp .Eq) (rEqNT X.K id) := by
  intro pins s σ H x y v u Q I rx ry h
  obtain ⟨a, b, xs, rfl, rfl, ha, hb, q⟩ := h
  cases rx; cases ry
  obtain ⟨its, r1, p1, _⟩ := I.tuple ha
  obtain ⟨its2, r2, p2, _⟩ := I.tuple hb
  cases r2
  have e : ((List.range (min its.toArray.size ([] : List Value).toArray.size)).all (fun _ => true) && its.toArray.size == ([] : List Value).toArray.size) = xs.isEmpty := by
    have hl := r1.length
    cases xs with
    | nil => cases its with
      | nil => rfl
      | cons _ _ => simp at hl
    | cons _ _ => cases its with
      | nil => simp at hl
      | cons _ _ => simp
  exact SeqAt.RcAt.tuples (e := fun _ => true) (show s.heap.IsTuple a its.toArray from p1) (show s.heap.IsTuple b ([] : List Value).toArray from p2) (by omega) (fun j _ h2 => by simp at h2) X.prog X.w X.xe _ ⟨.bl _, H, I, by rw [e]; rfl, q⟩
theorem op_neNT (hu : X.A.units + 64 < cLine) : OpR X (compareOp .NotEq) (rEqNT X.K not) := by
  intro pins s σ H x y v u Q I rx ry h
  obtain ⟨a, b, xs, rfl, rfl, ha, hb, q⟩ := h
  cases rx; cases ry
  obtain ⟨its, r1, p1, _⟩ := I.tuple ha
  obtain ⟨its2, r2, p2, _⟩ := I.tuple hb
  cases r2
  have e : ((List.range (min its.toArray.size ([] : List Value).toArray.size)).all (fun _ => true) && its.toArray.size == ([] : List Value).toArray.size) = xs.isEmpty := by
    have hl := r1.length
    cases xs with
    | nil => cases its with
      | nil => rfl
      | cons _ _ => simp at hl
    | cons _ _ => cases its with
      | nil => simp at hl
      | cons _ _ => simp
  exact SeqAt.RcNeAt.tuples (e := fun _ => true) (show s.heap.IsTuple a its.toArray from p1) (show s.heap.IsTuple b ([] : List Value).toArray from p2) (by omega) (fun j _ h2 => by simp at h2) X.prog X.w X.xe _ ⟨.bl _, H, I, by rw [e]; rfl, q⟩
theorem op_eqA (hu : X.A.units + 64 < cLine) : OpR X (compareOp .Eq) (fun x y H Q => rEqP X.K x y H Q ∨ rEqNT X.K id x y H Q) := (op_eqP hu).or (op_eqNT hu)
theorem op_neA (hu : X.A.units + 64 < cLine) : OpR X (compareOp .NotEq) (fun x y H Q => rNeP X.K x y H Q ∨ rEqNT X.K not x y H Q) := (op_neP hu).or (op_neNT hu)
def rEq3 (f : Bool → Bool) (x y : D) (k : D → Prop) : Prop := match x, y with
  | .int i, .int j => k (.bool (f (decide (i = j))))
  | .bool i, .bool j => k (.bool (f (decide (i = j))))
  | .str i, .str j => k (.bool (f (decide (i = j))))
  | .tuple xs, .tuple [] => k (.bool (f xs.isEmpty))
  | x, y => x.plain = true ∧ y.plain = true ∧ min x.depth y.depth ≤ 64 ∧ k (.bool (f (PyData.eqv x y)))
theorem rEq3.to {f : Bool → Bool} {x y : D} {k : D → Prop} (h : rEq3 f x y k) : (x.plain = true ∧ y.plain = true ∧ min x.depth y.depth ≤ 64 ∧ k (.bool (f (PyData.eqv x y)))) ∨ ∃ xs, x = .tuple xs ∧ y = .tuple [] ∧ k (.bool (f xs.isEmpty)) := by
  unfold rEq3 at h
  split at h
  · exact .inl ⟨rfl, rfl, by simp [PyData.depth], by simp only [PyData.eqv]; rw [Bool.beq_eq_decide_eq]; exact h⟩
  · exact .inl ⟨rfl, rfl, by simp [PyData.depth], by simp only [PyData.eqv]; rw [Bool.beq_eq_decide_eq]; exact h⟩
  · rename_i i j
    refine .inl ⟨rfl, rfl, by simp [PyData.depth], ?_⟩
    have e : (i == j) = decide (i = j) := by
      by_cases z : i = j
      · subst z; simp
      · rw [decide_eq_false z]; exact beq_eq_false_iff_ne.mpr z
    simp only [PyData.eqv]
    rw [e]
    exact h
  · exact .inr ⟨_, rfl, rfl, h⟩
  · exact .inl h
theorem m_rEq3 {f} : M2 (rEq3 f) := fun x y k k' hk h => by
  unfold rEq3 at h ⊢
  split at h
  · exact hk _ h
  · exact hk _ h
  · exact hk _ h
  · exact hk _ h
  · exact ⟨h.1, h.2.1, h.2.2.1, hk _ h.2.2.2⟩
theorem eq3 (hu : X.A.units + 64 < cLine) (ha : PE3 X E a ta) (hb : PE3 X E b tb) : PE3 X E (.Compare a [.Eq] [b] pos) (tB2 (rEq3 id) ta tb) := bin3 (fun _ _ h h' => pe_cmpR (op_eqA hu) h h' (nomark _)) (fun O H v u x y k Q _ rx ry h hq => by
  rcases h.to with ⟨p1, p2, z, h⟩ | ⟨xs, rfl, rfl, h⟩
  · exact .inl ⟨x, y, rx.dp p1, ry.dp p2, p1, p2, z, hq _ _ H (Same.refl H) (.bl _) h⟩
  · cases rx with
    | tup ht hr => cases ry with
      | tup ht' hr' =>
        cases hr'
        exact .inr ⟨_, _, _, rfl, rfl, ht.sq, ht'.sq, hq _ _ H (Same.refl H) (by have := hr.length; cases hr <;> exact .bl _) h⟩) m_rEq3 ha hb
theorem ne3 (hu : X.A.units + 64 < cLine) (ha : PE3 X E a ta) (hb : PE3 X E b tb) : PE3 X E (.Compare a [.NotEq] [b] pos) (tB2 (rEq3 not) ta tb) := bin3 (fun _ _ h h' => pe_cmpR (op_neA hu) h h' (nomark _)) (fun O H v u x y k Q _ rx ry h hq => by
  rcases h.to with ⟨p1, p2, z, h⟩ | ⟨xs, rfl, rfl, h⟩
  · exact .inl ⟨x, y, rx.dp p1, ry.dp p2, p1, p2, z, hq _ _ H (Same.refl H) (.bl _) h⟩
  · cases rx with
    | tup ht hr => cases ry with
      | tup ht' hr' =>
        cases hr'
        exact .inr ⟨_, _, _, rfl, rfl, ht.sq, ht'.sq, hq _ _ H (Same.refl H) (by have := hr.length; cases hr <;> exact .bl _) h⟩) m_rEq3 ha hb
theorem eq3T (hu : X.A.units + 64 < cLine) (ha : PE3 X E a ta) (hb : PE3 X E b tb) : PT3 X E (.Compare a [.Eq] [b] pos) (tBool (tB2 (rEq3 id) ta tb)) := bin3T (fun _ _ h h' => pt_cmpR (op_eqA hu) h h' (nomark _)) (fun O H v u x y k Q _ rx ry h hq => by
  rcases h.to with ⟨p1, p2, z, h⟩ | ⟨xs, rfl, rfl, h⟩
  · exact .inl ⟨x, y, rx.dp p1, ry.dp p2, p1, p2, z, hq _ _ H (Same.refl H) (.bl _) h⟩
  · cases rx with
    | tup ht hr => cases ry with
      | tup ht' hr' =>
        cases hr'
        exact .inr ⟨_, _, _, rfl, rfl, ht.sq, ht'.sq, hq _ _ H (Same.refl H) (by have := hr.length; cases hr <;> exact .bl _) h⟩) m_rEq3 ha hb
theorem ne3T (hu : X.A.units + 64 < cLine) (ha : PE3 X E a ta) (hb : PE3 X E b tb) : PT3 X E (.Compare a [.NotEq] [b] pos) (tBool (tB2 (rEq3 not) ta tb)) := bin3T (fun _ _ h h' => pt_cmpR (op_neA hu) h h' (nomark _)) (fun O H v u x y k Q _ rx ry h hq => by
  rcases h.to with ⟨p1, p2, z, h⟩ | ⟨xs, rfl, rfl, h⟩
  · exact .inl ⟨x, y, rx.dp p1, ry.dp p2, p1, p2, z, hq _ _ H (Same.refl H) (.bl _) h⟩
  · cases rx with
    | tup ht hr => cases ry with
      | tup ht' hr' =>
        cases hr'
        exact .inr ⟨_, _, _, rfl, rfl, ht.sq, ht'.sq, hq _ _ H (Same.refl H) (by have := hr.length; cases hr <;> exact .bl _) h⟩) m_rEq3 ha hb
/-- is None, is not None -/
def isNone (x : D) : Bool := match x with | .none => true | _ => false
theorem Rp.isNone {K : PySem.W.Frag} {O : Addr → Prop} {H : Hp} {v : V} {d : D} (h : Rp K O H v d) : decide (v = .non) = M3.isNone d := by
  cases h <;> simp [M3.isNone]
theorem isN3 {j pos'} (ha : PE3 X E a ta) : PE3 X E (.Compare a [.Is] [.Constant .none j pos'] pos) (tU3 (fun x k => k (.bool (isNone x))) ta) :=
  un3 (r := fun x H Q => Q (.bl (decide (x = .non))) H) (fun _ h => pe_cmp (pc_isN h)) (fun O H v x k Q _ rx h hq => by
    show Q (.bl (decide (v = .non))) H
    rw [rx.isNone]
    exact hq _ _ H (Same.refl H) (.bl _) h) (fun x k k' hk h => hk _ h) ha
theorem isNotN3 {j pos'} (ha : PE3 X E a ta) : PE3 X E (.Compare a [.IsNot] [.Constant .none j pos'] pos) (tU3 (fun x k => k (.bool (!isNone x))) ta) :=
  un3 (r := fun x H Q => Q (.bl (!decide (x = .non))) H) (fun _ h => pe_cmp (pc_notN h)) (fun O H v x k Q _ rx h hq => by
    show Q (.bl (!decide (v = .non))) H
    rw [rx.isNone]
    exact hq _ _ H (Same.refl H) (.bl _) h) (fun x k k' hk h => hk _ h) ha
theorem un3T {a e : Expr} {ta : T3} {r : V → Hp → VK → Prop} {r3} (mk : ∀ ta', PE X a ta' → PT X e (tB (tUn r ta'))) (hr : OpOk1 X.K r r3) (m : M1 r3) (ha : PE3 X E a ta) : PT3 X E e (tBool (tU3 r3 ta)) :=
  ⟨mono_tBool (mono_tU3 ha.mono m), (mk _ ha.pe).imp fun σ H Q h => lift_un (t := ta) (X := X) (E := E) ha.mono hr (lift_bool (mono_tU3 ha.mono m) h)⟩
theorem isN3T {j pos'} (ha : PE3 X E a ta) : PT3 X E (.Compare a [.Is] [.Constant .none j pos'] pos) (tBool (tU3 (fun x k => k (.bool (isNone x))) ta)) :=
  un3T (r := fun x H Q => Q (.bl (decide (x = .non))) H) (fun _ h => pt_cmp (pc_isN h)) (fun O H v x k Q _ rx h hq => by
    show Q (.bl (decide (v = .non))) H
    rw [rx.isNone]
    exact hq _ _ H (Same.refl H) (.bl _) h) (fun x k k' hk h => hk _ h) ha
theorem isNotN3T {j pos'} (ha : PE3 X E a ta) : PT3 X E (.Compare a [.IsNot] [.Constant .none j pos'] pos) (tBool (tU3 (fun x k => k (.bool (!isNone x))) ta)) :=
  un3T (r := fun x H Q => Q (.bl (!decide (x = .non))) H) (fun _ h => pt_cmp (pc_notN h)) (fun O H v x k Q _ rx h hq => by
    show Q (.bl (!decide (v = .non))) H
    rw [rx.isNone]
    exact hq _ _ H (Same.refl H) (.bl _) h) (fun x k k' hk h => hk _ h) ha
/-- chains of numbers -/
def tCh (f g : Int → Int → Bool) (ta tb tc : T3) : T3 := fun E δ Q => ta E δ fun x δ1 => tb E δ1 fun y δ2 => asI x fun i => asI y fun j => br (f i j) (tc E δ2 fun z δ3 => asI z fun k => Q (.bool (g j k)) δ3) (Q (.bool false) δ2)
theorem mono_tCh {f g} (ha : Mono3 ta) (hb : Mono3 tb) (hc : Mono3 tc) : Mono3 (tCh f g ta tb tc) := fun _ _ _ _ _ he hq q => ha _ _ _ _ _ he (fun x δ1 => hb _ _ _ _ _ he fun y δ2 z => by
  obtain ⟨i, rfl, z1⟩ := asI.to z
  obtain ⟨j, rfl, z2⟩ := asI.to z1
  exact asI.of (asI.of (z2.imp (hc _ _ _ _ _ he fun w δ3 z3 => by obtain ⟨k, rfl, z4⟩ := asI.to z3; exact asI.of (hq _ _ z4)) (hq _ _)))) q
theorem lift_ch {f g : Int → Int → Bool} (ha : Mono3 ta) (hb : Mono3 tb) (hc : Mono3 tc) {σ : St} {H : Hp} {Q : VK} (h : lift X.K E (Rp X.K) (tCh f g ta tb tc) σ H Q) :
    tChain (rI0 fun i j => .bl (f i j)) (rI0 fun i j => .bl (g i j)) (lift X.K E (Rp X.K) ta) (lift X.K E (Rp X.K) tb) (lift X.K E (Rp X.K) tc) σ H Q := by
  obtain ⟨π, F, ρ, δ, rel, q⟩ := h
  refine ⟨π, F, ρ, δ, rel, ha _ _ _ _ _ (fun _ z => z) (fun x δ1 q v H1 ρ1 e1 rel1 r1 => ?_) q⟩
  refine ⟨π, F, ρ1, δ1, rel1, hb _ _ _ _ _ (liftX.mono e1) (fun y δ2 q u H2 ρ2 e2 rel2 r2 => ?_) q⟩
  obtain ⟨i, rfl, q1⟩ := asI.to q
  obtain ⟨j, rfl, q2⟩ := asI.to q1
  cases r1; cases r2
  refine ⟨i, j, rfl, rfl, _, rfl, (q2.imp (fun q => ?_) (fun q => ?_)).ite⟩
  · refine ⟨π, F, ρ2, δ2, rel2, hc _ _ _ _ _ (liftX.mono (e1.trans e2)) (fun w δ3 q w' H3 ρ3 e3 rel3 r3 => ?_) q⟩
    obtain ⟨k, rfl, q1⟩ := asI.to q
    cases r3
    exact ⟨j, k, rfl, rfl, q1 _ H3 ρ3 ((e1.trans e2).trans e3) rel3 (.bl _)⟩
  · exact q _ H2 ρ2 (e1.trans e2) rel2 (.bl _)
theorem chLeLt3 (ha : PE3 X E a ta) (hb : PE3 X E b tb) (hc : PE3 X E c tc) (hm : lastMarks [.LtE, .Lt] [b, c] = false := by with_unfolding_all rfl) : PE3 X E (.Compare a [.LtE, .Lt] [b, c] pos) (tCh (fun i j => decide (i ≤ j)) (fun i j => decide (i < j)) ta tb tc) :=
  ⟨mono_tCh ha.mono hb.mono hc.mono, (pe_chain op_le op_lt ha.pe hb.pe hc.pe hm).imp fun _ _ _ h => lift_ch ha.mono hb.mono hc.mono h⟩
theorem chLeLe3 (ha : PE3 X E a ta) (hb : PE3 X E b tb) (hc : PE3 X E c tc) (hm : lastMarks [.LtE, .LtE] [b, c] = false := by with_unfolding_all rfl) : PE3 X E (.Compare a [.LtE, .LtE] [b, c] pos) (tCh (fun i j => decide (i ≤ j)) (fun i j => decide (i ≤ j)) ta tb tc) :=
  ⟨mono_tCh ha.mono hb.mono hc.mono, (pe_chain op_le op_le ha.pe hb.pe hc.pe hm).imp fun _ _ _ h => lift_ch ha.mono hb.mono hc.mono h⟩
theorem chLeLt3T (ha : PE3 X E a ta) (hb : PE3 X E b tb) (hc : PE3 X E c tc) (hm : lastMarks [.LtE, .Lt] [b, c] = false := by with_unfolding_all rfl) : PT3 X E (.Compare a [.LtE, .Lt] [b, c] pos) (tBool (tCh (fun i j => decide (i ≤ j)) (fun i j => decide (i < j)) ta tb tc)) :=
  ⟨mono_tBool (mono_tCh ha.mono hb.mono hc.mono), (pt_chain op_le op_lt ha.pe hb.pe hc.pe hm).imp fun _ _ _ h => lift_ch ha.mono hb.mono hc.mono (lift_bool (mono_tCh ha.mono hb.mono hc.mono) h)⟩
theorem chLeLe3T (ha : PE3 X E a ta) (hb : PE3 X E b tb) (hc : PE3 X E c tc) (hm : lastMarks [.LtE, .LtE] [b, c] = false := by with_unfolding_all rfl) : PT3 X E (.Compare a [.LtE, .LtE] [b, c] pos) (tBool (tCh (fun i j => decide (i ≤ j)) (fun i j => decide (i ≤ j)) ta tb tc)) :=
  ⟨mono_tBool (mono_tCh ha.mono hb.mono hc.mono), (pt_chain op_le op_le ha.pe hb.pe hc.pe hm).imp fun _ _ _ h => lift_ch ha.mono hb.mono hc.mono (lift_bool (mono_tCh ha.mono hb.mono hc.mono) h)⟩

/-! ## and, or, not -/
variable {tA tB' : TB3} {rest : List Expr}
def tAnd3 (t u : TB3) : TB3 := fun E δ Q => t E δ fun c δ1 => br c (u E δ1 Q) (Q false δ1)
def tOr3 (t u : TB3) : TB3 := fun E δ Q => t E δ fun c δ1 => br c (Q true δ1) (u E δ1 Q)
def tNot3 (t : TB3) : TB3 := fun E δ Q => t E δ fun c δ1 => Q (!c) δ1
theorem mono_tAnd3 {t u : TB3} (h : Mono3 t) (h' : Mono3 u) : Mono3 (tAnd3 t u) := fun _ _ _ _ _ he hq q => h _ _ _ _ _ he (fun c δ1 z => z.imp (h' _ _ _ _ _ he hq) (hq _ _)) q
theorem mono_tOr3 {t u : TB3} (h : Mono3 t) (h' : Mono3 u) : Mono3 (tOr3 t u) := fun _ _ _ _ _ he hq q => h _ _ _ _ _ he (fun c δ1 z => z.imp (hq _ _) (h' _ _ _ _ _ he hq)) q
theorem mono_tNot3 {t : TB3} (h : Mono3 t) : Mono3 (tNot3 t) := fun _ _ _ _ _ he hq q => h _ _ _ _ _ he (fun c δ1 z => hq _ _ z) q
abbrev RB : (Addr → Prop) → Hp → Bool → Bool → Prop := fun _ _ x y => x = y
theorem and1_3 (ha : PT3 X E a tA) : PW3 X E (.BoolOp .And [a] pos) tA := ⟨ha.mono, pw_and1 ha.pe⟩
theorem or1_3 (ha : PT3 X E a tA) : PW3 X E (.BoolOp .Or [a] pos) tA := ⟨ha.mono, pw_or1 ha.pe⟩
theorem and3 (ha : PT3 X E a tA) (hb : PW3 X E (.BoolOp .And (b :: rest) pos) tB') : PW3 X E (.BoolOp .And (a :: b :: rest) pos) (tAnd3 tA tB') := by
  refine ⟨mono_tAnd3 ha.mono hb.mono, (pw_and ha.pe hb.pe).imp fun σ H Q h => ?_⟩
  obtain ⟨π, F, ρ, δ, rel, q⟩ := h
  refine ⟨π, F, ρ, δ, rel, ha.mono _ _ _ _ _ (fun _ z => z) (fun x δ1 q v H1 ρ1 e1 rel1 r1 => ?_) q⟩
  subst r1
  refine (q.imp (fun q => ?_) (fun q => ?_)).ite
  · exact ⟨π, F, ρ1, δ1, rel1, hb.mono _ _ _ _ _ (liftX.mono e1) (fun y δ2 q u H2 ρ2 e2 rel2 r2 => q u H2 ρ2 (e1.trans e2) rel2 r2) q⟩
  · exact q false H1 ρ1 e1 rel1 rfl
theorem or3 (ha : PT3 X E a tA) (hb : PW3 X E (.BoolOp .Or (b :: rest) pos) tB') : PW3 X E (.BoolOp .Or (a :: b :: rest) pos) (tOr3 tA tB') := by
  refine ⟨mono_tOr3 ha.mono hb.mono, (pw_or ha.pe hb.pe).imp fun σ H Q h => ?_⟩
  obtain ⟨π, F, ρ, δ, rel, q⟩ := h
  refine ⟨π, F, ρ, δ, rel, ha.mono _ _ _ _ _ (fun _ z => z) (fun x δ1 q v H1 ρ1 e1 rel1 r1 => ?_) q⟩
  subst r1
  refine (q.imp (fun q => ?_) (fun q => ?_)).ite
  · exact q true H1 ρ1 e1 rel1 rfl
  · exact ⟨π, F, ρ1, δ1, rel1, hb.mono _ _ _ _ _ (liftX.mono e1) (fun y δ2 q u H2 ρ2 e2 rel2 r2 => q u H2 ρ2 (e1.trans e2) rel2 r2) q⟩
theorem not3 (ha : PT3 X E a tA) : PT3 X E (.UnaryOp .Not a pos) (tNot3 tA) := by
  refine ⟨mono_tNot3 ha.mono, (pt_not ha.pe).imp fun σ H Q h => ?_⟩
  obtain ⟨π, F, ρ, δ, rel, q⟩ := h
  refine ⟨π, F, ρ, δ, rel, ha.mono _ _ _ _ _ (fun _ z => z) (fun x δ1 q v H1 ρ1 e1 rel1 r1 => ?_) q⟩
  subst r1
  exact q _ H1 ρ1 e1 rel1 rfl
/-- .. as values -/
def tAndV3 (ta tb : T3) : T3 := fun E δ Q => ta E δ fun x δ1 => asB x fun c => br c (tb E δ1 Q) (Q (.bool false) δ1)
def tOrV3 (ta tb : T3) : T3 := fun E δ Q => ta E δ fun x δ1 => asB x fun c => br c (Q (.bool true) δ1) (tb E δ1 Q)
theorem one3 {op} (h : PE3 X E a ta) : PE3 X E (.BoolOp op [a] pos) ta := ⟨h.mono, pe_one h.pe⟩
theorem andV3 (ha : PE3 X E a ta) (hb : PE3 X E (.BoolOp .And (b :: rest) pos) tb) : PE3 X E (.BoolOp .And (a :: b :: rest) pos) (tAndV3 ta tb) := by
  refine ⟨fun _ _ _ _ _ he hq q => ha.mono _ _ _ _ _ he (fun x δ1 z => by obtain ⟨c, rfl, z1⟩ := asB.to z; exact asB.of (z1.imp (hb.mono _ _ _ _ _ he hq) (hq _ _))) q, (pe_and ha.pe hb.pe).imp fun σ H Q h => ?_⟩
  obtain ⟨π, F, ρ, δ, rel, q⟩ := h
  refine ⟨π, F, ρ, δ, rel, ha.mono _ _ _ _ _ (fun _ z => z) (fun x δ1 q v H1 ρ1 e1 rel1 r1 => ?_) q⟩
  obtain ⟨c, rfl, q1⟩ := asB.to q
  cases r1
  refine ⟨c, rfl, (q1.imp (fun q => ?_) (fun q => ?_)).ite⟩
  · exact ⟨π, F, ρ1, δ1, rel1, hb.mono _ _ _ _ _ (liftX.mono e1) (fun y δ2 q u H2 ρ2 e2 rel2 r2 => q u H2 ρ2 (e1.trans e2) rel2 r2) q⟩
  · exact q _ H1 ρ1 e1 rel1 (.bl _)
theorem orV3 (ha : PE3 X E a ta) (hb : PE3 X E (.BoolOp .Or (b :: rest) pos) tb) : PE3 X E (.BoolOp .Or (a :: b :: rest) pos) (tOrV3 ta tb) := by
  refine ⟨fun _ _ _ _ _ he hq q => ha.mono _ _ _ _ _ he (fun x δ1 z => by obtain ⟨c, rfl, z1⟩ := asB.to z; exact asB.of (z1.imp (hq _ _) (hb.mono _ _ _ _ _ he hq))) q, (pe_or ha.pe hb.pe).imp fun σ H Q h => ?_⟩
  obtain ⟨π, F, ρ, δ, rel, q⟩ := h
  refine ⟨π, F, ρ, δ, rel, ha.mono _ _ _ _ _ (fun _ z => z) (fun x δ1 q v H1 ρ1 e1 rel1 r1 => ?_) q⟩
  obtain ⟨c, rfl, q1⟩ := asB.to q
  cases r1
  refine ⟨c, rfl, (q1.imp (fun q => ?_) (fun q => ?_)).ite⟩
  · exact q _ H1 ρ1 e1 rel1 (.bl _)
  · exact ⟨π, F, ρ1, δ1, rel1, hb.mono _ _ _ _ _ (liftX.mono e1) (fun y δ2 q u H2 ρ2 e2 rel2 r2 => q u H2 ρ2 (e1.trans e2) rel2 r2) q⟩
theorem notV3 (ha : PE3 X E a ta) : PE3 X E (.UnaryOp .Not a pos) (tU3 (fun x k => asB x fun c => k (.bool (!c))) ta) :=
  un3 (r := fun x H Q => ∃ c, x = .bl c ∧ Q (.bl (!c)) H) (fun _ h => pe_not h) (fun O H v x k Q _ rx h hq => by
    obtain ⟨c, rfl, h1⟩ := asB.to h
    cases rx
    exact ⟨c, rfl, hq _ _ H (Same.refl H) (.bl _) h1⟩) (fun x k k' hk h => by obtain ⟨c, rfl, h1⟩ := asB.to h; exact asB.of (hk _ h1)) ha
/-- a if t else b -/
def tIf3 (t : TB3) (ta tb : T3) : T3 := fun E δ Q => t E δ fun c δ1 => br c (ta E δ1 Q) (tb E δ1 Q)
theorem ifx3 {c : Expr} (hc : PT3 X E c tA) (ha : PE3 X E a ta) (hb : PE3 X E b tb) : PE3 X E (.IfExp c a b pos) (tIf3 tA ta tb) := by
  refine ⟨fun _ _ _ _ _ he hq q => hc.mono _ _ _ _ _ he (fun c δ1 z => z.imp (ha.mono _ _ _ _ _ he hq) (hb.mono _ _ _ _ _ he hq)) q, (pe_ifExp hc.pe ha.pe hb.pe).imp fun σ H Q h => ?_⟩
  obtain ⟨π, F, ρ, δ, rel, q⟩ := h
  refine ⟨π, F, ρ, δ, rel, hc.mono _ _ _ _ _ (fun _ z => z) (fun x δ1 q v H1 ρ1 e1 rel1 r1 => ?_) q⟩
  subst r1
  refine (q.imp (fun q => ?_) (fun q => ?_)).ite
  · exact ⟨π, F, ρ1, δ1, rel1, ha.mono _ _ _ _ _ (liftX.mono e1) (fun y δ2 q u H2 ρ2 e2 rel2 r2 => q u H2 ρ2 (e1.trans e2) rel2 r2) q⟩
  · exact ⟨π, F, ρ1, δ1, rel1, hb.mono _ _ _ _ _ (liftX.mono e1) (fun y δ2 q u H2 ρ2 e2 rel2 r2 => q u H2 ρ2 (e1.trans e2) rel2 r2) q⟩
end
end M3

set_option Elab.async false
set_option linter.all false
set_option maxRecDepth 100000
namespace M3
open PySem L2
variable [TabsC]
section
variable {X : Cx} {E : XK} {a b c e : Expr} {ta tb tc : T3} {pos : Pos}

/-! ## items and slices of data -/
def rIx3 (x y : D) (k : D → Prop) : Prop := match x with
  | .tuple xs => asI y fun i => ∃ d, atI xs i = some d ∧ k d
  | .list xs => asI y fun i => ∃ d, atI xs i = some d ∧ k d
  | _ => False
theorem m_rIx3 : M2 rIx3 := fun x y k k' hk h => by
  unfold rIx3 at h ⊢
  split at h
  · obtain ⟨i, rfl, d, e, z⟩ := asI.to h; exact asI.of ⟨d, e, hk _ z⟩
  · obtain ⟨i, rfl, d, e, z⟩ := asI.to h; exact asI.of ⟨d, e, hk _ z⟩
  · exact h.elim
theorem RpAll.atI {K : PySem.W.Frag} {O : Addr → Prop} {H : Hp} {vs : List V} {ds : List D} {i : Int} {d : D} (r : RpAll K O H vs ds) (h : L2.atI ds i = some d) : ∃ v, L2.atI vs i = some v ∧ Rp K O H v d := by
  unfold L2.atI at h ⊢
  rw [r.length]
  cases q : ixN ds.length i with
  | none => rw [q] at h; cases h
  | some j =>
    rw [q] at h
    exact r.get (show ds[j]? = some d from h)
theorem ok_rIx3 {K : PySem.W.Frag} : OpOk2 K (fun x y H Q => rIxL K x y H Q ∨ rIxT K x y H Q) rIx3 := by
  intro O H v u x y k Q tr rx ry h hq
  unfold rIx3 at h
  split at h
  · obtain ⟨i, rfl, d, e, z⟩ := asI.to h
    cases ry
    cases rx with
    | tup ht hr =>
      obtain ⟨w, e', r'⟩ := hr.atI e
      exact .inr ⟨_, _, i, w, rfl, rfl, ht.sq, e', hq _ _ H (Same.refl H) r' z⟩
  · obtain ⟨i, rfl, d, e, z⟩ := asI.to h
    cases ry
    cases rx with
    | lst ht hr =>
      obtain ⟨w, e', r'⟩ := hr.atI e
      exact .inl ⟨_, _, i, w, rfl, rfl, ht.sq, e', hq _ _ H (Same.refl H) r' z⟩
  · exact h.elim
theorem ix3 (ha : PE3 X E a ta) (hb : PE3 X E b tb) (hs : PlainIx b := by exact fun _ _ => rfl) : PE3 X E (.Subscript a b pos) (tB2 rIx3 ta tb) := bin3 (fun _ _ h h' => pe_ix (ix_list.or ix_tup) h h' hs) ok_rIx3 m_rIx3 ha hb

def cutG {α : Type} (xs : List α) (lo hi : Option Int) : List α := (xs.drop (HT.sIx xs.length 0 lo)).take (HT.sIx xs.length xs.length hi - HT.sIx xs.length 0 lo)
theorem cutG_V (xs : List V) (lo hi : Option Int) : cutV xs lo hi = cutG xs lo hi := rfl
theorem RpAll.cut {K : PySem.W.Frag} {O : Addr → Prop} {H : Hp} {vs : List V} {ds : List D} (r : RpAll K O H vs ds) (lo hi : Option Int) : RpAll K O H (cutV vs lo hi) (cutG ds lo hi) := by
  unfold cutV cutG
  rw [r.length]
  exact (r.drop _).take _
def rSl3 (x : D) (lo hi : Option Int) (k : D → Prop) : Prop := match x with
  | .tuple xs => k (.tuple (cutG xs lo hi))
  | .list xs => k (.list (cutG xs lo hi))
  | _ => False
/-- a part of a slice -/
abbrev TO3 := G3 (Option Int)
structure PO3 (X : Cx) (E : XK) (e : Option Expr) (t : TO3) : Prop where
  mono : Mono3 t
  po : PO X e (lift X.K E (fun _ _ (x y : Option Int) => x = y) t)
theorem _root_.L2.PO.imp {X : Cx} {e : Option Expr} {t t' : TO} (h : PO X e t) (k : ∀ σ H Q, t' σ H Q → t σ H Q) : PO X e t' := ⟨fun pins s σ H Q I q => h.run pins s σ H Q I (k σ H Q q)⟩
def tNoP3 : TO3 := fun _ δ Q => Q none δ
def tP3 (t : T3) : TO3 := fun E δ Q => t E δ fun x δ1 => asI x fun i => Q (some i) δ1
theorem pn3 : PO3 X E none tNoP3 := ⟨fun _ _ _ _ _ _ hq q => hq _ _ q, po_none.imp fun σ H Q h => by
  obtain ⟨π, F, ρ, δ, rel, q⟩ := h
  exact q none H ρ Ext.refl rel rfl⟩
theorem ps3 (ha : PE3 X E a ta) : PO3 X E (some a) (tP3 ta) := by
  refine ⟨fun _ _ _ _ _ he hq q => ha.mono _ _ _ _ _ he (fun x δ1 z => by obtain ⟨i, rfl, z1⟩ := asI.to z; exact asI.of (hq _ _ z1)) q, (po_some ha.pe).imp fun σ H Q h => ?_⟩
  obtain ⟨π, F, ρ, δ, rel, q⟩ := h
  refine ⟨π, F, ρ, δ, rel, ha.mono _ _ _ _ _ (fun _ z => z) (fun x δ1 q v H1 ρ1 e1 rel1 r1 => ?_) q⟩
  obtain ⟨i, rfl, q1⟩ := asI.to q
  cases r1
  exact ⟨i, rfl, q1 _ H1 ρ1 e1 rel1 rfl⟩
def tSl3 (te : T3) (tl th : TO3) : T3 := fun E δ Q => te E δ fun x δ1 => tl E δ1 fun l δ2 => th E δ2 fun u δ3 => rSl3 x l u fun z => Q z δ3
theorem sl3 {lo hi : Option Expr} {tl th : TO3} {p2 : Pos} (he : PE3 X E e ta) (hl : PO3 X E lo tl) (hu : PO3 X E hi th) : PE3 X E (.Subscript e (.Slice lo hi none p2) pos) (tSl3 ta tl th) := by
  have mr : ∀ x l u k k', (∀ z, k z → k' z) → rSl3 x l u k → rSl3 x l u k' := fun x l u k k' hk h => by
    unfold rSl3 at h ⊢
    split at h
    · exact hk _ h
    · exact hk _ h
    · exact h.elim
  refine ⟨fun _ _ _ _ _ hx hq q => he.mono _ _ _ _ _ hx (fun x δ1 => hl.mono _ _ _ _ _ hx fun l δ2 => hu.mono _ _ _ _ _ hx fun u δ3 => mr _ _ _ _ _ fun z => hq _ _) q, (pe_slice (sl_tupA.or sl_list) he.pe hl.po hu.po).imp fun σ H Q h => ?_⟩
  obtain ⟨π, F, ρ, δ, rel, q⟩ := h
  refine ⟨π, F, ρ, δ, rel, he.mono _ _ _ _ _ (fun _ z => z) (fun x δ1 q v H1 ρ1 e1 rel1 r1 => ?_) q⟩
  refine ⟨π, F, ρ1, δ1, rel1, hl.mono _ _ _ _ _ (liftX.mono e1) (fun l δ2 q l' H2 ρ2 e2 rel2 r2 => ?_) q⟩
  subst r2
  refine ⟨π, F, ρ2, δ2, rel2, hu.mono _ _ _ _ _ (liftX.mono (e1.trans e2)) (fun u δ3 q u' H3 ρ3 e3 rel3 r3 => ?_) q⟩
  subst r3
  have r1' := (r1.ext (e2.frn) fun _ => .inl).ext (e3.frn) fun _ => .inl
  have e13 := (e1.trans e2).trans e3
  unfold rSl3 at q
  split at q
  · cases r1' with
    | @tup A xs ds ht hr =>
      refine .inl ⟨_, _, rfl, ht.sq, fun hw => ?_, fun _ p hp => ?_⟩
      · refine q _ H3 ρ3 e13 rel3 (.tup ht ?_)
        have z := hr.cut l' u'
        unfold cutV at z
        rw [hw.1, hw.2, List.drop_zero, Nat.sub_zero, List.take_length] at z
        exact z
      · exact q _ _ ρ3 (e13.trans (Ext.same (same_upd hp))) (rel3.same (same_upd hp)) (rp_tup rel3.trk hp (hr.cut _ _))
  · cases r1' with
    | lst ht hr => exact .inr ⟨_, _, rfl, ht.sq, fun p hp => q _ _ ρ3 (e13.trans (Ext.same (same_upd hp))) (rel3.same (same_upd hp)) (rp_lst rel3.trk hp (hr.cut _ _))⟩
  · exact q.elim

/-! ## calls of built-ins, one argument -/
theorem mkB {id : String} {r : List V → Hp → VK → Prop} {x : Str} {p : Pos} {ta' : TE} (hc : CallR X (.builtin id) r) (hg : Gl X x) (hm : X.mg x = none) (hv : bootBuiltins x = some (.builtin id)) (h : PE X a ta') (hn : x ≠ "__name__" := by decide) (hdb : (x == ("__debug__" : Str)) = false := by decide)
    (he : starEach [a] X.env = (false, eval a X.env) :: starEach [] X.env := by rfl) : PE X (.Call (.Name x p) [a] [] pos) (tUn (fun v H Q => r [v] H Q) ta') := pe_callB hc hg hm hv (pa_cons h pa_nil he) hn hdb he rfl
theorem mkTy {T : String} {r : List V → Hp → VK → Prop} {x : Str} {p : Pos} {ta' : TE} (hc : CallR X (.type T) r) (hg : Gl X x) (hm : X.mg x = none) (hv : bootBuiltins x = some (.type T)) (h : PE X a ta') (hn : x ≠ "__name__" := by decide) (hdb : (x == ("__debug__" : Str)) = false := by decide)
    (he : starEach [a] X.env = (false, eval a X.env) :: starEach [] X.env := by rfl) : PE X (.Call (.Name x p) [a] [] pos) (tUn (fun v H Q => r [v] H Q) ta') := pe_callTy hc hg hm hv (pa_cons h pa_nil he) hn hdb he rfl
def rLen3 (x : D) (k : D → Prop) : Prop := match x with
  | .tuple xs => k (.int (xs.length : Nat))
  | .list xs => k (.int (xs.length : Nat))
  | .str z => z.length ≤ sizeLine ∧ k (.int (z.length : Nat))
  | _ => False
theorem len3 {p : Pos} (hg : Gl X "len") (hm : X.mg "len" = none) (ha : PE3 X E a ta) (he : starEach [a] X.env = (false, eval a X.env) :: starEach [] X.env := by rfl) : PE3 X E (.Call (.Name "len" p) [a] [] pos) (tU3 rLen3 ta) :=
  un3 (fun _ h => mkB (call_len_seq.or call_len_str) hg hm PySem.boot_len h (by decide) (by decide) he) (fun O H v x k Q _ rx h hq => by
    unfold rLen3 at h
    split at h
    · cases rx with
      | tup ht hr => exact .inl ⟨_, _, rfl, .inr ht.sq, hq _ _ H (Same.refl H) (by rw [hr.length]; exact .int _) h⟩
    · cases rx with
      | lst ht hr => exact .inl ⟨_, _, rfl, .inl ht.sq, hq _ _ H (Same.refl H) (by rw [hr.length]; exact .int _) h⟩
    · cases rx
      exact .inr ⟨_, rfl, h.1, hq _ _ H (Same.refl H) (.int _) h.2⟩
    · exact h.elim) (fun x k k' hk h => by
    unfold rLen3 at h ⊢
    split at h
    · exact hk _ h
    · exact hk _ h
    · exact ⟨h.1, hk _ h.2⟩
    · exact h.elim) ha
/-- isinstance with a built-in class -/
def tyN (x : D) : String := match x with
  | .none => "NoneType" | .bool _ => "bool" | .int _ => "int" | .str _ => "str" | .list _ => "list" | .tuple _ => "tuple" | .dict _ => "dict"
theorem Rp.ty {K : PySem.W.Frag} {O : Addr → Prop} {H : Hp} {v : V} {d : D} (h : Rp K O H v d) : TyX K H v (.type (tyN d)) := by
  cases h with
  | non => exact .base .non
  | bl b => exact .base (.bl b)
  | int i => exact .base (.int i)
  | str x => exact .base (.str x)
  | lst h r => exact .base (.lst h.1)
  | tup h r =>
    rcases h with ⟨h | ⟨o, h⟩, _⟩ | h
    · exact .base (.tup h)
    · exact .fTuple h
    · rcases h with (h | ⟨o, h⟩) | ⟨o, its, n, h1, h2, _⟩
      · cases h
      · cases h
      · exact .kTuple h1 h2
  | dic h n r => exact .fDict h
def isInt (x : D) : Bool := match x with | .int _ => true | .bool _ => true | _ => false
def isBool (x : D) : Bool := match x with | .bool _ => true | _ => false
def isStr (x : D) : Bool := match x with | .str _ => true | _ => false
def isTup (x : D) : Bool := match x with | .tuple _ => true | _ => false
def isLst (x : D) : Bool := match x with | .list _ => true | _ => false
def isDct (x : D) : Bool := match x with | .dict _ => true | _ => false
theorem kit_int (x : D) : kitB (tyN x) "int" = some (isInt x) := by cases x <;> (simp only [tyN, isInt]; decide +kernel)
theorem kit_bool (x : D) : kitB (tyN x) "bool" = some (isBool x) := by cases x <;> (simp only [tyN, isBool]; decide +kernel)
theorem kit_str (x : D) : kitB (tyN x) "str" = some (isStr x) := by cases x <;> (simp only [tyN, isStr]; decide +kernel)
theorem kit_tuple (x : D) : kitB (tyN x) "tuple" = some (isTup x) := by cases x <;> (simp only [tyN, isTup]; decide +kernel)
theorem kit_list (x : D) : kitB (tyN x) "list" = some (isLst x) := by cases x <;> (simp only [tyN, isLst]; decide +kernel)
theorem kit_dict (x : D) : kitB (tyN x) "dict" = some (isDct x) := by cases x <;> (simp only [tyN, isDct]; decide +kernel)
def rIsA (f : D → Bool) (x : D) (k : D → Prop) : Prop := k (.bool (f x))
theorem isi3 {T : String} {f : D → Bool} {x : Str} {p p' : Pos} (hk : ∀ x, kitB (tyN x) T = some (f x)) (hv : bootBuiltins x = some (.type T)) (hg : Gl X "isinstance") (hm : X.mg "isinstance" = none) (hgT : Gl X x) (hmT : X.mg x = none)
    (ha : PE3 X E a ta) (hn : x ≠ "__name__" := by decide) (hd : (x == ("__debug__" : Str)) = false := by decide) (he : starEach [a, .Name x p'] X.env = (false, eval a X.env) :: starEach [.Name x p'] X.env := by rfl) (he2 : starEach [.Name x p'] X.env = (false, eval (.Name x p') X.env) :: starEach [] X.env := by rfl)
    (hpl : (backTo pos (starEach [.Name x p'] X.env)).any (·.1) = false := by rfl) : PE3 X E (.Call (.Name "isinstance" p) [a, .Name x p'] [] pos) (tU3 (rIsA f) ta) :=
  un3 (r := fun v H Q => rIsi X.K [v, .ty T] H Q) (fun _ h => pe_callB call_isi hg hm (by decide +kernel) (pa_cons h (pa_cons (pe_bltn (v := .ty T) hgT hmT hv rfl hn hd) pa_nil he2) he) (by decide) (by decide) he hpl) (fun O H v x k Q _ rx h hq =>
    ⟨v, .ty T, _, _, _, rfl, .ty T, rx.ty, kit_ty (hk x), hq _ _ H (Same.refl H) (.bl _) h⟩) (fun x k k' hk h => hk _ h) ha

/-! ## small built-ins on numbers -/
theorem abs3 {p : Pos} (hg : Gl X "abs") (hm : X.mg "abs" = none) (ha : PE3 X E a ta) (he : starEach [a] X.env = (false, eval a X.env) :: starEach [] X.env := by rfl) : PE3 X E (.Call (.Name "abs" p) [a] [] pos) (tU3 (fun x k => asI x fun i => k (.int (if i < 0 then -i else i))) ta) :=
  un3 (fun _ h => mkB call_abs hg hm (by decide +kernel) h (by decide) (by decide) he) (fun O H v x k Q _ rx h hq => by
    obtain ⟨i, rfl, h1⟩ := asI.to h
    cases rx
    exact ⟨i, rfl, hq _ _ H (Same.refl H) (.int _) h1⟩) (fun x k k' hk h => by obtain ⟨i, rfl, h1⟩ := asI.to h; exact asI.of (hk _ h1)) ha
def rInt3 (x : D) (k : D → Prop) : Prop := match x with
  | .int i => k (.int i)
  | .bool b => k (.int (if b then 1 else 0))
  | _ => False
theorem int3c {p : Pos} (hg : Gl X "int") (hm : X.mg "int" = none) (ha : PE3 X E a ta) (he : starEach [a] X.env = (false, eval a X.env) :: starEach [] X.env := by rfl) : PE3 X E (.Call (.Name "int" p) [a] [] pos) (tU3 rInt3 ta) :=
  un3 (fun _ h => mkTy call_int1 hg hm (by decide +kernel) h (by decide) (by decide) he) (fun O H v x k Q _ rx h hq => by
    unfold rInt3 at h
    split at h
    · cases rx
      exact .inl ⟨_, rfl, hq _ _ H (Same.refl H) (.int _) h⟩
    · cases rx
      exact .inr ⟨_, rfl, hq _ _ H (Same.refl H) (.int _) h⟩
    · exact h.elim) (fun x k k' hk h => by
    unfold rInt3 at h ⊢
    split at h
    · exact hk _ h
    · exact hk _ h
    · exact h.elim) ha
theorem mk2 {id : String} {r : List V → Hp → VK → Prop} {x : Str} {p : Pos} {ta' tb' : TE} (hc : CallR X (.builtin id) r) (hg : Gl X x) (hm : X.mg x = none) (hv : bootBuiltins x = some (.builtin id)) (h : PE X a ta') (h' : PE X b tb') (hn : x ≠ "__name__") (hdb : (x == ("__debug__" : Str)) = false)
    (he : starEach [a, b] X.env = (false, eval a X.env) :: starEach [b] X.env) (he2 : starEach [b] X.env = (false, eval b X.env) :: starEach [] X.env) (hpl : (backTo pos (starEach [b] X.env)).any (·.1) = false) : PE X (.Call (.Name x p) [a, b] [] pos) (tOp (fun v u H Q => r [v, u] H Q) ta' tb') :=
  pe_callB hc hg hm hv (pa_cons h (pa_cons h' pa_nil he2) he) hn hdb he hpl
theorem max3 {p : Pos} (hc : X.calm = true) (hg : Gl X "max") (hm : X.mg "max" = none) (ha : PE3 X E a ta) (hb : PE3 X E b tb) (he : starEach [a, b] X.env = (false, eval a X.env) :: starEach [b] X.env := by rfl) (he2 : starEach [b] X.env = (false, eval b X.env) :: starEach [] X.env := by rfl)
    (hpl : (backTo pos (starEach [b] X.env)).any (·.1) = false := by rfl) : PE3 X E (.Call (.Name "max" p) [a, b] [] pos) (tB2 (rII0 fun i j => .int (max i j)) ta tb) :=
  bin3 (fun _ _ h h' => mk2 (call_max2 hc) hg hm (by decide +kernel) h h' (by decide) (by decide) he he2 hpl) (fun O H v u x y k Q _ rx ry h hq => by
    obtain ⟨i, rfl, h1⟩ := asI.to h
    obtain ⟨j, rfl, h2⟩ := asI.to h1
    cases rx; cases ry
    refine ⟨i, j, rfl, hq _ _ H (Same.refl H) ?_ h2⟩
    have z : (if j > i then j else i) = max i j := by omega
    rw [z]; exact .int _) m_rII0 ha hb
theorem min3 {p : Pos} (hc : X.calm = true) (hg : Gl X "min") (hm : X.mg "min" = none) (ha : PE3 X E a ta) (hb : PE3 X E b tb) (he : starEach [a, b] X.env = (false, eval a X.env) :: starEach [b] X.env := by rfl) (he2 : starEach [b] X.env = (false, eval b X.env) :: starEach [] X.env := by rfl)
    (hpl : (backTo pos (starEach [b] X.env)).any (·.1) = false := by rfl) : PE3 X E (.Call (.Name "min" p) [a, b] [] pos) (tB2 (rII0 fun i j => .int (min i j)) ta tb) :=
  bin3 (fun _ _ h h' => mk2 (call_min2 hc) hg hm (by decide +kernel) h h' (by decide) (by decide) he he2 hpl) (fun O H v u x y k Q _ rx ry h hq => by
    obtain ⟨i, rfl, h1⟩ := asI.to h
    obtain ⟨j, rfl, h2⟩ := asI.to h1
    cases rx; cases ry
    refine ⟨i, j, rfl, hq _ _ H (Same.refl H) ?_ h2⟩
    have z : (if j < i then j else i) = min i j := by omega
    rw [z]; exact .int _) m_rII0 ha hb

/-! ## tuple(..), list(..) -/
def rTup3 (x : D) (k : D → Prop) : Prop := match x with
  | .tuple xs => k (.tuple xs)
  | .list xs => k (.tuple xs)
  | _ => False
def rLst3 (x : D) (k : D → Prop) : Prop := match x with
  | .tuple xs => k (.list xs)
  | .list xs => k (.list xs)
  | _ => False
theorem tuple3 {p : Pos} (hg : Gl X "tuple") (hm : X.mg "tuple" = none) (ha : PE3 X E a ta) (he : starEach [a] X.env = (false, eval a X.env) :: starEach [] X.env := by rfl) : PE3 X E (.Call (.Name "tuple" p) [a] [] pos) (tU3 rTup3 ta) :=
  un3 (fun _ h => mkTy call_tuple_of hg hm (by decide +kernel) h (by decide) (by decide) he) (fun O H v x k Q tr rx h hq => by
    unfold rTup3 at h
    split at h
    · cases rx with
      | tup ht hr => exact ⟨_, _, rfl, .inr ⟨ht.sq, hq _ _ H (Same.refl H) (.tup ht hr) h⟩⟩
    · cases rx with
      | lst ht hr => exact ⟨_, _, rfl, .inl ⟨ht.sq, fun p hp => hq _ _ _ (same_upd hp) (rp_tup tr hp hr) h⟩⟩
    · exact h.elim) (fun x k k' hk h => by
    unfold rTup3 at h ⊢
    split at h
    · exact hk _ h
    · exact hk _ h
    · exact h.elim) ha
theorem list3 {p : Pos} (hg : Gl X "list") (hm : X.mg "list" = none) (ha : PE3 X E a ta) (he : starEach [a] X.env = (false, eval a X.env) :: starEach [] X.env := by rfl) : PE3 X E (.Call (.Name "list" p) [a] [] pos) (tU3 rLst3 ta) :=
  un3 (fun _ h => mkTy call_list_of hg hm (by decide +kernel) h (by decide) (by decide) he) (fun O H v x k Q tr rx h hq => by
    unfold rLst3 at h
    split at h
    · cases rx with
      | tup ht hr => exact ⟨_, _, rfl, .inr ht.sq, fun p hp => hq _ _ _ (same_upd hp) (rp_lst tr hp hr) h⟩
    · cases rx with
      | lst ht hr => exact ⟨_, _, rfl, .inl ht.sq, fun p hp => hq _ _ _ (same_upd hp) (rp_lst tr hp hr) h⟩
    · exact h.elim) (fun x k k' hk h => by
    unfold rLst3 at h ⊢
    split at h
    · exact hk _ h
    · exact hk _ h
    · exact h.elim) ha
/-- all(..), any(..) of a list of truths -/
def bools : List D → Option (List Bool)
  | [] => some []
  | .bool b :: r => (bools r).map (b :: ·)
  | _ :: _ => none
theorem bools_map (bs : List Bool) : bools (bs.map PyData.bool) = some bs := by
  induction bs with
  | nil => rfl
  | cons b r ih => simp only [List.map_cons, bools, ih]; rfl
def rAll3 (f : List Bool → Bool) (x : D) (k : D → Prop) : Prop := match x with
  | .list xs => ∃ bs : List Bool, xs = bs.map PyData.bool ∧ k (.bool (f bs))
  | _ => False
theorem rpall_bools {K : PySem.W.Frag} {O : Addr → Prop} {H : Hp} : ∀ {bs : List Bool} {vs : List V}, RpAll K O H vs (bs.map PyData.bool) → vs = bs.map V.bl
  | [], _, .nil => rfl
  | b :: r, _, .cons h t => by cases h; rw [List.map_cons, rpall_bools t]
theorem m_rAll3 {f} : M1 (rAll3 f) := fun x k k' hk h => by
  unfold rAll3 at h ⊢
  split at h
  · obtain ⟨bs, e, h⟩ := h; exact ⟨bs, e, hk _ h⟩
  · exact h.elim
theorem all3 {p : Pos} (hc : X.calm = true) (hg : Gl X "all") (hm : X.mg "all" = none) (ha : PE3 X E a ta) (he : starEach [a] X.env = (false, eval a X.env) :: starEach [] X.env := by rfl) : PE3 X E (.Call (.Name "all" p) [a] [] pos) (tU3 (rAll3 fun bs => bs.all id) ta) :=
  un3 (fun _ h => mkB (cr_all hc) hg hm (by decide +kernel) h (by decide) (by decide) he) (fun O H v x k Q tr rx h hq => by
    unfold rAll3 at h
    split at h
    · obtain ⟨bs, rfl, h⟩ := h
      cases rx with
      | lst ht hr => exact ⟨_, bs, rfl, by rw [← rpall_bools hr]; exact ht.sq, hq _ _ H (Same.refl H) (.bl _) h⟩
    · exact h.elim) m_rAll3 ha
theorem any3 {p : Pos} (hc : X.calm = true) (hg : Gl X "any") (hm : X.mg "any" = none) (ha : PE3 X E a ta) (he : starEach [a] X.env = (false, eval a X.env) :: starEach [] X.env := by rfl) : PE3 X E (.Call (.Name "any" p) [a] [] pos) (tU3 (rAll3 fun bs => bs.any id) ta) :=
  un3 (fun _ h => mkB (cr_any hc) hg hm (by decide +kernel) h (by decide) (by decide) he) (fun O H v x k Q tr rx h hq => by
    unfold rAll3 at h
    split at h
    · obtain ⟨bs, rfl, h⟩ := h
      cases rx with
      | lst ht hr => exact ⟨_, bs, rfl, by rw [← rpall_bools hr]; exact ht.sq, hq _ _ H (Same.refl H) (.bl _) h⟩
    · exact h.elim) m_rAll3 ha
end
end M3

set_option Elab.async false
set_option linter.all false
set_option maxRecDepth 100000
namespace M3
open PySem L2
variable [TabsC]

/-! ## more on relations -/
section
variable {K : PySem.W.Frag}
theorem TL.mono {O O' : Addr → Prop} {H : Hp} {a : Addr} {xs : List V} (le : ∀ b, O' b → O b) (h : TL K O H a xs) : TL K O' H a xs := ⟨h.1, fun z => h.2 (le _ z)⟩
theorem TT.mono {O O' : Addr → Prop} {H : Hp} {a : Addr} {xs : List V} (le : ∀ b, O' b → O b) (h : TT K O H a xs) : TT K O' H a xs := h.imp (fun h => ⟨h.1, fun z => h.2 (le _ z)⟩) fun h => h
mutual
theorem Rp.mono {O O' : Addr → Prop} {H : Hp} (le : ∀ b, O' b → O b) : ∀ {v : V} {d : D}, Rp K O H v d → Rp K O' H v d
  | _, _, .non => .non
  | _, _, .bl b => .bl b
  | _, _, .int i => .int i
  | _, _, .str x => .str x
  | _, _, .lst h r => .lst (h.mono le) (RpAll.mono le r)
  | _, _, .tup h r => .tup (h.mono le) (RpAll.mono le r)
  | _, _, .dic h n r => .dic h (fun z => n (le _ z)) (RpKV.mono le r)
theorem RpAll.mono {O O' : Addr → Prop} {H : Hp} (le : ∀ b, O' b → O b) : ∀ {v : List V} {d : List D}, RpAll K O H v d → RpAll K O' H v d
  | _, _, .nil => .nil
  | _, _, .cons r t => .cons (Rp.mono le r) (RpAll.mono le t)
theorem RpKV.mono {O O' : Addr → Prop} {H : Hp} (le : ∀ b, O' b → O b) : ∀ {v : List (Key × V)} {d : List (D × D)}, RpKV K O H v d → RpKV K O' H v d
  | _, _, .nil => .nil
  | _, _, .cons r t => .cons (Rp.mono le r) (RpKV.mono le t)
end
theorem RpTX.mono {O O' : Addr → Prop} {H : Hp} (le : ∀ b, O' b → O b) : ∀ {v : List (Row × Addr × V)} {d : List (D × D)}, RpTX K O H v d → RpTX K O' H v d
  | _, _, .nil => .nil
  | _, _, .cons h r t => .cons (h.mono le) (r.mono le) (RpTX.mono le t)
theorem ObOk.mono {O O' : Addr → Prop} {H : Hp} {a : Addr} {o : Ob} (le : ∀ b, O' b → O b) (h : ObOk K O H a o) : ObOk K O' H a o := by
  cases o with
  | lst xs => obtain ⟨vs, h, r⟩ := h; exact ⟨vs, h, r.mono le⟩
  | dct ds =>
    obtain ⟨kvs, h, r⟩ := h
    exact ⟨kvs, h, r.mono le⟩
  | dcT ds =>
    obtain ⟨kvs, h, r⟩ := h
    exact ⟨kvs, h, r.mono le⟩
theorem RpV.mono {O O' : Addr → Prop} {H : Hp} {v : V} {x : DV} (le : ∀ b, O' b → O b) (h : RpV K O H v x) : RpV K O' H v x := by
  cases x with
  | d x => exact Rp.mono le h
  | ro xs => obtain ⟨a, vs, h1, h2, h3⟩ := h; exact ⟨a, vs, h1, h2.imp (fun h => ⟨h.1, fun z => h.2 (le _ z)⟩) (fun h => h), h3.mono le⟩
  | ad a => exact h
  | lk a ds => obtain ⟨h1, o, kvs, h, n, r⟩ := h; exact ⟨h1, o, kvs, h, fun z => n (le _ z), r.mono le⟩
  | cl f F => exact ⟨h.1, h.2.1, fun z => h.2.2.1 (le _ z), h.2.2.2⟩
  | fv a I => exact ⟨h.1, h.2.2.2 _ _ _ le h.2.1, h.2.2⟩
/-- a slot's ownership is given up -/
def drop (ρ : Rho) (i : Nat) : Rho := fun j => if j = i then none else ρ j
theorem drop_le {ρ : Rho} {i : Nat} : ∀ b, Ow (drop ρ i) b → Ow ρ b := fun b ⟨j, h⟩ => by
  unfold drop at h
  split at h
  · cases h
  · exact ⟨j, h⟩
theorem dropx_le {F : Addr → Prop} {ρ : Rho} {i : Nat} : ∀ b, Ox F (drop ρ i) b → Ox F ρ b := fun b z => z.imp (drop_le b) id
theorem drop_ne {ρ : Rho} {i j : Nat} {a : Addr} (h : ρ j = some a) (n : j ≠ i) : drop ρ i j = some a := by unfold drop; rw [if_neg n]; exact h
theorem drop_some {ρ : Rho} {i j : Nat} {a : Addr} (h : drop ρ i j = some a) : j ≠ i ∧ ρ j = some a := by
  unfold drop at h
  split at h
  · cases h
  · exact ⟨by assumption, h⟩
theorem Ext.drop {ρ : Rho} {i : Nat} {H : Hp} : Ext (Ow ρ) (Ow ρ) H (Ow (M3.drop ρ i)) H := ⟨fun _ _ h _ _ => h, fun b z => .inl (drop_le b z), fun _ o h => ⟨o, h⟩, Tb.refl⟩
variable {π : Rho} {F : Addr → Prop} {ρ : Rho} {H : Hp} {σ : St} {δ : Sl}
/-- a slot gets data -/
theorem Rel.setD (r : Rel K π F ρ H σ δ) {i : Nat} {v : V} {x : D} (h : Rp K (Ox F ρ) H v x) : Rel K π F (drop ρ i) H (σ.set i (some v)) (δ.set i (some (.d x))) where
  len := by rw [List.length_set, List.length_set]; exact r.len
  dat := fun j y e => by
    by_cases hj : i = j
    · subst hj
      by_cases hl : i < δ.length
      · rw [List.getElem?_set_self hl] at e
        cases y <;> cases e
        exact ⟨v, by rw [List.getElem?_set_self (by rw [r.len]; exact hl)], h.mono dropx_le⟩
      · rw [List.getElem?_eq_none (by rw [List.length_set]; omega)] at e; cases e
    · rw [List.getElem?_set_ne hj] at e
      obtain ⟨u, h1, h2⟩ := r.dat j y e
      exact ⟨u, by rw [List.getElem?_set_ne hj]; exact h1, h2.mono dropx_le⟩
  own := fun j t o e => by
    by_cases hj : i = j
    · subst hj
      by_cases hl : i < δ.length
      · rw [List.getElem?_set_self hl] at e; cases e
      · rw [List.getElem?_eq_none (by rw [List.length_set]; omega)] at e; cases e
    · rw [List.getElem?_set_ne hj] at e
      obtain ⟨a, h1, h2, h3, h4⟩ := r.own j t o e
      exact ⟨a, drop_ne h1 (Ne.symm hj), by rw [List.getElem?_set_ne hj]; exact h2, h3.mono dropx_le, h4⟩
  inj := fun j k a h1 h2 => r.inj j k a (drop_some h1).2 (drop_some h2).2
  trk := fun a z => r.trk a (dropx_le a z)
  dis := fun a z q => r.dis a z (drop_le a q)
  pit := r.pit
  ln := r.ln.set fun p z => by cases x <;> cases z
  tab := r.tab
/-- a slot is forgotten -/
theorem Rel.setN (r : Rel K π F ρ H σ δ) {i : Nat} {w : Option V} : Rel K π F (drop ρ i) H (σ.set i w) (δ.set i none) where
  len := by rw [List.length_set, List.length_set]; exact r.len
  dat := fun j y e => by
    by_cases hj : i = j
    · subst hj
      by_cases hl : i < δ.length
      · rw [List.getElem?_set_self hl] at e; cases y <;> cases e
      · rw [List.getElem?_eq_none (by rw [List.length_set]; omega)] at e; cases e
    · rw [List.getElem?_set_ne hj] at e
      obtain ⟨u, h1, h2⟩ := r.dat j y e
      exact ⟨u, by rw [List.getElem?_set_ne hj]; exact h1, h2.mono dropx_le⟩
  own := fun j t o e => by
    by_cases hj : i = j
    · subst hj
      by_cases hl : i < δ.length
      · rw [List.getElem?_set_self hl] at e; cases e
      · rw [List.getElem?_eq_none (by rw [List.length_set]; omega)] at e; cases e
    · rw [List.getElem?_set_ne hj] at e
      obtain ⟨a, h1, h2, h3, h4⟩ := r.own j t o e
      exact ⟨a, drop_ne h1 (Ne.symm hj), by rw [List.getElem?_set_ne hj]; exact h2, h3.mono dropx_le, h4⟩
  inj := fun j k a h1 h2 => r.inj j k a (drop_some h1).2 (drop_some h2).2
  trk := fun a z => r.trk a (dropx_le a z)
  dis := fun a z q => r.dis a z (drop_le a q)
  pit := r.pit
  ln := r.ln.set fun p z => by cases z
  tab := r.tab
/-- an owned object's content changes -/
theorem Rel.setO (r : Rel K π F ρ H σ δ) {i : Nat} {t : Nat} {o o' : Ob} {a : Addr} {u : HO} (e : δ[i]? = some (some (.own t o))) (ha : ρ i = some a) (h : ∀ H', H' a = some u → (∀ b v, b ≠ a → H b = some v → H' b = some v) → Tb H H' → ObOk K (Ox F ρ) H' a o') :
    Rel K π F ρ (upd H a u) σ (δ.set i (some (.own t o'))) ∧ Ext (Ow ρ) (Ow ρ) H (Ow ρ) (upd H a u) := by
  have hl : i < δ.length := (List.getElem?_eq_some_iff.mp e).1
  have ow : Ow ρ a := ⟨i, ha⟩
  have ex : Ext (Ow ρ) (Ow ρ) H (Ow ρ) (upd H a u) := ⟨fun b v hb n _ => by rw [upd_ne fun z => n (by rw [z]; exact ow)]; exact hb, fun _ z => .inl z, fun b v hb => by
    by_cases z : b = a
    · subst z; exact ⟨u, upd_same⟩
    · exact ⟨v, by rw [upd_ne z]; exact hb⟩, by
    obtain ⟨b, h1, _, h3, _⟩ := r.own i _ o e
    rw [ha] at h1; cases h1
    obtain ⟨v, hv, hv2⟩ := h3.ord
    exact Tb.upd hv hv2⟩
  have ex' := ex.frn (F := F)
  refine ⟨⟨by rw [List.length_set]; exact r.len, fun j y q => ?_, fun j t' o2 q => ?_, r.inj, fun b z => ?_, r.dis, fun p b z => ?_, r.ln.setδ (fun p z => by cases z), ex.tb.t r.tab⟩, ex⟩
  · by_cases hj : i = j
    · subst hj; rw [List.getElem?_set_self hl] at q; cases y <;> cases q
    · rw [List.getElem?_set_ne hj] at q
      obtain ⟨w, h1, h2⟩ := r.dat j y q
      exact ⟨w, h1, h2.ext ex' fun _ => .inl⟩
  · by_cases hj : i = j
    · subst hj
      rw [List.getElem?_set_self hl] at q; cases q
      obtain ⟨b, h1, h2, h3, h4⟩ := r.own i _ o e
      rw [ha] at h1; cases h1
      exact ⟨a, ha, h2, h _ upd_same (fun b v hb hv => by rw [upd_ne hb]; exact hv) ex.tb, h4⟩
    · rw [List.getElem?_set_ne hj] at q
      obtain ⟨b, h1, h2, h3, h4⟩ := r.own j t' o2 q
      exact ⟨b, h1, h2, h3.ext ex fun v hv _ => by rw [upd_ne fun z => hj (r.inj i j a ha (by rw [← z]; exact h1))]; exact hv, h4⟩
  · obtain ⟨v, hv⟩ := r.trk b z
    exact ex.tk b v hv
  · obtain ⟨v, hv⟩ := r.pit p b z
    exact ex.tk b v hv
/-- a new owned object at a fresh address, put into a slot -/
def own1 (ρ : Rho) (i : Nat) (a : Addr) : Rho := fun j => if j = i then some a else ρ j
theorem own1_le {ρ : Rho} {i : Nat} {a : Addr} : ∀ b, Ow (own1 ρ i a) b → Ow ρ b ∨ b = a := fun b ⟨j, h⟩ => by
  unfold own1 at h
  split at h
  · cases h; exact .inr rfl
  · exact .inl ⟨j, h⟩
theorem Rel.newO (r : Rel K π F ρ H σ δ) {i : Nat} {a : Addr} {o : Ob} {H' : Hp} (hn : H a = none) (s : Same H H') (ht : ∃ u, H' a = some u) (ho : ObOk K (Ox F (own1 ρ i a)) H' a o) (hi : i < δ.length) :
    Rel K π F (own1 ρ i a) H' (σ.set i (some (.ref a))) (δ.set i (some (.own 0 o))) ∧ Ext (Ow ρ) (Ow ρ) H (Ow (own1 ρ i a)) H' := by
  have na : ∀ b u, H b = some u → b ≠ a := fun b u h z => by rw [z, hn] at h; cases h
  have ex : Ext (Ow ρ) (Ow ρ) H (Ow (own1 ρ i a)) H' := ⟨fun b v hb _ _ => s b v hb, fun b z => (own1_le b z).imp id fun z => by rw [z]; exact hn, fun b v hb => ⟨v, s b v hb⟩, Tb.same s⟩
  have ex' := ex.frn (F := F)
  have nr : ∀ j, ρ j ≠ some a := fun j h => by
    obtain ⟨u, q⟩ := r.trk a (.inl ⟨j, h⟩)
    rw [hn] at q; cases q
  refine ⟨⟨by rw [List.length_set, List.length_set]; exact r.len, fun j y q => ?_, fun j t' o2 q => ?_, fun j k b h1 h2 => ?_, fun b z => ?_, fun b z q => ?_, fun p b z => ?_, r.ln.set (fun p z => by cases z), r.tab.same s⟩, ex⟩
  · by_cases hj : i = j
    · subst hj; rw [List.getElem?_set_self hi] at q; cases y <;> cases q
    · rw [List.getElem?_set_ne hj] at q
      obtain ⟨w, h1, h2⟩ := r.dat j y q
      exact ⟨w, by rw [List.getElem?_set_ne hj]; exact h1, h2.ext ex' fun _ => .inl⟩
  · by_cases hj : i = j
    · subst hj
      rw [List.getElem?_set_self hi] at q; cases q
      refine ⟨a, by unfold own1; rw [if_pos rfl], by rw [List.getElem?_set_self (by rw [r.len]; exact hi)], ho, fun p z => (nomatch z), fun _ p z => ?_⟩
      obtain ⟨u, q⟩ := r.pit p a z
      rw [hn] at q; cases q
    · rw [List.getElem?_set_ne hj] at q
      obtain ⟨b, h1, h2, h3, h4⟩ := r.own j t' o2 q
      exact ⟨b, by unfold own1; rw [if_neg (Ne.symm hj)]; exact h1, by rw [List.getElem?_set_ne hj]; exact h2, h3.ext ex fun v hv _ => s _ _ hv, h4⟩
  · unfold own1 at h1 h2
    split at h1
    · cases h1
      split at h2
      · rename_i z1 z2; rw [z1, z2]
      · exact absurd h2 (nr k)
    · split at h2
      · cases h2; exact absurd h1 (nr j)
      · exact r.inj j k b h1 h2
  · rcases z with z | z
    · rcases own1_le b z with z | z
      · obtain ⟨u, q⟩ := r.trk b (.inl z); exact ⟨u, s _ _ q⟩
      · rw [z]; exact ht
    · obtain ⟨u, q⟩ := r.trk b (.inr z); exact ⟨u, s _ _ q⟩
  · rcases own1_le b q with q | q
    · exact r.dis b z q
    · obtain ⟨u, q'⟩ := r.trk b (.inr z); rw [q, hn] at q'; cases q'
  · obtain ⟨u, q⟩ := r.pit p b z; exact ⟨u, s _ _ q⟩
end

/-! ## statements -/
structure End3 where
  nx : Sl → Prop
  rt : R3 → Sl → Prop
  bk : Sl → Prop := fun _ => False
  ct : Sl → Prop := fun _ => False
structure End3.le (D D' : End3) : Prop where
  nx : ∀ δ, D.nx δ → D'.nx δ
  rt : ∀ r δ, D.rt r δ → D'.rt r δ
  bk : ∀ δ, D.bk δ → D'.bk δ
  ct : ∀ δ, D.ct δ → D'.ct δ
abbrev TS3 := (Ex3 → Prop) → End3 → Sl → Prop
def MonoS (t : TS3) : Prop := ∀ E E' D D' δ, (∀ e, E e → E' e) → End3.le D D' → t E D δ → t E' D' δ
def RpR (K : PySem.W.Frag) (π : Rho) (F : Addr → Prop) (ρ : Rho) (H : Hp) (v : V) : R3 → Prop
  | .d x => Rp K (Ox F ρ) H v x
  | .own o => ∃ a, v = .ref a ∧ Ow ρ a ∧ (∀ p, π p ≠ some a) ∧ ObOk K (Ox F ρ) H a o
def liftD (D : Ends) (K : PySem.W.Frag) (π : Rho) (F : Addr → Prop) (ρ : Rho) (H : Hp) : End3 where
  nx := fun δ' => ∀ σ' H' ρ', Ex F ρ H ρ' H' → Rel K π F ρ' H' σ' δ' → D.nx σ' H'
  rt := fun r δ' => ∀ v σ' H' ρ', Ex F ρ H ρ' H' → Rel K π F ρ' H' σ' δ' → RpR K π F ρ' H' v r → D.rt v H'
  bk := fun δ' => ∀ σ' H' ρ', Ex F ρ H ρ' H' → Rel K π F ρ' H' σ' δ' → D.bk σ' H'
  ct := fun δ' => ∀ σ' H' ρ', Ex F ρ H ρ' H' → Rel K π F ρ' H' σ' δ' → D.ct σ' H'
theorem liftD.mono {D : Ends} {K : PySem.W.Frag} {π : Rho} {F : Addr → Prop} {ρ ρ1 : Rho} {H H1 : Hp} (e : Ex F ρ H ρ1 H1) : (liftD D K π F ρ H).le (liftD D K π F ρ1 H1) :=
  ⟨fun _ h σ' H' ρ' e' => h σ' H' ρ' (e.trans e'), fun _ _ h v σ' H' ρ' e' => h v σ' H' ρ' (e.trans e'), fun _ h σ' H' ρ' e' => h σ' H' ρ' (e.trans e'), fun _ h σ' H' ρ' e' => h σ' H' ρ' (e.trans e')⟩
theorem End3.le.refl (D : End3) : D.le D := ⟨fun _ h => h, fun _ _ h => h, fun _ h => h, fun _ h => h⟩
def liftS (K : PySem.W.Frag) (E : XK) (t : TS3) : TS := fun D σ H => ∃ π F ρ δ, Rel K π F ρ H σ δ ∧ t (liftX K E F ρ H) (liftD D K π F ρ H) δ
structure PS3 (X : Cx) (E : XK) (st : Stmt) (t : TS3) : Prop where
  mono : MonoS t
  ps : PS X st (liftS X.K E t)
structure PSs3 (X : Cx) (E : XK) (st : List Stmt) (t : TS3) : Prop where
  mono : MonoS t
  ps : PSs X st (liftS X.K E t)
section
variable {X : Cx} {E : XK} {st : Stmt} {rest : List Stmt} {t u : TS3} {e : Expr} {te : T3} {pos : Pos}
def tNext3 : TS3 := fun _ D δ => D.nx δ
def tSeq3 (t u : TS3) : TS3 := fun E D δ => t E { nx := fun δ' => u E D δ', rt := D.rt, bk := D.bk, ct := D.ct } δ
theorem sn3 : PSs3 X E [] tNext3 := ⟨fun _ _ _ _ _ _ h q => h.nx _ q, pss_nil.imp fun D σ H h => by
  obtain ⟨π, F, ρ, δ, rel, q⟩ := h
  exact q σ H ρ Ext.refl rel⟩
theorem sc3 (h1 : PS3 X E st t) (h2 : PSs3 X E rest u) : PSs3 X E (st :: rest) (tSeq3 t u) := by
  refine ⟨fun E E' D D' δ he hd q => h1.mono E E' { nx := fun δ' => u E D δ', rt := D.rt, bk := D.bk, ct := D.ct } _ _ he ⟨fun δ => h2.mono _ _ _ _ _ he hd, hd.rt, hd.bk, hd.ct⟩ q, (pss_cons h1.ps h2.ps).imp fun D σ H h => ?_⟩
  obtain ⟨π, F, ρ, δ, rel, q⟩ := h
  refine ⟨π, F, ρ, δ, rel, h1.mono _ _ { nx := fun δ' => u (liftX X.K E F ρ H) (liftD D X.K π F ρ H) δ', rt := (liftD D X.K π F ρ H).rt, bk := (liftD D X.K π F ρ H).bk, ct := (liftD D X.K π F ρ H).ct } _ _ (fun _ z => z) ⟨fun δ' q σ' H' ρ' e' rel' => ?_, fun _ _ z => z, fun _ z => z, fun _ z => z⟩ q⟩
  exact ⟨π, F, ρ', δ', rel', h2.mono _ _ _ _ _ (liftX.mono e') (liftD.mono e') q⟩
theorem s13 (h1 : PS3 X E st t) : PSs3 X E [st] t := ⟨h1.mono, pss_one h1.ps⟩
theorem pass3 : PS3 X E (.Pass pos) tNext3 := ⟨fun _ _ _ _ _ _ h q => h.nx _ q, ps_pass.imp fun D σ H h => by
  obtain ⟨π, F, ρ, δ, rel, q⟩ := h
  exact q σ H ρ Ext.refl rel⟩
theorem break3 : PS3 X E (.Break pos) (fun _ D δ => D.bk δ) := ⟨fun _ _ _ _ _ _ h q => h.bk _ q, ps_break.imp fun D σ H h => by
  obtain ⟨π, F, ρ, δ, rel, q⟩ := h
  exact q σ H ρ Ext.refl rel⟩
theorem cont3 : PS3 X E (.Continue pos) (fun _ D δ => D.ct δ) := ⟨fun _ _ _ _ _ _ h q => h.ct _ q, ps_continue.imp fun D σ H h => by
  obtain ⟨π, F, ρ, δ, rel, q⟩ := h
  exact q σ H ρ Ext.refl rel⟩
theorem never3 : PS3 X E st (fun _ _ _ => False) := ⟨fun _ _ _ _ _ _ _ q => q, ps_never.imp fun D σ H ⟨_, _, _, _, _, q⟩ => q⟩
theorem nevers3 : PSs3 X E rest (fun _ _ _ => False) := ⟨fun _ _ _ _ _ _ _ q => q, pss_never.imp fun D σ H ⟨_, _, _, _, _, q⟩ => q⟩
theorem expr3 (he : PE3 X E e te) (hs : swapsWith e none pos.line X.env = pure false := by rfl) : PS3 X E (.Expr e pos) (fun E D δ => te E δ fun _ δ1 => D.nx δ1) := by
  refine ⟨fun _ _ _ _ _ hx hd q => he.mono _ _ _ _ _ hx (fun _ δ1 => hd.nx δ1) q, (ps_expr he.pe hs).imp fun D σ H h => ?_⟩
  obtain ⟨π, F, ρ, δ, rel, q⟩ := h
  exact ⟨π, F, ρ, δ, rel, he.mono _ _ _ _ _ (fun _ z => z) (fun x δ1 q v H1 ρ1 e1 rel1 r1 => q σ H1 ρ1 e1 rel1) q⟩
def tRet3 (te : T3) : TS3 := fun E D δ => te E δ fun x δ1 => D.rt (.d x) δ1
theorem ret3 (he : PE3 X E e te) : PS3 X E (.Return (some e) pos) (tRet3 te) := by
  refine ⟨fun _ _ _ _ _ hx hd q => he.mono _ _ _ _ _ hx (fun _ δ1 => hd.rt _ δ1) q, (ps_ret he.pe).imp fun D σ H h => ?_⟩
  obtain ⟨π, F, ρ, δ, rel, q⟩ := h
  exact ⟨π, F, ρ, δ, rel, he.mono _ _ _ _ _ (fun _ z => z) (fun x δ1 q v H1 ρ1 e1 rel1 r1 => q v σ H1 ρ1 e1 rel1 r1) q⟩
def tIfS3 (c : TB3) (t u : TS3) : TS3 := fun E D δ => c E δ fun b δ1 => br b (t E D δ1) (u E D δ1)
theorem if3 {c : Expr} {a b : List Stmt} {tc : TB3} (hc : PT3 X E c tc) (ha : PSs3 X E a t) (hb : PSs3 X E b u) : PS3 X E (.If c a b pos) (tIfS3 tc t u) := by
  refine ⟨fun _ _ _ _ _ hx hd q => hc.mono _ _ _ _ _ hx (fun c δ1 z => z.imp (ha.mono _ _ _ _ _ hx hd) (hb.mono _ _ _ _ _ hx hd)) q, (ps_if hc.pe ha.ps hb.ps).imp fun D σ H h => ?_⟩
  obtain ⟨π, F, ρ, δ, rel, q⟩ := h
  refine ⟨π, F, ρ, δ, rel, hc.mono _ _ _ _ _ (fun _ z => z) (fun x δ1 q v H1 ρ1 e1 rel1 r1 => ?_) q⟩
  subst r1
  refine (q.imp (fun q => ?_) (fun q => ?_)).ite
  · exact ⟨π, F, ρ1, δ1, rel1, ha.mono _ _ _ _ _ (liftX.mono e1) (liftD.mono e1) q⟩
  · exact ⟨π, F, ρ1, δ1, rel1, hb.mono _ _ _ _ _ (liftX.mono e1) (liftD.mono e1) q⟩

/-! ### targets -/
theorem wipe_set (σ : St) (i : Nat) (v : Option V) : ∀ vs : List Nat, i ∈ vs → wipe (σ.set i v) vs = wipe σ vs
  | [], h => by cases h
  | w :: vs, h => by
    unfold wipe
    by_cases hw : i ∈ vs
    · rw [wipe_set σ i v vs hw]
    · have e : i = w := by
        rcases List.mem_cons.mp h with h | h
        · exact h
        · exact absurd h hw
      subst e
      have comm : ∀ us : List Nat, i ∉ us → wipe (σ.set i v) us = (wipe σ us).set i v := by
        intro us
        induction us with
        | nil => intro _; rfl
        | cons u us ih =>
          intro hn
          have h1 : i ≠ u := fun z => hn (by rw [z]; exact List.mem_cons_self)
          have h2 : i ∉ us := fun z => hn (List.mem_cons_of_mem _ z)
          unfold wipe
          rw [ih h2, List.set_comm _ _ h1]
      rw [comm vs hw, List.set_set]
abbrev TG3 := D → Sl → (Sl → Prop) → Prop
def MonoG (g : TG3) : Prop := ∀ x δ Q Q', (∀ δ', Q δ' → Q' δ') → g x δ Q → g x δ Q'
/-- vs: the slots that may be stored -/
def liftG (K : PySem.W.Frag) (vs : List Nat) (g : TG3) : TG := fun v σ H Q => ∃ π F ρ δ x, Rel K π F ρ H σ δ ∧ Rp K (Ox F ρ) H v x ∧ g x δ fun δ' => ∀ σ' H' ρ', Ex F ρ H ρ' H' → Rel K π F ρ' H' σ' δ' → wipe σ' vs = wipe σ vs → Same H H' → Q σ' H'
structure PG3 (X : Cx) (vs : List Nat) (tg : Expr) (g : TG3) : Prop where
  mono : MonoG g
  pg : PG X tg (liftG X.K vs g)
def gName3 (i : Nat) : TG3 := fun x δ Q => Q (δ.set i (some (.d x)))
theorem gn3 (i : Nat) {vs : List Nat} {x : Str} {pos : Pos} (hN : X.N.Nodup) (hi : X.N[i]? = some x := by rfl) (hx : Loc X.env.scope x := by first | exact Or.inl rfl | exact Or.inr rfl) (hf : X.fn x = true ∨ X.env.scope.names.lookup x = some .local := by first | exact .inl rfl | exact .inr rfl | assumption) (hv : i ∈ vs := by decide) : PG3 X vs (.Name x pos) (gName3 i) := by
  refine ⟨fun _ _ _ _ hq q => hq _ q, (pg_name hN hi hx hf).imp fun v σ H Q h => ?_⟩
  obtain ⟨π, F, ρ, δ, x, rel, r, q⟩ := h
  exact q _ H _ Ext.drop (rel.setD r) (wipe_set _ _ _ _ hv) (Same.refl H)
abbrev TGs3 := List D → Sl → (Sl → Prop) → Prop
structure PGs3 (X : Cx) (ws : List Nat) (tgs : List Expr) (g : TGs3) : Prop where
  mono : ∀ x δ Q Q', (∀ δ', Q δ' → Q' δ') → g x δ Q → g x δ Q'
  pg : PGs X tgs fun vs σ H Q => ∃ π F ρ δ xs, Rel X.K π F ρ H σ δ ∧ RpAll X.K (Ox F ρ) H vs xs ∧ g xs δ fun δ' => ∀ σ' H' ρ', Ex F ρ H ρ' H' → Rel X.K π F ρ' H' σ' δ' → wipe σ' ws = wipe σ ws → Same H H' → Q σ' H'
theorem _root_.L2.PGs.imp {X : Cx} {e : List Expr} {t t' : TGs} (h : PGs X e t) (k : ∀ v σ H Q, t' v σ H Q → t v σ H Q) : PGs X e t' := ⟨fun pins s σ H v u Q I r q => h.run pins s σ H v u Q I r (k v σ H Q q)⟩
theorem gs0 {ws : List Nat} : PGs3 X ws [] (fun xs δ Q => xs = [] ∧ Q δ) := ⟨fun _ _ _ _ hq q => ⟨q.1, hq _ q.2⟩, pgs_nil.imp fun v σ H Q h => by
  obtain ⟨π, F, ρ, δ, x, rel, r, e, q⟩ := h
  subst e
  cases r
  exact ⟨rfl, q σ H ρ Ext.refl rel rfl (Same.refl H)⟩⟩
def gCons3 (g : TG3) (gs : TGs3) : TGs3 := fun xs δ Q => match xs with
  | x :: r => g x δ fun δ' => gs r δ' Q
  | [] => False
theorem gs1 {ws : List Nat} {tg : Expr} {tgs : List Expr} {g : TG3} {gs : TGs3} (h1 : PG3 X ws tg g) (h2 : PGs3 X ws tgs gs) (hs : (assignEach (tg :: tgs) X.env).map (·.2) = assign tg X.env :: (assignEach tgs X.env).map (·.2) := by rfl) : PGs3 X ws (tg :: tgs) (gCons3 g gs) := by
  refine ⟨fun xs δ Q Q' hq q => ?_, (pgs_cons h1.pg h2.pg hs).imp fun vs σ H Q h => ?_⟩
  · cases xs with
    | nil => exact q
    | cons x r => exact h1.mono _ _ _ _ (fun δ' => h2.mono _ _ _ _ hq) q
  · obtain ⟨π, F, ρ, δ, xs, rel, r, q⟩ := h
    cases r with
    | nil => exact q.elim
    | cons r rr =>
      refine ⟨_, _, rfl, π, F, ρ, δ, _, rel, r, h1.mono _ _ _ _ (fun δ' q σ' H' ρ' e' rel' w' s' => ?_) q⟩
      exact ⟨π, F, ρ', δ', _, rel', rr.ext (e'.frn) fun _ => .inl, h2.mono _ _ _ _ (fun δ2 q σ2 H2 ρ2 e2 rel2 w2 s2 => q σ2 H2 ρ2 (e'.trans e2) rel2 (w2.trans w') (s'.trans s2)) q⟩
def gTup3 (n : Nat) (gs : TGs3) : TG3 := fun x δ Q => match x with
  | .tuple xs => xs.length = n ∧ gs xs δ Q
  | _ => False
theorem gt3' {ws : List Nat} {es : List Expr} {k : Nat} {gs : TGs3} {n : Nat} {pos : Pos} (hc : X.calm = true) (h : PGs3 X ws es gs) (hn : (assignEach es X.env).length = n := by rfl) (hst : (assignEach es X.env).findIdx? (·.1) = none := by rfl) : PG3 X ws (.Tuple es k pos) (gTup3 n gs) := by
  refine ⟨fun x δ Q Q' hq q => ?_, (pg_tup hc h.pg hn hst).imp fun v σ H Q q => ?_⟩
  · unfold gTup3 at q ⊢
    split at q
    · exact ⟨q.1, h.mono _ _ _ _ hq q.2⟩
    · exact q.elim
  · obtain ⟨π, F, ρ, δ, x, rel, r, q⟩ := q
    unfold gTup3 at q
    split at q
    · obtain ⟨hl, q⟩ := q
      cases r with
      | tup ht hr => exact ⟨_, _, rfl, ht.sq, by rw [hr.length]; exact hl, π, F, ρ, δ, _, rel, hr, q⟩
    · exact q.elim
/-- target = value -/
def tAsg3 (te : T3) (g : TG3) : TS3 := fun E D δ => te E δ fun x δ1 => g x δ1 D.nx
theorem asg3 {ws : List Nat} {tg : Expr} {g : TG3} (he : PE3 X E e te) (hg : PG3 X ws tg g) (hs : swapsWithSole [tg] e pos.line X.env = pure false := by rfl) (hw : swappedStores [tg] e X.env = pure none := by rfl)
    (h1 : (assignEach [tg] X.env).map (·.2) = [assign tg X.env] := by rfl) : PS3 X E (.Assign [tg] e pos) (tAsg3 te g) := by
  refine ⟨fun _ _ _ _ _ hx hd q => he.mono _ _ _ _ _ hx (fun x δ1 => hg.mono _ _ _ _ hd.nx) q, (ps_asg he.pe hg.pg hs hw h1).imp fun D σ H h => ?_⟩
  obtain ⟨π, F, ρ, δ, rel, q⟩ := h
  refine ⟨π, F, ρ, δ, rel, he.mono _ _ _ _ _ (fun _ z => z) (fun x δ1 q v H1 ρ1 e1 rel1 r1 => ?_) q⟩
  exact ⟨π, F, ρ1, δ1, x, rel1, r1, hg.mono _ _ _ _ (fun δ' q σ' H' ρ' e' rel' _ _ => q σ' H' ρ' (e1.trans e') rel') q⟩
theorem set3 (i : Nat) {x : Str} {pos' : Pos} (hN : X.N.Nodup) (he : PE3 X E e te) (hi : X.N[i]? = some x := by rfl) (hx : Loc X.env.scope x := by first | exact Or.inl rfl | exact Or.inr rfl) (hs : swapsWith e (some (.Name x pos')) pos.line X.env = pure false := by rfl)
    (hf : X.fn x = true ∨ X.env.scope.names.lookup x = some .local := by first | exact .inl rfl | exact .inr rfl | assumption) : PS3 X E (.Assign [.Name x pos'] e pos) (tAsg3 te (gName3 i)) := by
  refine ⟨fun _ _ _ _ _ hx hd q => he.mono _ _ _ _ _ hx (fun x δ1 => hd.nx _) q, (ps_set hN hi hx he.pe hs hf).imp fun D σ H h => ?_⟩
  obtain ⟨π, F, ρ, δ, rel, q⟩ := h
  refine ⟨π, F, ρ, δ, rel, he.mono _ _ _ _ _ (fun _ z => z) (fun x δ1 q v H1 ρ1 e1 rel1 r1 => ?_) q⟩
  exact q _ H1 _ (e1.trans Ext.drop) (rel1.setD r1)
end
end M3

set_option Elab.async false
set_option linter.all false
set_option maxRecDepth 100000
namespace M3
open PySem L2
variable [TabsC]

/-! ## owned objects -/
section
variable {K : PySem.W.Frag} {π : Rho} {F : Addr → Prop} {ρ : Rho} {H : Hp} {σ : St} {δ : Sl}
/-- a new object, owned by no slot (its index k lies beyond) -/
theorem Rel.tmpO (r : Rel K π F ρ H σ δ) {k : Nat} {a : Addr} {H' : Hp} (hn : H a = none) (s : Same H H') (ht : ∃ u, H' a = some u) (hk : δ.length ≤ k) :
    Rel K π F (own1 ρ k a) H' σ δ ∧ Ext (Ow ρ) (Ow ρ) H (Ow (own1 ρ k a)) H' ∧ ∀ p, π p ≠ some a := by
  have ex : Ext (Ow ρ) (Ow ρ) H (Ow (own1 ρ k a)) H' := ⟨fun b v hb _ _ => s b v hb, fun b z => (own1_le b z).imp id fun z => by rw [z]; exact hn, fun b v hb => ⟨v, s b v hb⟩, Tb.same s⟩
  have ex' := ex.frn (F := F)
  have nr : ∀ j, ρ j ≠ some a := fun j h => by
    obtain ⟨u, q⟩ := r.trk a (.inl ⟨j, h⟩)
    rw [hn] at q; cases q
  refine ⟨⟨r.len, fun j y q => ?_, fun j t' o2 q => ?_, fun j l b h1 h2 => ?_, fun b z => ?_, fun b z q => ?_, fun p b z => ?_, r.ln, r.tab.same s⟩, ex, fun p z => ?_⟩
  · obtain ⟨w, h1, h2⟩ := r.dat j y q
    exact ⟨w, h1, h2.ext ex' fun _ => .inl⟩
  · obtain ⟨b, h1, h2, h3, h4⟩ := r.own j t' o2 q
    have hj : j < δ.length := (List.getElem?_eq_some_iff.mp q).1
    exact ⟨b, by unfold own1; rw [if_neg (by omega)]; exact h1, h2, h3.ext ex fun v hv _ => s _ _ hv, h4⟩
  · unfold own1 at h1 h2
    split at h1
    · cases h1
      split at h2
      · rename_i z1 z2; rw [z1, z2]
      · exact absurd h2 (nr l)
    · split at h2
      · cases h2; exact absurd h1 (nr j)
      · exact r.inj j l b h1 h2
  · rcases z with z | z
    · rcases own1_le b z with z | z
      · obtain ⟨u, q⟩ := r.trk b (.inl z); exact ⟨u, s _ _ q⟩
      · rw [z]; exact ht
    · obtain ⟨u, q⟩ := r.trk b (.inr z); exact ⟨u, s _ _ q⟩
  · rcases own1_le b q with q | q
    · exact r.dis b z q
    · obtain ⟨u, q'⟩ := r.trk b (.inr z); rw [q, hn] at q'; cases q'
  · obtain ⟨u, q⟩ := r.pit p b z; exact ⟨u, s _ _ q⟩
  · obtain ⟨u, q⟩ := r.pit p a z
    rw [hn] at q; cases q
/-- such an object comes into slot i -/
theorem Rel.move (r : Rel K π F ρ H σ δ) {k i : Nat} {a : Addr} {o : Ob} (hk : δ.length ≤ k) (ha : ρ k = some a) (ho : ObOk K (Ox F ρ) H a o) (np : ∀ p, π p ≠ some a) :
    ∃ ρ', Rel K π F ρ' H (σ.set i (some (.ref a))) (δ.set i (some (.own 0 o))) ∧ Ext (Ow ρ) (Ow ρ) H (Ow ρ') H := by
  by_cases hi : i < δ.length
  · let ρ' : Rho := fun j => if j = i then some a else if j = k then none else ρ j
    have le : ∀ b, Ow ρ' b → Ow ρ b := fun b ⟨j, h⟩ => by
      simp only [ρ'] at h
      split at h
      · cases h; exact ⟨k, ha⟩
      · split at h
        · cases h
        · exact ⟨j, h⟩
    have lex : ∀ b, Ox F ρ' b → Ox F ρ b := fun b z => z.imp (le b) id
    have at_ : ∀ j b, ρ' j = some b → (j = i ∧ b = a) ∨ (j ≠ i ∧ j ≠ k ∧ ρ j = some b) := fun j b h => by
      simp only [ρ'] at h
      split at h
      · cases h; exact .inl ⟨by assumption, rfl⟩
      · split at h
        · cases h
        · exact .inr ⟨by assumption, by assumption, h⟩
    refine ⟨ρ', ⟨by rw [List.length_set, List.length_set]; exact r.len, fun j y q => ?_, fun j t' o2 q => ?_, fun j l b h1 h2 => ?_, fun b z => r.trk b (lex b z), fun b z q => r.dis b z (le b q), r.pit, r.ln.set (fun p z => by cases z), r.tab⟩, ⟨fun _ _ h _ _ => h, fun b z => .inl (le b z), fun _ u h => ⟨u, h⟩, Tb.refl⟩⟩
    · by_cases hj : i = j
      · subst hj; rw [List.getElem?_set_self hi] at q; cases y <;> cases q
      · rw [List.getElem?_set_ne hj] at q
        obtain ⟨w, h1, h2⟩ := r.dat j y q
        exact ⟨w, by rw [List.getElem?_set_ne hj]; exact h1, h2.mono lex⟩
    · by_cases hj : i = j
      · subst hj
        rw [List.getElem?_set_self hi] at q; cases q
        exact ⟨a, by simp only [ρ', if_pos], by rw [List.getElem?_set_self (by rw [r.len]; exact hi)], ho.mono lex, fun p z => (nomatch z), fun _ => np⟩
      · rw [List.getElem?_set_ne hj] at q
        obtain ⟨b, h1, h2, h3, h4⟩ := r.own j t' o2 q
        have hjl : j < δ.length := (List.getElem?_eq_some_iff.mp q).1
        refine ⟨b, ?_, by rw [List.getElem?_set_ne hj]; exact h2, h3.mono lex, h4⟩
        simp only [ρ']
        rw [if_neg (Ne.symm hj), if_neg (by omega)]
        exact h1
    · rcases at_ _ _ h1 with ⟨e1, e2⟩ | ⟨e1, e2, e3⟩
      · rcases at_ _ _ h2 with ⟨f1, f2⟩ | ⟨f1, f2, f3⟩
        · rw [e1, f1]
        · subst e2; exact absurd (r.inj _ _ _ f3 ha) f2
      · rcases at_ _ _ h2 with ⟨f1, f2⟩ | ⟨f1, f2, f3⟩
        · subst f2; exact absurd (r.inj _ _ _ e3 ha) e2
        · exact r.inj _ _ _ e3 f3
  · refine ⟨ρ, ?_, Ext.refl⟩
    rw [List.set_eq_of_length_le (by rw [r.len]; omega), List.set_eq_of_length_le (by omega)]
    exact r
/-- an owned list is given free as data -/
theorem Rel.freeze (r : Rel K π F ρ H σ δ) {i t : Nat} {xs : List D} (e : δ[i]? = some (some (.own t (.lst xs)))) : Rel K π F (drop ρ i) H σ (δ.set i (some (.d (.list xs)))) := by
  obtain ⟨a, h1, h2, ⟨vs, h3, h4⟩, h5⟩ := r.own i _ _ e
  have nd : ¬ Ox F (drop ρ i) a := fun z => by
    rcases z with ⟨j, z⟩ | z
    · obtain ⟨z1, z2⟩ := drop_some z
      exact z1 (r.inj _ _ _ z2 h1)
    · exact r.dis a z ⟨i, h1⟩
  have hl : i < δ.length := (List.getElem?_eq_some_iff.mp e).1
  refine ⟨by rw [List.length_set]; exact r.len, fun j y q => ?_, fun j t' o2 q => ?_, fun j k a h1 h2 => r.inj j k a (drop_some h1).2 (drop_some h2).2, fun b z => r.trk b (dropx_le b z), fun b z q => r.dis b z (drop_le b q), r.pit, r.ln.setδ (fun p z => by cases z), r.tab⟩
  · by_cases hj : i = j
    · subst hj
      rw [List.getElem?_set_self hl] at q; cases y <;> cases q
      exact ⟨_, h2, Rp.lst ⟨h3, nd⟩ (h4.mono dropx_le)⟩
    · rw [List.getElem?_set_ne hj] at q
      obtain ⟨w, k1, k2⟩ := r.dat j y q
      exact ⟨w, k1, k2.mono dropx_le⟩
  · by_cases hj : i = j
    · subst hj
      rw [List.getElem?_set_self hl] at q; cases q
    · rw [List.getElem?_set_ne hj] at q
      obtain ⟨b, k1, k2, k3, k4⟩ := r.own j t' o2 q
      exact ⟨b, drop_ne k1 (Ne.symm hj), k2, k3.mono dropx_le, k4⟩
end
abbrev TW3 := G3 Ob
/-- an expression whose value is a new object -/
def liftO (K : PySem.W.Frag) (E : XK) (t : TW3) : TE := fun σ H Q =>
  ∃ π F ρ δ, Rel K π F ρ H σ δ ∧ t (liftX K E F ρ H) δ fun o δ' => ∀ a H' ρ' k, Ex F ρ H ρ' H' → Rel K π F ρ' H' σ δ' → δ'.length ≤ k → ρ' k = some a → (∀ p, π p ≠ some a) → ObOk K (Ox F ρ') H' a o → Q (.ref a) H'
structure POw (X : Cx) (E : XK) (e : Expr) (t : TW3) : Prop where
  mono : Mono3 t
  pe : PE X e (liftO X.K E t)
section
variable {X : Cx} {E : XK} {a b c e : Expr} {ta tb tc te : T3} {pos : Pos}
theorem setO3 (i : Nat) {to : TW3} {x : Str} {pos' : Pos} (hN : X.N.Nodup) (he : POw X E e to) (hi : X.N[i]? = some x := by rfl) (hx : Loc X.env.scope x := by first | exact Or.inl rfl | exact Or.inr rfl) (hs : swapsWith e (some (.Name x pos')) pos.line X.env = pure false := by rfl)
    (hf : X.fn x = true ∨ X.env.scope.names.lookup x = some .local := by first | exact .inl rfl | exact .inr rfl | assumption) : PS3 X E (.Assign [.Name x pos'] e pos) (fun E D δ => to E δ fun o δ1 => D.nx (δ1.set i (some (.own 0 o)))) := by
  refine ⟨fun _ _ _ _ _ hx hd q => he.mono _ _ _ _ _ hx (fun x δ1 => hd.nx _) q, (ps_set hN hi hx he.pe hs hf).imp fun D σ H h => ?_⟩
  obtain ⟨π, F, ρ, δ, rel, q⟩ := h
  refine ⟨π, F, ρ, δ, rel, he.mono _ _ _ _ _ (fun _ z => z) (fun o δ1 q a H1 ρ1 k e1 rel1 hk ha np ho => ?_) q⟩
  obtain ⟨ρ', r', e'⟩ := rel1.move (i := i) hk ha ho np
  exact q _ H1 ρ' (e1.trans e') r'
theorem retO3 {to : TW3} (he : POw X E e to) : PS3 X E (.Return (some e) pos) (fun E D δ => to E δ fun o δ1 => D.rt (.own o) δ1) := by
  refine ⟨fun _ _ _ _ _ hx hd q => he.mono _ _ _ _ _ hx (fun _ δ1 => hd.rt _ δ1) q, (ps_ret he.pe).imp fun D σ H h => ?_⟩
  obtain ⟨π, F, ρ, δ, rel, q⟩ := h
  exact ⟨π, F, ρ, δ, rel, he.mono _ _ _ _ _ (fun _ z => z) (fun o δ1 q a H1 ρ1 k e1 rel1 hk ha np ho => q _ σ H1 ρ1 e1 rel1 ⟨a, rfl, ⟨k, ha⟩, np, ho⟩) q⟩
/-- return x, x an owned local -/
def onOwn (δ : Sl) (i : Nat) (k : Nat → Ob → Prop) : Prop := match δ[i]? with | some (some (.own t o)) => k t o | _ => False
theorem onOwn.to {δ : Sl} {i : Nat} {k : Nat → Ob → Prop} (h : onOwn δ i k) : ∃ t o, δ[i]? = some (some (.own t o)) ∧ k t o := by
  unfold onOwn at h
  split at h
  · exact ⟨_, _, by assumption, h⟩
  · exact h.elim
theorem onOwn.of {δ : Sl} {i t : Nat} {o : Ob} {k : Nat → Ob → Prop} (e : δ[i]? = some (some (.own t o))) (h : k t o) : onOwn δ i k := by
  unfold onOwn
  rw [e]
  exact h
theorem retV3 (i : Nat) {x : Str} {pos' : Pos} (hN : X.N[i]? = some x := by rfl) (hv : Vis X.env.scope x := by first | exact Or.inl rfl | exact Or.inr (Or.inl rfl) | exact Or.inr (Or.inr rfl)) (hd : (x == ("__debug__" : Str)) = false := by decide)
    (hcd : (x == ("__classdict__" : Str)) = false := by decide) : PS3 X E (.Return (some (.Name x pos')) pos) (fun E D δ => onOwn δ i fun t o => t = 0 ∧ D.rt (.own o) δ) := by
  refine ⟨fun _ _ _ _ _ hx hd q => ?_, (ps_ret (pe_var hN hv hd hcd)).imp fun D σ H h => ?_⟩
  · obtain ⟨t, o, e, q⟩ := q.to
    exact onOwn.of e ⟨q.1, hd.rt _ _ q.2⟩
  · obtain ⟨π, F, ρ, δ, rel, q⟩ := h
    obtain ⟨t, o, e, ht, q⟩ := q.to
    subst ht
    obtain ⟨a, h1, h2, h3, h4, h5⟩ := rel.own i _ _ e
    exact ⟨_, h2, q _ σ H ρ Ext.refl rel ⟨a, rfl, ⟨i, h1⟩, h5 rfl, h3⟩⟩
/-- [a, b, ..] as an owned list -/
theorem olst3 {es : List Expr} {t : TA3} (h : PA3 X E es t) : POw X E (.List es pos) (fun E δ Q => t E δ fun xs δ1 => xs.length ≤ sizeLine ∧ Q (.lst xs) δ1) := by
  refine ⟨fun _ _ _ _ _ he hq q => h.mono _ _ _ _ _ he (fun xs δ1 z => ⟨z.1, hq _ _ z.2⟩) q, (pe_lst h.pa).imp fun σ H Q q => ?_⟩
  obtain ⟨π, F, ρ, δ, rel, q⟩ := q
  refine ⟨π, F, ρ, δ, rel, h.mono _ _ _ _ _ (fun _ z => z) (fun xs δ1 q vs H1 ρ1 e1 rel1 r1 => ⟨by rw [r1.length]; exact q.1, fun p hp => ?_⟩) q⟩
  obtain ⟨r2, e2, np⟩ := rel1.tmpO (k := δ1.length) (a := p) hp (same_upd (o := .lst vs) hp) ⟨_, upd_same⟩ (Nat.le_refl _)
  exact q.2 p _ _ δ1.length (e1.trans e2) r2 (Nat.le_refl _) (by unfold own1; rw [if_pos rfl]) np ⟨vs, upd_same, r1.ext (e2.frn) fun _ => .inl⟩
/-! ### reading an owned list -/
def onLst (δ : Sl) (i : Nat) (k : List D → Prop) : Prop := match δ[i]? with | some (some (.own _ (.lst xs))) => k xs | some (some (.ro xs)) => k xs | _ => False
theorem Rel.onLst {K : PySem.W.Frag} {π : Rho} {F : Addr → Prop} {ρ : Rho} {H : Hp} {σ : St} {δ : Sl} {i : Nat} {k : List D → Prop} (r : Rel K π F ρ H σ δ) (h : M3.onLst δ i k) : ∃ a vs xs, σ[i]? = some (some (.ref a)) ∧ SqL K H a vs ∧ RpAll K (Ox F ρ) H vs xs ∧ k xs := by
  unfold M3.onLst at h
  split at h
  · rename_i q
    obtain ⟨a, h1, h2, ⟨vs, h3, h4⟩, _⟩ := r.own i _ _ q
    exact ⟨a, vs, _, h2, SqL.of h3, h4, h⟩
  · rename_i xs q
    obtain ⟨v, h1, a, vs, rfl, h2, h3⟩ := r.dat i (.ro xs) q
    exact ⟨a, vs, _, h1, h2.sq, h3, h⟩
  · exact h.elim
theorem onLst.imp {δ : Sl} {i : Nat} {k k' : List D → Prop} (h : onLst δ i k) (f : ∀ xs, k xs → k' xs) : onLst δ i k' := by
  unfold onLst at h ⊢
  split at h
  · exact f _ h
  · exact f _ h
  · exact h.elim
def tIxO (i : Nat) (tb : T3) : T3 := fun E δ Q => onLst δ i fun _ => tb E δ fun y δ1 => asI y fun j => onLst δ1 i fun xs => ∃ d, atI xs j = some d ∧ Q d δ1
theorem ixO3 (i : Nat) {x : Str} {pos' : Pos} (hb : PE3 X E b tb) (hs : PlainIx b := by exact fun _ _ => rfl) (hN : X.N[i]? = some x := by rfl) (hv : Vis X.env.scope x := by first | exact Or.inl rfl | exact Or.inr (Or.inl rfl) | exact Or.inr (Or.inr rfl)) (hd : (x == ("__debug__" : Str)) = false := by decide)
    (hcd : (x == ("__classdict__" : Str)) = false := by decide) : PE3 X E (.Subscript (.Name x pos') b pos) (tIxO i tb) := by
  refine ⟨fun _ _ _ _ _ hx hq q => ?_, (pe_ix ix_list (pe_var hN hv hd hcd) hb.pe hs).imp fun σ H Q h => ?_⟩
  · refine q.imp fun _ q => hb.mono _ _ _ _ _ hx (fun y δ1 z => ?_) q
    obtain ⟨j, rfl, z1⟩ := asI.to z
    exact asI.of (z1.imp fun xs ⟨d, e, q⟩ => ⟨d, e, hq _ _ q⟩)
  · obtain ⟨π, F, ρ, δ, rel, q⟩ := h
    obtain ⟨v, _, _, hσ, _, _, q⟩ := rel.onLst q
    refine ⟨_, hσ, π, F, ρ, δ, rel, hb.mono _ _ _ _ _ (fun _ z => z) (fun y δ1 q w H1 ρ1 e1 rel1 r1 => ?_) q⟩
    obtain ⟨j, rfl, q⟩ := asI.to q
    obtain ⟨a, vs, xs, h1, h2, h3, d, h4, h5⟩ := rel1.onLst q
    rw [hσ] at h1; cases h1
    cases r1
    obtain ⟨u, h6, h7⟩ := h3.atI h4
    exact ⟨_, vs, j, u, rfl, rfl, h2, h6, h5 u H1 ρ1 e1 rel1 h7⟩
def tUO (i : Nat) (r3 : List D → (D → Prop) → Prop) : T3 := fun _ δ Q => onLst δ i fun xs => r3 xs fun z => Q z δ
theorem unO3 (i : Nat) {x : Str} {pos' : Pos} {r : V → Hp → VK → Prop} {r3 : List D → (D → Prop) → Prop} (mk : ∀ ta', PE X (.Name x pos') ta' → PE X e (tUn r ta'))
    (hr : ∀ (O : Addr → Prop) (H : Hp) (a : Addr) (vs : List V) (xs : List D) (k : D → Prop) (Q : VK), Trk O H → SqL X.K H a vs → RpAll X.K O H vs xs → r3 xs k → (∀ z w H', Same H H' → Rp X.K O H' w z → k z → Q w H') → r (.ref a) H Q)
    (m : ∀ xs k k', (∀ z, k z → k' z) → r3 xs k → r3 xs k') (hN : X.N[i]? = some x := by rfl) (hv : Vis X.env.scope x := by first | exact Or.inl rfl | exact Or.inr (Or.inl rfl) | exact Or.inr (Or.inr rfl)) (hd : (x == ("__debug__" : Str)) = false := by decide)
    (hcd : (x == ("__classdict__" : Str)) = false := by decide) : PE3 X E e (tUO i r3) := by
  refine ⟨fun _ _ _ _ _ hx hq q => q.imp fun xs => m _ _ _ fun z => hq _ _, (mk _ (pe_var hN hv hd hcd)).imp fun σ H Q h => ?_⟩
  obtain ⟨π, F, ρ, δ, rel, q⟩ := h
  obtain ⟨a, vs, xs, h1, h2, h3, q⟩ := rel.onLst q
  exact ⟨_, h1, hr _ H a vs xs _ Q rel.trk h2 h3 q fun z w H' s r q => q w H' ρ (Ext.same s) (rel.same s) r⟩
theorem lenO3 (i : Nat) {x : Str} {pos' p : Pos} (hg : Gl X "len") (hm : X.mg "len" = none) (he : starEach [.Name x pos'] X.env = (false, eval (.Name x pos') X.env) :: starEach [] X.env := by rfl) (hN : X.N[i]? = some x := by rfl) (hv : Vis X.env.scope x := by first | exact Or.inl rfl | exact Or.inr (Or.inl rfl) | exact Or.inr (Or.inr rfl)) (hd : (x == ("__debug__" : Str)) = false := by decide)
    (hcd : (x == ("__classdict__" : Str)) = false := by decide) : PE3 X E (.Call (.Name "len" p) [.Name x pos'] [] pos) (tUO i fun xs k => k (.int (xs.length : Nat))) :=
  unO3 i (fun _ h => mkB call_len_seq hg hm PySem.boot_len h (by decide) (by decide) he) (fun O H a vs xs k Q tr hs hr h hq => ⟨_, _, rfl, .inl hs, hq _ _ H (Same.refl H) (by rw [hr.length]; exact .int _) h⟩) (fun _ _ _ hk h => hk _ h) hN hv hd hcd
theorem tupleO3 (i : Nat) {x : Str} {pos' p : Pos} (hg : Gl X "tuple") (hm : X.mg "tuple" = none) (he : starEach [.Name x pos'] X.env = (false, eval (.Name x pos') X.env) :: starEach [] X.env := by rfl) (hN : X.N[i]? = some x := by rfl) (hv : Vis X.env.scope x := by first | exact Or.inl rfl | exact Or.inr (Or.inl rfl) | exact Or.inr (Or.inr rfl)) (hd : (x == ("__debug__" : Str)) = false := by decide)
    (hcd : (x == ("__classdict__" : Str)) = false := by decide) : PE3 X E (.Call (.Name "tuple" p) [.Name x pos'] [] pos) (tUO i fun xs k => k (.tuple xs)) :=
  unO3 i (fun _ h => mkTy call_tuple_of hg hm (by decide +kernel) h (by decide) (by decide) he) (fun O H a vs xs k Q tr hs hr h hq => ⟨_, _, rfl, .inl ⟨hs, fun p hp => hq _ _ _ (same_upd hp) (rp_tup tr hp hr) h⟩⟩) (fun _ _ _ hk h => hk _ h) hN hv hd hcd
/-- x.append(e) -/
def onL (δ : Sl) (i : Nat) (k : Nat → List D → Prop) : Prop := match δ[i]? with | some (some (.own t (.lst xs))) => k t xs | _ => False
theorem onL.to {δ : Sl} {i : Nat} {k : Nat → List D → Prop} (h : onL δ i k) : ∃ t xs, δ[i]? = some (some (.own t (.lst xs))) ∧ k t xs := by
  unfold onL at h
  split at h
  · exact ⟨_, _, by assumption, h⟩
  · exact h.elim
theorem onL.of {δ : Sl} {i t : Nat} {xs : List D} {k : Nat → List D → Prop} (e : δ[i]? = some (some (.own t (.lst xs)))) (h : k t xs) : onL δ i k := by
  unfold onL
  rw [e]
  exact h
theorem app3 (i : Nat) {x : Str} {pos' p' pos2 : Pos} (he : PE3 X E e te) (hs : starEach [e] X.env = (false, eval e X.env) :: starEach [] X.env := by rfl) (hN : X.N[i]? = some x := by rfl) (hv : Vis X.env.scope x := by first | exact Or.inl rfl | exact Or.inr (Or.inl rfl) | exact Or.inr (Or.inr rfl)) (hd : (x == ("__debug__" : Str)) = false := by decide)
    (hcd : (x == ("__classdict__" : Str)) = false := by decide) (hw : swapsWith (.Call (.Attribute (.Name x pos') "append" p') [e] [] pos) none pos2.line X.env = pure false := by rfl)
    (hfew : ((backTo pos (starEach [e] X.env)).all (fun x => !x.1) && (backToKw pos (keywordEach [] X.env)).all (fun x => x.1.isSome)
      && decide (([e] : List Expr).length + ([] : List Keyword).length + (if ([] : List Keyword).isEmpty then 0 else 1) < 30)) = true := by rfl)
    (hline : (p'.endLine == pos.line) = true := by rfl) : PS3 X E (.Expr (.Call (.Attribute (.Name x pos') "append" p') [e] [] pos) pos2) (fun E D δ => onL δ i fun _ _ => te E δ fun y δ1 => onL δ1 i fun t xs => xs.length < sizeLine ∧ D.nx (δ1.set i (some (.own t (.lst (xs ++ [y])))))) := by
  refine ⟨fun _ _ _ _ _ hx hd q => ?_, (ps_expr (pe_bm PySem.F.plainAttrs_list PySem.F.slot_list_append PySem.F.type_list_append mt_append (pe_var hN hv hd hcd) (pa_cons he.pe pa_nil hs) rfl hfew hline hs rfl) hw).imp fun D σ H h => ?_⟩
  · obtain ⟨t, xs, e, q⟩ := q.to
    refine onL.of e (he.mono _ _ _ _ _ hx (fun y δ1 z => ?_) q)
    obtain ⟨t, xs, e, q1, q2⟩ := z.to
    exact onL.of e ⟨q1, hd.nx _ q2⟩
  · obtain ⟨π, F, ρ, δ, rel, q⟩ := h
    obtain ⟨t, xs, e, q⟩ := q.to
    obtain ⟨a, _, hσ, ⟨vs, h3, _⟩, _⟩ := rel.own i _ _ e
    refine ⟨_, hσ, .inl ⟨rfl, _, .inl (.inl h3)⟩, π, F, ρ, δ, rel, he.mono _ _ _ _ _ (fun _ z => z) (fun y δ1 q w H1 ρ1 e1 rel1 r1 => ?_) q⟩
    obtain ⟨t, xs, e', q1, q2⟩ := q.to
    obtain ⟨a', ha', hσ', ⟨vs', h3', h4'⟩, _⟩ := rel1.own i _ _ e'
    rw [hσ] at hσ'; cases hσ'
    refine ⟨_, vs', w, rfl, rfl, h3', by rw [h4'.length]; exact q1, ?_⟩
    obtain ⟨r2, e2⟩ := rel1.setO (o' := .lst (xs ++ [y])) (u := .lst (vs' ++ [w])) e' ha' fun H' hH' keep ktb => ⟨_, hH', (h4'.append (.cons r1 .nil)).ext (P := Ow ρ1) ⟨fun b o hb n _ => keep b o (fun z => n (by rw [z]; exact ⟨i, ha'⟩)) hb, fun _ z => .inl z, fun b o hb => by
      by_cases z : b = a
      · rw [z]; exact ⟨_, hH'⟩
      · exact ⟨o, keep b o z hb⟩, ktb⟩ fun _ => .inl⟩
    exact q2 σ _ ρ1 (e1.trans e2) r2
/-- x[j] = e -/
theorem setIx3 (i : Nat) {x : Str} {pos' p' : Pos} (he : PE3 X E e te) (hb : PE3 X E b tb) (hN : X.N[i]? = some x := by rfl) (hv : Vis X.env.scope x := by first | exact Or.inl rfl | exact Or.inr (Or.inl rfl) | exact Or.inr (Or.inr rfl)) (hd : (x == ("__debug__" : Str)) = false := by decide)
    (hcd : (x == ("__classdict__" : Str)) = false := by decide) (ha : ∀ v, assign (.Subscript (.Name x pos') b p') X.env v = (do
      let ov ← holding [v] (eval (.Name x pos') X.env)
      let iv ← holding [v, ov] (eval b X.env)
      standAt p'
      holding [v, ov, iv] (setItem ov iv v)
      release [v, ov, iv] []) := by intro _; rfl) (hs : swapsWithSole [.Subscript (.Name x pos') b p'] e pos.line X.env = pure false := by rfl) (hw : swappedStores [.Subscript (.Name x pos') b p'] e X.env = pure none := by rfl)
    (h1 : (assignEach [.Subscript (.Name x pos') b p'] X.env).map (·.2) = [assign (.Subscript (.Name x pos') b p') X.env] := by rfl) :
    PS3 X E (.Assign [.Subscript (.Name x pos') b p'] e pos) (fun E D δ => te E δ fun y δ1 => onL δ1 i fun _ _ => tb E δ1 fun z δ2 => asI z fun j => onL δ2 i fun t xs => ∃ n, ixN xs.length j = some n ∧ D.nx (δ2.set i (some (.own t (.lst (xs.set n y)))))) := by
  refine ⟨fun _ _ _ _ _ hx hd q => he.mono _ _ _ _ _ hx (fun y δ1 z => ?_) q, (ps_asg he.pe (pg_sub (pe_var hN hv hd hcd) hb.pe set_list ha) hs hw h1).imp fun D σ H h => ?_⟩
  · obtain ⟨t, xs, e, z⟩ := z.to
    refine onL.of e (hb.mono _ _ _ _ _ hx (fun w δ2 z => ?_) z)
    obtain ⟨j, rfl, z1⟩ := asI.to z
    obtain ⟨t, xs, e, n, q1, q2⟩ := z1.to
    exact asI.of (onL.of e ⟨n, q1, hd.nx _ q2⟩)
  · obtain ⟨π, F, ρ, δ, rel, q⟩ := h
    refine ⟨π, F, ρ, δ, rel, he.mono _ _ _ _ _ (fun _ z => z) (fun y δ1 q w H1 ρ1 e1 rel1 r1 => ?_) q⟩
    obtain ⟨t, xs, e, q⟩ := q.to
    obtain ⟨a, _, hσ, ⟨vs, h3, _⟩, _⟩ := rel1.own i _ _ e
    refine ⟨_, hσ, π, F, ρ1, δ1, rel1, hb.mono _ _ _ _ _ (liftX.mono e1) (fun z δ2 q w2 H2 ρ2 e2 rel2 r2 => ?_) q⟩
    obtain ⟨j, rfl, qj⟩ := asI.to q
    obtain ⟨t, xs, e', n, q1, q2⟩ := qj.to
    obtain ⟨a', ha', hσ', ⟨vs', h3', h4'⟩, _⟩ := rel2.own i _ _ e'
    rw [hσ] at hσ'; cases hσ'
    cases r2
    refine ⟨_, vs', j, n, rfl, rfl, h3', by rw [h4'.length]; exact q1, ?_⟩
    have r1' := r1.ext (e2.frn) fun _ => .inl
    obtain ⟨r3, e3⟩ := rel2.setO (o' := .lst (xs.set n y)) (u := .lst (vs'.set n w)) e' ha' fun H' hH' keep ktb => ⟨_, hH', (RpAll.set r1' n h4').ext (P := Ow ρ2) ⟨fun b o hb n _ => keep b o (fun z => n (by rw [z]; exact ⟨i, ha'⟩)) hb, fun _ z => .inl z, fun b o hb => by
      by_cases z : b = a
      · rw [z]; exact ⟨_, hH'⟩
      · exact ⟨o, keep b o z hb⟩, ktb⟩ fun _ => .inl⟩
    exact q2 σ _ ρ2 ((e1.trans e2).trans e3) r3
/-- from here on an owned list is data -/
theorem frz3 (i : Nat) {sts : List Stmt} {t : TS3} (h : PSs3 X E sts t) : PSs3 X E sts (fun E D δ => onL δ i fun _ xs => t E D (δ.set i (some (.d (.list xs))))) := by
  refine ⟨fun _ _ _ _ _ hx hd q => ?_, h.ps.imp fun D σ H q => ?_⟩
  · obtain ⟨t, xs, e, q⟩ := q.to
    exact onL.of e (h.mono _ _ _ _ _ hx hd q)
  · obtain ⟨π, F, ρ, δ, rel, q⟩ := q
    obtain ⟨t, xs, e, q⟩ := q.to
    exact ⟨π, F, _, _, rel.freeze e, h.mono _ _ _ _ _ (liftX.mono Ext.drop) (liftD.mono Ext.drop) q⟩
end
end M3

set_option Elab.async false
set_option linter.all false
set_option maxRecDepth 100000
namespace M3
open PySem L2
variable [TabsC]

/-! ## what is walked -/
/-- the walk J yields the things ds, at whatever state behind (ρ0, H0) -/
def JOk (K : PySem.W.Frag) (F : Addr → Prop) (ρ0 : Rho) (H0 : Hp) (J : It) (ds : List D) : Prop :=
  ∀ (i : Nat) (F' : Addr → Prop) (ρ : Rho) (H : Hp) (P : Addr → Prop), (∀ b, P b → Ox F ρ0 b) → Ext P (Ox F ρ0) H0 (Ox F' ρ) H → Trk (Ox F' ρ) H →
    (∀ x, ds[i]? = some x → J.go i H ∧ ∀ v H', J.yld i H v H' → Same H H' ∧ Rp K (Ox F' ρ) H' v x) ∧ (ds.length ≤ i → J.stop i H)
def liftI (K : PySem.W.Frag) (E : XK) (t : TA3) : TI := fun σ H R => ∃ π F ρ δ, Rel K π F ρ H σ δ ∧ t (liftX K E F ρ H) δ fun ds δ' => ∀ J H' ρ', Ex F ρ H ρ' H' → Rel K π F ρ' H' σ δ' → JOk K F ρ' H' J ds → R J H'
structure PI3 (X : Cx) (E : XK) (tg iter : Expr) (t : TA3) : Prop where
  mono : Mono3 t
  pi : PI X tg iter (liftI X.K E t)
section
variable {X : Cx} {E : XK} {tg a b c e iter : Expr} {ta tb tc te : T3} {ti : TA3} {pos : Pos}
def rngD (lo : Int) (n : Nat) : List D := (List.range n).map fun i => .int (lo + (i : Nat))
theorem rngD_get {lo : Int} {n i : Nat} {x : D} (h : (rngD lo n)[i]? = some x) : i < n ∧ x = .int (lo + (i : Nat)) := by
  unfold rngD at h
  rw [List.getElem?_map] at h
  by_cases hi : i < n
  · rw [List.getElem?_range hi] at h
    exact ⟨hi, by simpa using h.symm⟩
  · rw [List.getElem?_eq_none (by rw [List.length_range]; omega)] at h; cases h
theorem rngD_length {lo : Int} {n : Nat} : (rngD lo n).length = n := by unfold rngD; rw [List.length_map, List.length_range]
theorem jok_range {K : PySem.W.Frag} {F : Addr → Prop} {ρ0 : Rho} {H0 : Hp} (lo : Int) (n : Nat) : JOk K F ρ0 H0 (Itr lo n) (rngD lo n) := by
  intro i F' ρ H P po ex tr
  refine ⟨fun x h => ?_, fun h => ?_⟩
  · obtain ⟨h1, rfl⟩ := rngD_get h
    refine ⟨h1, fun v H' y => ?_⟩
    obtain ⟨e1, e2⟩ := y
    subst e1 e2
    exact ⟨Same.refl _, .int _⟩
  · rw [rngD_length] at h; exact h
def tRng1 (ta : T3) : TA3 := fun E δ Q => ta E δ fun x δ1 => asI x fun j => j < 2 ^ 62 ∧ -(2 ^ 62) ≤ j ∧ Q (rngD 0 j.toNat) δ1
theorem range3 {p : Pos} (hg : Gl X "range") (hm : X.mg "range" = none) (ha : PE3 X E a ta) (hs : starEach [a] X.env = [(false, eval a X.env)] := by rfl) (hs' : starEach [a] X.env = (false, eval a X.env) :: starEach [] X.env := by rfl) : PI3 X E tg (.Call (.Name "range" p) [a] [] pos) (tRng1 ta) := by
  refine ⟨fun _ _ _ _ _ hx hq q => ha.mono _ _ _ _ _ hx (fun x δ1 z => by obtain ⟨j, rfl, z1, z2, z3⟩ := asI.to z; exact asI.of ⟨z1, z2, hq _ _ z3⟩) q, (pi_range1 hg hm (pa_cons ha.pe pa_nil hs') hs).imp fun σ H R h => ?_⟩
  obtain ⟨π, F, ρ, δ, rel, q⟩ := h
  refine ⟨π, F, ρ, δ, rel, ha.mono _ _ _ _ _ (fun _ z => z) (fun x δ1 q v H1 ρ1 e1 rel1 r1 => ?_) q⟩
  obtain ⟨j, rfl, q1, q2, q3⟩ := asI.to q
  cases r1
  exact ⟨j, rfl, q2, q1, q3 _ H1 ρ1 e1 rel1 (jok_range 0 _)⟩
def tRng2 (ta tb : T3) : TA3 := fun E δ Q => ta E δ fun x δ1 => tb E δ1 fun y δ2 => asI x fun i => asI y fun j => (-(2 ^ 62) ≤ i ∧ i < 2 ^ 62 ∧ -(2 ^ 62) ≤ j ∧ j < 2 ^ 62) ∧ Q (rngD i (j - i).toNat) δ2
theorem range3b {p : Pos} (hg : Gl X "range") (hm : X.mg "range" = none) (ha : PE3 X E a ta) (hb : PE3 X E b tb) (hs : starEach [a, b] X.env = [(false, eval a X.env), (false, eval b X.env)] := by rfl) (hs2 : starEach [b] X.env = [(false, eval b X.env)] := by rfl)
    (hs' : starEach [a, b] X.env = (false, eval a X.env) :: starEach [b] X.env := by rfl) (hs2' : starEach [b] X.env = (false, eval b X.env) :: starEach [] X.env := by rfl) : PI3 X E tg (.Call (.Name "range" p) [a, b] [] pos) (tRng2 ta tb) := by
  refine ⟨fun _ _ _ _ _ hx hq q => ha.mono _ _ _ _ _ hx (fun x δ1 => hb.mono _ _ _ _ _ hx fun y δ2 z => ?_) q, (pi_range2 hg hm (pa_cons ha.pe (pa_cons hb.pe pa_nil hs2') hs') hs hs2).imp fun σ H R h => ?_⟩
  · obtain ⟨i, rfl, z1⟩ := asI.to z
    obtain ⟨j, rfl, z2, z3⟩ := asI.to z1
    exact asI.of (asI.of ⟨z2, hq _ _ z3⟩)
  · obtain ⟨π, F, ρ, δ, rel, q⟩ := h
    refine ⟨π, F, ρ, δ, rel, ha.mono _ _ _ _ _ (fun _ z => z) (fun x δ1 q v H1 ρ1 e1 rel1 r1 => ?_) q⟩
    refine ⟨π, F, ρ1, δ1, rel1, hb.mono _ _ _ _ _ (liftX.mono e1) (fun y δ2 q u H2 ρ2 e2 rel2 r2 => ?_) q⟩
    obtain ⟨i, rfl, z1⟩ := asI.to q
    obtain ⟨j, rfl, z2, z3⟩ := asI.to z1
    cases r1; cases r2
    exact ⟨i, j, rfl, z2, z3 _ H2 ρ2 (e1.trans e2) rel2 (jok_range i _)⟩
/-- a tuple or a list of data -/
def iSeq (K : PySem.W.Frag) (tl : TE) : TI := fun σ H R => tl σ H fun x H1 => ∃ a, x = .ref a ∧ (((∃ xs, SqL K H1 a xs) ∧ R (Itl K a) H1) ∨ ((∃ xs, SqT K H1 a xs) ∧ R (Itt K a) H1))
theorem pi_seq {l : Expr} {tl : TE} (hl : PE X l tl) : PI X tg l (iSeq X.K tl) := by
  refine ⟨fun pins s σ H R I h => ?_⟩
  refine thn (hl.run pins s σ H _ I h) fun v s1 ⟨x, H1, I1, r1, q1⟩ => ?_
  obtain ⟨a, e, q1⟩ := q1
  subst e
  cases r1
  rcases q1 with ⟨⟨xs, hq⟩, q⟩ | ⟨⟨xs, hq⟩, q⟩
  · obtain ⟨its, rv, p, hz⟩ := I1.list hq
    refine wpAny_pyIter_list p.isList ?_
    refine ⟨s1.heap.objs.size, [s1.heap.objs.size], _, _, H1, rfl, I1.kept (t' := s1.toks) fun b o e => Heap.get?_push_of_some _ e, turn_list a _, ⟨_, Heap.get?_push_size _ rfl, rfl, rfl⟩, fun b hb => ?_, q⟩
    have e : b = s1.heap.objs.size := by simpa using hb
    subst e
    exact I1.fpOk (Nat.le_refl _) (I1.hok.fresh (Nat.le_refl _))
  · obtain ⟨its, rv, p, hz⟩ := I1.tuple hq
    refine wpAny_pyIter_tuple (show s1.heap.IsTuple a its.toArray from p) ?_
    refine ⟨s1.heap.objs.size, [s1.heap.objs.size], _, _, H1, rfl, I1.kept (t' := s1.toks) fun b o e => Heap.get?_push_of_some _ e, turn_tuple a _, ⟨_, Heap.get?_push_size _ rfl, rfl, rfl⟩, fun b hb => ?_, q⟩
    have e : b = s1.heap.objs.size := by simpa using hb
    subst e
    exact I1.fpOk (Nat.le_refl _) (I1.hok.fresh (Nat.le_refl _))
theorem jok_list {K : PySem.W.Frag} {F : Addr → Prop} {ρ0 : Rho} {H0 : Hp} {a : Addr} {vs : List V} {ds : List D} (h : TL K (Ox F ρ0) H0 a vs) (r : RpAll K (Ox F ρ0) H0 vs ds) : JOk K F ρ0 H0 (Itl K a) ds := by
  intro i F' ρ H P po ex tr
  have h' := h.ext ex po
  have r' := r.ext ex po
  refine ⟨fun x hx => ?_, fun hx => ⟨vs, h'.sq, by rw [r'.length]; exact hx⟩⟩
  obtain ⟨v, hv, rv⟩ := r'.get hx
  refine ⟨⟨vs, v, h'.sq, hv⟩, fun u H' y => ?_⟩
  obtain ⟨e, y⟩ := y
  subst e
  have z := y vs h'.sq
  rw [hv] at z; cases z
  exact ⟨Same.refl _, rv⟩
theorem jok_tup {K : PySem.W.Frag} {F : Addr → Prop} {ρ0 : Rho} {H0 : Hp} {a : Addr} {vs : List V} {ds : List D} (h : TT K (Ox F ρ0) H0 a vs) (r : RpAll K (Ox F ρ0) H0 vs ds) : JOk K F ρ0 H0 (Itt K a) ds := by
  intro i F' ρ H P po ex tr
  have h' := h.ext ex po
  have r' := r.ext ex po
  refine ⟨fun x hx => ?_, fun hx => ⟨vs, h'.sq, by rw [r'.length]; exact hx⟩⟩
  obtain ⟨v, hv, rv⟩ := r'.get hx
  refine ⟨⟨vs, v, h'.sq, hv⟩, fun u H' y => ?_⟩
  obtain ⟨e, y⟩ := y
  subst e
  have z := y vs h'.sq
  rw [hv] at z; cases z
  exact ⟨Same.refl _, rv⟩
def asSeq (x : D) (k : List D → Prop) : Prop := match x with | .tuple xs => k xs | .list xs => k xs | _ => False
theorem asSeq.imp {x : D} {k k' : List D → Prop} (h : asSeq x k) (f : ∀ xs, k xs → k' xs) : asSeq x k' := by
  unfold asSeq at h ⊢
  split at h
  · exact f _ h
  · exact f _ h
  · exact h.elim
def tSeqI (ta : T3) : TA3 := fun E δ Q => ta E δ fun x δ1 => asSeq x fun xs => Q xs δ1
theorem seq3 (ha : PE3 X E a ta) : PI3 X E tg a (tSeqI ta) := by
  refine ⟨fun _ _ _ _ _ hx hq q => ha.mono _ _ _ _ _ hx (fun x δ1 z => z.imp fun xs => hq _ _) q, (pi_seq ha.pe).imp fun σ H R h => ?_⟩
  obtain ⟨π, F, ρ, δ, rel, q⟩ := h
  refine ⟨π, F, ρ, δ, rel, ha.mono _ _ _ _ _ (fun _ z => z) (fun x δ1 q v H1 ρ1 e1 rel1 r1 => ?_) q⟩
  unfold asSeq at q
  split at q
  · cases r1 with
    | tup ht hr => exact ⟨_, rfl, .inr ⟨⟨_, ht.sq⟩, q _ H1 ρ1 e1 rel1 (jok_tup ht hr)⟩⟩
  · cases r1 with
    | lst ht hr => exact ⟨_, rfl, .inl ⟨⟨_, ht.sq⟩, q _ H1 ρ1 e1 rel1 (jok_list ht hr)⟩⟩
  · exact q.elim

/-! ## for -/
def tFor3 (ti : TA3) (g : TG3) (tb : TS3) : TS3 := fun E D δ => ti E δ fun ds δ1 => ∃ Pv : Nat → Sl → Prop, Pv 0 δ1 ∧
  (∀ i x δ2, ds[i]? = some x → Pv i δ2 → g x δ2 fun δ3 => tb E { nx := Pv (i + 1), ct := Pv (i + 1), bk := D.nx, rt := D.rt } δ3) ∧ ∀ δ2, Pv ds.length δ2 → D.nx δ2
theorem for3 {ws : List Nat} {body : List Stmt} {g : TG3} {tb : TS3} (hp : PassesOwn (model X.prog X.w) X.A X.env X.xe) (hc : X.calm = true) (hi : PI3 X E tg iter ti) (hg : PG3 X ws tg g) (hb : PSs3 X E body tb)
    (hs : ∀ x, foldedSetIterable iter X.env x = pure x := by intro _; rfl) : PS3 X E (.For tg iter body [] pos) (tFor3 ti g tb) := by
  refine ⟨fun E1 E2 D1 D2 _ hx hd q => hi.mono _ _ _ _ _ hx (fun ds δ1 ⟨Pv, h0, h1, h2⟩ => ⟨Pv, h0, fun i x δ2 e p => hg.mono _ _ _ _ (fun δ3 => hb.mono E1 E2 { nx := Pv (i + 1), ct := Pv (i + 1), bk := D1.nx, rt := D1.rt } _ _ hx ⟨fun _ z => z, hd.rt, hd.nx, fun _ z => z⟩) (h1 i x δ2 e p), fun δ2 p => hd.nx _ (h2 δ2 p)⟩) q,
    (ps_for hp hc hi.pi hg.pg hb.ps hs).imp fun D σ H h => ?_⟩
  obtain ⟨π, F, ρ, δ, rel, q⟩ := h
  refine ⟨π, F, ρ, δ, rel, hi.mono _ _ _ _ _ (fun _ z => z) (fun ds δ1 ⟨Pv, h0, h1, h2⟩ J H1 ρ1 e1 rel1 jok => ?_) q⟩
  refine ⟨fun i m σ2 H2 => m = ds.length - i ∧ i ≤ ds.length ∧ ∃ ρ2 δ2, Ex F ρ1 H1 ρ2 H2 ∧ Rel X.K π F ρ2 H2 σ2 δ2 ∧ Pv i δ2, ⟨ds.length, by simp, Nat.zero_le _, ρ1, δ1, Ext.refl, rel1, h0⟩, ?_⟩
  rintro i m σ2 H2 ⟨rfl, hil, ρ2, δ2, e2, rel2, p⟩
  obtain ⟨j1, j2⟩ := jok i F ρ2 H2 _ (fun _ => .inl) e2.frn rel2.trk
  by_cases hlt : i < ds.length
  · obtain ⟨go, y⟩ := j1 ds[i] (by simp [hlt])
    refine .inr ⟨go, fun σ' H' => i + 1 ≤ ds.length ∧ ∃ ρ2 δ2, Ex F ρ1 H1 ρ2 H' ∧ Rel X.K π F ρ2 H' σ' δ2 ∧ Pv (i + 1) δ2, fun σ' H' ⟨hl, z⟩ => ⟨ds.length - (i + 1), by omega, rfl, hl, z⟩, fun v H' yl => ?_⟩
    obtain ⟨sm, rp⟩ := y v H' yl
    refine ⟨π, F, ρ2, δ2, _, rel2.same sm, rp, hg.mono _ _ _ _ (fun δ3 q σ3 H3 ρ3 e3 rel3 _ _ => ?_) (h1 i _ δ2 (by simp [hlt]) p)⟩
    have e23 : Ex F ρ1 H1 ρ3 H3 := (e2.trans (Ext.same sm)).trans e3
    refine ⟨π, F, ρ3, δ3, rel3, hb.mono _ _ { nx := Pv (i + 1), ct := Pv (i + 1), bk := (liftD D X.K π F ρ H).nx, rt := (liftD D X.K π F ρ H).rt } _ _ (liftX.mono (e1.trans e23)) ⟨fun δ4 q σ4 H4 ρ4 e4 rel4 => ?_, fun r δ4 q v4 σ4 H4 ρ4 e4 rel4 r4 => ?_, fun δ4 q σ4 H4 ρ4 e4 rel4 => ?_, fun δ4 q σ4 H4 ρ4 e4 rel4 => ?_⟩ q⟩
    · exact ⟨hlt, ρ4, δ4, e23.trans e4, rel4, q⟩
    · exact q v4 σ4 H4 ρ4 ((e1.trans e23).trans e4) rel4 r4
    · exact q σ4 H4 ρ4 ((e1.trans e23).trans e4) rel4
    · exact ⟨hlt, ρ4, δ4, e23.trans e4, rel4, q⟩
  · have e : i = ds.length := by omega
    subst e
    exact .inl ⟨j2 (Nat.le_refl _), h2 δ2 p σ2 H2 ρ2 (e1.trans e2) rel2⟩

/-! ## while -/
def tWhile3 (c : TB3) (tb : TS3) : TS3 := fun E D δ => ∃ Pv : Nat → Sl → Prop, (∃ m, Pv m δ) ∧
  ∀ m δ2, Pv m δ2 → c E δ2 fun b δ3 => br b (tb E { nx := fun δ4 => ∃ m', m' < m ∧ Pv m' δ4, ct := fun δ4 => ∃ m', m' < m ∧ Pv m' δ4, bk := D.nx, rt := D.rt } δ3) (D.nx δ3)
theorem while3 {body : List Stmt} {tc : TB3} {tb : TS3} (hp : PassesOwn (model X.prog X.w) X.A X.env X.xe) (hc : PT3 X E c tc) (hb : PSs3 X E body tb) : PS3 X E (.While c body [] pos) (tWhile3 tc tb) := by
  refine ⟨fun E1 E2 D1 D2 _ hx hd ⟨Pv, h0, h1⟩ => ⟨Pv, h0, fun m δ2 p => hc.mono _ _ _ _ _ hx (fun b δ3 z => z.imp (hb.mono E1 E2 { nx := fun δ4 => ∃ m', m' < m ∧ Pv m' δ4, ct := fun δ4 => ∃ m', m' < m ∧ Pv m' δ4, bk := D1.nx, rt := D1.rt } _ _ hx ⟨fun _ z => z, hd.rt, hd.nx, fun _ z => z⟩) (hd.nx _)) (h1 m δ2 p)⟩,
    (ps_while hp hc.pe hb.ps).imp fun D σ H h => ?_⟩
  obtain ⟨π, F, ρ, δ, rel, Pv, ⟨m0, h0⟩, h1⟩ := h
  refine ⟨fun m σ2 H2 => ∃ ρ2 δ2, Ex F ρ H ρ2 H2 ∧ Rel X.K π F ρ2 H2 σ2 δ2 ∧ Pv m δ2, ⟨m0, ρ, δ, Ext.refl, rel, h0⟩, ?_⟩
  rintro m σ2 H2 ⟨ρ2, δ2, e2, rel2, p⟩
  refine ⟨π, F, ρ2, δ2, rel2, hc.mono _ _ _ _ _ (liftX.mono e2) (fun b δ3 q b' H3 ρ3 e3 rel3 eb => ?_) (h1 m δ2 p)⟩
  subst eb
  have e23 := e2.trans e3
  refine (q.imp (fun q => ?_) (fun q => ?_)).ite
  · refine ⟨fun σ4 H4 => ∃ m', m' < m ∧ ∃ ρ2 δ2, Ex F ρ H ρ2 H4 ∧ Rel X.K π F ρ2 H4 σ4 δ2 ∧ Pv m' δ2, fun σ4 H4 ⟨m', hm, z⟩ => ⟨m', hm, z⟩, π, F, ρ3, δ3, rel3, hb.mono _ _ { nx := fun δ4 => ∃ m', m' < m ∧ Pv m' δ4, ct := fun δ4 => ∃ m', m' < m ∧ Pv m' δ4, bk := (liftD D X.K π F ρ H).nx, rt := (liftD D X.K π F ρ H).rt } _ _ (liftX.mono e23) ⟨fun δ4 ⟨m', hm, q⟩ σ4 H4 ρ4 e4 rel4 => ?_, fun r δ4 q v4 σ4 H4 ρ4 e4 rel4 r4 => ?_, fun δ4 q σ4 H4 ρ4 e4 rel4 => ?_, fun δ4 ⟨m', hm, q⟩ σ4 H4 ρ4 e4 rel4 => ?_⟩ q⟩
    · exact ⟨m', hm, ρ4, δ4, e23.trans e4, rel4, q⟩
    · exact q v4 σ4 H4 ρ4 (e23.trans e4) rel4 r4
    · exact q σ4 H4 ρ4 (e23.trans e4) rel4
    · exact ⟨m', hm, ρ4, δ4, e23.trans e4, rel4, q⟩
  · exact q σ2 H3 ρ3 e23 rel3
end
end M3

set_option Elab.async false
set_option linter.all false
set_option maxRecDepth 100000
namespace M3
open PySem L2
variable [TabsC]

/-! ## comprehensions -/
def wipeS (δ : Sl) : List Nat → Sl
  | [] => δ
  | v :: vs => (wipeS δ vs).set v none
def kd (δ : Sl) (i : Nat) : Option W := match δ[i]? with | some (some (.d x)) => some (.d x) | _ => none
def backS (δ0 δ' : Sl) : List Nat → Sl
  | [] => δ'
  | v :: vs => (backS δ0 δ' vs).set v (kd δ0 v)
theorem wipe_wipe (σ : St) (vs : List Nat) : wipe (wipe σ vs) vs = wipe σ vs := by
  refine List.ext_getElem? fun i => ?_
  by_cases h : i ∈ vs
  · have e : ∀ τ : St, (wipe τ vs)[i]? = if i < τ.length then some none else none := fun τ => by
      cases q : (wipe τ vs)[i]? with
      | none =>
        have := List.getElem?_eq_none_iff.mp q
        rw [wipe_length] at this
        rw [if_neg (by omega)]
      | some o =>
        have hl := (List.getElem?_eq_some_iff.mp q).1
        rw [wipe_length] at hl
        rw [if_pos hl]
        cases o with
        | none => rfl
        | some v => exact absurd h (wipe_some q).2
    rw [e, e, wipe_length]
  · rw [wipe_out h]
theorem backS_length (δ0 δ' : Sl) : ∀ vs : List Nat, (backS δ0 δ' vs).length = δ'.length
  | [] => rfl
  | v :: vs => by unfold backS; rw [List.length_set, backS_length δ0 δ' vs]
theorem backS_out {δ0 δ' : Sl} {j : Nat} : ∀ {vs : List Nat}, j ∉ vs → (backS δ0 δ' vs)[j]? = δ'[j]?
  | [], _ => rfl
  | v :: vs, h => by
    unfold backS
    rw [List.getElem?_set_ne (fun z => h (by rw [z]; exact List.mem_cons_self)), backS_out fun z => h (List.mem_cons_of_mem _ z)]
theorem backS_in {δ0 δ' : Sl} {j : Nat} {w : Option W} : ∀ {vs : List Nat}, j ∈ vs → (backS δ0 δ' vs)[j]? = some w → w = kd δ0 j
  | [], h, _ => by cases h
  | v :: vs, h, e => by
    unfold backS at e
    by_cases hv : v = j
    · subst hv
      by_cases hl : v < (backS δ0 δ' vs).length
      · rw [List.getElem?_set_self hl] at e; cases e; rfl
      · rw [List.getElem?_eq_none (by rw [List.length_set]; omega)] at e; cases e
    · rw [List.getElem?_set_ne hv] at e
      rcases List.mem_cons.mp h with z | z
      · exact absurd z.symm hv
      · exact backS_in z e
theorem kd_d {δ : Sl} {i : Nat} {w : W} (h : kd δ i = some w) : ∃ x, w = .d x ∧ δ[i]? = some (some (.d x)) := by
  unfold kd at h
  split at h
  · cases h; exact ⟨_, rfl, by assumption⟩
  · cases h
section
variable {K : PySem.W.Frag} {π : Rho} {F : Addr → Prop} {ρ : Rho} {H : Hp} {σ : St} {δ : Sl}
theorem Rel.wipe (r : Rel K π F ρ H σ δ) : ∀ vs : List Nat, ∃ ρ', Rel K π F ρ' H (L2.wipe σ vs) (wipeS δ vs) ∧ ∀ b, Ow ρ' b → Ow ρ b
  | [] => ⟨ρ, r, fun _ h => h⟩
  | v :: vs => by
    obtain ⟨ρ', r', le⟩ := r.wipe vs
    exact ⟨_, r'.setN, fun b z => le b (drop_le b z)⟩
theorem Rel.backG {ρ0 : Rho} {H0 : Hp} {σ2 : St} {δ0 δ' : Sl} {vs : List Nat} (r : Rel K π F ρ H σ2 δ') (r0 : Rel K π F ρ0 H0 σ δ0) (e : ∀ v d, Rp K (Ox F ρ0) H0 v d → Rp K (Ox F ρ) H v d) (hw : L2.wipe σ2 vs = L2.wipe σ vs) :
    ∃ ρ', Rel K π F ρ' H σ (backS δ0 δ' vs) ∧ ∀ b, Ow ρ' b → Ow ρ b := by
  have out : ∀ j, j ∉ vs → σ2[j]? = σ[j]? := fun j hj => by
    have z : (L2.wipe σ2 vs)[j]? = (L2.wipe σ vs)[j]? := by rw [hw]
    rw [wipe_out hj, wipe_out hj] at z
    exact z
  have hl : σ2.length = σ.length := by
    have z := congrArg List.length hw
    rw [wipe_length, wipe_length] at z
    exact z
  let ρ' : Rho := fun j => if j ∈ vs then none else ρ j
  have at_ : ∀ j b, ρ' j = some b → j ∉ vs ∧ ρ j = some b := fun j b h => by
    simp only [ρ'] at h
    split at h
    · cases h
    · exact ⟨by assumption, h⟩
  have le : ∀ b, Ow ρ' b → Ow ρ b := fun b ⟨j, h⟩ => ⟨j, (at_ j b h).2⟩
  have lex : ∀ b, Ox F ρ' b → Ox F ρ b := fun b z => z.imp (le b) id
  refine ⟨ρ', ⟨by rw [backS_length, ← hl]; exact r.len, fun j y q => ?_, fun j t o q => ?_, fun j l b h1 h2 => r.inj j l b (at_ _ _ h1).2 (at_ _ _ h2).2, fun b z => r.trk b (lex b z), fun b z q => r.dis b z (le b q), r.pit, fun j p q => by
    by_cases hj : j ∈ vs
    · obtain ⟨x, e1, e2⟩ := kd_d (backS_in hj q).symm
      cases e1
    · rw [backS_out hj] at q
      obtain ⟨a, h1, h2⟩ := r.ln j p q
      exact ⟨a, h1, by rw [← out j hj]; exact h2⟩, r.tab⟩, le⟩
  · by_cases hj : j ∈ vs
    · obtain ⟨x, e1, e2⟩ := kd_d (backS_in hj q).symm
      cases y <;> cases e1
      obtain ⟨v, h1, h2⟩ := r0.dat j (.d x) e2
      exact ⟨v, h1, (e _ _ h2).mono lex⟩
    · rw [backS_out hj] at q
      obtain ⟨v, h1, h2⟩ := r.dat j y q
      exact ⟨v, by rw [← out j hj]; exact h1, h2.mono lex⟩
  · by_cases hj : j ∈ vs
    · obtain ⟨x, e1, e2⟩ := kd_d (backS_in hj q).symm
      cases e1
    · rw [backS_out hj] at q
      obtain ⟨a, h1, h2, h3, h4⟩ := r.own j t o q
      exact ⟨a, by simp only [ρ']; rw [if_neg hj]; exact h1, by rw [← out j hj]; exact h2, h3.mono lex, h4⟩
theorem Rel.back {ρ0 : Rho} {H0 : Hp} {σ2 : St} {δ0 δ' : Sl} {vs : List Nat} (r : Rel K π F ρ H σ2 δ') (r0 : Rel K π F ρ0 H0 σ δ0) (e : Ex F ρ0 H0 ρ H) (hw : L2.wipe σ2 vs = L2.wipe σ vs) :
    ∃ ρ', Rel K π F ρ' H σ (backS δ0 δ' vs) ∧ ∀ b, Ow ρ' b → Ow ρ b := r.backG r0 (fun _ _ h => h.ext (e.frn) fun _ => .inl) hw
theorem ObOk.extG {P O O' : Addr → Prop} {H' : Hp} {a : Addr} {o : Ob} (e : Ext P O H O' H') (po : ∀ b, P b → O b) (ha : ∀ u, H a = some u → Ord u → H' a = some u) (h : ObOk K O H a o) : ObOk K O' H' a o := by
  cases o with
  | lst xs => obtain ⟨vs, h, r⟩ := h; exact ⟨vs, ha _ h ⟨rfl, rfl⟩, r.ext e po⟩
  | dct ds =>
    obtain ⟨kvs, h, r⟩ := h
    exact ⟨kvs, ha _ h ⟨rfl, rfl⟩, r.ext e po⟩
  | dcT ds =>
    obtain ⟨kvs, h, r⟩ := h
    exact ⟨kvs, ha _ h ⟨rfl, rfl⟩, r.ext e po⟩
/-- one foreign object more, a new one -/
def FD (F : Addr → Prop) (d : Addr) : Addr → Prop := fun b => F b ∨ b = d
theorem Rel.addF (r : Rel K π F ρ H σ δ) {d : Addr} {o : HO} (hd : H d = none) : Rel K π (FD F d) ρ (upd H d o) σ δ := by
  have sm : Same H (upd H d o) := same_upd hd
  have nd : ¬ Ox F ρ d := r.fresh hd
  have ex : Ext (Ow ρ) (Ox F ρ) H (Ox (FD F d) ρ) (upd H d o) := ⟨fun b u h _ _ => sm b u h, fun b z => by
    rcases z with z | z | z
    · exact .inl (.inl z)
    · exact .inl (.inr z)
    · exact .inr (by rw [z]; exact hd), fun b u h => ⟨u, sm b u h⟩, Tb.same sm⟩
  refine ⟨r.len, fun j y q => ?_, fun j t o2 q => ?_, r.inj, fun b z => ?_, fun b z q => ?_, fun p b z => ?_, r.ln, r.tab.same sm⟩
  · obtain ⟨v, h1, h2⟩ := r.dat j y q
    exact ⟨v, h1, h2.ext ex fun _ => .inl⟩
  · obtain ⟨a, h1, h2, h3, h4⟩ := r.own j t o2 q
    exact ⟨a, h1, h2, h3.extG ex (fun _ => .inl) (fun u z _ => sm _ _ z), h4⟩
  · rcases z with z | z | z
    · obtain ⟨u, h⟩ := r.trk b (.inl z); exact ⟨u, sm _ _ h⟩
    · obtain ⟨u, h⟩ := r.trk b (.inr z); exact ⟨u, sm _ _ h⟩
    · rw [z]; exact ⟨_, upd_same⟩
  · rcases z with z | z
    · exact r.dis b z q
    · subst z; exact nd (.inl q)
  · obtain ⟨u, h⟩ := r.pit p b z; exact ⟨u, sm _ _ h⟩
/-- a foreign object changes -/
theorem Rel.updF (r : Rel K π F ρ H σ δ) {d : Addr} {o u0 : HO} (hd : F d) (hu : H d = some u0) (ho : Ord u0) : Rel K π F ρ (upd H d o) σ δ ∧ Ext (fun b => b = d) (Ox F ρ) H (Ox F ρ) (upd H d o) := by
  have ex : Ext (fun b => b = d) (Ox F ρ) H (Ox F ρ) (upd H d o) := ⟨fun b u h n _ => by rw [upd_ne n]; exact h, fun b z => .inl z, fun b u h => by
    by_cases z : b = d
    · rw [z]; exact ⟨_, upd_same⟩
    · exact ⟨u, by rw [upd_ne z]; exact h⟩, Tb.upd hu ho⟩
  have po : ∀ b, b = d → Ox F ρ b := fun b z => by rw [z]; exact .inr hd
  refine ⟨⟨r.len, fun j y q => ?_, fun j t o2 q => ?_, r.inj, fun b z => ?_, r.dis, fun p b z => ?_, r.ln, ex.tb.t r.tab⟩, ex⟩
  · obtain ⟨v, h1, h2⟩ := r.dat j y q
    exact ⟨v, h1, h2.ext ex po⟩
  · obtain ⟨a, h1, h2, h3, h4⟩ := r.own j t o2 q
    refine ⟨a, h1, h2, h3.extG ex po (fun u h _ => ?_), h4⟩
    rw [upd_ne fun z => r.dis d hd ⟨j, by rw [← z]; exact h1⟩]
    exact h
  · obtain ⟨u, h⟩ := r.trk b z; exact ex.tk b u h
  · obtain ⟨u, h⟩ := r.pit p b z; exact ex.tk b u h
/-- all but the tables stays -/
theorem Rel.calm {H' : Hp} (r : Rel K π F ρ H σ δ) (fr : ∀ b o, H b = some o → isTbl o = false → H' b = some o) (tk : ∀ b o, H b = some o → ∃ o', H' b = some o') (tb : Tb H H') : Rel K π F ρ H' σ δ ∧ Ex F ρ H ρ H' := by
  have ex : Ex F ρ H ρ H' := ⟨fun b o hb _ t => fr b o hb t, fun _ z => .inl z, tk, tb⟩
  refine ⟨⟨r.len, fun j y q => ?_, fun j t o2 q => ?_, r.inj, fun b z => ?_, r.dis, fun p b z => ?_, r.ln, tb.t r.tab⟩, ex⟩
  · obtain ⟨v, h1, h2⟩ := r.dat j y q
    exact ⟨v, h1, h2.ext ex.frn fun _ => .inl⟩
  · obtain ⟨a, h1, h2, h3, h4⟩ := r.own j t o2 q
    exact ⟨a, h1, h2, h3.ext ex (fun u hu ho => fr a u hu ho.1), h4⟩
  · obtain ⟨u, h⟩ := r.trk b z; exact tk b u h
  · obtain ⟨u, h⟩ := r.pit p b z; exact tk b u h
theorem Rel.lessF {F' : Addr → Prop} (r : Rel K π F' ρ H σ δ) (le : ∀ b, F b → F' b) : Rel K π F ρ H σ δ := by
  have lex : ∀ b, Ox F ρ b → Ox F' ρ b := fun b z => z.imp id (le b)
  refine ⟨r.len, fun j y q => ?_, fun j t o2 q => ?_, r.inj, fun b z => r.trk b (lex b z), fun b z => r.dis b (le b z), r.pit, r.ln, r.tab⟩
  · obtain ⟨v, h1, h2⟩ := r.dat j y q
    exact ⟨v, h1, h2.mono lex⟩
  · obtain ⟨a, h1, h2, h3, h4⟩ := r.own j t o2 q
    exact ⟨a, h1, h2, h3.mono lex, h4⟩
end
abbrev RBl : (Addr → Prop) → Hp → Bool → Bool → Prop := fun _ _ x y => x = y
structure PTs3 (X : Cx) (E : XK) (ifs : List Expr) (t : TB3) : Prop where
  mono : Mono3 t
  pts : PTs X ifs (lift X.K E RBl t)
abbrev XF : XK := fun _ _ _ => False
def tYes3 : TB3 := fun _ δ Q => Q true δ
theorem _root_.L2.PTs.imp {X : Cx} {e : List Expr} {t t' : L2.TT} (h : PTs X e t) (k : ∀ σ H Q, t' σ H Q → t σ H Q) : PTs X e t' := ⟨fun pins s σ H Q I q => h.run pins s σ H Q I (k σ H Q q)⟩
section
variable {X : Cx} {E : XK} {tg a b c e iter elt : Expr} {ifs : List Expr} {ta tb tc te : T3} {ti : TA3} {tt : TB3} {g : TG3} {vs : List Nat} {pos : Pos}
theorem yes3 : PTs3 X E [] tYes3 := ⟨fun _ _ _ _ _ _ hq q => hq _ _ q, pts_nil.imp fun σ H Q h => by
  obtain ⟨π, F, ρ, δ, rel, q⟩ := h
  exact q true H ρ Ext.refl rel rfl⟩
theorem test3 (h : PT3 X E c tt) : PTs3 X E [c] tt := ⟨h.mono, pts_one h.pe⟩
def tLc3 (ti : TA3) (g : TG3) (tt : TB3) (te : T3) (vs : List Nat) : T3 := fun E δ Q => ti E δ fun ds δ1 => ds.length ≤ sizeLine ∧ ∃ Pv : Nat → List D → Sl → Prop, Pv 0 [] δ1 ∧
  (∀ i x acc δ2, ds[i]? = some x → Pv i acc δ2 → g x (wipeS δ2 vs) fun δ3 => tt (fun _ => False) δ3 fun b δ4 => br b (te (fun _ => False) δ4 fun y δ5 => Pv (i + 1) (acc ++ [y]) (backS δ2 δ5 vs)) (Pv (i + 1) acc (backS δ2 δ4 vs))) ∧
  ∀ acc δ2, Pv ds.length acc δ2 → Q (.list acc) δ2
theorem mono_tLc3 (hi : Mono3 ti) : Mono3 (tLc3 ti g tt te vs) := fun _ _ _ _ _ hx hq q => hi _ _ _ _ _ hx (fun ds δ1 ⟨h1, Pv, h2, h3, h4⟩ => ⟨h1, Pv, h2, h3, fun acc δ2 p => hq _ _ (h4 acc δ2 p)⟩) q
theorem lift_lc (hi : Mono3 ti) (hg : MonoG g) (ht : Mono3 tt) (he : Mono3 te) {σ : St} {H : Hp} {Q : VK} (h : lift X.K E (Rp X.K) (tLc3 ti g tt te vs) σ H Q) :
    tLc (liftI X.K E ti) (liftG X.K vs g) (lift X.K XF RBl tt) (lift X.K XF (Rp X.K) te) vs σ H Q := by
  obtain ⟨π, F, ρ, δ, rel, q⟩ := h
  refine ⟨π, F, ρ, δ, rel, hi _ _ _ _ _ (fun _ z => z) (fun ds δ1 ⟨hz, Pv, h0, hs, hd⟩ J H1 ρ1 e1 rel1 jok => ?_) q⟩
  intro L hL
  have nL : ¬ Ox F ρ1 L := rel1.fresh hL
  have exJ : ∀ {ρ2 : Rho} {H2 : Hp}, Ex F ρ1 H1 ρ2 H2 → Ext (Ow ρ1) (Ox F ρ1) H1 (Ox (FD F L) ρ2) H2 := fun {ρ2 H2} e => ⟨e.fr, fun b z => by
    rcases z with z | z | z
    · exact (e.ow b z).imp .inl id
    · exact .inl (.inr z)
    · exact .inr (by rw [z]; exact hL), e.tk, e.tb⟩
  refine ⟨fun i m H2 => m = ds.length - i ∧ i ≤ ds.length ∧ ∃ acc accV ρ2 δ2, Ex F ρ1 H1 ρ2 H2 ∧ Rel X.K π (FD F L) ρ2 H2 σ δ2 ∧ H2 L = some (.lst accV) ∧ RpAll X.K (Ox (FD F L) ρ2) H2 accV acc ∧ acc.length ≤ i ∧ Pv i acc δ2, ⟨ds.length, by simp, Nat.zero_le _, [], [], ρ1, δ1, Ext.same (same_upd hL), rel1.addF hL, upd_same, .nil, Nat.zero_le _, h0⟩, ?_⟩
  rintro i m H2 ⟨rfl, hil, acc, accV, ρ2, δ2, e2, rel2, hH2, ra, hal, p⟩
  obtain ⟨j1, j2⟩ := jok i (FD F L) ρ2 H2 _ (fun _ => .inl) (exJ e2) rel2.trk
  by_cases hlt : i < ds.length
  · obtain ⟨go, y⟩ := j1 ds[i] (by simp [hlt])
    refine .inr ⟨go, fun H' => i + 1 ≤ ds.length ∧ ∃ acc accV ρ2 δ2, Ex F ρ1 H1 ρ2 H' ∧ Rel X.K π (FD F L) ρ2 H' σ δ2 ∧ H' L = some (.lst accV) ∧ RpAll X.K (Ox (FD F L) ρ2) H' accV acc ∧ acc.length ≤ i + 1 ∧ Pv (i + 1) acc δ2, fun H' ⟨hl, z⟩ => ⟨ds.length - (i + 1), by omega, rfl, hl, z⟩, fun v H' yl => ?_⟩
    obtain ⟨sm, rp⟩ := y v H' yl
    have rel2' := rel2.same sm
    obtain ⟨ρw, relw, lew⟩ := rel2'.wipe vs
    have lewx : ∀ b, Ox (FD F L) ρw b → Ox (FD F L) ρ2 b := fun b z => z.imp (lew b) id
    have e2w : Ex (FD F L) ρ2 H2 ρw H' := ⟨fun b u h _ _ => sm b u h, fun b z => .inl (lew b z), fun b u h => ⟨u, sm b u h⟩, Tb.same sm⟩
    refine ⟨π, FD F L, ρw, _, _, relw, rp.mono lewx, hg _ _ _ _ (fun δ3 q σ3 H3 ρ3 e3 rel3 w3 s3 => ?_) (hs i _ acc δ2 (by simp [hlt]) p)⟩
    rw [wipe_wipe] at w3
    refine ⟨w3, π, FD F L, ρ3, δ3, rel3, ht _ _ _ _ _ (fun _ z => z.elim) (fun b δ4 q b' H4 ρ4 e4 rel4 eb => ?_) q⟩
    subst eb
    have e24 : Ex (FD F L) ρ2 H2 ρ4 H4 := (e2w.trans e3).trans e4
    have e14 : Ex F ρ1 H1 ρ4 H4 := e2.trans e24
    refine (q.imp (fun q => ?_) (fun q => ?_)).ite
    · refine ⟨π, FD F L, ρ4, δ4, rel4, he _ _ _ _ _ (fun _ z => z.elim) (fun y δ5 q u H5 ρ5 e5 rel5 r5 => ?_) q⟩
      have e25 := e24.trans e5
      have e15 := e14.trans e5
      have hLo : ¬ Ow ρ2 L := rel2.dis L (.inr rfl)
      have hH5 : H5 L = some (.lst accV) := e25.fr L _ hH2 hLo rfl
      have ra5 := ra.ext (e25.frn) fun _ => .inl
      refine ⟨accV, hH5, by rw [ra5.length]; omega, hlt, ?_⟩
      obtain ⟨ρ6, rel6, le6⟩ := rel5.back rel2 e25 w3
      obtain ⟨rel7, ex7⟩ := rel6.updF (d := L) (o := .lst (accV ++ [u])) (.inr rfl) hH5 ⟨rfl, rfl⟩
      have le6x : ∀ b, Ox (FD F L) ρ6 b → Ox (FD F L) ρ5 b := fun b z => z.imp (le6 b) id
      have po : ∀ b, b = L → Ox (FD F L) ρ6 b := fun b z => by rw [z]; exact .inr (.inr rfl)
      refine ⟨acc ++ [y], accV ++ [u], ρ6, _, ⟨fun b o hb n ht => ?_, fun b z => e15.ow b (le6 b z), fun b o hb => ?_, e15.tb.trans ex7.tb⟩, rel7, upd_same, ((ra5.append (.cons r5 .nil)).mono le6x).ext ex7 po, ?_, q⟩
      · rw [upd_ne fun z => by rw [z, hL] at hb; cases hb]
        exact e15.fr b o hb n ht
      · obtain ⟨o', h'⟩ := e15.tk b o hb
        exact ex7.tk b o' h'
      · rw [List.length_append, List.length_singleton]; omega
    · have hLo : ¬ Ow ρ2 L := rel2.dis L (.inr rfl)
      obtain ⟨ρ6, rel6, le6⟩ := rel4.back rel2 e24 w3
      have le6x : ∀ b, Ox (FD F L) ρ6 b → Ox (FD F L) ρ4 b := fun b z => z.imp (le6 b) id
      exact ⟨hlt, acc, accV, ρ6, _, ⟨e14.fr, fun b z => e14.ow b (le6 b z), e14.tk, e14.tb⟩, rel6, e24.fr L _ hH2 hLo rfl, (ra.ext (e24.frn) fun _ => .inl).mono le6x, by omega, q⟩
  · have e : i = ds.length := by omega
    subst e
    have hLo : ¬ Ow ρ2 L := rel2.dis L (.inr rfl)
    have nL2 : ¬ Ox F ρ2 L := fun z => z.elim hLo fun z => nL (.inr z)
    have lex : ∀ b, Ox F ρ2 b → Ox (FD F L) ρ2 b := fun b z => z.imp id .inl
    exact .inl ⟨j2 (Nat.le_refl _), hd acc δ2 p _ H2 ρ2 (e1.trans e2) (rel2.lessF fun _ => .inl) (.lst ⟨hH2, nL2⟩ (ra.mono lex))⟩
theorem lc3 {scope : Scope} {own : List (Str × Nat)} (hc : X.calm = true) (hN : X.N.Nodup) (hi : PI3 X E tg iter ti) (ok : BlkOk X.N X.env.scope scope own)
    (hg : ∀ (s : Shared) (H : Hp) (C : Addr) (cl : List (Str × Addr)) (fp : List Addr), PG3 (X.blk s H scope (compEnvC scope cl C X.env) fp) (own.map (·.2)) tg g)
    (ht : ∀ (s : Shared) (H : Hp) (C : Addr) (cl : List (Str × Addr)) (fp : List Addr), PTs3 (X.blk s H scope (compEnvC scope cl C X.env) fp) XF ifs tt)
    (he : ∀ (s : Shared) (H : Hp) (C : Addr) (cl : List (Str × Addr)) (fp : List Addr), PE3 (X.blk s H scope (compEnvC scope cl C X.env) fp) XF elt te) (hs : ∀ x, foldedSetIterable iter X.env x = pure x := by intro _; rfl) (s0 : Shared) :
    PE3 X E (.ListComp elt [⟨tg, iter, ifs, 0⟩] scope pos) (tLc3 ti g tt te (own.map (·.2))) :=
  ⟨mono_tLc3 hi.mono, (pe_lc (g := liftG X.K (own.map (·.2)) g) (tt := lift X.K XF RBl tt) (te := lift X.K XF (Rp X.K) te) hc hN hi.pi ok (fun s H C cl fp => (hg s H C cl fp).pg) (fun s H C cl fp => (ht s H C cl fp).pts) (fun s H C cl fp => (he s H C cl fp).pe) hs).imp fun σ H Q h =>
    lift_lc hi.mono (hg s0 (fun _ => none) 0 [] []).mono (ht s0 (fun _ => none) 0 [] []).mono (he s0 (fun _ => none) 0 [] []).mono h⟩
theorem setLc3 (i : Nat) {y : Str} {py : Pos} {scope : Scope} {own : List (Str × Nat)} {spos : Pos} (hc : X.calm = true) (hN : X.N.Nodup) (hi : PI3 X E tg iter ti) (ok : BlkOk X.N X.env.scope scope own)
    (hg : ∀ (s : Shared) (H : Hp) (C : Addr) (cl : List (Str × Addr)) (fp : List Addr), PG3 (X.blk s H scope (compEnvC scope cl C X.env) fp) (own.map (·.2)) tg g)
    (ht : ∀ (s : Shared) (H : Hp) (C : Addr) (cl : List (Str × Addr)) (fp : List Addr), PTs3 (X.blk s H scope (compEnvC scope cl C X.env) fp) XF ifs tt)
    (he : ∀ (s : Shared) (H : Hp) (C : Addr) (cl : List (Str × Addr)) (fp : List Addr), PE3 (X.blk s H scope (compEnvC scope cl C X.env) fp) XF elt te) (s0 : Shared)
    (hsw : swapsWith (.ListComp elt [⟨tg, iter, ifs, 0⟩] scope pos) (some (.Name y py)) spos.line X.env = pure true) (hy : X.N[i]? = some y := by rfl) (hyl : X.env.scope.names.lookup y = some .local := by rfl) (hs : ∀ x, foldedSetIterable iter X.env x = pure x := by intro _; rfl) :
    PS3 X E (.Assign [.Name y py] (.ListComp elt [⟨tg, iter, ifs, 0⟩] scope pos) spos) (tAsg3 (tLc3 ti g tt te (own.map (·.2))) (gName3 i)) := by
  refine ⟨fun _ _ _ _ _ hx hd q => mono_tLc3 hi.mono _ _ _ _ _ hx (fun x δ1 => hd.nx _) q, (ps_setLc (g := liftG X.K (own.map (·.2)) g) (tt := lift X.K XF RBl tt) (te := lift X.K XF (Rp X.K) te) hc hN hy hyl hsw hi.pi ok (fun s H C cl fp => (hg s H C cl fp).pg) (fun s H C cl fp => (ht s H C cl fp).pts) (fun s H C cl fp => (he s H C cl fp).pe) hs).imp fun D σ H h => ?_⟩
  refine lift_lc hi.mono (hg s0 (fun _ => none) 0 [] []).mono (ht s0 (fun _ => none) 0 [] []).mono (he s0 (fun _ => none) 0 [] []).mono ?_
  obtain ⟨π, F, ρ, δ, rel, q⟩ := h
  exact ⟨π, F, ρ, δ, rel, mono_tLc3 hi.mono _ _ _ _ _ (fun _ z => z) (fun x δ1 q v H1 ρ1 e1 rel1 r1 => q _ H1 _ (e1.trans Ext.drop) (rel1.setD r1)) q⟩
end
end M3

set_option Elab.async false
set_option linter.all false
set_option maxRecDepth 100000
namespace M3
open PySem L2
variable [TabsC]

/-! ## promises of defs, calls -/
/-- the arguments; what is wanted of the answer and of the owned arguments' last contents; of exceptions -/
abbrev Sp3 := List W → (R3 → List Ob → Prop) → (Ex3 → Prop) → Prop
/-- a promise asks no more where less is wanted -/
def MonoP (sp : Sp3) : Prop := ∀ ws Q Q' E E', (∀ r os, Q r os → Q' r os) → (∀ e, E e → E' e) → sp ws Q E → sp ws Q' E'
/-- the owned arguments: position by position -/
def tagged : Nat → List W → Prop
  | _, [] => True
  | p, .d _ :: r => tagged (p + 1) r
  | p, .ro _ :: r => tagged (p + 1) r
  | p, .own t _ :: r => t = p + 1 ∧ tagged (p + 1) r
  | p, .ad _ :: r => tagged (p + 1) r
  | p, .lk _ _ :: r => tagged (p + 1) r
  | p, .cl _ _ :: r => tagged (p + 1) r
  | p, .fv _ _ :: r => tagged (p + 1) r
  | _, .lnt _ :: _ => False
/-- the last contents of the owned arguments, off the slots -/
def outs : Nat → List W → Sl → (List Ob → Prop) → Prop
  | _, [], _, k => k []
  | p, .d _ :: r, δ, k => outs (p + 1) r δ k
  | p, .ro _ :: r, δ, k => outs (p + 1) r δ k
  | p, .own _ _ :: r, δ, k => match δ[p]? with
    | some (some (.own t o)) => t = p + 1 ∧ outs (p + 1) r δ fun os => k (o :: os)
    | _ => False
  | p, .ad _ :: r, δ, k => outs (p + 1) r δ k
  | p, .lk _ _ :: r, δ, k => outs (p + 1) r δ k
  | p, .cl _ _ :: r, δ, k => outs (p + 1) r δ k
  | p, .fv _ _ :: r, δ, k => outs (p + 1) r δ k
  | _, .lnt _ :: _, _, _ => False
def OutsOk (K : PySem.W.Frag) (π : Rho) (F : Addr → Prop) (ρ' : Rho) (H' : Hp) : Nat → List W → List Ob → Prop
  | _, [], os => os = []
  | p, .d _ :: r, os => OutsOk K π F ρ' H' (p + 1) r os
  | p, .ro _ :: r, os => OutsOk K π F ρ' H' (p + 1) r os
  | p, .own _ _ :: r, os => ∃ o os' a, os = o :: os' ∧ π p = some a ∧ Ow ρ' a ∧ ObOk K (Ox F ρ') H' a o ∧ OutsOk K π F ρ' H' (p + 1) r os'
  | p, .ad _ :: r, os => OutsOk K π F ρ' H' (p + 1) r os
  | p, .lk _ _ :: r, os => OutsOk K π F ρ' H' (p + 1) r os
  | p, .cl _ _ :: r, os => OutsOk K π F ρ' H' (p + 1) r os
  | p, .fv _ _ :: r, os => OutsOk K π F ρ' H' (p + 1) r os
  | _, .lnt _ :: _, _ => False
def liftF (K : PySem.W.Frag) (sp : Sp3) : Sp := fun vs H Q E => ∃ π F ρ ws, Rel K π F ρ H (vs.map some) (ws.map some) ∧ tagged 0 ws ∧ (∀ k, ws.length ≤ k → ρ k = none) ∧
  sp ws (fun r os => ∀ v H' ρ', Ex F ρ H ρ' H' → OutsOk K π F ρ' H' 0 ws os → (∀ a, Ox F ρ' a → ∃ o, H' a = some o) → (∀ a, F a → ¬ Ow ρ' a) → RpR K π F ρ' H' v r → Q v H') (liftX K E F ρ H)
theorem outs_ok {K : PySem.W.Frag} {π : Rho} {F : Addr → Prop} {ρ' : Rho} {H' : Hp} {σ' : St} {δ' : Sl} (rel : Rel K π F ρ' H' σ' δ') : ∀ (ws : List W) (p : Nat) (k : List Ob → Prop), outs p ws δ' k → ∃ os, k os ∧ OutsOk K π F ρ' H' p ws os
  | [], p, k, h => ⟨[], h, rfl⟩
  | .d _ :: r, p, k, h => outs_ok rel r (p + 1) k h
  | .ro _ :: r, p, k, h => outs_ok rel r (p + 1) k h
  | .own _ _ :: r, p, k, h => by
    unfold outs at h
    split at h
    · rename_i t o e
      obtain ⟨ht, h⟩ := h
      obtain ⟨os, h1, h2⟩ := outs_ok rel r (p + 1) _ h
      obtain ⟨a, k1, k2, k3, k4, k5⟩ := rel.own p t o e
      exact ⟨o :: os, h1, o, os, a, rfl, k4 p ht, ⟨p, k1⟩, k3, h2⟩
    · exact h.elim
  | .ad _ :: r, p, k, h => outs_ok rel r (p + 1) k h
  | .lk _ _ :: r, p, k, h => outs_ok rel r (p + 1) k h
  | .cl _ _ :: r, p, k, h => outs_ok rel r (p + 1) k h
  | .fv _ _ :: r, p, k, h => outs_ok rel r (p + 1) k h
  | .lnt _ :: r, p, k, h => h.elim
theorem outs_mono : ∀ (ws : List W) (p : Nat) (δ : Sl) (k k' : List Ob → Prop), (∀ os, k os → k' os) → outs p ws δ k → outs p ws δ k'
  | [], _, _, _, _, hk, h => hk _ h
  | .d _ :: r, p, δ, k, k', hk, h => outs_mono r (p + 1) δ k k' hk h
  | .ro _ :: r, p, δ, k, k', hk, h => outs_mono r (p + 1) δ k k' hk h
  | .own _ _ :: r, p, δ, k, k', hk, h => by
    unfold outs at h ⊢
    split at h
    · exact ⟨h.1, outs_mono r (p + 1) δ _ _ (fun os => hk _) h.2⟩
    · exact h.elim
  | .ad _ :: r, p, δ, k, k', hk, h => outs_mono r (p + 1) δ k k' hk h
  | .lk _ _ :: r, p, δ, k, k', hk, h => outs_mono r (p + 1) δ k k' hk h
  | .cl _ _ :: r, p, δ, k, k', hk, h => outs_mono r (p + 1) δ k k' hk h
  | .fv _ _ :: r, p, δ, k, k', hk, h => outs_mono r (p + 1) δ k k' hk h
  | .lnt _ :: r, p, δ, k, k', hk, h => h.elim
/-- the slots at the start -/
def start3 (N : List Str) (ws : List W) : Sl := ws.map some ++ List.replicate (N.length - ws.length) none
theorem Rel.start {K : PySem.W.Frag} {π : Rho} {F : Addr → Prop} {ρ : Rho} {H : Hp} {vs : List V} {ws : List W} (N : List Str) (r : Rel K π F ρ H (vs.map some) (ws.map some)) : Rel K π F ρ H (L2.start N vs) (start3 N ws) := by
  have hl : vs.length = ws.length := by have := r.len; simpa using this
  have get : ∀ (j : Nat) w, (start3 N ws)[j]? = some (some w) → (ws.map some)[j]? = some (some w) := fun j w e => by
    unfold start3 at e
    by_cases hj : j < ws.length
    · rw [List.getElem?_append_left (by simpa using hj)] at e; exact e
    · rw [List.getElem?_append_right (by simp; omega)] at e
      have := List.mem_of_getElem? e
      rw [List.mem_replicate] at this
      exact absurd this.2 (by simp)
  have back : ∀ (j : Nat) v, (vs.map some)[j]? = some (some v) → (L2.start N vs)[j]? = some (some v) := fun j v e => by
    unfold L2.start
    have hj := (List.getElem?_eq_some_iff.mp e).1
    rw [List.getElem?_append_left hj]; exact e
  refine ⟨by unfold L2.start start3; simp [hl], fun j y e => ?_, fun j t o e => ?_, r.inj, r.trk, r.dis, r.pit, fun j p e => by
    obtain ⟨a, h1, h2⟩ := r.ln j p (get j _ e)
    exact ⟨a, h1, back j _ h2⟩, r.tab⟩
  · obtain ⟨v, h1, h2⟩ := r.dat j y (get j _ e)
    exact ⟨v, back j v h1, h2⟩
  · obtain ⟨a, h1, h2, h3⟩ := r.own j t o (get j _ e)
    exact ⟨a, h1, back j _ h2, h3⟩
/-- THE RULE for a def that raises nothing -/
theorem fn3 {P : Program} {w : World} {K : PySem.W.Frag} {mg : Str → Option Value} {base : Heap} {x qual : Str} {st : Stmt} {f : Addr} {fd : FuncData} {N ps : List Str} {k : Nat} {sp : Sp3} (F : Fun K x qual st f fd) (S : FnScope N ps (defScope st)) (len : ∀ ws Q E, sp ws Q E → ws.length = ps.length)
    (hbody : ∀ (cdv : Value) (A : Around) (outer : List Env) (s : Shared) (H : Hp) (E : XK), Room k (A.deeper (PyProof.Rows.envOfC qual (defScope st) s.heap.objs.size f cdv)) →
      ∃ t, PSs3 (cxOf CX0 P w K mg base N qual (defScope st) f cdv A outer s H E).nox XF (defBody st) t ∧ ∀ ws Q, sp ws Q (fun _ => False) → tagged 0 ws → t (fun _ => False) { nx := fun δ => outs 0 ws δ (Q (.d .none)), rt := fun r δ => outs 0 ws δ (Q r) } (start3 N ws))
    (mp : MonoP sp) : FnOk P w K mg base CX0 (k + 1) f fd ps (liftF K (fun ws Q E => sp ws Q (fun _ => False))) := by
  refine F.ok S (fun vs H Q E h => ?_) (fun cdv A outer s H vs Q E hr h => ?_)
  · obtain ⟨π, Fo, ρ, ws, rel, _, _, h⟩ := h
    rw [← len ws _ _ h]
    simpa using rel.len
  · obtain ⟨π, Fo, ρ, ws, rel, tg, hk, h⟩ := h
    obtain ⟨t, h1, h2⟩ := hbody cdv A outer s H E hr
    refine ⟨_, h1.ps, π, Fo, ρ, _, rel.start N, h1.mono _ _ _ _ _ (fun _ z => z.elim) ⟨fun δ q σ' H' ρ' e' rel' => ?_, fun r δ q v σ' H' ρ' e' rel' rr => ?_, fun _ (z : False) => z.elim, fun _ (z : False) => z.elim⟩ (h2 ws _ h tg)⟩
    · obtain ⟨os, q1, q2⟩ := outs_ok rel' ws 0 _ q
      exact q1 .non H' ρ' e' q2 rel'.trk rel'.dis .non
    · obtain ⟨os, q1, q2⟩ := outs_ok rel' ws 0 _ q
      exact q1 v H' ρ' e' q2 rel'.trk rel'.dis rr

/-! ## arguments of a call: data, or owned objects by their slots -/
inductive ArgOk (K : PySem.W.Frag) (O : Addr → Prop) (H : Hp) (σ : St) : List (Option Nat) → List V → List DV → Prop
  | nil : ArgOk K O H σ [] [] []
  | d {v : V} {x : DV} {pat : List (Option Nat)} {vs : List V} {ds : List DV} : RpV K O H v x → ArgOk K O H σ pat vs ds → ArgOk K O H σ (none :: pat) (v :: vs) (x :: ds)
  | r {v : V} {i : Nat} {pat : List (Option Nat)} {vs : List V} {ds : List DV} : σ[i]? = some (some v) → ArgOk K O H σ pat vs ds → ArgOk K O H σ (some i :: pat) (v :: vs) ds
theorem ArgOk.ext {K : PySem.W.Frag} {P O O' : Addr → Prop} {H H' : Hp} {σ : St} {pat : List (Option Nat)} {vs : List V} {ds : List DV} (e : Ext P O H O' H') (po : ∀ b, P b → O b) (h : ArgOk K O H σ pat vs ds) : ArgOk K O' H' σ pat vs ds := by
  induction h with
  | nil => exact .nil
  | d r _ ih => exact .d (r.ext e po) ih
  | r q _ ih => exact .r q ih
abbrev TV3 := G3 (List DV)
def liftA (K : PySem.W.Frag) (E : XK) (pat : List (Option Nat)) (t : TV3) : TA := fun σ H Q =>
  ∃ π F ρ δ, Rel K π F ρ H σ δ ∧ t (liftX K E F ρ H) δ fun ds δ' => ∀ vs H' ρ', Ex F ρ H ρ' H' → Rel K π F ρ' H' σ δ' → ArgOk K (Ox F ρ') H' σ pat vs ds → Q vs H'
structure PAr (X : Cx) (E : XK) (es : List Expr) (pat : List (Option Nat)) (t : TV3) : Prop where
  mono : Mono3 t
  pa : PA X es (liftA X.K E pat t)
section
variable {X : Cx} {E : XK} {a b c e : Expr} {es : List Expr} {te : T3} {t : TV3} {pat : List (Option Nat)} {pos : Pos}
def tNilV : TV3 := fun _ δ Q => Q [] δ
def tConsV (ta : T3) (tr : TV3) : TV3 := fun E δ Q => ta E δ fun x δ1 => tr E δ1 fun xs δ2 => Q (.d x :: xs) δ2
theorem rn3 : PAr X E [] [] tNilV := ⟨fun _ _ _ _ _ _ hq q => hq _ _ q, pa_nil.imp fun σ H Q h => by
  obtain ⟨π, F, ρ, δ, rel, q⟩ := h
  exact q [] H ρ Ext.refl rel .nil⟩
theorem rd3 (ha : PE3 X E e te) (hr : PAr X E es pat t) (hs : starEach (e :: es) X.env = (false, eval e X.env) :: starEach es X.env := by rfl) : PAr X E (e :: es) (none :: pat) (tConsV te t) := by
  refine ⟨fun _ _ _ _ _ he hq q => ha.mono _ _ _ _ _ he (fun x δ1 => hr.mono _ _ _ _ _ he fun xs δ2 => hq _ _) q, (pa_cons ha.pe hr.pa hs).imp fun σ H Q h => ?_⟩
  obtain ⟨π, F, ρ, δ, rel, q⟩ := h
  refine ⟨π, F, ρ, δ, rel, ha.mono _ _ _ _ _ (fun _ z => z) (fun x δ1 q v H1 ρ1 e1 rel1 r1 => ?_) q⟩
  refine ⟨π, F, ρ1, δ1, rel1, hr.mono _ _ _ _ _ (liftX.mono e1) (fun y δ2 q us H2 ρ2 e2 rel2 r2 => ?_) q⟩
  exact q (v :: us) H2 ρ2 (e1.trans e2) rel2 (.d (x := .d x) (r1.ext (e2.frn) fun _ => .inl) r2)
/-- an owned object handed on -/
theorem ro3 (i : Nat) {x : Str} {pos' : Pos} (hr : PAr X E es pat t) (hN : X.N[i]? = some x := by rfl) (hv : Vis X.env.scope x := by first | exact Or.inl rfl | exact Or.inr (Or.inl rfl) | exact Or.inr (Or.inr rfl)) (hd : (x == ("__debug__" : Str)) = false := by decide)
    (hcd : (x == ("__classdict__" : Str)) = false := by decide) (hs : starEach (.Name x pos' :: es) X.env = (false, eval (.Name x pos') X.env) :: starEach es X.env := by rfl) : PAr X E (.Name x pos' :: es) (some i :: pat) (fun E δ Q => onOwn δ i fun _ _ => t E δ Q) := by
  refine ⟨fun _ _ _ _ _ he hq q => ?_, (pa_cons (pe_var hN hv hd hcd) hr.pa hs).imp fun σ H Q h => ?_⟩
  · obtain ⟨t, o, e, q⟩ := q.to
    exact onOwn.of e (hr.mono _ _ _ _ _ he hq q)
  · obtain ⟨π, F, ρ, δ, rel, q⟩ := h
    obtain ⟨t, o, e, q⟩ := q.to
    obtain ⟨a, _, hσ, _⟩ := rel.own i _ _ e
    refine ⟨_, hσ, π, F, ρ, δ, rel, hr.mono _ _ _ _ _ (fun _ z => z) (fun y δ2 q us H2 ρ2 e2 rel2 r2 => ?_) q⟩
    exact q (_ :: us) H2 ρ2 e2 rel2 (.r hσ r2)
/-- a list that is only read, handed on -/
def onRo (δ : Sl) (i : Nat) (k : List D → Prop) : Prop := match δ[i]? with | some (some (.ro xs)) => k xs | _ => False
theorem onRo.to {δ : Sl} {i : Nat} {k : List D → Prop} (h : onRo δ i k) : ∃ xs, δ[i]? = some (some (.ro xs)) ∧ k xs := by
  unfold onRo at h
  split at h
  · exact ⟨_, by assumption, h⟩
  · exact h.elim
theorem onRo.of {δ : Sl} {i : Nat} {xs : List D} {k : List D → Prop} (e : δ[i]? = some (some (.ro xs))) (h : k xs) : onRo δ i k := by
  unfold onRo
  rw [e]
  exact h
theorem rr3 (i : Nat) {x : Str} {pos' : Pos} (hr : PAr X E es pat t) (hN : X.N[i]? = some x := by rfl) (hv : Vis X.env.scope x := by first | exact Or.inl rfl | exact Or.inr (Or.inl rfl) | exact Or.inr (Or.inr rfl)) (hd : (x == ("__debug__" : Str)) = false := by decide)
    (hcd : (x == ("__classdict__" : Str)) = false := by decide) (hs : starEach (.Name x pos' :: es) X.env = (false, eval (.Name x pos') X.env) :: starEach es X.env := by rfl) : PAr X E (.Name x pos' :: es) (none :: pat) (fun E δ Q => onRo δ i fun xs => t E δ fun ys δ1 => Q (.ro xs :: ys) δ1) := by
  refine ⟨fun _ _ _ _ _ he hq q => ?_, (pa_cons (pe_var hN hv hd hcd) hr.pa hs).imp fun σ H Q h => ?_⟩
  · obtain ⟨xs, e, q⟩ := q.to
    exact onRo.of e (hr.mono _ _ _ _ _ he (fun ys δ1 => hq _ _) q)
  · obtain ⟨π, F, ρ, δ, rel, q⟩ := h
    obtain ⟨xs, e, q⟩ := q.to
    obtain ⟨v, hσ, rv⟩ := rel.dat i (.ro xs) e
    refine ⟨_, hσ, π, F, ρ, δ, rel, hr.mono _ _ _ _ _ (fun _ z => z) (fun y δ2 q us H2 ρ2 e2 rel2 r2 => ?_) q⟩
    exact q (_ :: us) H2 ρ2 e2 rel2 (.d (x := .ro xs) (rv.ext (e2.frn) fun _ => .inl) r2)
end
/-- the callee's arguments -/
def mkW : List (Option Nat) → List DV → Sl → Nat → (List W → Prop) → Prop
  | [], [], _, _, k => k []
  | none :: ps, x :: xs, δ, p, k => mkW ps xs δ (p + 1) fun ws => k (x.w :: ws)
  | some i :: ps, xs, δ, p, k => match δ[i]? with
    | some (some (.own _ o)) => mkW ps xs δ (p + 1) fun ws => k (.own (p + 1) o :: ws)
    | _ => False
  | _, _, _, _, _ => False
/-- the last contents put back -/
def putO : Sl → Nat → Ob → Sl
  | [], _, _ => []
  | x :: r, 0, o => (match x with | some (.own t _) => some (.own t o) | y => y) :: r
  | x :: r, n + 1, o => x :: putO r n o
theorem putO_eq : ∀ (δ : Sl) (i : Nat) (o : Ob), putO δ i o = (match δ[i]? with | some (some (.own t _)) => δ.set i (some (.own t o)) | _ => δ)
  | [], i, o => by simp [putO]
  | x :: r, 0, o => by
    simp only [putO, List.getElem?_cons_zero, List.set_cons_zero]
    cases x with
    | none => rfl
    | some w => cases w <;> rfl
  | x :: r, n + 1, o => by
    simp only [putO, List.getElem?_cons_succ, List.set_cons_succ]
    rw [putO_eq r n o]
    rcases r[n]? with _ | _ | _ <;> first | rfl | (rename_i z; cases z <;> rfl)
def putB : List (Option Nat) → Sl → List Ob → Sl
  | [], δ, _ => δ
  | none :: ps, δ, os => putB ps δ os
  | some i :: ps, δ, o :: os => putB ps (putO δ i o) os
  | some _ :: _, δ, [] => δ
theorem LN.putO {π : Rho} {σ : St} {δ : Sl} (h : LN π σ δ) (i : Nat) (o : Ob) : LN π σ (M3.putO δ i o) := by
  rw [putO_eq]
  split
  · exact h.setδ fun p z => by cases z
  · exact h
theorem LN.putB {π : Rho} {σ : St} : ∀ (pat : List (Option Nat)) (os : List Ob) {δ : Sl}, LN π σ δ → LN π σ (M3.putB pat δ os)
  | [], _, _, h => h
  | none :: ps, os, _, h => LN.putB ps os h
  | some i :: ps, o :: os, _, h => LN.putB ps os (h.putO i o)
  | some _ :: _, [], _, h => h
def retD (r : R3) (k : D → Prop) : Prop := match r with
  | .d x => k x
  | .own (.lst xs) => k (.list xs)
  | _ => False
def tCall3 (sp : Sp3) (pat : List (Option Nat)) (t : TV3) : T3 := fun E δ Q => t E δ fun ds δ1 => mkW pat ds δ1 0 fun ws => sp ws (fun r os => retD r fun x => Q x (putB pat δ1 os)) E
def tCallO (sp : Sp3) (pat : List (Option Nat)) (t : TV3) : TW3 := fun E δ Q => t E δ fun ds δ1 => mkW pat ds δ1 0 fun ws => sp ws (fun r os => match r with | .own o => Q o (putB pat δ1 os) | _ => False) E
end M3

set_option Elab.async false
set_option linter.all false
set_option maxRecDepth 100000
namespace M3
open PySem L2
variable [TabsC]

inductive Args (K : PySem.W.Frag) (O : Addr → Prop) (H : Hp) (σ : St) (δ : Sl) : Nat → List (Option Nat) → List V → List W → Prop
  | nil {p : Nat} : Args K O H σ δ p [] [] []
  | d {p : Nat} {v : V} {x : DV} {pat : List (Option Nat)} {vs : List V} {ws : List W} : RpV K O H v x → Args K O H σ δ (p + 1) pat vs ws → Args K O H σ δ p (none :: pat) (v :: vs) (x.w :: ws)
  | r {p : Nat} {v : V} {i t : Nat} {o : Ob} {pat : List (Option Nat)} {vs : List V} {ws : List W} : σ[i]? = some (some v) → δ[i]? = some (some (.own t o)) → Args K O H σ δ (p + 1) pat vs ws → Args K O H σ δ p (some i :: pat) (v :: vs) (.own (p + 1) o :: ws)
theorem args_of {K : PySem.W.Frag} {O : Addr → Prop} {H : Hp} {σ : St} {δ : Sl} {pat : List (Option Nat)} {vs : List V} {ds : List DV} (h : ArgOk K O H σ pat vs ds) : ∀ (p : Nat) (k : List W → Prop), mkW pat ds δ p k → ∃ ws, k ws ∧ Args K O H σ δ p pat vs ws := by
  induction h with
  | nil => intro p k h; exact ⟨[], h, .nil⟩
  | d r _ ih =>
    intro p k h
    obtain ⟨ws, h1, h2⟩ := ih (p + 1) _ h
    exact ⟨_, h1, .d r h2⟩
  | @r v i pat vs ds hσ _ ih =>
    intro p k h
    unfold mkW at h
    split at h
    · rename_i t o e
      obtain ⟨ws, h1, h2⟩ := ih (p + 1) _ h
      exact ⟨_, h1, .r hσ e h2⟩
    · exact h.elim
section
variable {K : PySem.W.Frag} {O : Addr → Prop} {H : Hp} {σ : St} {δ : Sl} {p : Nat} {pat : List (Option Nat)} {vs : List V} {ws : List W}
theorem Args.len (h : Args K O H σ δ p pat vs ws) : vs.length = ws.length ∧ pat.length = ws.length := by
  induction h with
  | nil => exact ⟨rfl, rfl⟩
  | d _ _ ih => exact ⟨congrArg (· + 1) ih.1, congrArg (· + 1) ih.2⟩
  | r _ _ _ ih => exact ⟨congrArg (· + 1) ih.1, congrArg (· + 1) ih.2⟩
theorem Args.tagged (h : Args K O H σ δ p pat vs ws) : M3.tagged p ws := by
  induction h with
  | nil => trivial
  | @d _ _ x _ _ _ _ _ ih => cases x <;> exact ih
  | r _ _ _ ih => exact ⟨rfl, ih⟩
theorem Args.dat (h : Args K O H σ δ p pat vs ws) : ∀ (j : Nat) (x : DV), ws[j]? = some x.w → ∃ v, vs[j]? = some v ∧ RpV K O H v x := by
  induction h with
  | nil => intro j x e; simp at e
  | @d _ _ y _ _ _ r _ ih =>
    intro j x e
    cases j with
    | zero =>
      have e' : y = x := by cases y <;> cases x <;> simp [DV.w] at e <;> simp [e]
      subst e'; exact ⟨_, rfl, r⟩
    | succ j => obtain ⟨v, h1, h2⟩ := ih j x (by simpa using e); exact ⟨v, by simpa using h1, h2⟩
  | r _ _ _ ih =>
    intro j x e
    cases j with
    | zero => cases x <;> simp [DV.w] at e
    | succ j => obtain ⟨v, h1, h2⟩ := ih j x (by simpa using e); exact ⟨v, by simpa using h1, h2⟩
theorem Args.own (h : Args K O H σ δ p pat vs ws) : ∀ (j : Nat) t o, ws[j]? = some (.own t o) → ∃ i v t0, pat[j]? = some (some i) ∧ t = p + j + 1 ∧ vs[j]? = some v ∧ σ[i]? = some (some v) ∧ δ[i]? = some (some (.own t0 o)) := by
  induction h with
  | nil => intro j t o e; simp at e
  | @d _ _ y _ _ _ r _ ih =>
    intro j t o e
    cases j with
    | zero => cases y <;> simp [DV.w] at e
    | succ j => obtain ⟨i, v, t0, h1, h2, h3⟩ := ih j t o (by simpa using e); exact ⟨i, v, t0, by simpa using h1, by omega, by simpa using h3⟩
  | r hσ hδ _ ih =>
    intro j t o e
    cases j with
    | zero => simp at e; obtain ⟨rfl, rfl⟩ := e; exact ⟨_, _, _, rfl, rfl, rfl, hσ, hδ⟩
    | succ j => obtain ⟨i, v, t0, h1, h2, h3⟩ := ih j t o (by simpa using e); exact ⟨i, v, t0, by simpa using h1, by omega, by simpa using h3⟩
end
def piC (pat : List (Option Nat)) (ρ : Rho) : Rho := fun j => (pat[j]?).join.bind ρ
theorem piC_some {pat : List (Option Nat)} {ρ : Rho} {j : Nat} {a : Addr} (h : piC pat ρ j = some a) : ∃ i, pat[j]? = some (some i) ∧ ρ i = some a := by
  unfold piC at h
  cases q : pat[j]? with
  | none => rw [q] at h; cases h
  | some o =>
    rw [q] at h
    cases o with
    | none => cases h
    | some i => exact ⟨i, rfl, h⟩
theorem refs_inj : ∀ {pat : List (Option Nat)}, (pat.filterMap id).Nodup → ∀ {j l i : Nat}, pat[j]? = some (some i) → pat[l]? = some (some i) → j = l
  | [], _, _, _, _, h, _ => by simp at h
  | none :: r, nd, j, l, i, h1, h2 => by
    cases j with
    | zero => simp at h1
    | succ j => cases l with
      | zero => simp at h2
      | succ l => exact congrArg (· + 1) (refs_inj (pat := r) (by simpa using nd) (i := i) (by simpa using h1) (by simpa using h2))
  | some k :: r, nd, j, l, i, h1, h2 => by
    have nd' : k ∉ r.filterMap id ∧ (r.filterMap id).Nodup := by simpa using nd
    have mem : ∀ {m : Nat}, r[m]? = some (some i) → i ∈ r.filterMap id := fun h => List.mem_filterMap.mpr ⟨some i, List.mem_of_getElem? h, rfl⟩
    cases j with
    | zero => cases l with
      | zero => rfl
      | succ l =>
        simp at h1 h2
        subst h1
        exact absurd (mem h2) nd'.1
    | succ j => cases l with
      | zero =>
        simp at h1 h2
        subst h2
        exact absurd (mem h1) nd'.1
      | succ l => exact congrArg (· + 1) (refs_inj (pat := r) nd'.2 (i := i) (by simpa using h1) (by simpa using h2))
/-! a call's state: what the callee may change is passed -/
section
variable {K : PySem.W.Frag} {π : Rho} {F : Addr → Prop} {ρ : Rho} {H H' : Hp} {σ : St} {δ : Sl} {pat : List (Option Nat)} {vs : List V} {ws : List W}
def FC (F : Addr → Prop) (ρ : Rho) (pat : List (Option Nat)) : Addr → Prop := fun b => F b ∨ (Ow ρ b ∧ ¬ Ow (piC pat ρ) b)
theorem piC_le : ∀ b, Ow (piC pat ρ) b → Ow ρ b := fun b ⟨j, h⟩ => let ⟨i, _, h2⟩ := piC_some h; ⟨i, h2⟩
theorem oxC_iff {b : Addr} : Ox (FC F ρ pat) (piC pat ρ) b ↔ Ox F ρ b := by
  constructor
  · rintro (h | h | h)
    · exact .inl (piC_le b h)
    · exact .inr h
    · exact .inl h.1
  · rintro (h | h)
    · by_cases z : Ow (piC pat ρ) b
      · exact .inl z
      · exact .inr (.inr ⟨h, z⟩)
    · exact .inr (.inl h)
theorem Args.noLnt {K : PySem.W.Frag} {O : Addr → Prop} {H : Hp} {σ : St} {δ : Sl} {p : Nat} {pat : List (Option Nat)} {vs : List V} {ws : List W} (h : Args K O H σ δ p pat vs ws) : ∀ (j q : Nat), ws[j]? ≠ some (.lnt q) := by
  induction h with
  | nil => intro j q e; simp at e
  | @d _ _ x _ _ _ _ _ ih => intro j q e; cases j with
    | zero => cases x <;> cases e
    | succ j => exact ih j q (by simpa using e)
  | r _ _ _ ih => intro j q e; cases j with
    | zero => cases e
    | succ j => exact ih j q (by simpa using e)
theorem Args.rel (h : Args K (Ox F ρ) H σ δ 0 pat vs ws) (r : Rel K π F ρ H σ δ) (nd : (pat.filterMap id).Nodup) : Rel K (piC pat ρ) (FC F ρ pat) (piC pat ρ) H (vs.map some) (ws.map some) := by
  have le : ∀ b, Ox (FC F ρ pat) (piC pat ρ) b → Ox F ρ b := fun b => oxC_iff.mp
  refine ⟨by simp [h.len.1], fun j x e => ?_, fun j t o e => ?_, fun j l a h1 h2 => ?_, fun b z => r.trk b (le b z), fun b z q => ?_, fun p a z => ?_, fun j p e => ?_, r.tab⟩
  · have e' : ws[j]? = some x.w := by simpa using e
    obtain ⟨v, h1, h2⟩ := h.dat j x e'
    exact ⟨v, by simp [h1], h2.mono le⟩
  · have e' : ws[j]? = some (.own t o) := by simpa using e
    obtain ⟨i, v, t0, h1, h2, h3, h4, h5⟩ := h.own j t o e'
    obtain ⟨a, k1, k2, k3, k4⟩ := r.own i t0 o h5
    rw [h4] at k2; cases k2
    have pj : piC pat ρ j = some a := by unfold piC; rw [h1]; exact k1
    refine ⟨a, pj, by simp [h3], k3.mono le, fun p z => ?_, fun z => by omega⟩
    have : p = j := by omega
    rw [this]; exact pj
  · obtain ⟨i, p1, q1⟩ := piC_some h1
    obtain ⟨i', p2, q2⟩ := piC_some h2
    have := r.inj i i' a q1 q2
    subst this
    exact refs_inj nd p1 p2
  · rcases z with z | z
    · exact r.dis b z (piC_le b q)
    · exact z.2 q
  · exact r.trk a (.inl (piC_le a ⟨p, z⟩))
  · have e' : ws[j]? = some (.lnt p) := by simpa using e
    exact (h.noLnt j p e').elim
/-- stale contents at the slots S -/
structure RelX (K : PySem.W.Frag) (π : Rho) (F : Addr → Prop) (ρ : Rho) (H : Hp) (σ : St) (S : Nat → Prop) (δ : Sl) : Prop where
  len : σ.length = δ.length
  dat : ∀ (i : Nat) (x : DV), δ[i]? = some (some x.w) → ∃ v, σ[i]? = some (some v) ∧ RpV K (Ox F ρ) H v x
  own : ∀ (i : Nat) t o, δ[i]? = some (some (.own t o)) → ∃ a, ρ i = some a ∧ σ[i]? = some (some (.ref a)) ∧ (¬ S i → ObOk K (Ox F ρ) H a o) ∧ (∀ p, t = p + 1 → π p = some a) ∧ (t = 0 → ∀ p, π p ≠ some a)
theorem RelX.put {O : Addr → Prop} {πc : Rho} {Fc : Addr → Prop} {ρ' : Rho} (lex : ∀ b, Ox F ρ b → Ox Fc ρ' b) : ∀ {pat : List (Option Nat)} {vs : List V} {ws : List W} {os : List Ob} {p : Nat} {δ0 δ : Sl}, Args K O H σ δ0 p pat vs ws → OutsOk K πc Fc ρ' H' p ws os → (∀ j i : Nat, pat[j]? = some (some i) → πc (p + j) = ρ i) →
    RelX K π F ρ H' σ (fun i => ∃ j : Nat, pat[j]? = some (some i)) δ → RelX K π F ρ H' σ (fun _ => False) (putB pat δ os)
  | [], vs, ws, os, p, δ0, δ, a, oo, hp, r => by
    cases a
    unfold putB
    exact ⟨r.len, r.dat, fun i t o e => by
      obtain ⟨a, h1, h2, h3, h4⟩ := r.own i t o e
      exact ⟨a, h1, h2, fun _ => h3 (fun ⟨j, z⟩ => by simp at z), h4⟩⟩
  | none :: pat, vs, ws, os, p, δ0, δ, a, oo, hp, r => by
    cases a with
    | @d _ _ y _ _ ws' _ a =>
      unfold putB
      have oo' : OutsOk K πc Fc ρ' H' (p + 1) ws' os := by cases y <;> exact oo
      refine RelX.put lex a oo' (fun j i e => ?_) ⟨r.len, r.dat, fun i t o e => ?_⟩
      · have := hp (j + 1) i (by simpa using e)
        rw [show p + 1 + j = p + (j + 1) by omega]; exact this
      · obtain ⟨a, h1, h2, h3, h4⟩ := r.own i t o e
        exact ⟨a, h1, h2, fun n => h3 fun ⟨j, z⟩ => by
          cases j with
          | zero => simp at z
          | succ j => exact n ⟨j, by simpa using z⟩, h4⟩
  | some k :: pat, vs, ws, os, p, δ0, δ, a, oo, hp, r => by
    cases a with
    | @r _ v _ t0 ob0 _ _ _ hσ hδ a =>
      obtain ⟨o, os', b, rfl, hb, ho, hob, oo'⟩ := oo
      unfold putB
      have hk : ρ k = some b := by rw [← hp 0 k (by simp)]; exact hb
      refine RelX.put lex a oo' (fun j i e => ?_) ?_
      · have := hp (j + 1) i (by simpa using e)
        rw [show p + 1 + j = p + (j + 1) by omega]; exact this
      · rw [putO_eq]
        split
        · rename_i t o2 e
          have hl := (List.getElem?_eq_some_iff.mp e).1
          refine ⟨by rw [List.length_set]; exact r.len, fun i x q => ?_, fun i t' o' q => ?_⟩
          · by_cases hi : k = i
            · subst hi; rw [List.getElem?_set_self hl] at q; cases x <;> cases q
            · rw [List.getElem?_set_ne hi] at q; exact r.dat i x q
          · by_cases hi : k = i
            · subst hi
              rw [List.getElem?_set_self hl] at q; cases q
              obtain ⟨a', h1, h2, h3, h4⟩ := r.own k _ _ e
              rw [hk] at h1; cases h1
              exact ⟨b, hk, h2, fun _ => hob.mono lex, h4⟩
            · rw [List.getElem?_set_ne hi] at q
              obtain ⟨a', h1, h2, h3, h4⟩ := r.own i _ _ q
              exact ⟨a', h1, h2, fun n => h3 fun ⟨j, z⟩ => by
                cases j with
                | zero => simp at z; exact hi z
                | succ j => exact n ⟨j, by simpa using z⟩, h4⟩
        · rename_i hno
          refine ⟨r.len, r.dat, fun i t o' e => ?_⟩
          obtain ⟨a, h1, h2, h3, h4⟩ := r.own i t o' e
          exact ⟨a, h1, h2, fun n => h3 fun ⟨j, z⟩ => by
            cases j with
            | zero => simp at z; subst z; exact hno _ _ e
            | succ j => exact n ⟨j, by simpa using z⟩, h4⟩
theorem outs_ow {O : Addr → Prop} {πc : Rho} {Fc : Addr → Prop} {ρ' : Rho} : ∀ {pat : List (Option Nat)} {vs : List V} {ws : List W} {os : List Ob} {p : Nat} {δ0 : Sl}, Args K O H σ δ0 p pat vs ws → OutsOk K πc Fc ρ' H' p ws os → ∀ j i : Nat, pat[j]? = some (some i) → ∃ a, πc (p + j) = some a ∧ Ow ρ' a
  | [], _, _, _, _, _, _, _, j, i, e => by simp at e
  | none :: pat, _, _, _, p, _, a, oo, j, i, e => by
    cases a with
    | @d _ _ y _ _ _ _ a => cases j with
      | zero => simp at e
      | succ j =>
        rw [show p + (j + 1) = p + 1 + j by omega]
        exact outs_ow a (by cases y <;> exact oo) j i (by simpa using e)
  | some k :: pat, _, _, _, p, _, a, oo, j, i, e => by
    cases a with
    | r _ _ a =>
      obtain ⟨o, os', b, rfl, hb, ho, _, oo'⟩ := oo
      cases j with
      | zero => exact ⟨b, hb, ho⟩
      | succ j => rw [show p + (j + 1) = p + 1 + j by omega]; exact outs_ow a oo' j i (by simpa using e)
theorem Args.lt {O : Addr → Prop} {p : Nat} (h : Args K O H σ δ p pat vs ws) : ∀ j i : Nat, pat[j]? = some (some i) → i < δ.length := by
  induction h with
  | nil => intro j i e; simp at e
  | d _ _ ih => intro j i e; cases j with
    | zero => simp at e
    | succ j => exact ih j i (by simpa using e)
  | r _ hδ _ ih => intro j i e; cases j with
    | zero => simp at e; subst e; exact (List.getElem?_eq_some_iff.mp hδ).1
    | succ j => exact ih j i (by simpa using e)
/-- behind the call, where ρ2 owns what ρ owned and perhaps new things -/
theorem Args.after {ρ' ρ2 : Rho} {os : List Ob} (h : Args K (Ox F ρ) H σ δ 0 pat vs ws) (r : Rel K π F ρ H σ δ) (e : Ex (FC F ρ pat) (piC pat ρ) H ρ' H') (oo : OutsOk K (piC pat ρ) (FC F ρ pat) ρ' H' 0 ws os)
    (agree : ∀ i, i < δ.length → ρ2 i = ρ i) (inj2 : ∀ i j a, ρ2 i = some a → ρ2 j = some a → i = j) (ow2 : ∀ b, Ow ρ2 b → Ow ρ b ∨ (H b = none ∧ Ow ρ' b)) (trk2 : ∀ b, Ow ρ' b → ∃ o, H' b = some o) :
    Rel K π F ρ2 H' σ (putB pat δ os) ∧ Ex F ρ H ρ2 H' ∧ ∀ b, Ox F ρ2 b → Ox (FC F ρ pat) ρ' b := by
  have lex : ∀ b, Ox F ρ b → Ox (FC F ρ pat) ρ' b := fun b z => by
    rcases oxC_iff (pat := pat) |>.mpr z with ⟨j, q⟩ | q
    · obtain ⟨i, q1, q2⟩ := piC_some q
      obtain ⟨a, h1, h2⟩ := outs_ow h oo j i q1
      rw [Nat.zero_add, q] at h1; cases h1
      exact .inl h2
    · exact .inr q
  have lex2 : ∀ b, Ox F ρ2 b → Ox (FC F ρ pat) ρ' b := fun b z => by
    rcases z with z | z
    · rcases ow2 b z with z | z
      · exact lex b (.inl z)
      · exact .inl z.2
    · exact lex b (.inr z)
  have ex : Ex F ρ H ρ2 H' := ⟨fun b o hb n t => e.fr b o hb (fun z => n (piC_le b z)) t, fun b z => (ow2 b z).imp id fun z => z.1, e.tk, e.tb⟩
  have ex' := ex.frn (F := F)
  have base : RelX K π F ρ2 H' σ (fun i => ∃ j : Nat, pat[j]? = some (some i)) δ := ⟨r.len, fun i x q => by
      obtain ⟨v, h1, h2⟩ := r.dat i x q
      exact ⟨v, h1, h2.ext ex' fun _ => .inl⟩, fun i t o q => by
      obtain ⟨a, h1, h2, h3, h4⟩ := r.own i t o q
      refine ⟨a, by rw [agree i (List.getElem?_eq_some_iff.mp q).1]; exact h1, h2, fun n => h3.extG ex' (fun _ => .inl) fun u hu ho => e.fr a u hu (fun ⟨j, z⟩ => ?_) ho.1, h4⟩
      obtain ⟨i', z1, z2⟩ := piC_some z
      have := r.inj i i' a h1 z2
      subst this
      exact n ⟨j, z1⟩⟩
  have fin := RelX.put lex2 h oo (fun j i q => by rw [Nat.zero_add, agree i (h.lt j i q)]; unfold piC; rw [q]; rfl) base
  refine ⟨⟨fin.len, fin.dat, fun i t o q => ?_, inj2, fun b z => ?_, fun b z q => ?_, fun p b z => ?_, LN.putB pat os r.ln, ex.tb.t r.tab⟩, ex, lex2⟩
  · obtain ⟨a, h1, h2, h3, h4⟩ := fin.own i t o q
    exact ⟨a, h1, h2, h3 id, h4⟩
  · rcases z with z | z
    · rcases ow2 b z with z | z
      · obtain ⟨u, hu⟩ := r.trk b (.inl z); exact ex.tk b u hu
      · exact trk2 b z.2
    · obtain ⟨u, hu⟩ := r.trk b (.inr z); exact ex.tk b u hu
  · rcases ow2 b q with q | q
    · exact r.dis b z q
    · obtain ⟨u, hu⟩ := r.trk b (.inr z); rw [q.1] at hu; cases hu
  · obtain ⟨u, hu⟩ := r.pit p b z; exact ex.tk b u hu
end
section
variable {X : Cx} {E : XK} {CX : CXT} {k : Nat} {f : Addr} {fd : FuncData} {ps : List Str} {sp : Sp3} {e : Expr} {es : List Expr} {x : Str} {p pos : Pos} {pat : List (Option Nat)} {t : TV3}
theorem liftX.call {K : PySem.W.Frag} {F : Addr → Prop} {ρ : Rho} {H : Hp} {pat : List (Option Nat)} : ∀ ex, liftX K E F ρ H ex → liftX K E (FC F ρ pat) (piC pat ρ) H ex :=
  fun ex h d H' ρ' e x => h d H' ρ ⟨fun b o hb n t => e.fr b o hb (fun z => n (piC_le b z)) t, fun _ z => .inl z, e.tk, e.tb⟩ x
theorem mkW_mono {k k' : List W → Prop} (hk : ∀ ws, k ws → k' ws) : ∀ (pat : List (Option Nat)) (ds : List DV) (δ : Sl) (p : Nat), mkW pat ds δ p k → mkW pat ds δ p k'
  | [], [], _, _, h => hk _ h
  | none :: ps, x :: xs, δ, p, h => mkW_mono (fun ws => hk _) ps xs δ (p + 1) h
  | some i :: ps, xs, δ, p, h => by
    unfold mkW at h ⊢
    split at h
    · exact mkW_mono (fun ws => hk _) ps xs δ (p + 1) h
    · exact h.elim
  | [], _ :: _, _, _, h => h.elim
  | none :: _, [], _, _, h => h.elim
theorem retD_mono {r : R3} {k k' : D → Prop} (hk : ∀ x, k x → k' x) (h : retD r k) : retD r k' := by
  unfold retD at h ⊢
  split at h
  · exact hk _ h
  · exact hk _ h
  · exact h.elim
theorem call3 (F : FnOk X.prog X.w X.K X.mg X.base CX k f fd ps (liftF X.K sp)) (mp : MonoP sp) (hr : Room k X.A) (hg : Gl X x) (hm : X.mg x = some (.ref f)) (hk : PySem.W.keepIn X.K (.ref f) = true) (hb : Binds X.K fd ps []) (hx : Passes CX X E)
    (ha : PAr X E (e :: es) pat t) (nd : (pat.filterMap id).Nodup := by decide) (hdb : (x == ("__debug__" : Str)) = false := by decide) (he : starEach (e :: es) X.env = (false, eval e X.env) :: starEach es X.env := by rfl) (hpl : (backTo pos (starEach es X.env)).any (·.1) = false := by rfl) :
    PE3 X E (.Call (.Name x p) (e :: es) [] pos) (tCall3 sp pat t) := by
  refine ⟨fun _ _ _ _ _ he hq q => ha.mono _ _ _ _ _ he (fun ds δ1 => mkW_mono (fun ws => mp _ _ _ _ _ (fun r os => retD_mono fun x => hq _ _) he) _ _ _ _) q, (pe_call F hr hg hm hk hb .nil hx ha.pa hdb he hpl).imp fun σ H Q h => ?_⟩
  obtain ⟨π, Fo, ρ, δ, rel, q⟩ := h
  refine ⟨π, Fo, ρ, δ, rel, ha.mono _ _ _ _ _ (fun _ z => z) (fun ds δ1 q vs H1 ρ1 e1 rel1 ao => ?_) q⟩
  obtain ⟨ws, q, ar⟩ := args_of ao 0 _ q
  rw [List.append_nil]
  have relc := ar.rel rel1 nd
  refine ⟨piC pat ρ1, FC Fo ρ1 pat, piC pat ρ1, ws, relc, ar.tagged, fun j hj => ?_, mp _ _ _ _ _ (fun r os q v H' ρ' e' oo tk ds rr => ?_) (fun ex z => liftX.call ex (liftX.mono e1 ex z)) q⟩
  · unfold piC
    rw [List.getElem?_eq_none (by rw [ar.len.2]; exact hj)]; rfl
  · obtain ⟨r2, ex2, lex⟩ := ar.after rel1 e' oo (fun _ _ => rfl) rel1.inj (fun _ z => .inl z) (fun b z => tk b (.inl z))
    unfold retD at q
    split at q
    · exact q v H' ρ1 (e1.trans ex2) r2 (Rp.mono lex rr)
    · obtain ⟨a, rfl, oa, na, vs', h1, h2⟩ := rr
      refine q _ H' ρ1 (e1.trans ex2) r2 (.lst ⟨h1, fun z => ?_⟩ (h2.mono lex))
      -- the new list is no one's
      have : H1 a = none := by
        rcases e'.ow a oa with w | w
        · obtain ⟨j, w⟩ := w; exact absurd w (na j)
        · exact w
      obtain ⟨u, hu⟩ := rel1.trk a z
      rw [this] at hu; cases hu
    · exact q.elim
theorem callO3 (F : FnOk X.prog X.w X.K X.mg X.base CX k f fd ps (liftF X.K sp)) (mp : MonoP sp) (hr : Room k X.A) (hg : Gl X x) (hm : X.mg x = some (.ref f)) (hk : PySem.W.keepIn X.K (.ref f) = true) (hb : Binds X.K fd ps []) (hx : Passes CX X E)
    (ha : PAr X E (e :: es) pat t) (nd : (pat.filterMap id).Nodup := by decide) (hdb : (x == ("__debug__" : Str)) = false := by decide) (he : starEach (e :: es) X.env = (false, eval e X.env) :: starEach es X.env := by rfl) (hpl : (backTo pos (starEach es X.env)).any (·.1) = false := by rfl) :
    POw X E (.Call (.Name x p) (e :: es) [] pos) (tCallO sp pat t) := by
  refine ⟨fun _ _ _ _ _ he hq q => ha.mono _ _ _ _ _ he (fun ds δ1 => mkW_mono (fun ws => mp _ _ _ _ _ (fun r os z => ?_) he) _ _ _ _) q, (pe_call F hr hg hm hk hb .nil hx ha.pa hdb he hpl).imp fun σ H Q h => ?_⟩
  · cases r with
    | d x => exact z.elim
    | own o => exact hq _ _ z
  obtain ⟨π, Fo, ρ, δ, rel, q⟩ := h
  refine ⟨π, Fo, ρ, δ, rel, ha.mono _ _ _ _ _ (fun _ z => z) (fun ds δ1 q vs H1 ρ1 e1 rel1 ao => ?_) q⟩
  obtain ⟨ws, q, ar⟩ := args_of ao 0 _ q
  rw [List.append_nil]
  have relc := ar.rel rel1 nd
  refine ⟨piC pat ρ1, FC Fo ρ1 pat, piC pat ρ1, ws, relc, ar.tagged, fun j hj => ?_, mp _ _ _ _ _ (fun r os q v H' ρ' e' oo tk ds rr => ?_) (fun ex z => liftX.call ex (liftX.mono e1 ex z)) q⟩
  · unfold piC
    rw [List.getElem?_eq_none (by rw [ar.len.2]; exact hj)]; rfl
  · cases r with
    | d x => exact q.elim
    | own o =>
      obtain ⟨a, rfl, oa, na, ho⟩ := rr
      have hn : H1 a = none := by
        rcases e'.ow a oa with w | w
        · obtain ⟨j, w⟩ := w; exact absurd w (na j)
        · exact w
      have nr : ∀ j, ρ1 j ≠ some a := fun j z => by
        obtain ⟨u, hu⟩ := rel1.trk a (.inl ⟨j, z⟩)
        rw [hn] at hu; cases hu
      have np : ∀ p, π p ≠ some a := fun p z => by
        obtain ⟨u, hu⟩ := rel1.pit p a z
        rw [hn] at hu; cases hu
      obtain ⟨r2, ex2, lex⟩ := ar.after (ρ2 := own1 ρ1 δ1.length a) rel1 e' oo (fun i hi => by unfold own1; rw [if_neg (by omega)]) (fun i j b h1 h2 => by
        unfold own1 at h1 h2
        split at h1
        · cases h1
          split at h2
          · rename_i z1 z2; rw [z1, z2]
          · exact absurd h2 (nr j)
        · split at h2
          · cases h2; exact absurd h1 (nr i)
          · exact rel1.inj i j b h1 h2) (fun b z => (own1_le b z).imp id fun z => by rw [z]; exact ⟨hn, oa⟩) (fun b z => tk b (.inl z))
      have pl : (putB pat δ1 os).length = δ1.length := by rw [← r2.len, rel1.len]
      exact q a H' _ δ1.length (e1.trans ex2) r2 (by rw [pl]; exact Nat.le_refl _) (by unfold own1; rw [if_pos rfl]) np (ho.mono lex)
end
end M3

set_option Elab.async false
set_option linter.all false
set_option maxRecDepth 100000
namespace M3
open PySem L2
variable [TabsC]

/-! ## promises by what is asked and what is told -/
/-- a: what is handed in; tell: what is wanted holds of all that may come back -/
structure Prm where
  ι : Type
  pre : ι → Prop
  args : ι → List W
  tell : ι → (R3 → List Ob → Prop) → Prop
  mono : ∀ a Q Q', (∀ r os, Q r os → Q' r os) → tell a Q → tell a Q'
def Prm.sp (S : Prm) : Sp3 := fun ws Q _ => ∃ a : S.ι, S.pre a ∧ ws = S.args a ∧ S.tell a Q
theorem Prm.monoP (S : Prm) : MonoP S.sp := fun _ _ _ _ _ hq _ ⟨a, h1, h2, h3⟩ => ⟨a, h1, h2, S.mono _ _ _ hq h3⟩
/-- what a body is to reach -/
def ends (ws : List W) (Q : R3 → List Ob → Prop) : End3 where
  nx := fun δ => outs 0 ws δ (Q (.d .none))
  rt := fun r δ => outs 0 ws δ (Q r)
theorem fnS {P : Program} {w : World} {K : PySem.W.Frag} {mg : Str → Option Value} {base : Heap} {x qual : Str} {st : Stmt} {f : Addr} {fd : FuncData} {N ps : List Str} {k : Nat} {S : Prm} (F : Fun K x qual st f fd) (Sc : FnScope N ps (defScope st)) (len : ∀ a, (S.args a).length = ps.length)
    (hbody : ∀ (cdv : Value) (A : Around) (outer : List Env) (s : Shared) (H : Hp) (E : XK), Room k (A.deeper (PyProof.Rows.envOfC qual (defScope st) s.heap.objs.size f cdv)) →
      ∃ t, PSs3 (cxOf CX0 P w K mg base N qual (defScope st) f cdv A outer s H E).nox XF (defBody st) t ∧ ∀ (a : S.ι) (Q : R3 → List Ob → Prop), S.pre a → S.tell a Q → t (fun _ => False) (ends (S.args a) Q) (start3 N (S.args a))) :
    FnOk P w K mg base CX0 (k + 1) f fd ps (liftF K S.sp) := by
  refine fn3 (sp := S.sp) F Sc (fun ws Q E ⟨a, _, h2, _⟩ => by rw [h2]; exact len a) (fun cdv A outer s H E hr => ?_) S.monoP
  obtain ⟨t, h1, h2⟩ := hbody cdv A outer s H E hr
  refine ⟨t, h1, fun ws Q ⟨a, p1, p2, p3⟩ tg => ?_⟩
  subst p2
  exact h2 a Q p1 p3
/-- a plain function of data -/
def PD {ι : Type} (pre : ι → Prop) (args : ι → List D) (res : ι → D) : Prm where
  ι := ι
  pre := pre
  args := fun a => (args a).map .d
  tell := fun a Q => Q (.d (res a)) []
  mono := fun _ _ _ h q => h _ _ q
/-- b: what may come back -/
def PR {ι β : Type} (pre : ι → Prop) (args : ι → List W) (post : ι → β → Prop) (res : ι → β → R3) (out : ι → β → List Ob) : Prm where
  ι := ι
  pre := pre
  args := args
  tell := fun a Q => ∀ b, post a b → Q (res a b) (out a b)
  mono := fun _ _ _ h q b hb => h _ _ (q b hb)
theorem cpw (k : Nat) {i j : Int} (h : i.natAbs < 2 ^ k) (hj : 0 ≤ j) (hk : (k : Int) * j ≤ 2 ^ 27) : CPw i j := by
  refine ⟨hj, Int.le_trans (Int.mul_le_mul_of_nonneg_right (Int.ofNat_le.mpr (PyProof.Rows.intBits_le h)) hj) hk⟩
theorem neverE3 {X : Cx} {E : XK} {e : Expr} : PE3 X E e (fun _ _ _ => False) := ⟨fun _ _ _ _ _ _ _ q => q, ⟨fun _ _ _ _ _ _ ⟨_, _, _, _, _, q⟩ => q.elim⟩⟩
theorem br_t {b : Bool} {A B : Prop} (h : b = true) (a : A) : br b A B := ⟨fun _ => a, fun z => by rw [h] at z; cases z⟩
theorem br_f {b : Bool} {A B : Prop} (h : b = false) (a : B) : br b A B := ⟨fun z => (by rw [h] at z; cases z), fun _ => a⟩
/-! ## a def as its callers know it -/
structure Cal (P : Program) (w : World) (K : PySem.W.Frag) (mg : Str → Option Value) (base : Heap) (k : Nat) (x : Str) (ps : List Str) (S : Prm) : Prop where
  ex : ∃ f fd, FnOk P w K mg base CX0 k f fd ps (liftF K S.sp) ∧ mg x = some (.ref f) ∧ PySem.W.keepIn K (.ref f) = true ∧ Binds K fd ps []
section
variable {X : Cx} {E : XK} {k j : Nat} {S : Prm} {ps : List Str} {e : Expr} {es : List Expr} {x : Str} {p pos : Pos} {pat : List (Option Nat)} {t : TV3}
theorem cl3 (C : Cal X.prog X.w X.K X.mg X.base k x ps S) (hr : Room j X.A) (ha : PAr X XF (e :: es) pat t) (hk : k ≤ j := by first | decide | omega) (hg : Gl X x := by rfl) (nd : (pat.filterMap id).Nodup := by decide) (hdb : (x == ("__debug__" : Str)) = false := by decide)
    (he : starEach (e :: es) X.env = (false, eval e X.env) :: starEach es X.env := by rfl) (hpl : (backTo pos (starEach es X.env)).any (·.1) = false := by rfl) : PE3 X XF (.Call (.Name x p) (e :: es) [] pos) (tCall3 S.sp pat t) := by
  obtain ⟨f, fd, F, hm, hk', hb⟩ := C.ex
  exact call3 F S.monoP (hr.mono hk) hg hm hk' hb pass0 ha nd hdb he hpl
theorem clO3 (C : Cal X.prog X.w X.K X.mg X.base k x ps S) (hr : Room j X.A) (ha : PAr X XF (e :: es) pat t) (hk : k ≤ j := by first | decide | omega) (hg : Gl X x := by rfl) (nd : (pat.filterMap id).Nodup := by decide) (hdb : (x == ("__debug__" : Str)) = false := by decide)
    (he : starEach (e :: es) X.env = (false, eval e X.env) :: starEach es X.env := by rfl) (hpl : (backTo pos (starEach es X.env)).any (·.1) = false := by rfl) : POw X XF (.Call (.Name x p) (e :: es) [] pos) (tCallO S.sp pat t) := by
  obtain ⟨f, fd, F, hm, hk', hb⟩ := C.ex
  exact callO3 F S.monoP (hr.mono hk) hg hm hk' hb pass0 ha nd hdb he hpl
theorem gl3 {x : Str} {i : Int} {pos : Pos} (hm : ∃ t, X.mg x = some (.int i t)) (hg : Gl X x := by rfl) (hd : (x == ("__debug__" : Str)) = false := by decide) : PE3 X E (.Name x pos) (tC3 (.int i)) := by
  obtain ⟨t, hm⟩ := hm
  exact globI3 hg hm hd
end
/-! ## the law -/
def S_law : Prm where
  ι := List Int
  pre := fun ns => ns.length ≤ 63
  args := fun ns => [.ro (ns.map .int)]
  tell := fun _ Q => Q (.d (.bool true)) []
  mono := fun _ _ _ h q => h _ _ q
theorem rpall_ints {K : PySem.W.Frag} {O : Addr → Prop} {H : Hp} : ∀ ns : List Int, RpAll K O H (ns.map V.int) (ns.map PyData.int)
  | [] => .nil
  | n :: r => .cons (.int n) (rpall_ints r)
theorem law_hsp {K : PySem.W.Frag} {H : Hp} {a : Addr} {ns : List Int} (hl : ns.length ≤ 63) (hTb : TabsM H) (hS : SqL K H a (ns.map V.int)) : liftF K S_law.sp [.ref a] H (fun v _ => v = .bl true) (fun _ _ _ => False) := by
  have nx : ∀ b, ¬ Ox (fun _ => False) (fun _ => none) b := fun b z => by
    rcases z with ⟨i, z⟩ | z
    · cases z
    · exact z
  have hT : TR K (Ox (fun _ => False) (fun _ => none)) H a (ns.map V.int) := by
    rcases hS with h | h
    · exact .inl ⟨h, nx a⟩
    · exact .inr (.inr h)
  refine ⟨fun _ => none, fun _ => False, fun _ => none, [.ro (ns.map .int)], ⟨rfl, fun i x e => ?_, fun i t o e => ?_, fun i j b h => (nomatch h), fun b z => absurd z (nx b), fun b z => z.elim, fun p b z => (nomatch z), fun i p e => (by cases i <;> simp at e), hTb⟩, trivial, fun _ _ => rfl, ns, hl, rfl, fun v H' ρ' e oo tk ds rr => ?_⟩
  · cases i with
    | zero =>
      have e' : x = .ro (ns.map .int) := by cases x <;> simp [DV.w] at e <;> simp [e]
      subst e'
      exact ⟨_, rfl, a, _, rfl, hT, rpall_ints ns⟩
    | succ i => simp at e
  · cases i with
    | zero => simp at e
    | succ i => simp at e
  · cases rr
    rfl
end M3

set_option Elab.async false
set_option linter.all false
set_option maxRecDepth 100000
namespace M3
open PySem L2
variable [TabsC]

/-! ## t[::-1] of a tuple -/
section
open PySem PySem.Spec PyProof.Rows HT
variable {prog : Program} {w : World} {A : Around} {E : Value → Shared → Prop} {s : Shared}
theorem rev_places (n : Nat) : Builtin.Slice.slicePlaces ((n : Int) - 1) (-1) (-1) = n := by
  unfold Builtin.Slice.slicePlaces
  rw [if_neg (by decide)]
  by_cases h : (n : Int) - 1 > -1
  · rw [if_pos h]
    have : ((n : Int) - 1 - -1 - 1) / (- -1) + 1 = (n : Int) := by
      show ((n : Int) - 1 - -1 - 1) / 1 + 1 = (n : Int)
      rw [Int.ediv_one]; omega
    rw [this]; simp
  · rw [if_neg h]
    have : n = 0 := by omega
    subst this; rfl
theorem sliceApplied_rev {sl : Addr} {t : Tok} {n : Nat} {Q : Int × Int × Nat → Shared → Prop} (hs : s.heap.IsSliceOf sl .none .none (.int (-1) t)) (h : Q ((n : Int) - 1, -1, n) s) : wpAny (model prog w) A (Builtin.Slice.sliceApplied (.ref sl) (pure (n : Int))) Q E s := by
  obtain ⟨os, hos, hcs, hds⟩ := id hs
  unfold Builtin.Slice.sliceApplied Builtin.Slice.sliceFields
  refine wpAny_bind (wpAny_bind (wpAny_field hos hds (x := .none) rfl (wpAny_bind (wpAny_field hos hds (x := .none) rfl (wpAny_bind (wpAny_field hos hds (x := .int (-1) t) rfl (wpAny_pure ?_)))))))
  refine wpAny_bind (slicePart_int ?_)
  show wpAny _ _ (if ((-1 : Int) == 0) = true then _ else _) _ _ s
  rw [if_neg (by decide)]
  refine wpAny_bind (slicePart_none (wpAny_bind (slicePart_none (wpAny_bind (wpAny_pure ?_)))))
  show wpAny _ _ (pure ((n : Int) - 1, (-1 : Int), Builtin.Slice.slicePlaces ((n : Int) - 1) (-1) (-1))) _ _ s
  rw [rev_places]
  exact wpAny_pure h
theorem pick_rev (xs : Array Value) : ((List.range xs.size).filterMap fun (m : Nat) => xs[((xs.size : Int) - 1 + (m : Int) * (-1)).toNat]?).toArray = xs.toList.reverse.toArray := by
  congr 1
  refine List.ext_getElem? fun i => ?_
  have gen : ∀ l : List Nat, (∀ m ∈ l, m < xs.size) → l.filterMap (fun (m : Nat) => xs[((xs.size : Int) - 1 + (m : Int) * (-1)).toNat]?) = l.map (fun (m : Nat) => xs.toList.getD (xs.size - 1 - m) .none) := by
    intro l
    induction l with
    | nil => intro _; rfl
    | cons m l ih =>
      intro hm
      have hm' : m < xs.size := hm m List.mem_cons_self
      have e1 : ((xs.size : Int) - 1 + (m : Int) * (-1)).toNat = xs.size - 1 - m := by omega
      have hlt : xs.size - 1 - m < xs.size := by omega
      have e2 : xs[((xs.size : Int) - 1 + (m : Int) * (-1)).toNat]? = some (xs.toList.getD (xs.size - 1 - m) .none) := by rw [e1]; simp [hlt]
      rw [List.filterMap_cons, e2, List.map_cons, ih fun k hk => hm k (List.mem_cons_of_mem _ hk)]
  have e := gen (List.range xs.size) fun m hm => List.mem_range.mp hm
  rw [e, List.getElem?_map]
  by_cases hi : i < xs.size
  · rw [List.getElem?_range hi, List.getElem?_reverse (by simpa using hi)]
    have hlt : xs.size - 1 - i < xs.size := by omega
    simp [hlt]
  · rw [List.getElem?_eq_none (by simpa using hi), List.getElem?_eq_none (by simpa using hi)]
    rfl
theorem getItem_tuple_rev {t sl : Addr} {items : Array Value} {tk : Tok} {Q : Value → Shared → Prop} (ht : IsTup s.heap t items) (hs : s.heap.IsSliceOf sl .none .none (.int (-1) tk))
    (h : Q (.ref s.heap.objs.size) { s with heap := s.heap.push { cls := .type "tuple", data := .seq items.toList.reverse.toArray } }) (hsz : items.size ≤ sizeLine) : wpAny (model prog w) A (getItem (.ref t) (.ref sl)) Q E s := by
  have htake : sizeOk (.seq items.toList.reverse.toArray) := by
    show items.toList.reverse.toArray.size ≤ sizeLine
    rw [List.size_toArray, List.length_reverse, Array.length_toList]
    exact hsz
  obtain ⟨os, hos, hcs, hds⟩ := id hs
  have hTs : s.TypeIs (.ref sl) "slice" := ⟨os, hos, hcs⟩
  unfold getItem
  try with_reducible refine wpAny_holding ?_
  first | refine wpAny_bind (wpAny_pure ?_) | skip
  refine wpAny_bind (wpAny_sequenceKey ht.typeIs (by decide) ?_)
  refine wpAny_bind (wpAny_callSpecial?_slot (name := Str.ofString "__getitem__") ht.typeIs PyProof.Rows.slot_tuple_getitem
    (wpAny_call_entry PyProof.Rows.slot_tuple_getitem ht.typeIs entry_tuple_getitem ?_ (args_tuple_getitem _ _)))
  show wpAny _ _ (Builtin.Tuple.tupleItemsOf (.ref t) >>= _) _ _ s
  refine wpAny_bind (tupleItemsOf_ ht ?_)
  refine wpAny_bind (wpAny_typeOf hTs ?_)
  rw [if_pos (by decide)]
  refine wpAny_bind (sliceApplied_rev hs ?_)
  have hno : ¬ ((((items.size : Int) - 1) == 0 && (-1 : Int) == 1 && items.size == items.size) = true) := by
    intro q
    rw [Bool.and_eq_true, Bool.and_eq_true] at q
    exact absurd (eq_of_beq q.1.2) (by decide)
  show wpAny _ _ (if (((items.size : Int) - 1) == 0 && (-1 : Int) == 1 && items.size == items.size) = true then _ else _) _ _ s
  rw [if_neg hno, pick_rev]
  first
    | exact wpAny_bind (m := Builtin.Tuple.tupleExact _) (wpAny_newObj_type (wpAny_pure ⟨_, rfl, wpAny_pure h⟩) htake)
    | exact wpAny_bind (m := Builtin.Tuple.tupleExact _) (wpAny_newObj_type (wpAny_bind (wpAny_pure (wpAny_pure ⟨_, rfl, wpAny_pure h⟩))) htake)
    | exact wpAny_bind (wpAny_bind (m := Builtin.Tuple.tupleExact _) (wpAny_newObj_type (wpAny_pure (wpAny_pure ⟨_, rfl, wpAny_pure h⟩)) htake))
    | exact wpAny_bind (wpAny_bind (m := Builtin.Tuple.tupleExact _) (wpAny_newObj_type (wpAny_pure ⟨_, rfl, wpAny_pure h⟩) htake))
end
section
variable {X : Cx} {E : XK} {e : Expr} {te : T3} {pos : Pos}
def tRevT (K : PySem.W.Frag) (te : TE) : TE := fun σ H Q => te σ H fun x H1 => ∃ a xs, x = .ref a ∧ SqT K H1 a xs ∧ ∀ p, H1 p = none → Q (.ref p) (upd H1 p (.tup xs.reverse))
theorem pe_revT {te : TE} {k : Nat} {p1 p2 p3 pos : Pos} (he : PE X e te) : PE X (.Subscript e (.Slice none none (some (.UnaryOp .USub (.Constant (.int 1) k p1) p2)) p3) pos) (tRevT X.K te) := by
  refine ⟨fun pins s σ H Q I h => ?_⟩
  refine PyProof.Rows.Subscript_ (thn (he.run pins s σ H _ I h) fun v s1 ⟨x, H1, I1, r1, q1⟩ => ?_)
  obtain ⟨a, xs, ex, hx, q⟩ := q1
  subst ex
  cases r1
  have hst : PO X (some (.UnaryOp .USub (.Constant (.int 1) k p1) p2)) (tPart (tUn (rU fun i => .int (-i)) (tC (.int 1)))) := po_some (pe_un un_neg pe_int)
  refine wpAny_Slice (thn (po_none.run pins s1 σ H1 (fun o H2 => o = none ∧ H2 = H1) I1 ⟨rfl, rfl⟩) fun vl s2 ⟨l, H2, I2, pl, el, e2⟩ => ?_)
  subst el e2
  refine thn (po_none.run pins s2 σ H2 (fun o H3 => o = none ∧ H3 = H2) I2 ⟨rfl, rfl⟩) fun vu s3 ⟨u, H3, I3, pu, eu, e3⟩ => ?_
  subst eu e3
  refine thn (hst.run pins s3 σ H3 (fun o H4 => o = some (-1) ∧ H4 = H3) I3 ⟨1, rfl, -1, rfl, rfl, rfl⟩) fun vs s4 ⟨o, H4, I4, ps, eo, e4⟩ => ?_
  subst eo e4
  cases pl; cases pu; cases ps with
  | int i t =>
  have I5 : Inv X pins σ H4 { s4 with heap := s4.heap.push { cls := .type "slice", data := .fields #[.none, .none, .int (-1) t] } } := I4.kept (t' := s4.toks) fun b ob q => Heap.get?_push_of_some _ q
  obtain ⟨its, r, ht, hz⟩ := I5.tuple hx
  have hlen := r.length
  show wpAny (model X.prog X.w) X.A (PyProof.Rows.subscriptTail e (.Slice none none (some (.UnaryOp .USub (.Constant (.int 1) k p1) p2)) p3) (.ref a) (.ref s4.heap.objs.size)) (EP X pins σ Q) X.xe { s4 with heap := s4.heap.push { cls := .type "slice", data := .fields #[.none, .none, .int (-1) t] } }
  refine PyProof.Rows.tail_any (ops := [.ref a, .ref s4.heap.objs.size]) ht.typeIs (PyProof.Rows.slot_tuple_getitem.lookup) ?_ (by with_unfolding_all rfl)
  refine getItem_tuple_rev ht (Heap.IsSliceOf.new _ .none .none (.int (-1) t)) ?_ (by rw [List.size_toArray]; omega)
  refine ⟨.ref _, _, I5.laid (t' := s4.toks) (o := .tup xs.reverse) (fun b ob q => Heap.get?_push_of_some _ q) (Nat.le_refl _) ?_, rfl, q _ (I5.hok.fresh (Nat.le_refl _))⟩
  exact ⟨by rw [List.length_reverse]; exact hz, its.reverse, r.reverse, by rw [List.toList_toArray]; exact PyProof.Rows.IsTup.new _ _⟩
def asT (x : D) (k : List D → Prop) : Prop := match x with | .tuple xs => k xs | _ => False
theorem asT.to {x : D} {k : List D → Prop} (h : asT x k) : ∃ xs, x = .tuple xs ∧ k xs := by
  cases x <;> first | exact ⟨_, rfl, h⟩ | exact False.elim h
theorem rev3 {k : Nat} {p1 p2 p3 : Pos} (he : PE3 X E e te) : PE3 X E (.Subscript e (.Slice none none (some (.UnaryOp .USub (.Constant (.int 1) k p1) p2)) p3) pos) (tU3 (fun x k => asT x fun xs => k (.tuple xs.reverse)) te) :=
  un3 (r := fun x H Q => ∃ a xs, x = .ref a ∧ SqT X.K H a xs ∧ ∀ p, H p = none → Q (.ref p) (upd H p (.tup xs.reverse))) (fun _ h => pe_revT h) (fun O H v x k Q tr rx h hq => by
    obtain ⟨xs, rfl, h1⟩ := asT.to h
    cases rx with
    | tup ht hr => exact ⟨_, _, rfl, ht.sq, fun p hp => hq _ _ _ (same_upd hp) (rp_tup tr hp hr.reverse) h1⟩) (fun x k k' hk h => by obtain ⟨xs, rfl, h1⟩ := asT.to h; exact hk _ h1) he
/-! ## dicts that stay as they are -/
theorem updupd {H : Hp} {p : Addr} {a b : HO} : upd (upd H p a) p b = upd H p b := by
  funext q
  by_cases e : q = p
  · rw [e, upd_same, upd_same]
  · rw [upd_ne e, upd_ne e, upd_ne e]
/-- what has just been made is locked -/
theorem pe_lkR {X : Cx} {e : Expr} {t : TE} (h : PE X e t) : PE X e (fun σ H Q => t σ H fun x H1 => ∃ d u, x = .ref d ∧ H1 d = some u ∧ Mut (some u) ∧ ∀ od, Q x (upd H1 d (.frz od u))) := by
  refine ⟨fun pins s σ H Q I hw => thn (h.run pins s σ _ _ I hw) fun v s1 ⟨x, H1, I1, r, d, u, ex, hd, mu, q⟩ => ?_⟩
  obtain ⟨od, I2⟩ := I1.lock hd mu
  exact ⟨x, _, I2, r, q od⟩
theorem dict03 : PE3 X E (.Dict [] [] pos) (tC3 (.dict [])) := by
  refine ⟨mono_tC3, (pe_lkR pe_dnewK).imp fun σ H Q h => ?_⟩
  obtain ⟨π, F, ρ, δ, rel, q⟩ := h
  intro p hp
  refine ⟨p, _, rfl, upd_same, trivial, fun od => ?_⟩
  rw [updupd]
  exact q _ _ ρ (Ext.same (same_upd hp)) (rel.same (same_upd hp)) (.dic upd_same (rel.fresh hp) .nil)
def asK (x : D) (k : Key → Prop) : Prop := match x with | .int i => k (.inl i) | .str s => k (.inr s) | _ => False
theorem asK.to {x : D} {k : Key → Prop} (h : asK x k) : ∃ y, x = kD y ∧ k y := by
  cases x <;> first | exact ⟨.inl _, rfl, h⟩ | exact ⟨.inr _, rfl, h⟩ | exact False.elim h
theorem rp_key {K : PySem.W.Frag} {O : Addr → Prop} {H : Hp} {v : V} {y : Key} (h : Rp K O H v (kD y)) : v = kV y := by
  cases y <;> (cases h; rfl)
def tDict1 (tk tv : T3) : T3 := fun E δ Q => tk E δ fun x δ1 => tv E δ1 fun y δ2 => asK x fun _ => Q (.dict [(x, y)]) δ2
theorem dict13 {ke ve : Expr} {tk tv : T3} (hk : PE3 X E ke tk) (hv : PE3 X E ve tv) : PE3 X E (.Dict [some ke] [ve] pos) (tDict1 tk tv) := by
  refine ⟨fun _ _ _ _ _ hx hq q => hk.mono _ _ _ _ _ hx (fun x δ1 => hv.mono _ _ _ _ _ hx fun y δ2 z => by
    obtain ⟨k, rfl, z1⟩ := asK.to z
    cases k <;> exact hq _ _ z1) q, (pe_lkR (pe_disp (pps_cons hk.pe hv.pe pps_nil) rfl rfl (by simp) (show 1 ≤ 15 by decide))).imp fun σ H Q h => ?_⟩
  obtain ⟨π, F, ρ, δ, rel, q⟩ := h
  intro p hp
  have ex0 : Ex F ρ H ρ (upd H p (.dK [])) := Ext.same (same_upd hp)
  have nF : ¬ Ox F ρ p := rel.fresh hp
  refine ⟨π, FD F p, ρ, δ, rel.addF hp, hk.mono _ _ _ _ _ (liftX.mono ex0) (fun x δ1 q v H1 ρ1 e1 rel1 r1 => ?_) q⟩
  refine ⟨π, FD F p, ρ1, δ1, rel1, hv.mono _ _ _ _ _ (liftX.mono (ex0.trans e1)) (fun y δ2 q u H2 ρ2 e2 rel2 r2 => ?_) q⟩
  obtain ⟨k, rfl, q1⟩ := asK.to q
  have e12 := e1.trans e2
  have hH2 : H2 p = some (.dK []) := e12.fr p _ upd_same (fun z => nF (.inl z)) rfl
  have np2 : ¬ Ow ρ2 p := rel2.dis p (.inr rfl)
  have hv' := rp_key r1
  subst hv'
  refine ⟨hH2, [(k, u)], rfl, (show 1 ≤ 15 by decide), p, _, rfl, upd_same, trivial, fun od => ?_⟩
  rw [updupd]
  obtain ⟨rel3, ex3⟩ := rel2.updF (d := p) (o := .frz od (.dK [(k, u)])) (.inr rfl) hH2 ⟨rfl, rfl⟩
  have ex4 : Ex F ρ H ρ2 (upd H2 p (.frz od (.dK [(k, u)]))) := ⟨fun b o hb n ht => by
    have hbp : b ≠ p := fun z => by rw [z, hp] at hb; cases hb
    rw [upd_ne hbp]
    exact (ex0.trans e12).fr b o hb n ht, (ex0.trans e12).ow, fun b o hb => by
    obtain ⟨o', h'⟩ := (ex0.trans e12).tk b o hb
    exact ex3.tk b o' h', (ex0.trans e12).tb.trans ex3.tb⟩
  have lex : ∀ b, Ox F ρ2 b → Ox (FD F p) ρ2 b := fun b z => z.imp id .inl
  exact q1 _ _ ρ2 ex4 (rel3.lessF fun _ => .inl) (.dic upd_same (fun z => z.elim np2 fun z => nF (.inr z)) (.cons ((r2.ext ex3 fun b z => by rw [z]; exact .inr (.inr rfl)).mono lex) .nil))
end
end M3

set_option Elab.async false
set_option linter.all false
set_option maxRecDepth 100000
namespace M3
open PySem L2
variable [TabsC]
section
variable {X : Cx} {E : XK} {a b e tg : Expr} {ta tb te : T3} {pos : Pos}
/-! ## max, min, sum of a list of numbers -/
theorem rpall_ints' {K : PySem.W.Frag} {O : Addr → Prop} {H : Hp} : ∀ {ns : List Int} {vs : List V}, RpAll K O H vs (ns.map PyData.int) → vs = ns.map V.int
  | [], _, .nil => rfl
  | b :: r, _, .cons h t => by cases h; rw [List.map_cons, rpall_ints' t]
def rMaxL3 (x : D) (k : D → Prop) : Prop := match x with
  | .list xs => ∃ ns : List Int, xs = ns.map PyData.int ∧ 0 < ns.length ∧ ∀ m, m ∈ ns → (∀ y, y ∈ ns → y ≤ m) → k (.int m)
  | _ => False
def rMinL3 (x : D) (k : D → Prop) : Prop := match x with
  | .list xs => ∃ ns : List Int, xs = ns.map PyData.int ∧ 0 < ns.length ∧ ∀ m, m ∈ ns → (∀ y, y ∈ ns → m ≤ y) → k (.int m)
  | _ => False
def rSumL3 (x : D) (k : D → Prop) : Prop := match x with
  | .list xs => ∃ ns : List Int, xs = ns.map PyData.int ∧ k (.int ns.sum)
  | _ => False
theorem maxL3 {p : Pos} (hc : X.calm = true) (hg : Gl X "max") (hm : X.mg "max" = none) (ha : PE3 X E a ta) (he : starEach [a] X.env = (false, eval a X.env) :: starEach [] X.env := by rfl) : PE3 X E (.Call (.Name "max" p) [a] [] pos) (tU3 rMaxL3 ta) :=
  un3 (fun _ h => mkB (cr_max hc) hg hm (by decide +kernel) h (by decide) (by decide) he) (fun O H v x k Q tr rx h hq => by
    unfold rMaxL3 at h
    split at h
    · obtain ⟨ns, rfl, h1, h⟩ := h
      cases rx with
      | lst ht hr => exact ⟨_, ns, rfl, by rw [← rpall_ints' hr]; exact ht.sq, h1, fun m z1 z2 => hq _ _ H (Same.refl H) (.int _) (h m z1 z2)⟩
    · exact h.elim) (fun x k k' hk h => by
    unfold rMaxL3 at h ⊢
    split at h
    · obtain ⟨ns, e, h1, h⟩ := h; exact ⟨ns, e, h1, fun m z1 z2 => hk _ (h m z1 z2)⟩
    · exact h.elim) ha
theorem minL3 {p : Pos} (hc : X.calm = true) (hg : Gl X "min") (hm : X.mg "min" = none) (ha : PE3 X E a ta) (he : starEach [a] X.env = (false, eval a X.env) :: starEach [] X.env := by rfl) : PE3 X E (.Call (.Name "min" p) [a] [] pos) (tU3 rMinL3 ta) :=
  un3 (fun _ h => mkB (cr_min hc) hg hm (by decide +kernel) h (by decide) (by decide) he) (fun O H v x k Q tr rx h hq => by
    unfold rMinL3 at h
    split at h
    · obtain ⟨ns, rfl, h1, h⟩ := h
      cases rx with
      | lst ht hr => exact ⟨_, ns, rfl, by rw [← rpall_ints' hr]; exact ht.sq, h1, fun m z1 z2 => hq _ _ H (Same.refl H) (.int _) (h m z1 z2)⟩
    · exact h.elim) (fun x k k' hk h => by
    unfold rMinL3 at h ⊢
    split at h
    · obtain ⟨ns, e, h1, h⟩ := h; exact ⟨ns, e, h1, fun m z1 z2 => hk _ (h m z1 z2)⟩
    · exact h.elim) ha
theorem sum3 {p : Pos} (hc : X.calm = true) (hg : Gl X "sum") (hm : X.mg "sum" = none) (ha : PE3 X E a ta) (he : starEach [a] X.env = (false, eval a X.env) :: starEach [] X.env := by rfl) : PE3 X E (.Call (.Name "sum" p) [a] [] pos) (tU3 rSumL3 ta) :=
  un3 (fun _ h => mkB (cr_sum hc) hg hm (by decide +kernel) h (by decide) (by decide) he) (fun O H v x k Q tr rx h hq => by
    unfold rSumL3 at h
    split at h
    · obtain ⟨ns, rfl, h⟩ := h
      cases rx with
      | lst ht hr => exact ⟨_, ns, rfl, by rw [← rpall_ints' hr]; exact ht.sq, hq _ _ H (Same.refl H) (.int _) h⟩
    · exact h.elim) (fun x k k' hk h => by
    unfold rSumL3 at h ⊢
    split at h
    · obtain ⟨ns, e, h⟩ := h; exact ⟨ns, e, hk _ h⟩
    · exact h.elim) ha
/-! ## zip -/
def zipD (xs ys : List D) : List D := (xs.zip ys).map fun p => .tuple [p.1, p.2]
theorem zipD_get {xs ys : List D} {i : Nat} {x : D} (h : (zipD xs ys)[i]? = some x) : ∃ d e, xs[i]? = some d ∧ ys[i]? = some e ∧ x = .tuple [d, e] := by
  unfold zipD at h
  rw [List.getElem?_map] at h
  cases hz : (xs.zip ys)[i]? with
  | none => rw [hz] at h; cases h
  | some p =>
    rw [hz] at h
    obtain ⟨h1, h2⟩ := List.getElem?_zip_eq_some.mp hz
    exact ⟨p.1, p.2, h1, h2, (Option.some.inj h).symm⟩
theorem zipD_length {xs ys : List D} : (zipD xs ys).length = min xs.length ys.length := by unfold zipD; simp
theorem jok_zipT {K : PySem.W.Frag} {F : Addr → Prop} {ρ0 : Rho} {H0 : Hp} {a b : Addr} {vs us : List V} {xs ys : List D} (h1 : TT K (Ox F ρ0) H0 a vs) (r1 : RpAll K (Ox F ρ0) H0 vs xs) (h2 : TT K (Ox F ρ0) H0 b us) (r2 : RpAll K (Ox F ρ0) H0 us ys) : JOk K F ρ0 H0 (RZ.ItzT K a b) (zipD xs ys) := by
  intro i F' ρ H P po ex tr
  have h1' := h1.ext ex po
  have r1' := r1.ext ex po
  have h2' := h2.ext ex po
  have r2' := r2.ext ex po
  refine ⟨fun x hx => ?_, fun hx => ⟨vs, us, h1'.sq, h2'.sq, ?_⟩⟩
  · obtain ⟨d, e, hd, he, rfl⟩ := zipD_get hx
    obtain ⟨v, hv, rv⟩ := r1'.get hd
    obtain ⟨u, hu, ru⟩ := r2'.get he
    refine ⟨⟨vs, us, v, u, h1'.sq, h2'.sq, hv, hu⟩, fun w H' y => ?_⟩
    obtain ⟨T, x', y', e1, e2, e3, e4, e5⟩ := y
    have z1 := e4 vs h1'.sq
    have z2 := e5 us h2'.sq
    rw [hv] at z1; rw [hu] at z2
    cases z1; cases z2
    subst e1 e3
    exact ⟨same_upd e2, rp_tup tr e2 (.cons rv (.cons ru .nil))⟩
  · rw [zipD_length] at hx
    rw [r1'.length, r2'.length]
    omega
theorem jok_zipL {K : PySem.W.Frag} {F : Addr → Prop} {ρ0 : Rho} {H0 : Hp} {a b : Addr} {vs us : List V} {xs ys : List D} (h1 : TL K (Ox F ρ0) H0 a vs) (r1 : RpAll K (Ox F ρ0) H0 vs xs) (h2 : TL K (Ox F ρ0) H0 b us) (r2 : RpAll K (Ox F ρ0) H0 us ys) : JOk K F ρ0 H0 (Itz K a b) (zipD xs ys) := by
  intro i F' ρ H P po ex tr
  have h1' := h1.ext ex po
  have r1' := r1.ext ex po
  have h2' := h2.ext ex po
  have r2' := r2.ext ex po
  refine ⟨fun x hx => ?_, fun hx => ⟨vs, us, h1'.sq, h2'.sq, ?_⟩⟩
  · obtain ⟨d, e, hd, he, rfl⟩ := zipD_get hx
    obtain ⟨v, hv, rv⟩ := r1'.get hd
    obtain ⟨u, hu, ru⟩ := r2'.get he
    refine ⟨⟨vs, us, v, u, h1'.sq, h2'.sq, hv, hu⟩, fun w H' y => ?_⟩
    obtain ⟨T, x', y', e1, e2, e3, e4, e5⟩ := y
    have z1 := e4 vs h1'.sq
    have z2 := e5 us h2'.sq
    rw [hv] at z1; rw [hu] at z2
    cases z1; cases z2
    subst e1 e3
    exact ⟨same_upd e2, rp_tup tr e2 (.cons rv (.cons ru .nil))⟩
  · rw [zipD_length] at hx
    rw [r1'.length, r2'.length]
    omega
def asZip (x y : D) (k : List D → Prop) : Prop := match x, y with
  | .tuple xs, .tuple ys => k (zipD xs ys)
  | .list xs, .list ys => k (zipD xs ys)
  | _, _ => False
theorem asZip.imp {x y : D} {k k' : List D → Prop} (h : asZip x y k) (f : ∀ xs, k xs → k' xs) : asZip x y k' := by
  unfold asZip at h ⊢
  split at h
  · exact f _ h
  · exact f _ h
  · exact h.elim
def tZip (ta tb : T3) : TA3 := fun E δ Q => ta E δ fun x δ1 => tb E δ1 fun y δ2 => asZip x y fun xs => Q xs δ2
theorem zip3 {p tpos : Pos} {elts : List Expr} {kk : Nat} (hg : Gl X "zip") (hm : X.mg "zip" = none) (ha : PE3 X E a ta) (hb : PE3 X E b tb)
    (hs' : starEach [a, b] X.env = (false, eval a X.env) :: starEach [b] X.env := by rfl) (hs2' : starEach [b] X.env = (false, eval b X.env) :: starEach [] X.env := by rfl) (hpl : (backTo pos (starEach [b] X.env)).any (·.1) = false := by rfl) : PI3 X E (.Tuple elts kk tpos) (.Call (.Name "zip" p) [a, b] [] pos) (tZip ta tb) := by
  refine ⟨fun _ _ _ _ _ hx hq q => ha.mono _ _ _ _ _ hx (fun x δ1 => hb.mono _ _ _ _ _ hx fun y δ2 z => z.imp fun _ => hq _ _) q, (RZ.pi_zipA hg hm (pa_cons ha.pe (pa_cons hb.pe pa_nil hs2') hs') hs' hpl).imp fun σ H R h => ?_⟩
  obtain ⟨π, F, ρ, δ, rel, q⟩ := h
  refine ⟨π, F, ρ, δ, rel, ha.mono _ _ _ _ _ (fun _ z => z) (fun x δ1 q v H1 ρ1 e1 rel1 r1 => ?_) q⟩
  refine ⟨π, F, ρ1, δ1, rel1, hb.mono _ _ _ _ _ (liftX.mono e1) (fun y δ2 q u H2 ρ2 e2 rel2 r2 => ?_) q⟩
  have r1' := r1.ext e2.frn fun _ => .inl
  unfold asZip at q
  split at q
  · cases r1' with
    | tup ht hr => cases r2 with
      | tup ht2 hr2 => exact ⟨_, _, _, _, rfl, .inr ⟨ht.sq, ht2.sq, q _ H2 ρ2 (e1.trans e2) rel2 (jok_zipT ht hr ht2 hr2)⟩⟩
  · cases r1' with
    | lst ht hr => cases r2 with
      | lst ht2 hr2 => exact ⟨_, _, _, _, rfl, .inl ⟨ht.sq, ht2.sq, q _ H2 ρ2 (e1.trans e2) rel2 (jok_zipL ht hr ht2 hr2)⟩⟩
  · exact q.elim
end
end M3

set_option Elab.async false
set_option linter.all false
set_option maxRecDepth 100000
namespace M3
open PySem L2
variable [TabsC]

/-! ## promises, curried -/
structure PrmC where
  sp : List W → (R3 → List Ob → Prop) → Prop
  mono : ∀ ws Q Q', (∀ r os, Q r os → Q' r os) → sp ws Q → sp ws Q'
def PrmC.p (S : PrmC) : Sp3 := fun ws Q _ => S.sp ws Q
theorem PrmC.monoP (S : PrmC) : MonoP S.p := fun _ _ _ _ _ hq _ h => S.mono _ _ _ hq h
theorem fnC {P : Program} {w : World} {K : PySem.W.Frag} {mg : Str → Option Value} {base : Heap} {x qual : Str} {st : Stmt} {f : Addr} {fd : FuncData} {N ps : List Str} {k : Nat} {S : PrmC} (F : Fun K x qual st f fd) (Sc : FnScope N ps (defScope st)) (len : ∀ ws Q, S.sp ws Q → ws.length = ps.length)
    (hbody : ∀ (cdv : Value) (A : Around) (outer : List Env) (s : Shared) (H : Hp) (E : XK), Room k (A.deeper (PyProof.Rows.envOfC qual (defScope st) s.heap.objs.size f cdv)) →
      ∃ t, PSs3 (cxOf CX0 P w K mg base N qual (defScope st) f cdv A outer s H E).nox XF (defBody st) t ∧ ∀ (ws : List W) (Q : R3 → List Ob → Prop), S.sp ws Q → t (fun _ => False) (ends ws Q) (start3 N ws)) :
    FnOk P w K mg base CX0 (k + 1) f fd ps (liftF K S.p) := by
  refine fn3 (sp := S.p) F Sc (fun ws Q E h => len ws Q h) (fun cdv A outer s H E hr => ?_) S.monoP
  obtain ⟨t, h1, h2⟩ := hbody cdv A outer s H E hr
  exact ⟨t, h1, fun ws Q h tg => h2 ws Q h⟩
structure CalC (P : Program) (w : World) (K : PySem.W.Frag) (mg : Str → Option Value) (base : Heap) (k : Nat) (x : Str) (ps : List Str) (S : PrmC) : Prop where
  ex : ∃ f fd, FnOk P w K mg base CX0 k f fd ps (liftF K S.p) ∧ mg x = some (.ref f) ∧ PySem.W.keepIn K (.ref f) = true ∧ Binds K fd ps []
section
variable {X : Cx} {E : XK} {k j : Nat} {S : PrmC} {ps : List Str} {e : Expr} {es : List Expr} {x : Str} {p pos : Pos} {pat : List (Option Nat)} {t : TV3}
theorem clC (C : CalC X.prog X.w X.K X.mg X.base k x ps S) (hr : Room j X.A) (ha : PAr X XF (e :: es) pat t) (hk : k ≤ j := by first | decide | omega) (hg : Gl X x := by rfl) (nd : (pat.filterMap id).Nodup := by decide) (hdb : (x == ("__debug__" : Str)) = false := by decide)
    (he : starEach (e :: es) X.env = (false, eval e X.env) :: starEach es X.env := by rfl) (hpl : (backTo pos (starEach es X.env)).any (·.1) = false := by rfl) : PE3 X XF (.Call (.Name x p) (e :: es) [] pos) (tCall3 S.p pat t) := by
  obtain ⟨f, fd, F, hm, hk', hb⟩ := C.ex
  exact call3 F S.monoP (hr.mono hk) hg hm hk' hb pass0 ha nd hdb he hpl
theorem clOC (C : CalC X.prog X.w X.K X.mg X.base k x ps S) (hr : Room j X.A) (ha : PAr X XF (e :: es) pat t) (hk : k ≤ j := by first | decide | omega) (hg : Gl X x := by rfl) (nd : (pat.filterMap id).Nodup := by decide) (hdb : (x == ("__debug__" : Str)) = false := by decide)
    (he : starEach (e :: es) X.env = (false, eval e X.env) :: starEach es X.env := by rfl) (hpl : (backTo pos (starEach es X.env)).any (·.1) = false := by rfl) : POw X XF (.Call (.Name x p) (e :: es) [] pos) (tCallO S.p pat t) := by
  obtain ⟨f, fd, F, hm, hk', hb⟩ := C.ex
  exact callO3 F S.monoP (hr.mono hk) hg hm hk' hb pass0 ha nd hdb he hpl
end
def S_lawC : PrmC where
  sp := fun ws Q => ∃ ns : List Int, ns.length ≤ 63 ∧ ws = [.ro (ns.map .int)] ∧ Q (.d (.bool true)) []
  mono := fun _ _ _ h ⟨ns, a, b, q⟩ => ⟨ns, a, b, h _ _ q⟩
theorem walkC {l : PySem.W.OpenLaw} {k : Nat} {q : Program} {loose : List Str} {XP : (Str → Option Value) → Heap → Prop} {YP : World → Heap → Prop} {d : DefRec} {K : Params → PySem.W.Frag} (hT0 : TabsC.T = []) (hn : l.most = some 63) (hdf : d.params.defaults = []) (hr : Room k callerA)
    (hY : ∀ (w : World) (h : Heap), YP w h → (K w.params).In h)
    (F : ∀ (w : World) (mg : Str → Option Value) (fa : Addr) (h : Heap), (K w.params).In h → h.Ns mainGlobals mg → mg d.name = some (.ref fa) →
      ∃ fd : FuncData, (∀ (s : Shared) (u : Value), BindsTo s fd ⟨[u], []⟩ [("script", u)]) ∧ ∀ base : Heap, (K w.params).In base → base.Ns mainGlobals mg → FnOk l.prog w (K w.params) mg base CX0 k fa fd ["script"] (liftF (K w.params) S_lawC.p)) :
    PySem.W.WalkO q loose XP YP l.row.toRowW d [] (fun f vs => PySem.call f vs) :=
  L2.walk_of (n := 63) (k := k) (x := "script") (CX := fun _ => CX0) (sp := fun w => liftF (K w.params) S_lawC.p) hn (by decide) hdf hr hY F (fun _ _ _ _ h1 h2 h3 => law_hsp h1 (fun p hp => by rw [hT0] at hp; cases hp) h3) fun _ _ _ _ _ z => z

/-- what the prover has to find -/
structure Ask (p : Prop) : Prop where
  h : p
/-! ## loops by the slots that change -/
def putS (δ : Sl) : List Nat → List (Option W) → Sl
  | i :: is, v :: vs => putS (δ.set i v) is vs
  | _, _ => δ
def getS (δ : Sl) : List Nat → List (Option W)
  | [] => []
  | i :: is => (match δ[i]? with | some v => v | none => none) :: getS δ is
theorem PS3.weak {X : Cx} {E : XK} {st : Stmt} {t t' : TS3} (h : PS3 X E st t) (m : MonoS t') (k : ∀ E D δ, t' E D δ → t E D δ) : PS3 X E st t' :=
  ⟨m, h.ps.imp fun D σ H ⟨π, F, ρ, δ, rel, q⟩ => ⟨π, F, ρ, δ, rel, k _ _ _ q⟩⟩
theorem PE3.weak {X : Cx} {E : XK} {e : Expr} {t t' : T3} (h : PE3 X E e t) (m : Mono3 t') (k : ∀ E δ Q, t' E δ Q → t E δ Q) : PE3 X E e t' :=
  ⟨m, h.pe.imp fun σ H Q ⟨π, F, ρ, δ, rel, q⟩ => ⟨π, F, ρ, δ, rel, k _ _ _ q⟩⟩
section
variable {X : Cx} {E : XK} {tg a b c e iter : Expr} {ta tb tc te : T3} {ti : TA3} {pos : Pos}
def tForM (ws : List Nat) (ti : TA3) (g : TG3) (tb : TS3) : TS3 := fun E D δ => ti E δ fun ds δ1 => Ask <| ∃ I : Nat → List (Option W) → Prop, I 0 (getS δ1 ws) ∧
  (∀ i x vs, ds[i]? = some x → I i vs → g x (putS δ1 ws vs) fun δ3 => tb E { nx := fun δ' => δ' = putS δ1 ws (getS δ' ws) ∧ I (i + 1) (getS δ' ws), ct := fun δ' => δ' = putS δ1 ws (getS δ' ws) ∧ I (i + 1) (getS δ' ws), bk := D.nx, rt := D.rt } δ3) ∧ ∀ vs, I ds.length vs → D.nx (putS δ1 ws vs)
theorem putS_getS : ∀ (ws : List Nat) (δ : Sl), putS δ ws (getS δ ws) = δ
  | [], δ => rfl
  | i :: is, δ => by
    simp only [getS, putS]
    have e : δ.set i (match δ[i]? with | some v => v | none => none) = δ := by
      cases h : δ[i]? with
      | none => exact List.set_eq_of_length_le (List.getElem?_eq_none_iff.mp h)
      | some v =>
        obtain ⟨hl, hv⟩ := List.getElem?_eq_some_iff.mp h
        simp only
        rw [← hv]; exact List.set_getElem_self hl
    rw [e]; exact putS_getS is δ
theorem forM (ws : List Nat) {ws0 : List Nat} {body : List Stmt} {g : TG3} {tb : TS3} (hp : PassesOwn (model X.prog X.w) X.A X.env X.xe) (hc : X.calm = true) (hi : PI3 X E tg iter ti) (hg : PG3 X ws0 tg g) (hb : PSs3 X E body tb)
    (hs : ∀ x, foldedSetIterable iter X.env x = pure x := by intro _; rfl) : PS3 X E (.For tg iter body [] pos) (tForM ws ti g tb) := by
  refine (for3 hp hc hi hg hb hs).weak (fun E1 E2 D1 D2 _ hx hd q => hi.mono _ _ _ _ _ hx (fun ds δ1 ⟨⟨I, h0, h1, h2⟩⟩ => ⟨⟨I, h0, fun i x vs e p => hg.mono _ _ _ _ (fun δ3 => hb.mono E1 E2 { nx := fun δ' => δ' = putS δ1 ws (getS δ' ws) ∧ I (i + 1) (getS δ' ws), ct := fun δ' => δ' = putS δ1 ws (getS δ' ws) ∧ I (i + 1) (getS δ' ws), bk := D1.nx, rt := D1.rt } _ _ hx ⟨fun _ z => z, hd.rt, hd.nx, fun _ z => z⟩) (h1 i x vs e p), fun vs p => hd.nx _ (h2 vs p)⟩⟩) q) fun E1 D1 δ q => ?_
  refine hi.mono _ _ _ _ _ (fun _ z => z) (fun ds δ1 ⟨⟨I, h0, h1, h2⟩⟩ => ?_) q
  refine ⟨fun i δ' => δ' = putS δ1 ws (getS δ' ws) ∧ I i (getS δ' ws), ⟨(putS_getS ws δ1).symm, h0⟩, fun i x δ2 e ⟨p1, p2⟩ => ?_, fun δ2 ⟨p1, p2⟩ => ?_⟩
  · rw [p1]; exact h1 i x _ e p2
  · rw [p1]; exact h2 _ p2
def tWhileM (ws : List Nat) (c : TB3) (tb : TS3) : TS3 := fun E D δ => Ask <| ∃ I : Nat → List (Option W) → Prop, (∃ m, I m (getS δ ws)) ∧
  ∀ m vs, I m vs → c E (putS δ ws vs) fun b δ3 => br b (tb E { nx := fun δ' => δ' = putS δ ws (getS δ' ws) ∧ ∃ m', m' < m ∧ I m' (getS δ' ws), ct := fun δ' => δ' = putS δ ws (getS δ' ws) ∧ ∃ m', m' < m ∧ I m' (getS δ' ws), bk := D.nx, rt := D.rt } δ3) (D.nx δ3)
theorem whileM (ws : List Nat) {body : List Stmt} {tc : TB3} {tb : TS3} (hp : PassesOwn (model X.prog X.w) X.A X.env X.xe) (hc : PT3 X E c tc) (hb : PSs3 X E body tb) : PS3 X E (.While c body [] pos) (tWhileM ws tc tb) := by
  refine (while3 hp hc hb).weak (fun E1 E2 D1 D2 δ hx hd ⟨⟨I, h0, h1⟩⟩ => ⟨⟨I, h0, fun m vs p => hc.mono _ _ _ _ _ hx (fun b δ3 z => z.imp (hb.mono E1 E2 { nx := fun δ' => δ' = putS δ ws (getS δ' ws) ∧ ∃ m', m' < m ∧ I m' (getS δ' ws), ct := fun δ' => δ' = putS δ ws (getS δ' ws) ∧ ∃ m', m' < m ∧ I m' (getS δ' ws), bk := D1.nx, rt := D1.rt } _ _ hx ⟨fun _ z => z, hd.rt, hd.nx, fun _ z => z⟩) (hd.nx _)) (h1 m vs p)⟩⟩) fun E1 D1 δ ⟨⟨I, ⟨m0, h0⟩, h1⟩⟩ => ?_
  refine ⟨fun m δ' => δ' = putS δ ws (getS δ' ws) ∧ I m (getS δ' ws), ⟨m0, (putS_getS ws δ).symm, h0⟩, fun m δ2 ⟨p1, p2⟩ => ?_⟩
  rw [p1]
  exact hc.mono _ _ _ _ _ (fun _ z => z) (fun b δ3 z => z.imp (hb.mono E1 E1 { nx := fun δ' => δ' = putS δ ws (getS δ' ws) ∧ ∃ m', m' < m ∧ I m' (getS δ' ws), ct := fun δ' => δ' = putS δ ws (getS δ' ws) ∧ ∃ m', m' < m ∧ I m' (getS δ' ws), bk := D1.nx, rt := D1.rt } _ _ (fun _ z => z) ⟨fun δ' ⟨e, m', h, i⟩ => ⟨m', h, e, i⟩, fun _ _ z => z, fun _ z => z, fun δ' ⟨e, m', h, i⟩ => ⟨m', h, e, i⟩⟩) fun z => z) (h1 m _ p2)

/-! ## comprehensions: nothing else changes; some slots change -/
variable {elt : Expr} {ifs : List Expr} {tt : TB3} {g : TG3} {vs : List Nat}
def tLcP (ti : TA3) (g : TG3) (te : T3) (vs : List Nat) : T3 := fun E δ Q => ti E δ fun ds δ1 => ds.length ≤ sizeLine ∧ Ask (∃ ys : List D, ys.length = ds.length ∧
  (∀ (i : Nat) (x : D), ds[i]? = some x → g x (wipeS δ1 vs) fun δ3 => te (fun _ => False) δ3 fun y δ5 => backS δ1 δ5 vs = δ1 ∧ ys[i]? = some y) ∧ Q (.list ys) δ1)
def tLcF (ti : TA3) (g : TG3) (tt : TB3) (te : T3) (vs : List Nat) : T3 := fun E δ Q => ti E δ fun ds δ1 => ds.length ≤ sizeLine ∧ Ask (∃ ys : List (Option D), ys.length = ds.length ∧
  (∀ (i : Nat) (x : D), ds[i]? = some x → g x (wipeS δ1 vs) fun δ3 => tt (fun _ => False) δ3 fun b δ4 => br b (te (fun _ => False) δ4 fun y δ5 => backS δ1 δ5 vs = δ1 ∧ ys[i]? = some (some y)) (backS δ1 δ4 vs = δ1 ∧ ys[i]? = some none)) ∧ Q (.list (ys.filterMap id)) δ1)
def tLcM (ws : List Nat) (ti : TA3) (g : TG3) (te : T3) (vs : List Nat) : T3 := fun E δ Q => ti E δ fun ds δ1 => ds.length ≤ sizeLine ∧ Ask (∃ I : Nat → List D → List (Option W) → Prop, I 0 [] (getS δ1 ws) ∧
  (∀ i x acc us, ds[i]? = some x → I i acc us → g x (wipeS (putS δ1 ws us) vs) fun δ3 => te (fun _ => False) δ3 fun y δ5 => backS (putS δ1 ws us) δ5 vs = putS δ1 ws (getS δ5 ws) ∧ I (i + 1) (acc ++ [y]) (getS δ5 ws)) ∧ ∀ acc us, I ds.length acc us → Q (.list acc) (putS δ1 ws us))
theorem mono_tLcP (hi : Mono3 ti) : Mono3 (tLcP ti g te vs) := fun _ _ _ _ _ hx hq q => hi _ _ _ _ _ hx (fun ds δ1 ⟨h1, ⟨⟨ys, h2, h3, h4⟩⟩⟩ => ⟨h1, ⟨⟨ys, h2, h3, hq _ _ h4⟩⟩⟩) q
theorem mono_tLcF (hi : Mono3 ti) : Mono3 (tLcF ti g tt te vs) := fun _ _ _ _ _ hx hq q => hi _ _ _ _ _ hx (fun ds δ1 ⟨h1, ⟨⟨ys, h2, h3, h4⟩⟩⟩ => ⟨h1, ⟨⟨ys, h2, h3, hq _ _ h4⟩⟩⟩) q
theorem mono_tLcM {ws : List Nat} (hi : Mono3 ti) : Mono3 (tLcM ws ti g te vs) := fun _ _ _ _ _ hx hq q => hi _ _ _ _ _ hx (fun ds δ1 ⟨h1, ⟨⟨ys, h2, h3, h4⟩⟩⟩ => ⟨h1, ⟨⟨ys, h2, h3, fun _ _ p => hq _ _ (h4 _ _ p)⟩⟩⟩) q
theorem lcP_le (hi : Mono3 ti) (hg : MonoG g) (he : Mono3 te) {E : Ex3 → Prop} {δ : Sl} {Q : D → Sl → Prop} (h : tLcP ti g te vs E δ Q) : tLc3 ti g tYes3 te vs E δ Q := by
  refine hi _ _ _ _ _ (fun _ z => z) (fun ds δ1 ⟨h1, ⟨⟨ys, h2, h3, h4⟩⟩⟩ => ⟨h1, fun i acc δ2 => δ2 = δ1 ∧ acc = ys.take i, ⟨rfl, by simp⟩, ?_, ?_⟩) h
  · rintro i x acc δ2 hx ⟨rfl, rfl⟩
    refine hg _ _ _ _ (fun δ3 q => ?_) (h3 i x hx)
    refine br_t rfl (he _ _ _ _ _ (fun _ z => z) (fun y δ5 ⟨q1, q2⟩ => ⟨q1, ?_⟩) q)
    rw [List.take_add_one, q2]; rfl
  · rintro acc δ2 ⟨rfl, rfl⟩
    rw [← h2, List.take_length]; exact h4
theorem lcF_le (hi : Mono3 ti) (hg : MonoG g) (ht : Mono3 tt) (he : Mono3 te) {E : Ex3 → Prop} {δ : Sl} {Q : D → Sl → Prop} (h : tLcF ti g tt te vs E δ Q) : tLc3 ti g tt te vs E δ Q := by
  refine hi _ _ _ _ _ (fun _ z => z) (fun ds δ1 ⟨h1, ⟨⟨ys, h2, h3, h4⟩⟩⟩ => ⟨h1, fun i acc δ2 => δ2 = δ1 ∧ acc = (ys.take i).filterMap id, ⟨rfl, by simp⟩, ?_, ?_⟩) h
  · rintro i x acc δ2 hx ⟨rfl, rfl⟩
    refine hg _ _ _ _ (fun δ3 q => ?_) (h3 i x hx)
    refine ht _ _ _ _ _ (fun _ z => z) (fun b δ4 z => z.imp (fun q => he _ _ _ _ _ (fun _ z => z) (fun y δ5 ⟨q1, q2⟩ => ⟨q1, ?_⟩) q) (fun ⟨q1, q2⟩ => ⟨q1, ?_⟩)) q
    · rw [List.take_add_one, q2, List.filterMap_append]; simp
    · rw [List.take_add_one, q2, List.filterMap_append]; simp
  · rintro acc δ2 ⟨rfl, rfl⟩
    rw [← h2, List.take_length]; exact h4
theorem lcM_le {ws : List Nat} (hi : Mono3 ti) (hg : MonoG g) (he : Mono3 te) (hw : ∀ i, i ∈ ws → i ∉ vs) {E : Ex3 → Prop} {δ : Sl} {Q : D → Sl → Prop} (h : tLcM ws ti g te vs E δ Q) : tLc3 ti g tYes3 te vs E δ Q := by
  have hget : ∀ (δ δ' : Sl) (ws : List Nat), (∀ i, i ∈ ws → i ∉ vs) → getS (backS δ δ' vs) ws = getS δ' ws := fun δ δ' ws => by
    induction ws with
    | nil => intro _; rfl
    | cons i is ih =>
      intro hn
      simp only [getS]
      rw [backS_out (hn i List.mem_cons_self), ih fun j hj => hn j (List.mem_cons_of_mem _ hj)]
  refine hi _ _ _ _ _ (fun _ z => z) (fun ds δ1 ⟨h1, ⟨⟨I, h2, h3, h4⟩⟩⟩ => ⟨h1, fun i acc δ2 => δ2 = putS δ1 ws (getS δ2 ws) ∧ I i acc (getS δ2 ws), ⟨(putS_getS ws δ1).symm, h2⟩, ?_, ?_⟩) h
  · rintro i x acc δ2 hx ⟨p1, p2⟩
    generalize hu : getS δ2 ws = us at p1 p2
    subst p1
    refine hg _ _ _ _ (fun δ3 q => ?_) (h3 i x acc _ hx p2)
    refine br_t rfl (he _ _ _ _ _ (fun _ z => z) (fun y δ5 ⟨q1, q2⟩ => ?_) q)
    have e : getS (backS (putS δ1 ws us) δ5 vs) ws = getS δ5 ws := hget _ _ ws hw
    show _ = putS δ1 ws (getS (backS (putS δ1 ws us) δ5 vs) ws) ∧ I _ _ (getS (backS (putS δ1 ws us) δ5 vs) ws)
    rw [e]
    exact ⟨q1, q2⟩
  · rintro acc δ2 ⟨p1, p2⟩
    rw [p1]; exact h4 _ _ p2
variable {scope : Scope} {own : List (Str × Nat)}
theorem lcP (hc : X.calm = true) (hN : X.N.Nodup) (hi : PI3 X E tg iter ti) (ok : BlkOk X.N X.env.scope scope own)
    (hg : ∀ (s : Shared) (H : Hp) (C : Addr) (cl : List (Str × Addr)) (fp : List Addr), PG3 (X.blk s H scope (compEnvC scope cl C X.env) fp) (own.map (·.2)) tg g)
    (he : ∀ (s : Shared) (H : Hp) (C : Addr) (cl : List (Str × Addr)) (fp : List Addr), PE3 (X.blk s H scope (compEnvC scope cl C X.env) fp) XF elt te) (s0 : Shared) (hs : ∀ x, foldedSetIterable iter X.env x = pure x := by intro _; rfl) :
    PE3 X E (.ListComp elt [⟨tg, iter, [], 0⟩] scope pos) (tLcP ti g te (own.map (·.2))) :=
  (lc3 hc hN hi ok hg (fun _ _ _ _ _ => yes3) he hs s0).weak (mono_tLcP hi.mono) fun _ _ _ h => lcP_le hi.mono (hg s0 (fun _ => none) 0 [] []).mono (he s0 (fun _ => none) 0 [] []).mono h
theorem lcF (hc : X.calm = true) (hN : X.N.Nodup) (hi : PI3 X E tg iter ti) (ok : BlkOk X.N X.env.scope scope own)
    (hg : ∀ (s : Shared) (H : Hp) (C : Addr) (cl : List (Str × Addr)) (fp : List Addr), PG3 (X.blk s H scope (compEnvC scope cl C X.env) fp) (own.map (·.2)) tg g)
    (ht : ∀ (s : Shared) (H : Hp) (C : Addr) (cl : List (Str × Addr)) (fp : List Addr), PTs3 (X.blk s H scope (compEnvC scope cl C X.env) fp) XF ifs tt)
    (he : ∀ (s : Shared) (H : Hp) (C : Addr) (cl : List (Str × Addr)) (fp : List Addr), PE3 (X.blk s H scope (compEnvC scope cl C X.env) fp) XF elt te) (s0 : Shared) (hs : ∀ x, foldedSetIterable iter X.env x = pure x := by intro _; rfl) :
    PE3 X E (.ListComp elt [⟨tg, iter, ifs, 0⟩] scope pos) (tLcF ti g tt te (own.map (·.2))) :=
  (lc3 hc hN hi ok hg ht he hs s0).weak (mono_tLcF hi.mono) fun _ _ _ h => lcF_le hi.mono (hg s0 (fun _ => none) 0 [] []).mono (ht s0 (fun _ => none) 0 [] []).mono (he s0 (fun _ => none) 0 [] []).mono h
theorem lcM (ws : List Nat) (hc : X.calm = true) (hN : X.N.Nodup) (hi : PI3 X E tg iter ti) (ok : BlkOk X.N X.env.scope scope own)
    (hg : ∀ (s : Shared) (H : Hp) (C : Addr) (cl : List (Str × Addr)) (fp : List Addr), PG3 (X.blk s H scope (compEnvC scope cl C X.env) fp) (own.map (·.2)) tg g)
    (he : ∀ (s : Shared) (H : Hp) (C : Addr) (cl : List (Str × Addr)) (fp : List Addr), PE3 (X.blk s H scope (compEnvC scope cl C X.env) fp) XF elt te) (s0 : Shared) (hw : ∀ i, i ∈ ws → i ∉ own.map (·.2) := by decide) (hs : ∀ x, foldedSetIterable iter X.env x = pure x := by intro _; rfl) :
    PE3 X E (.ListComp elt [⟨tg, iter, [], 0⟩] scope pos) (tLcM ws ti g te (own.map (·.2))) :=
  (lc3 hc hN hi ok hg (fun _ _ _ _ _ => yes3) he hs s0).weak (mono_tLcM hi.mono) fun _ _ _ h => lcM_le hi.mono (hg s0 (fun _ => none) 0 [] []).mono (he s0 (fun _ => none) 0 [] []).mono hw h
end
end M3

set_option Elab.async false
set_option linter.all false
set_option maxRecDepth 100000
set_option maxHeartbeats 4000000
namespace M3
open PySem L2
variable [TabsC]
/-! ## enumerate of a tuple -/
section
open PySem PySem.Spec PyProof.Rows
theorem meets_enumerate_newT (l : Addr) (items : Array Value) (n : Nat) (dct : Option Addr) (sl : Array (Option Value)) :
    Meets (Builtin.«enumerate.__new__» ⟨[.type "enumerate", .ref l], []⟩) (fun _ R s => s.heap.get? l = some { cls := .type "tuple", dict := dct, data := .seq items n, slots := sl } ∧
      R (.ok (.ret (.ref (s.heap.push { cls := .type "tuple_iterator", data := .fields #[.ref l, .int 0 0] }).objs.size)))
        { s with heap := (s.heap.push { cls := .type "tuple_iterator", data := .fields #[.ref l, .int 0 0] }).push { cls := .type "enumerate", data := .fields #[.none, .bool false, .ref s.heap.objs.size, rawInt 0, .none, .none] } }) :=
  .of_wp fun prog w A R s h => by
    obtain ⟨hp, g, d, tk, os⟩ := s; obtain ⟨hl, h⟩ := h
    have hsub := sub_enumerate
    have hL : Heap.IsTuple (Shared.heap ⟨hp, g, d, tk, os⟩) l items := ⟨_, hl, rfl, n, rfl⟩
    wp_walk using AutoSeq1.wpAny_loadPart' hl
    refine wpAny_stack_any fun st => wpAny_pure ?_
    split
    · rename_i c _ _ _ _ _
      cases (c == Value.type "enumerate")
      · wp_walk using AutoSeq1.wpAny_loadPart' hl, wpAny_pyIter_tuple hL
        exact ⟨_, rfl, h⟩
      · wp_walk using AutoSeq1.wpAny_loadPart' hl, wpAny_pyIter_tuple hL
        exact ⟨_, rfl, h⟩
    · wp_walk using AutoSeq1.wpAny_loadPart' hl, wpAny_pyIter_tuple hL
      exact ⟨_, rfl, h⟩
variable {prog : Program} {w : World} {A : Around} {E : Value → Shared → Prop} {s : Shared}
theorem call_enumerate_tuple {l : Addr} {items : Array Value} {Q : Value → Shared → Prop} (hL : s.heap.IsTuple l items)
    (h : ∀ h', IsEnum h' (s.heap.objs.size + 1) s.heap.objs.size 0 .none → h'.IsTupleIter s.heap.objs.size l 0 → h'.objs.size = s.heap.objs.size + 2 →
      (∀ b o, s.heap.get? b = some o → h'.get? b = some o) → Q (.ref (s.heap.objs.size + 1)) { s with heap := h' }) :
    wpAny (model prog w) A (call (.type "enumerate") [.ref l]) Q E s := by
  obtain ⟨⟨c, dct, dt, sl⟩, hl, hc, n, hd⟩ := hL
  replace hc : c = .type "tuple" := hc
  replace hd : dt = .seq items n := hd
  subst hc hd
  refine callType_new PySem.F.called_enumerate (by decide) (PySem.F.typeCall_enumerate_1 _) (PySem.F.newCall_enumerate_1 _) (fun obj => PySem.F.args_object_init_2 obj _) PySem.F.entry_enumerate_new
    (meets_enumerate_newT l items n dct sl) ⟨hl, ?_⟩
  have hz : (s.heap.push { cls := .type "tuple_iterator", data := .fields #[.ref l, .int 0 0] }).objs.size = s.heap.objs.size + 1 := Heap.size_push ..
  show _ ∧ _
  rw [hz]
  have he : IsEnum ((s.heap.push { cls := .type "tuple_iterator", data := .fields #[.ref l, .int 0 0] }).push
      { cls := .type "enumerate", data := .fields #[.none, .bool false, .ref s.heap.objs.size, rawInt 0, .none, .none] }) (s.heap.objs.size + 1) s.heap.objs.size 0 .none := by
    have := Heap.get?_push_size (s.heap.push { cls := .type "tuple_iterator", data := .fields #[.ref l, .int 0 0] })
      (o := { cls := .type "enumerate", data := .fields #[.none, .bool false, .ref s.heap.objs.size, rawInt 0, .none, .none] }) rfl
    rw [hz] at this; exact this
  refine ⟨⟨_, he, rfl⟩, h _ he ⟨_, Heap.get?_push_of_some _ (Heap.get?_push_size _ rfl), rfl, rfl⟩ (by rw [Heap.size_push, hz]) fun b o x => Heap.get?_push_of_some _ (Heap.get?_push_of_some _ x)⟩
end
def IteT (K : PySem.W.Frag) (a : Addr) : It :=
  ⟨fun i H => ∃ (xs : List V) (x : V), SqT K H a xs ∧ xs[i]? = some x, fun i H v H' => ∃ T x, v = .ref T ∧ H T = none ∧ H' = upd H T (.tup [.int (i : Nat), x]) ∧ ∀ xs, SqT K H a xs → xs[i]? = some x, fun i H => ∃ xs : List V, SqT K H a xs ∧ xs.length ≤ i⟩
theorem turn_enumT {P : Program} {w : World} {K : PySem.W.Frag} {elts : List Expr} {kk : Nat} {tpos : Pos} (a e it : Addr) :
    Turn P w K (.Tuple elts kk tpos) (IteT K a) [e, it] e (fun i h => (∃ old, IsEnum h e it ((i : Nat) : Int) old) ∧ h.IsTupleIter it a i ∧ e ≠ it) where
  mem := by simp
  obj := fun i h st b hb => by
    obtain ⟨⟨old, he⟩, ⟨o, ho, hc, hd⟩, _⟩ := st
    have e' : b = e ∨ b = it := by simpa using hb
    rcases e' with z | z
    · rw [z]; exact ⟨_, he, fun v q => nomatch q⟩
    · rw [z]; exact ⟨o, ho, fun v q => by rw [hd] at q; cases q⟩
  keep := fun i h h' st k => let ⟨⟨old, he⟩, hi, hne⟩ := st; ⟨⟨old, k e (by simp) _ he⟩, hi.at fun o q => k it (by simp) o q, hne⟩
  item := by
    intro X hP hw hK hc i pins s σ H E I hf st hg
    subst hP hw hK
    obtain ⟨⟨old, he⟩, hit, hne⟩ := st
    obtain ⟨xs, x, hq, hx⟩ := hg
    obtain ⟨its, rv, p, hz⟩ := I.tuple hq
    obtain ⟨u, hu, ru⟩ := rv.get hx
    have hel : e < s.heap.objs.size := Heap.lt_size he
    have hil : it < s.heap.objs.size := by obtain ⟨_, q, _⟩ := hit; exact Heap.lt_size q
    have hai : a ≠ it := fun z => by
      obtain ⟨o1, q1, c1, _⟩ := hit
      obtain ⟨o2, q2, c2, _⟩ := p
      rw [z, q1] at q2; cases q2
      rw [c1] at c2; exact absurd c2 (by decide)
    have hae : e ≠ a := fun z => by
      obtain ⟨o2, q2, c2, _⟩ := p
      rw [← z, he] at q2; cases q2
      exact absurd (show Value.type "enumerate" = Value.type "tuple" from c2) (by decide)
    have hlt : i < its.toArray.size := by
      have := (List.getElem?_eq_some_iff.mp hu).1
      simpa using this
    refine wpAny_pyNext_enum_itemD (Draws.tuple (A := X.A.in1) (I.ok.hd hc) it a hai its.toArray) he ⟨hit, p⟩ hlt hne (by simp [hne, hae]) fun u' h' tk hP ho hst' hT hsz hk => ?_
    have hu' : u' = u := by
      have : its.toArray[i]? = some u := by simpa using hu
      rw [this] at hP; exact (Option.some.inj hP).symm
    subst hu'
    refine ⟨_, rfl, wpAny_letOwnedTupleGo_enum (s := { s with heap := h', toks := tk + 1 }) ho fun h'' he' sb => ?_⟩
    have hT2 : h''.get? s.heap.objs.size = some { cls := .type "tuple", data := .seq #[.int i tk, u'] } := (sb.2 _ (Nat.ne_of_gt hel)).trans hT
    have new : ObjOk X.prog X.w (upd H s.heap.objs.size (.tup [.int (i : Nat), x])) h'' s.heap.objs.size (.tup [.int (i : Nat), x]) :=
      ⟨by show 2 ≤ sizeLine; decide, [.int i tk, u'], .cons ⟨_, rfl⟩ (.cons ru .nil), ⟨_, hT2, rfl, _, rfl⟩⟩
    have I1 : Inv X pins σ (upd H s.heap.objs.size (.tup [.int (i : Nat), x])) { s with heap := h'', toks := tk + 1 } :=
      I.turnedNew (ch := [e, it]) (fun b ob hb q => (sb.2 b (fun z => hb (by simp [z]))).trans (hk b ob (fun z => hb (by simp [z])) (fun z => hb (by simp [z])) q)) hf (Nat.le_refl _) new
    refine ⟨.ref s.heap.objs.size, _, I1, rfl, ⟨_, x, rfl, I.hok.fresh (Nat.le_refl _), rfl, fun ys hy => ?_⟩, ⟨⟨u', ?_⟩, hst'.1.at fun o q => (sb.2 it (Ne.symm hne)).trans q, hne⟩, fun b hb => ?_⟩
    · rw [I.tuple_inj hy hq]; exact hx
    · have e1 : ((i + 1 : Nat) : Int) = (i : Int) + 1 := by omega
      rw [e1]; exact he'
    · have hb' : b < s.heap.objs.size := by
        have e' : b = e ∨ b = it := by simpa using hb
        rcases e' with z | z
        · rw [z]; exact hel
        · rw [z]; exact hil
      rw [upd_ne (Nat.ne_of_lt hb')]
      exact (hf b hb).1
  done := by
    intro X hP hw hK hc i pins s σ H E I hf st hg
    subst hP hw hK
    obtain ⟨⟨old, he⟩, hit, hne⟩ := st
    obtain ⟨xs, hq, hx⟩ := hg
    obtain ⟨its, rv, p, hz⟩ := I.tuple hq
    obtain ⟨f0, f1, f2, f3, f4, f5⟩ := hf it (by simp)
    have hl := rv.length
    have hT : s.TypeIs (.ref e) "enumerate" := ⟨_, he, rfl⟩
    unfold pyNext
    refine wpAny_bind (wpAny_attempt (wpAny_callSpecial?_slot (name := Str.ofString "__next__") hT PySem.F.slot_enumerate_next
      (wpAny_call_entry PySem.F.slot_enumerate_next hT PySem.F.entry_enumerate_next ?_ (PySem.F.args_enumerate_next_1 _))))
    show wpAny _ _ (field (.ref e) 2 >>= _) _ _ _
    refine wpAny_bind (wpAny_field he rfl (x := .ref it) rfl ?_)
    refine wpAny_bind (wpAny_nextOf_tuple_end (A := X.A.in1) (I.ok.hd hc) hit p (by simp; omega) fun h' x he' hx' => ?_)
    obtain ⟨o, ho, hcc⟩ := hx'
    refine wpAny_bind (wpAny_isInstance (T := "StopIteration") (b := true) ⟨o, ho, hcc⟩ isSubtype_stop ?_)
    exact wpAny_pure ⟨rfl, I.turned (t' := s.toks) (fun b o hb q => he' b o hb q) f0 f1 f3 f4 f5⟩
  self := fun A i s Q E st h => let ⟨⟨_, he⟩, _⟩ := st; wpAny_pyIter_enum he h
def iEnumA (K : PySem.W.Frag) (ta : TA) : TI := fun σ H R => ta σ H fun vs H1 => ∃ a xs, vs = [.ref a] ∧ ((SqL K H1 a xs ∧ R (Ite K a) H1) ∨ (SqT K H1 a xs ∧ R (IteT K a) H1))
theorem pi_enumA {X : Cx} {e : Expr} {ta : TA} {p pos tpos : Pos} {elts : List Expr} {kk : Nat} (hg : Gl X "enumerate") (hm : X.mg "enumerate" = none) (ha : PA X [e] ta) (hs : starEach [e] X.env = [(false, eval e X.env)] := by rfl) :
    PI X (.Tuple elts kk tpos) (.Call (.Name "enumerate" p) [e] [] pos) (iEnumA X.K ta) := by
  refine ⟨fun pins s σ H R I h => ?_⟩
  refine PyProof.Rows.Call_ (ld_blt I hg hm PyProof.Rows.boot_enumerate (PyProof.Rows.callWith_type1 (thn (ha.run pos pins s σ H _ I h) fun us s1 ⟨vs, H1, I1, r1, q1⟩ => ?_) hs rfl))
  obtain ⟨a, xs, ex, hq⟩ := q1
  subst ex
  cases r1 with
  | cons r rr =>
    cases rr
    cases r
    rcases hq with ⟨hq, q⟩ | ⟨hq, q⟩
    · obtain ⟨its, rv, p', hz⟩ := I1.list hq
      refine call_enumerate_list p'.isList fun h' he hit hsz hk => wpAny_pyIter_enum he ?_
      have I2 : Inv X pins σ H1 { s1 with heap := h' } := I1.kept (t' := s1.toks) hk
      refine ⟨s1.heap.objs.size + 1, [s1.heap.objs.size + 1, s1.heap.objs.size], _, _, H1, rfl, I2, turn_enum a (s1.heap.objs.size + 1) s1.heap.objs.size, ⟨⟨.none, he⟩, hit, Nat.succ_ne_self _⟩, fun b hb => ?_, q⟩
      have e' : b = s1.heap.objs.size + 1 ∨ b = s1.heap.objs.size := by simpa using hb
      have hle : s1.heap.objs.size ≤ b := by
        rcases e' with z | z
        · rw [z]; exact Nat.le_add_right _ _
        · rw [z]; exact Nat.le_refl _
      exact I1.fpOk hle (I1.hok.fresh hle)
    · obtain ⟨its, rv, p', hz⟩ := I1.tuple hq
      refine call_enumerate_tuple p' fun h' he hit hsz hk => wpAny_pyIter_enum he ?_
      have I2 : Inv X pins σ H1 { s1 with heap := h' } := I1.kept (t' := s1.toks) hk
      refine ⟨s1.heap.objs.size + 1, [s1.heap.objs.size + 1, s1.heap.objs.size], _, _, H1, rfl, I2, turn_enumT a (s1.heap.objs.size + 1) s1.heap.objs.size, ⟨⟨.none, he⟩, hit, Nat.succ_ne_self _⟩, fun b hb => ?_, q⟩
      have e' : b = s1.heap.objs.size + 1 ∨ b = s1.heap.objs.size := by simpa using hb
      have hle : s1.heap.objs.size ≤ b := by
        rcases e' with z | z
        · rw [z]; exact Nat.le_add_right _ _
        · rw [z]; exact Nat.le_refl _
      exact I1.fpOk hle (I1.hok.fresh hle)
end M3

set_option Elab.async false
set_option linter.all false
set_option maxRecDepth 100000
set_option maxHeartbeats 4000000
namespace M3
open PySem L2
variable [TabsC]
/-! ## tuple * int -/
section
open PySem.Spec PyProof.Rows
theorem tuple_mul1 (l : Addr) (items : Array Value) (n : Nat) (dd : Option Addr) (sl : Array (Option Value)) (x : Int) (u : Tok) (c0 : (decide (x < -(2 ^ 63)) || decide (x ≥ 2 ^ 63)) = false) (c1 : (items.isEmpty || x == 1) = true) :
    Meets (Builtin.«tuple.__mul__» ⟨[.ref l, .int x u], []⟩) (fun _ R s => s.heap.get? l = some { cls := .type "tuple", dict := dd, data := .seq items n, slots := sl } ∧ R (.ok (.ret (Value.ref l))) s) :=
  .of_wp fun prog w A R s h => by
    obtain ⟨hp, g, d, tk, os⟩ := s
    obtain ⟨hl, h⟩ := h
    have f1 := AutoSeq1.idx_int
    wp_walk using AutoSeq1.wpAny_loadPart' hl
    refine wpAny_ite_false (decide_eq_false (by rw [c0]; exact Bool.false_ne_true)) ?_
    wp_walk using AutoSeq1.wpAny_loadPart' hl
    exact ⟨_, rfl, h⟩
theorem tuple_mul0 (l : Addr) (items : Array Value) (n : Nat) (dd : Option Addr) (sl : Array (Option Value)) (x : Int) (u : Tok) (c0 : (decide (x < -(2 ^ 63)) || decide (x ≥ 2 ^ 63)) = false) (c1 : (items.isEmpty || x == 1) = false) (c2 : (decide (x ≤ 0) || items.isEmpty) = true) :
    Meets (Builtin.«tuple.__mul__» ⟨[.ref l, .int x u], []⟩) (fun _ R s => s.heap.get? l = some { cls := .type "tuple", dict := dd, data := .seq items n, slots := sl } ∧
      R (.ok (.ret (Value.ref s.heap.objs.size))) { s with heap := s.heap.push { cls := Value.type "tuple", data := Data.seq #[] }, toks := s.toks }) :=
  .of_wp fun prog w A R s h => by
    obtain ⟨hp, g, d, tk, os⟩ := s
    obtain ⟨hl, h⟩ := h
    have f1 := AutoSeq1.idx_int
    wp_walk using AutoSeq1.wpAny_loadPart' hl
    repeat (first
      | (refine wpAny_ite_false (decide_eq_false (by rw [c0]; exact Bool.false_ne_true)) ?_; wp_walk using AutoSeq1.wpAny_loadPart' hl)
      | (refine wpAny_ite_false (decide_eq_false (by rw [c1]; exact Bool.false_ne_true)) ?_; wp_walk using AutoSeq1.wpAny_loadPart' hl)
      | (refine wpAny_ite_true (decide_eq_true c2) ?_; wp_walk using AutoSeq1.wpAny_loadPart' hl))
    exact ⟨_, rfl, h⟩
variable {X : Cx}
def rRepS (K : PySem.W.Frag) : R2 := fun x y H Q => ∃ l k xs, x = .ref l ∧ y = .int k ∧ SqT K H l xs ∧ -(2 ^ 63) ≤ k ∧ (xs = [] ∨ k = 1) ∧ k < 2 ^ 63 ∧ Q (.ref l) H
def rRepZ (K : PySem.W.Frag) : R2 := fun x y H Q => ∃ l k xs, x = .ref l ∧ y = .int k ∧ SqT K H l xs ∧ -(2 ^ 63) ≤ k ∧ xs ≠ [] ∧ k ≤ 0 ∧ ∀ p, H p = none → Q (.ref p) (upd H p (.tup []))
theorem op_repS : OpR X (binaryOp .Mult) (rRepS X.K) := by
  intro pins s σ H x y v u Q I rx ry h
  obtain ⟨l, k, xs, rfl, rfl, hT, h0, h1, h2, q⟩ := h
  cases rx
  obtain ⟨t, rfl⟩ := ry
  obtain ⟨its, r, ⟨⟨cls, dd, data, sl⟩, ho, hc, n, hd⟩, hs⟩ := I.tuple hT
  simp only at hc hd
  subst hc hd
  have c0 : (decide (k < -(2 ^ 63)) || decide (k ≥ 2 ^ 63)) = false := by
    rw [decide_eq_false (by omega), decide_eq_false (by omega)] <;> rfl
  have c1 : (its.toArray.isEmpty || k == 1) = true := by
    rcases h1 with rfl | rfl
    · cases r; rfl
    · simp
  exact wpAny_binaryOp_repeat_ref (T := "tuple") (U := "int") (by decide) ⟨_, ho, rfl⟩ (fun s' => typeIs_int s' k t) noFill_tuple_mul PySem.F.fills_int_mul PySem.F.slot_int_rmul repeat_tuple PySem.F.slot_int_index.lookup
    (call_meets PySem.F.slot_int_rmul (typeIs_int s k t) PySem.F.entry_int_rmul (PySem.F.args_int_rmul_2 _ _) (int_rmul_tuple k t l its.toArray n dd sl)
      ⟨ho, rfl, ⟨_, ho, rfl⟩, call_meets PySem.F.slot_tuple_mul ⟨_, ho, rfl⟩ PySem.F.entry_tuple_mul (PySem.F.args_tuple_mul_2 _ _) (tuple_mul1 l its.toArray n dd sl k t c0 c1) ⟨ho, ⟨.ref l, H, I, rfl, q⟩⟩⟩)
theorem op_repZ : OpR X (binaryOp .Mult) (rRepZ X.K) := by
  intro pins s σ H x y v u Q I rx ry h
  obtain ⟨l, k, xs, rfl, rfl, hT, h0, h1, h2, q⟩ := h
  cases rx
  obtain ⟨t, rfl⟩ := ry
  obtain ⟨its, r, ⟨⟨cls, dd, data, sl⟩, ho, hc, n, hd⟩, hs⟩ := I.tuple hT
  simp only at hc hd
  subst hc hd
  have hle : its.length = xs.length := r.length.symm
  have hi : its.toArray.isEmpty = false := by
    cases its with
    | nil => cases xs with
      | nil => exact absurd rfl h1
      | cons _ _ => simp at hle
    | cons a b => rfl
  have c0 : (decide (k < -(2 ^ 63)) || decide (k ≥ 2 ^ 63)) = false := by
    rw [decide_eq_false (by omega), decide_eq_false (by omega)] <;> rfl
  have c1 : (its.toArray.isEmpty || k == 1) = false := by
    rw [hi, Bool.false_or]
    exact beq_eq_false_iff_ne.mpr (by omega)
  have c2 : (decide (k ≤ 0) || its.toArray.isEmpty) = true := by
    rw [decide_eq_true h2]; rfl
  refine wpAny_binaryOp_repeat_ref (T := "tuple") (U := "int") (by decide) ⟨_, ho, rfl⟩ (fun s' => typeIs_int s' k t) noFill_tuple_mul PySem.F.fills_int_mul PySem.F.slot_int_rmul repeat_tuple PySem.F.slot_int_index.lookup
    (call_meets PySem.F.slot_int_rmul (typeIs_int s k t) PySem.F.entry_int_rmul (PySem.F.args_int_rmul_2 _ _) (int_rmul_tuple k t l its.toArray n dd sl)
      ⟨ho, rfl, ⟨_, ho, rfl⟩, call_meets PySem.F.slot_tuple_mul ⟨_, ho, rfl⟩ PySem.F.entry_tuple_mul (PySem.F.args_tuple_mul_2 _ _) (tuple_mul0 l its.toArray n dd sl k t c0 c1 c2) ⟨ho, ?_⟩⟩)
  refine ⟨.ref s.heap.objs.size, _, I.laid (t' := s.toks) (o := .tup []) (fun b ob q => Heap.get?_push_of_some _ q) (Nat.le_refl _) ?_, rfl, q _ (I.hok.fresh (Nat.le_refl _))⟩
  exact ⟨Nat.zero_le _, [], .nil, IsTup.new _ _⟩
end
section
variable {X : Cx} {E : XK} {a b c e tg : Expr} {ta tb tc te : T3} {pos : Pos}
def rMulT3 (x y : D) (k : D → Prop) : Prop := match x, y with
  | .tuple xs, .int j => (-(2 ^ 63) ≤ j ∧ j ≤ 1000 ∧ xs.length ≤ 1000) ∧ k (.tuple (List.replicate j.toNat xs).flatten)
  | _, _ => False
theorem rep_nil {α : Type} : ∀ n : Nat, (List.replicate n ([] : List α)).flatten = []
  | 0 => rfl
  | n + 1 => by rw [List.replicate_succ, List.flatten_cons, rep_nil n]; rfl
theorem mulT3 (ha : PE3 X E a ta) (hb : PE3 X E b tb) : PE3 X E (.BinOp a .Mult b pos) (tB2 rMulT3 ta tb) :=
  bin3 (fun _ _ h h' => pe_op (op_repS.or (op_repZ.or op_repT)) h h') (fun O H v u x y k Q tr rx ry h hq => by
    unfold rMulT3 at h
    split at h
    · obtain ⟨⟨h1, h2, h3⟩, h⟩ := h
      cases ry
      cases rx with
      | @tup A vs ds' ht hr =>
        rename_i ds j
        by_cases z1 : ds = [] ∨ j = 1
        · refine .inl ⟨_, _, _, rfl, rfl, ht.sq, h1, ?_, by omega, hq _ _ H (Same.refl H) (.tup ht hr) ?_⟩
          · rcases z1 with rfl | rfl
            · cases hr; exact .inl rfl
            · exact .inr rfl
          · rcases z1 with rfl | rfl
            · rw [rep_nil] at h; exact h
            · simpa using h
        · have hne : vs ≠ [] := fun z => z1 (.inl (by subst z; cases hr; rfl))
          by_cases z2 : j ≤ 0
          · refine .inr (.inl ⟨_, _, _, rfl, rfl, ht.sq, h1, hne, z2, fun p hp => hq _ _ _ (same_upd hp) (rp_tup tr hp .nil) ?_⟩)
            have e : j.toNat = 0 := by omega
            rw [e] at h; exact h
          · refine .inr (.inr ⟨_, _, _, rfl, rfl, ht.sq, hne, by omega, h2, by rw [hr.length]; exact h3, fun p hp => hq _ _ _ (same_upd hp) (rp_tup tr hp (hr.rep _)) h⟩)
    · exact h.elim) (fun x y k k' hk h => by
    unfold rMulT3 at h ⊢
    split at h
    · exact ⟨h.1, hk _ h.2⟩
    · exact h.elim) ha hb
/-! ## is True, is False -/
def rIsB3 (f : Bool → Bool) (x y : D) (k : D → Prop) : Prop := asB x fun i => asB y fun j => k (.bool (f (decide (i = j))))
theorem m_rIsB3 {f} : M2 (rIsB3 f) := fun x y k k' hk h => by
  obtain ⟨i, rfl, h1⟩ := asB.to h
  obtain ⟨j, rfl, h2⟩ := asB.to h1
  exact asB.of (asB.of (hk _ h2))
theorem ok_isB3 {K : PySem.W.Frag} : OpOk2 K rIsB (rIsB3 id) := fun O H v u x y k Q _ rx ry h hq => by
  obtain ⟨i, rfl, h1⟩ := asB.to h
  obtain ⟨j, rfl, h2⟩ := asB.to h1
  cases rx; cases ry
  exact ⟨i, j, rfl, rfl, hq _ _ H (Same.refl H) (.bl _) h2⟩
theorem ok_notB3 {K : PySem.W.Frag} : OpOk2 K rNotB (rIsB3 not) := fun O H v u x y k Q _ rx ry h hq => by
  obtain ⟨i, rfl, h1⟩ := asB.to h
  obtain ⟨j, rfl, h2⟩ := asB.to h1
  cases rx; cases ry
  exact ⟨i, j, rfl, rfl, hq _ _ H (Same.refl H) (.bl _) h2⟩
theorem isB3 (ha : PE3 X E a ta) (hb : PE3 X E b tb) : PE3 X E (.Compare a [.Is] [b] pos) (tB2 (rIsB3 id) ta tb) := bin3 (fun _ _ h h' => pe_cmpR op_isBl h h' (nomark _)) ok_isB3 m_rIsB3 ha hb
theorem isNotB3 (ha : PE3 X E a ta) (hb : PE3 X E b tb) : PE3 X E (.Compare a [.IsNot] [b] pos) (tB2 (rIsB3 not) ta tb) := bin3 (fun _ _ h h' => pe_cmpR op_notBl h h' (nomark _)) ok_notB3 m_rIsB3 ha hb
theorem isB3T (ha : PE3 X E a ta) (hb : PE3 X E b tb) : PT3 X E (.Compare a [.Is] [b] pos) (tBool (tB2 (rIsB3 id) ta tb)) := bin3T (fun _ _ h h' => pt_cmpR op_isBl h h' (nomark _)) ok_isB3 m_rIsB3 ha hb
theorem isNotB3T (ha : PE3 X E a ta) (hb : PE3 X E b tb) : PT3 X E (.Compare a [.IsNot] [b] pos) (tBool (tB2 (rIsB3 not) ta tb)) := bin3T (fun _ _ h h' => pt_cmpR op_notBl h h' (nomark _)) ok_notB3 m_rIsB3 ha hb
/-! ## isinstance(x, (T1, T2)) -/
theorem isi3_2 {T1 T2 : String} {f1 f2 : D → Bool} {x1 x2 : Str} {p p1 p2 p3 : Pos} {j : Nat} (k1 : ∀ x, kitB (tyN x) T1 = some (f1 x)) (k2 : ∀ x, kitB (tyN x) T2 = some (f2 x)) (v1 : bootBuiltins x1 = some (.type T1)) (v2 : bootBuiltins x2 = some (.type T2)) (hg : Gl X "isinstance") (hm : X.mg "isinstance" = none) (g1 : Gl X x1) (m1 : X.mg x1 = none) (g2 : Gl X x2) (m2 : X.mg x2 = none)
    (ha : PE3 X E a ta) (n1 : x1 ≠ "__name__" := by decide) (n2 : x2 ≠ "__name__" := by decide) (d1 : (x1 == ("__debug__" : Str)) = false := by decide) (d2 : (x2 == ("__debug__" : Str)) = false := by decide)
    (he : starEach [a, .Tuple [.Name x1 p1, .Name x2 p2] j p3] X.env = (false, eval a X.env) :: starEach [.Tuple [.Name x1 p1, .Name x2 p2] j p3] X.env := by rfl)
    (he2 : starEach [.Tuple [.Name x1 p1, .Name x2 p2] j p3] X.env = (false, eval (.Tuple [.Name x1 p1, .Name x2 p2] j p3) X.env) :: starEach [] X.env := by rfl)
    (he3 : starEach [.Name x1 p1, .Name x2 p2] X.env = (false, eval (.Name x1 p1) X.env) :: starEach [.Name x2 p2] X.env := by rfl) (he4 : starEach [.Name x2 p2] X.env = (false, eval (.Name x2 p2) X.env) :: starEach [] X.env := by rfl)
    (hpl : (backTo pos (starEach [.Tuple [.Name x1 p1, .Name x2 p2] j p3] X.env)).any (·.1) = false := by rfl) : PE3 X E (.Call (.Name "isinstance" p) [a, .Tuple [.Name x1 p1, .Name x2 p2] j p3] [] pos) (tU3 (rIsA fun x => f1 x || f2 x) ta) :=
  un3 (r := fun v H Q => 2 ≤ sizeLine ∧ ∀ tp, H tp = none → rIsiT X.K [v, .ref tp] (upd H tp (.tup [.ty T1, .ty T2])) Q) (fun ta' h => pe_callB call_isiT hg hm (by decide +kernel) (pa_cons h (pa_cons (pe_tup (pa_cons (pe_bltn (v := .ty T1) g1 m1 v1 rfl n1 d1) (pa_cons (pe_bltn (v := .ty T2) g2 m2 v2 rfl n2 d2) pa_nil he4) he3)) pa_nil he2) he) (by decide) (by decide) he hpl) (fun O H v x k Q tr rx h hq => ⟨by decide, fun tp hp =>
    ⟨v, tp, _, _, _, _, rfl, upd_same, .cons (.ty T1) (.cons (.ty T2) .nil), (rx.same (same_upd hp)).ty, kitAny_cons (r := f1 x || f2 x) (kit_ty (k1 x)) (fun z => kitAny_cons (kit_ty (k2 x)) (fun z2 => by rw [z, z2]; exact kitAny_nil) (fun z2 => by rw [z2, Bool.or_true])) (fun z => by rw [z, Bool.true_or]), hq _ _ _ (same_upd hp) (.bl _) h⟩⟩) (fun x k k' hk h => hk _ h) ha
end
end M3

set_option Elab.async false
set_option linter.all false
set_option maxRecDepth 100000
set_option maxHeartbeats 4000000
namespace M3
open PySem L2
variable [TabsC]
section
variable {X : Cx} {E : XK} {a b c e tg : Expr} {ta tb tc te : T3} {pos : Pos}
/-! ## enumerate -/
def enumD (xs : List D) : List D := (List.range xs.length).zipWith (fun i x => .tuple [.int (i : Nat), x]) xs
theorem enumD_get {xs : List D} {i : Nat} {x : D} (h : (enumD xs)[i]? = some x) : ∃ d, xs[i]? = some d ∧ x = .tuple [.int (i : Nat), d] := by
  unfold enumD at h
  rw [List.getElem?_zipWith] at h
  cases hd : xs[i]? with
  | none => rw [hd] at h; cases hr : (List.range xs.length)[i]? <;> rw [hr] at h <;> cases h
  | some d =>
    have hl : i < xs.length := (List.getElem?_eq_some_iff.mp hd).1
    rw [hd, List.getElem?_range hl] at h
    exact ⟨d, rfl, (Option.some.inj h).symm⟩
theorem enumD_length {xs : List D} : (enumD xs).length = xs.length := by unfold enumD; simp
theorem jok_enumT {K : PySem.W.Frag} {F : Addr → Prop} {ρ0 : Rho} {H0 : Hp} {a : Addr} {vs : List V} {xs : List D} (h1 : TT K (Ox F ρ0) H0 a vs) (r1 : RpAll K (Ox F ρ0) H0 vs xs) : JOk K F ρ0 H0 (IteT K a) (enumD xs) := by
  intro i F' ρ H P po ex tr
  have h1' := h1.ext ex po
  have r1' := r1.ext ex po
  refine ⟨fun x hx => ?_, fun hx => ⟨vs, h1'.sq, ?_⟩⟩
  · obtain ⟨d, hd, rfl⟩ := enumD_get hx
    obtain ⟨v, hv, rv⟩ := r1'.get hd
    refine ⟨⟨vs, v, h1'.sq, hv⟩, fun w H' y => ?_⟩
    obtain ⟨T, x', e1, e2, e3, e4⟩ := y
    have z1 := e4 vs h1'.sq
    rw [hv] at z1
    cases z1
    subst e1 e3
    exact ⟨same_upd e2, rp_tup tr e2 (.cons (.int _) (.cons rv .nil))⟩
  · rw [enumD_length] at hx; rw [r1'.length]; exact hx
theorem jok_enumL {K : PySem.W.Frag} {F : Addr → Prop} {ρ0 : Rho} {H0 : Hp} {a : Addr} {vs : List V} {xs : List D} (h1 : TL K (Ox F ρ0) H0 a vs) (r1 : RpAll K (Ox F ρ0) H0 vs xs) : JOk K F ρ0 H0 (Ite K a) (enumD xs) := by
  intro i F' ρ H P po ex tr
  have h1' := h1.ext ex po
  have r1' := r1.ext ex po
  refine ⟨fun x hx => ?_, fun hx => ⟨vs, h1'.sq, ?_⟩⟩
  · obtain ⟨d, hd, rfl⟩ := enumD_get hx
    obtain ⟨v, hv, rv⟩ := r1'.get hd
    refine ⟨⟨vs, v, h1'.sq, hv⟩, fun w H' y => ?_⟩
    obtain ⟨T, x', e1, e2, e3, e4⟩ := y
    have z1 := e4 vs h1'.sq
    rw [hv] at z1
    cases z1
    subst e1 e3
    exact ⟨same_upd e2, rp_tup tr e2 (.cons (.int _) (.cons rv .nil))⟩
  · rw [enumD_length] at hx; rw [r1'.length]; exact hx
def tEnum (ta : T3) : TA3 := fun E δ Q => ta E δ fun x δ1 => asSeq x fun xs => Q (enumD xs) δ1
theorem enumerate3 {p tpos : Pos} {elts : List Expr} {kk : Nat} (hg : Gl X "enumerate") (hm : X.mg "enumerate" = none) (ha : PE3 X E a ta)
    (hs : starEach [a] X.env = [(false, eval a X.env)] := by rfl) (hs' : starEach [a] X.env = (false, eval a X.env) :: starEach [] X.env := by rfl) : PI3 X E (.Tuple elts kk tpos) (.Call (.Name "enumerate" p) [a] [] pos) (tEnum ta) := by
  refine ⟨fun _ _ _ _ _ hx hq q => ha.mono _ _ _ _ _ hx (fun x δ1 z => z.imp fun _ => hq _ _) q, (pi_enumA hg hm (pa_cons ha.pe pa_nil hs') hs).imp fun σ H R h => ?_⟩
  obtain ⟨π, F, ρ, δ, rel, q⟩ := h
  refine ⟨π, F, ρ, δ, rel, ha.mono _ _ _ _ _ (fun _ z => z) (fun x δ1 q v H1 ρ1 e1 rel1 r1 => ?_) q⟩
  unfold asSeq at q
  split at q
  · cases r1 with
    | tup ht hr => exact ⟨_, _, rfl, .inr ⟨ht.sq, q _ H1 ρ1 e1 rel1 (jok_enumT ht hr)⟩⟩
  · cases r1 with
    | lst ht hr => exact ⟨_, _, rfl, .inl ⟨ht.sq, q _ H1 ρ1 e1 rel1 (jok_enumL ht hr)⟩⟩
  · exact q.elim
/-! ## x in row -/
mutual
theorem plain_of_lay : ∀ d : D, d.canLay0 = true → d.plain = true
  | .none, _ => rfl
  | .bool _, _ => rfl
  | .int _, _ => rfl
  | .str _, _ => rfl
  | .list xs, h => plainAll_of_lay xs (by simpa [PyData.canLay0] using h)
  | .tuple xs, h => plainAll_of_lay xs (by simpa [PyData.canLay0] using h)
  | .dict _, h => by simp [PyData.canLay0] at h
theorem plainAll_of_lay : ∀ ds : List D, PyData.canLayAll0 ds = true → PyData.plainAll ds = true
  | [], _ => rfl
  | d :: r, h => by
    have h' : d.canLay0 = true ∧ PyData.canLayAll0 r = true := by simpa [PyData.canLayAll0] using h
    exact Bool.and_eq_true_iff.mpr ⟨plain_of_lay d h'.1, plainAll_of_lay r h'.2⟩
end
def rInR (K : PySem.W.Frag) (f : Bool → Bool) : R2 := fun x y H Q => ∃ d ds, Dp K H x d ∧ (Dp K H y (.list ds) ∨ Dp K H y (.tuple ds)) ∧ d.canLay0 = true ∧ PyData.canLayAll0 ds = true ∧ d.depth ≤ 60 ∧ Q (.bl (f (ds.any fun z => PyData.eqv z d))) H
theorem op_inR (hu : X.A.units + 64 < cLine) : OpR X (compareOp .In) (rInR X.K id) := by
  intro pins s σ H x y v u Q I rx ry h
  obtain ⟨d, ds, hd, he, sd, se, hz, q⟩ := h
  obtain ⟨as, r1⟩ := Dp.reads I d x v hd rx
  have hm : min (PyData.depthAll ds) d.depth ≤ 60 := Nat.le_trans (Nat.min_le_right _ _) hz
  rcases he with he | he
  · obtain ⟨bs, r2⟩ := Dp.reads I (.list ds) y u he ry
    exact SeqAt.in_list_reads r2 r1 se sd (by omega) ⟨.bl _, H, I, rfl, q⟩
  · obtain ⟨bs, r2⟩ := Dp.reads I (.tuple ds) y u he ry
    exact SeqAt.in_tuple_reads r2 r1 se sd (by omega) ⟨.bl _, H, I, rfl, q⟩
theorem op_notInR (hu : X.A.units + 64 < cLine) : OpR X (compareOp .NotIn) (rInR X.K not) := by
  intro pins s σ H x y v u Q I rx ry h
  obtain ⟨d, ds, hd, he, sd, se, hz, q⟩ := h
  obtain ⟨as, r1⟩ := Dp.reads I d x v hd rx
  have hm : min (PyData.depthAll ds) d.depth ≤ 60 := Nat.le_trans (Nat.min_le_right _ _) hz
  rcases he with he | he
  · obtain ⟨bs, r2⟩ := Dp.reads I (.list ds) y u he ry
    exact SeqAt.notIn_list_reads r2 r1 se sd (by omega) ⟨.bl _, H, I, rfl, q⟩
  · obtain ⟨bs, r2⟩ := Dp.reads I (.tuple ds) y u he ry
    exact SeqAt.notIn_tuple_reads r2 r1 se sd (by omega) ⟨.bl _, H, I, rfl, q⟩
def rIn3 (f : Bool → Bool) (x y : D) (k : D → Prop) : Prop := asSeq y fun ys => (x.canLay0 = true ∧ PyData.canLayAll0 ys = true ∧ x.depth ≤ 60) ∧ k (.bool (f (ys.any fun z => PyData.eqv z x)))
theorem m_rIn3 {f} : M2 (rIn3 f) := fun x y k k' hk h => h.imp fun _ z => ⟨z.1, hk _ z.2⟩
theorem ok_rIn3 {K : PySem.W.Frag} {f : Bool → Bool} : OpOk2 K (rInR K f) (rIn3 f) := fun O H v u x y k Q _ rx ry h hq => by
  unfold rIn3 asSeq at h
  split at h
  · exact ⟨x, _, rx.dp (plain_of_lay _ h.1.1), .inr (ry.dp (plainAll_of_lay _ h.1.2.1)), h.1.1, h.1.2.1, h.1.2.2, hq _ _ H (Same.refl H) (.bl _) h.2⟩
  · exact ⟨x, _, rx.dp (plain_of_lay _ h.1.1), .inl (ry.dp (plainAll_of_lay _ h.1.2.1)), h.1.1, h.1.2.1, h.1.2.2, hq _ _ H (Same.refl H) (.bl _) h.2⟩
  · exact h.elim
theorem in3 (hu : X.A.units + 64 < cLine) (ha : PE3 X E a ta) (hb : PE3 X E b tb) (hl : behindInMarks .In b = false := by rfl) : PE3 X E (.Compare a [.In] [b] pos) (tB2 (rIn3 id) ta tb) := bin3 (fun _ _ h h' => pe_cmpR (op_inR hu) h h' hl) ok_rIn3 m_rIn3 ha hb
theorem notIn3 (hu : X.A.units + 64 < cLine) (ha : PE3 X E a ta) (hb : PE3 X E b tb) (hl : behindInMarks .NotIn b = false := by rfl) : PE3 X E (.Compare a [.NotIn] [b] pos) (tB2 (rIn3 not) ta tb) := bin3 (fun _ _ h h' => pe_cmpR (op_notInR hu) h h' hl) ok_rIn3 m_rIn3 ha hb
theorem in3T (hu : X.A.units + 64 < cLine) (ha : PE3 X E a ta) (hb : PE3 X E b tb) (hl : behindInMarks .In b = false := by rfl) : PT3 X E (.Compare a [.In] [b] pos) (tBool (tB2 (rIn3 id) ta tb)) := bin3T (fun _ _ h h' => pt_cmpR (op_inR hu) h h' hl) ok_rIn3 m_rIn3 ha hb
theorem notIn3T (hu : X.A.units + 64 < cLine) (ha : PE3 X E a ta) (hb : PE3 X E b tb) (hl : behindInMarks .NotIn b = false := by rfl) : PT3 X E (.Compare a [.NotIn] [b] pos) (tBool (tB2 (rIn3 not) ta tb)) := bin3T (fun _ _ h h' => pt_cmpR (op_notInR hu) h h' hl) ok_rIn3 m_rIn3 ha hb
/-! ## a, b = x, y -/
theorem ow_set {ρ ρ' : Rho} {H H' : Hp} (e : Ext (Ow ρ) (Ow ρ) H (Ow ρ') H') : Ext (Ow ρ) (Ow ρ) H (Ow ρ') H' := e
theorem par3 (i j : Nat) {x y : Str} {px py pt : Pos} {kt k2 pt2} {t : TA3} (hN : X.N.Nodup) (hij : i ≠ j) (ha : PA3 X E [a, b] t) (hc : X.calm = true := by rfl) (hi : X.N[i]? = some x := by rfl) (hj : X.N[j]? = some y := by rfl)
    (hx : X.env.scope.names.lookup x = some .local := by rfl) (hy : X.env.scope.names.lookup y = some .local := by rfl)
    (hw : swappedStores [.Tuple [.Name x px, .Name y py] kt pt] (.Tuple [a, b] k2 pt2) X.env = pure (some [x, y]) := by rfl)
    (hs : swapsWithSole [.Tuple [.Name x px, .Name y py] kt pt] (.Tuple [a, b] k2 pt2) pos.line X.env = pure false := by rfl) :
    PS3 X E (.Assign [.Tuple [.Name x px, .Name y py] kt pt] (.Tuple [a, b] k2 pt2) pos) (fun E D δ => t E δ fun xs δ1 => match xs with | [u, v] => D.nx ((δ1.set i (some (.d u))).set j (some (.d v))) | _ => False) := by
  refine ⟨fun _ _ _ _ _ hx hd q => ha.mono _ _ _ _ _ hx (fun xs δ1 z => ?_) q, (ps_par hc hN hi hj hij hx hy ha.pa hw hs).imp fun D σ H h => ?_⟩
  · split at z
    · exact hd.nx _ z
    · exact z.elim
  · obtain ⟨π, F, ρ, δ, rel, q⟩ := h
    refine ⟨π, F, ρ, δ, rel, ha.mono _ _ _ _ _ (fun _ z => z) (fun xs δ1 q vs H1 ρ1 e1 rel1 r1 => ?_) q⟩
    split at q
    · cases r1 with
      | cons r1 rr => cases rr with
        | cons r2 rr => cases rr with
          | nil =>
            refine ⟨_, _, rfl, q _ H1 _ ((e1.trans Ext.drop).trans Ext.drop) ((rel1.setD r1).setD (Rp.mono dropx_le r2))⟩
    · exact q.elim
theorem par33 (i j l : Nat) {x y z : Str} {px py pz pt : Pos} {kt k2 pt2} {t : TA3} (hN : X.N.Nodup) (hij : i ≠ j) (hil : i ≠ l) (hjl : j ≠ l) (ha : PA3 X E [a, b, c] t) (hc : X.calm = true := by rfl) (hi : X.N[i]? = some x := by rfl) (hj : X.N[j]? = some y := by rfl) (hl : X.N[l]? = some z := by rfl)
    (hx : X.env.scope.names.lookup x = some .local := by rfl) (hy : X.env.scope.names.lookup y = some .local := by rfl) (hz : X.env.scope.names.lookup z = some .local := by rfl)
    (hw : swappedStores [.Tuple [.Name x px, .Name y py, .Name z pz] kt pt] (.Tuple [a, b, c] k2 pt2) X.env = pure (some [x, y, z]) := by rfl)
    (hs : swapsWithSole [.Tuple [.Name x px, .Name y py, .Name z pz] kt pt] (.Tuple [a, b, c] k2 pt2) pos.line X.env = pure false := by rfl) :
    PS3 X E (.Assign [.Tuple [.Name x px, .Name y py, .Name z pz] kt pt] (.Tuple [a, b, c] k2 pt2) pos) (fun E D δ => t E δ fun xs δ1 => match xs with | [u, v, w] => D.nx (((δ1.set i (some (.d u))).set j (some (.d v))).set l (some (.d w))) | _ => False) := by
  refine ⟨fun _ _ _ _ _ hx hd q => ha.mono _ _ _ _ _ hx (fun xs δ1 z => ?_) q, (ps_par3 hc hN hi hj hl hij hil hjl hx hy hz ha.pa hw hs).imp fun D σ H h => ?_⟩
  · split at z
    · exact hd.nx _ z
    · exact z.elim
  · obtain ⟨π, F, ρ, δ, rel, q⟩ := h
    refine ⟨π, F, ρ, δ, rel, ha.mono _ _ _ _ _ (fun _ z => z) (fun xs δ1 q vs H1 ρ1 e1 rel1 r1 => ?_) q⟩
    split at q
    · cases r1 with
      | cons r1 rr => cases rr with
        | cons r2 rr => cases rr with
          | cons r3 rr => cases rr with
            | nil =>
              refine ⟨_, _, _, rfl, q _ H1 _ (((e1.trans Ext.drop).trans Ext.drop).trans Ext.drop) (((rel1.setD r1).setD (Rp.mono dropx_le r2)).setD (Rp.mono dropx_le (Rp.mono dropx_le r3)))⟩
    · exact q.elim
/-! ## x += n -/
theorem augI3 (f : Int → Int → Int) {op : Operator} (ho : PIp X op (ipI f)) (i : Nat) {x : Str} {pos' : Pos} (hN : X.N.Nodup) (he : PE3 X E e te) (hi : X.N[i]? = some x := by rfl) (hx : Loc X.env.scope x := by first | exact Or.inl rfl | exact Or.inr rfl)
    (hf : X.fn x = true ∨ X.env.scope.names.lookup x = some .local := by first | exact .inl rfl | exact .inr rfl | assumption) : PS3 X E (.AugAssign (.Name x pos') op e pos) (fun E D δ => tV3 i E δ fun y _ => te E δ fun z δ1 => asI y fun n => asI z fun m => D.nx (δ1.set i (some (.d (.int (f n m)))))) := by
  refine ⟨fun _ _ _ _ _ hx hd q => ?_, (ps_aug hN hi hx he.pe ho hf).imp fun D σ H h => ?_⟩
  · obtain ⟨y, e1, q⟩ := q.to
    refine tV3.of e1 (he.mono _ _ _ _ _ hx (fun z δ1 q => ?_) q)
    obtain ⟨n, rfl, q1⟩ := asI.to q
    obtain ⟨m, rfl, q2⟩ := asI.to q1
    exact hd.nx _ q2
  · obtain ⟨π, F, ρ, δ, rel, q⟩ := h
    obtain ⟨y, e1, q⟩ := q.to
    obtain ⟨v, hv, rv⟩ := rel.dat i (.d y) e1
    refine ⟨v, hv, π, F, ρ, δ, rel, he.mono _ _ _ _ _ (fun _ z => z) (fun z δ1 q w H1 ρ1 ex rel1 r1 => ?_) q⟩
    obtain ⟨n, rfl, q1⟩ := asI.to q
    obtain ⟨m, rfl, q2⟩ := asI.to q1
    cases rv; cases r1
    exact ⟨n, m, rfl, rfl, q2 _ H1 _ (ex.trans Ext.drop) (rel1.setD (.int _))⟩
end
end M3

set_option Elab.async false
set_option linter.all false
set_option maxRecDepth 100000
set_option maxHeartbeats 4000000
namespace M3
open PySem L2
variable [TabsC]
section
variable {K : PySem.W.Frag} {π : Rho} {F : Addr → Prop} {ρ : Rho} {H : Hp} {σ : St} {δ : Sl}
/-- a foreign object becomes owned by no slot (index k beyond) -/
theorem Rel.adopt (r : Rel K π (FD F a) ρ H σ δ) {k : Nat} (hk : δ.length ≤ k) (na : ¬ F a) (np : ∀ p, π p ≠ some a) : Rel K π F (own1 ρ k a) H σ δ := by
  have na1 : ¬ Ow ρ a := r.dis a (.inr rfl)
  have lex : ∀ b, Ox F (own1 ρ k a) b → Ox (FD F a) ρ b := fun b z => by
    rcases z with z | z
    · rcases own1_le b z with z | z
      · exact .inl z
      · exact .inr (.inr z)
    · exact .inr (.inl z)
  have nr : ∀ j, ρ j ≠ some a := fun j h => na1 ⟨j, h⟩
  refine ⟨r.len, fun j y q => ?_, fun j t' o2 q => ?_, fun j l b h1 h2 => ?_, fun b z => r.trk b (lex b z), fun b z q => ?_, r.pit, r.ln, r.tab⟩
  · obtain ⟨w, h1, h2⟩ := r.dat j y q
    exact ⟨w, h1, h2.mono lex⟩
  · obtain ⟨b, h1, h2, h3, h4⟩ := r.own j t' o2 q
    have hj : j < δ.length := (List.getElem?_eq_some_iff.mp q).1
    exact ⟨b, by unfold own1; rw [if_neg (by omega)]; exact h1, h2, h3.mono lex, h4⟩
  · unfold own1 at h1 h2
    split at h1
    · cases h1
      split at h2
      · rename_i z1 z2; rw [z1, z2]
      · exact absurd h2 (nr l)
    · split at h2
      · cases h2; exact absurd h1 (nr j)
      · exact r.inj j l b h1 h2
  · rcases own1_le b q with q | q
    · exact r.dis b (.inl z) q
    · rw [q] at z; exact na z
end
section
variable {X : Cx} {E : XK} {tg a b c e iter elt : Expr} {ifs : List Expr} {ta tb tc te : T3} {ti : TA3} {tt : TB3} {g : TG3} {vs : List Nat} {pos : Pos} {scope : Scope} {own : List (Str × Nat)}
/-- what makes a new list, with the list owned -/
def tOf (t : T3) : TW3 := fun E δ Q => t E δ fun y δ1 => match y with | .list xs => Q (.lst xs) δ1 | _ => False
theorem lift_lcO (hi : Mono3 ti) (hg : MonoG g) (ht : Mono3 tt) (he : Mono3 te) {σ : St} {H : Hp} {Q : VK} (h : liftO X.K E (tOf (tLc3 ti g tt te vs)) σ H Q) :
    tLc (liftI X.K E ti) (liftG X.K vs g) (lift X.K XF RBl tt) (lift X.K XF (Rp X.K) te) vs σ H Q := by
  obtain ⟨π, F, ρ, δ, rel, q⟩ := h
  refine ⟨π, F, ρ, δ, rel, hi _ _ _ _ _ (fun _ z => z) (fun ds δ1 ⟨hz, Pv, h0, hs, hd⟩ J H1 ρ1 e1 rel1 jok => ?_) q⟩
  intro L hL
  have nL : ¬ Ox F ρ1 L := rel1.fresh hL
  have exJ : ∀ {ρ2 : Rho} {H2 : Hp}, Ex F ρ1 H1 ρ2 H2 → Ext (Ow ρ1) (Ox F ρ1) H1 (Ox (FD F L) ρ2) H2 := fun {ρ2 H2} e => ⟨e.fr, fun b z => by
    rcases z with z | z | z
    · exact (e.ow b z).imp .inl id
    · exact .inl (.inr z)
    · exact .inr (by rw [z]; exact hL), e.tk, e.tb⟩
  refine ⟨fun i m H2 => m = ds.length - i ∧ i ≤ ds.length ∧ ∃ acc accV ρ2 δ2, Ex F ρ1 H1 ρ2 H2 ∧ Rel X.K π (FD F L) ρ2 H2 σ δ2 ∧ H2 L = some (.lst accV) ∧ RpAll X.K (Ox (FD F L) ρ2) H2 accV acc ∧ acc.length ≤ i ∧ Pv i acc δ2, ⟨ds.length, by simp, Nat.zero_le _, [], [], ρ1, δ1, Ext.same (same_upd hL), rel1.addF hL, upd_same, .nil, Nat.le_refl _, h0⟩, ?_⟩
  rintro i m H2 ⟨rfl, hil, acc, accV, ρ2, δ2, e2, rel2, hH2, ra, hal, p⟩
  obtain ⟨j1, j2⟩ := jok i (FD F L) ρ2 H2 _ (fun _ => .inl) (exJ e2) rel2.trk
  by_cases hlt : i < ds.length
  · obtain ⟨go, y⟩ := j1 ds[i] (by simp [hlt])
    refine .inr ⟨go, fun H' => i + 1 ≤ ds.length ∧ ∃ acc accV ρ2 δ2, Ex F ρ1 H1 ρ2 H' ∧ Rel X.K π (FD F L) ρ2 H' σ δ2 ∧ H' L = some (.lst accV) ∧ RpAll X.K (Ox (FD F L) ρ2) H' accV acc ∧ acc.length ≤ i + 1 ∧ Pv (i + 1) acc δ2, fun H' ⟨hl, z⟩ => ⟨ds.length - (i + 1), by omega, rfl, hl, z⟩, fun v H' yl => ?_⟩
    obtain ⟨sm, rp⟩ := y v H' yl
    have rel2' := rel2.same sm
    obtain ⟨ρw, relw, lew⟩ := rel2'.wipe vs
    have lewx : ∀ b, Ox (FD F L) ρw b → Ox (FD F L) ρ2 b := fun b z => z.imp (lew b) id
    have e2w : Ex (FD F L) ρ2 H2 ρw H' := ⟨fun b u h _ _ => sm b u h, fun b z => .inl (lew b z), fun b u h => ⟨u, sm b u h⟩, Tb.same sm⟩
    refine ⟨π, FD F L, ρw, _, _, relw, rp.mono lewx, hg _ _ _ _ (fun δ3 q σ3 H3 ρ3 e3 rel3 w3 s3 => ?_) (hs i _ acc δ2 (by simp [hlt]) p)⟩
    rw [wipe_wipe] at w3
    refine ⟨w3, π, FD F L, ρ3, δ3, rel3, ht _ _ _ _ _ (fun _ z => z.elim) (fun b δ4 q b' H4 ρ4 e4 rel4 eb => ?_) q⟩
    subst eb
    have e24 : Ex (FD F L) ρ2 H2 ρ4 H4 := (e2w.trans e3).trans e4
    have e14 : Ex F ρ1 H1 ρ4 H4 := e2.trans e24
    refine (q.imp (fun q => ?_) (fun q => ?_)).ite
    · refine ⟨π, FD F L, ρ4, δ4, rel4, he _ _ _ _ _ (fun _ z => z.elim) (fun y δ5 q u H5 ρ5 e5 rel5 r5 => ?_) q⟩
      have e25 := e24.trans e5
      have e15 := e14.trans e5
      have hLo : ¬ Ow ρ2 L := rel2.dis L (.inr rfl)
      have hH5 : H5 L = some (.lst accV) := e25.fr L _ hH2 hLo rfl
      have ra5 := ra.ext (e25.frn) fun _ => .inl
      refine ⟨accV, hH5, by rw [ra5.length]; omega, hlt, ?_⟩
      obtain ⟨ρ6, rel6, le6⟩ := rel5.back rel2 e25 w3
      obtain ⟨rel7, ex7⟩ := rel6.updF (d := L) (o := .lst (accV ++ [u])) (.inr rfl) hH5 ⟨rfl, rfl⟩
      have le6x : ∀ b, Ox (FD F L) ρ6 b → Ox (FD F L) ρ5 b := fun b z => z.imp (le6 b) id
      have po : ∀ b, b = L → Ox (FD F L) ρ6 b := fun b z => by rw [z]; exact .inr (.inr rfl)
      refine ⟨acc ++ [y], accV ++ [u], ρ6, _, ⟨fun b o hb n ht => ?_, fun b z => e15.ow b (le6 b z), fun b o hb => ?_, e15.tb.trans ex7.tb⟩, rel7, upd_same, ((ra5.append (.cons r5 .nil)).mono le6x).ext ex7 po, ?_, q⟩
      · rw [upd_ne fun z => by rw [z, hL] at hb; cases hb]
        exact e15.fr b o hb n ht
      · obtain ⟨o', h'⟩ := e15.tk b o hb
        exact ex7.tk b o' h'
      · rw [List.length_append, List.length_singleton]; omega
    · have hLo : ¬ Ow ρ2 L := rel2.dis L (.inr rfl)
      obtain ⟨ρ6, rel6, le6⟩ := rel4.back rel2 e24 w3
      have le6x : ∀ b, Ox (FD F L) ρ6 b → Ox (FD F L) ρ4 b := fun b z => z.imp (le6 b) id
      exact ⟨hlt, acc, accV, ρ6, _, ⟨e14.fr, fun b z => e14.ow b (le6 b z), e14.tk, e14.tb⟩, rel6, e24.fr L _ hH2 hLo rfl, (ra.ext (e24.frn) fun _ => .inl).mono le6x, by omega, q⟩
  · have e : i = ds.length := by omega
    subst e
    have hLo : ¬ Ow ρ2 L := rel2.dis L (.inr rfl)
    have np : ∀ p, π p ≠ some L := fun p z => by
      obtain ⟨u, q⟩ := rel1.pit p L z
      rw [hL] at q; cases q
    have nF : ¬ F L := fun z => nL (.inr z)
    have rel3 := rel2.adopt (k := δ2.length) (Nat.le_refl _) nF np
    have lex : ∀ b, Ox F (own1 ρ2 δ2.length L) b → Ox (FD F L) ρ2 b := fun b z => by
      rcases z with z | z
      · rcases own1_le b z with z | z
        · exact .inl z
        · exact .inr (.inr z)
      · exact .inr (.inl z)
    have ex3 : Ex F ρ1 H1 (own1 ρ2 δ2.length L) H2 := ⟨e2.fr, fun b z => by
      rcases own1_le b z with z | z
      · exact e2.ow b z
      · exact .inr (by rw [z]; exact hL), e2.tk, e2.tb⟩
    refine .inl ⟨j2 (Nat.le_refl _), hd acc δ2 p L H2 (own1 ρ2 δ2.length L) δ2.length (e1.trans ex3) rel3 (Nat.le_refl _) (by unfold own1; rw [if_pos rfl]) np ⟨accV, hH2, ra.mono lex⟩⟩
def asO (y : D) (k : Ob → Prop) : Prop := match y with | .list xs => k (.lst xs) | _ => False
theorem mono_tOf {t : T3} (h : Mono3 t) : Mono3 (tOf t) := fun _ _ _ _ _ hx hq q => h _ _ _ _ _ hx (fun y δ1 z => by
  split at z
  · exact hq _ _ z
  · exact z.elim) q
theorem POw.weak {t t' : TW3} (h : POw X E e t) (m : Mono3 t') (k : ∀ E δ Q, t' E δ Q → t E δ Q) : POw X E e t' :=
  ⟨m, h.pe.imp fun σ H Q ⟨π, F, ρ, δ, rel, q⟩ => ⟨π, F, ρ, δ, rel, k _ _ _ q⟩⟩
theorem olc3 (hc : X.calm = true) (hN : X.N.Nodup) (hi : PI3 X E tg iter ti) (ok : BlkOk X.N X.env.scope scope own)
    (hg : ∀ (s : Shared) (H : Hp) (C : Addr) (cl : List (Str × Addr)) (fp : List Addr), PG3 (X.blk s H scope (compEnvC scope cl C X.env) fp) (own.map (·.2)) tg g)
    (ht : ∀ (s : Shared) (H : Hp) (C : Addr) (cl : List (Str × Addr)) (fp : List Addr), PTs3 (X.blk s H scope (compEnvC scope cl C X.env) fp) XF ifs tt)
    (he : ∀ (s : Shared) (H : Hp) (C : Addr) (cl : List (Str × Addr)) (fp : List Addr), PE3 (X.blk s H scope (compEnvC scope cl C X.env) fp) XF elt te) (s0 : Shared) (hs : ∀ x, foldedSetIterable iter X.env x = pure x := by intro _; rfl) :
    POw X E (.ListComp elt [⟨tg, iter, ifs, 0⟩] scope pos) (tOf (tLc3 ti g tt te (own.map (·.2)))) :=
  ⟨mono_tOf (mono_tLc3 hi.mono), (pe_lc (g := liftG X.K (own.map (·.2)) g) (tt := lift X.K XF RBl tt) (te := lift X.K XF (Rp X.K) te) hc hN hi.pi ok (fun s H C cl fp => (hg s H C cl fp).pg) (fun s H C cl fp => (ht s H C cl fp).pts) (fun s H C cl fp => (he s H C cl fp).pe) hs).imp fun σ H Q h =>
    lift_lcO hi.mono (hg s0 (fun _ => none) 0 [] []).mono (ht s0 (fun _ => none) 0 [] []).mono (he s0 (fun _ => none) 0 [] []).mono h⟩
theorem olcP (hc : X.calm = true) (hN : X.N.Nodup) (hi : PI3 X E tg iter ti) (ok : BlkOk X.N X.env.scope scope own)
    (hg : ∀ (s : Shared) (H : Hp) (C : Addr) (cl : List (Str × Addr)) (fp : List Addr), PG3 (X.blk s H scope (compEnvC scope cl C X.env) fp) (own.map (·.2)) tg g)
    (he : ∀ (s : Shared) (H : Hp) (C : Addr) (cl : List (Str × Addr)) (fp : List Addr), PE3 (X.blk s H scope (compEnvC scope cl C X.env) fp) XF elt te) (s0 : Shared) (hs : ∀ x, foldedSetIterable iter X.env x = pure x := by intro _; rfl) :
    POw X E (.ListComp elt [⟨tg, iter, [], 0⟩] scope pos) (tOf (tLcP ti g te (own.map (·.2)))) :=
  (olc3 hc hN hi ok hg (fun _ _ _ _ _ => yes3) he s0 hs).weak (mono_tOf (mono_tLcP hi.mono)) fun _ _ _ h => lcP_le hi.mono (hg s0 (fun _ => none) 0 [] []).mono (he s0 (fun _ => none) 0 [] []).mono h
theorem olcF (hc : X.calm = true) (hN : X.N.Nodup) (hi : PI3 X E tg iter ti) (ok : BlkOk X.N X.env.scope scope own)
    (hg : ∀ (s : Shared) (H : Hp) (C : Addr) (cl : List (Str × Addr)) (fp : List Addr), PG3 (X.blk s H scope (compEnvC scope cl C X.env) fp) (own.map (·.2)) tg g)
    (ht : ∀ (s : Shared) (H : Hp) (C : Addr) (cl : List (Str × Addr)) (fp : List Addr), PTs3 (X.blk s H scope (compEnvC scope cl C X.env) fp) XF ifs tt)
    (he : ∀ (s : Shared) (H : Hp) (C : Addr) (cl : List (Str × Addr)) (fp : List Addr), PE3 (X.blk s H scope (compEnvC scope cl C X.env) fp) XF elt te) (s0 : Shared) (hs : ∀ x, foldedSetIterable iter X.env x = pure x := by intro _; rfl) :
    POw X E (.ListComp elt [⟨tg, iter, ifs, 0⟩] scope pos) (tOf (tLcF ti g tt te (own.map (·.2)))) :=
  (olc3 hc hN hi ok hg ht he s0 hs).weak (mono_tOf (mono_tLcF hi.mono)) fun _ _ _ h => lcF_le hi.mono (hg s0 (fun _ => none) 0 [] []).mono (ht s0 (fun _ => none) 0 [] []).mono (he s0 (fun _ => none) 0 [] []).mono h
theorem olcM (ws : List Nat) (hc : X.calm = true) (hN : X.N.Nodup) (hi : PI3 X E tg iter ti) (ok : BlkOk X.N X.env.scope scope own)
    (hg : ∀ (s : Shared) (H : Hp) (C : Addr) (cl : List (Str × Addr)) (fp : List Addr), PG3 (X.blk s H scope (compEnvC scope cl C X.env) fp) (own.map (·.2)) tg g)
    (he : ∀ (s : Shared) (H : Hp) (C : Addr) (cl : List (Str × Addr)) (fp : List Addr), PE3 (X.blk s H scope (compEnvC scope cl C X.env) fp) XF elt te) (s0 : Shared) (hw : ∀ i, i ∈ ws → i ∉ own.map (·.2) := by decide) (hs : ∀ x, foldedSetIterable iter X.env x = pure x := by intro _; rfl) :
    POw X E (.ListComp elt [⟨tg, iter, [], 0⟩] scope pos) (tOf (tLcM ws ti g te (own.map (·.2)))) :=
  (olc3 hc hN hi ok hg (fun _ _ _ _ _ => yes3) he s0 hs).weak (mono_tOf (mono_tLcM hi.mono)) fun _ _ _ h => lcM_le hi.mono (hg s0 (fun _ => none) 0 [] []).mono (he s0 (fun _ => none) 0 [] []).mono hw h
/-- a + b of lists, the new one owned -/
theorem oadd3 (ha : PE3 X E a ta) (hb : PE3 X E b tb) : POw X E (.BinOp a .Add b pos) (fun E δ Q => ta E δ fun x δ1 => tb E δ1 fun y δ2 => match x, y with | .list xs, .list ys => xs.length + ys.length ≤ sizeLine ∧ Q (.lst (xs ++ ys)) δ2 | _, _ => False) := by
  refine ⟨fun _ _ _ _ _ hx hq q => ha.mono _ _ _ _ _ hx (fun x δ1 => hb.mono _ _ _ _ _ hx fun y δ2 z => by
    split at z
    · exact ⟨z.1, hq _ _ z.2⟩
    · exact z.elim) q, (pe_op op_cat ha.pe hb.pe).imp fun σ H Q h => ?_⟩
  obtain ⟨π, F, ρ, δ, rel, q⟩ := h
  refine ⟨π, F, ρ, δ, rel, ha.mono _ _ _ _ _ (fun _ z => z) (fun x δ1 q v H1 ρ1 e1 rel1 r1 => ?_) q⟩
  refine ⟨π, F, ρ1, δ1, rel1, hb.mono _ _ _ _ _ (liftX.mono e1) (fun y δ2 q u H2 ρ2 e2 rel2 r2 => ?_) q⟩
  have r1' := r1.ext e2.frn fun _ => .inl
  split at q
  · cases r1' with
    | lst ht hr => cases r2 with
      | lst ht2 hr2 =>
        refine ⟨_, _, _, _, rfl, rfl, ht.1, ht2.1, by rw [hr.length, hr2.length]; exact q.1, fun p hp => ?_⟩
        obtain ⟨r3, e3, np⟩ := rel2.tmpO (k := δ2.length) (a := p) hp (same_upd (o := .lst _) hp) ⟨_, upd_same⟩ (Nat.le_refl _)
        exact q.2 p _ _ δ2.length ((e1.trans e2).trans e3) r3 (Nat.le_refl _) (by unfold own1; rw [if_pos rfl]) np ⟨_, upd_same, (hr.append hr2).ext (e3.frn) fun _ => .inl⟩
  · exact q.elim
end
end M3

set_option Elab.async false
set_option linter.all false
set_option maxRecDepth 100000
set_option maxHeartbeats 4000000
namespace M3
open PySem L2
variable [TabsC]
section
variable {X : Cx} {E : XK} {tg a b c e iter elt : Expr} {ifs : List Expr} {ta tb tc te : T3} {ti : TA3} {tt : TB3} {g : TG3} {vs : List Nat} {pos : Pos} {scope : Scope} {own : List (Str × Nat)}
theorem setLcP (i : Nat) {y : Str} {py spos : Pos} (hc : X.calm = true) (hN : X.N.Nodup) (hi : PI3 X E tg iter ti) (ok : BlkOk X.N X.env.scope scope own)
    (hg : ∀ (s : Shared) (H : Hp) (C : Addr) (cl : List (Str × Addr)) (fp : List Addr), PG3 (X.blk s H scope (compEnvC scope cl C X.env) fp) (own.map (·.2)) tg g)
    (he : ∀ (s : Shared) (H : Hp) (C : Addr) (cl : List (Str × Addr)) (fp : List Addr), PE3 (X.blk s H scope (compEnvC scope cl C X.env) fp) XF elt te) (s0 : Shared)
    (hsw : swapsWith (.ListComp elt [⟨tg, iter, [], 0⟩] scope pos) (some (.Name y py)) spos.line X.env = pure true) (hy : X.N[i]? = some y := by rfl) (hyl : X.env.scope.names.lookup y = some .local := by rfl) (hs : ∀ x, foldedSetIterable iter X.env x = pure x := by intro _; rfl) :
    PS3 X E (.Assign [.Name y py] (.ListComp elt [⟨tg, iter, [], 0⟩] scope pos) spos) (tAsg3 (tLcP ti g te (own.map (·.2))) (gName3 i)) :=
  (setLc3 i hc hN hi ok hg (fun _ _ _ _ _ => yes3) he s0 hsw hy hyl hs).weak (fun _ _ _ _ _ hx hd q => mono_tLcP hi.mono _ _ _ _ _ hx (fun x δ1 => hd.nx _) q) fun _ _ _ h => lcP_le hi.mono (hg s0 (fun _ => none) 0 [] []).mono (he s0 (fun _ => none) 0 [] []).mono h
theorem setLcF (i : Nat) {y : Str} {py spos : Pos} (hc : X.calm = true) (hN : X.N.Nodup) (hi : PI3 X E tg iter ti) (ok : BlkOk X.N X.env.scope scope own)
    (hg : ∀ (s : Shared) (H : Hp) (C : Addr) (cl : List (Str × Addr)) (fp : List Addr), PG3 (X.blk s H scope (compEnvC scope cl C X.env) fp) (own.map (·.2)) tg g)
    (ht : ∀ (s : Shared) (H : Hp) (C : Addr) (cl : List (Str × Addr)) (fp : List Addr), PTs3 (X.blk s H scope (compEnvC scope cl C X.env) fp) XF ifs tt)
    (he : ∀ (s : Shared) (H : Hp) (C : Addr) (cl : List (Str × Addr)) (fp : List Addr), PE3 (X.blk s H scope (compEnvC scope cl C X.env) fp) XF elt te) (s0 : Shared)
    (hsw : swapsWith (.ListComp elt [⟨tg, iter, ifs, 0⟩] scope pos) (some (.Name y py)) spos.line X.env = pure true) (hy : X.N[i]? = some y := by rfl) (hyl : X.env.scope.names.lookup y = some .local := by rfl) (hs : ∀ x, foldedSetIterable iter X.env x = pure x := by intro _; rfl) :
    PS3 X E (.Assign [.Name y py] (.ListComp elt [⟨tg, iter, ifs, 0⟩] scope pos) spos) (tAsg3 (tLcF ti g tt te (own.map (·.2))) (gName3 i)) :=
  (setLc3 i hc hN hi ok hg ht he s0 hsw hy hyl hs).weak (fun _ _ _ _ _ hx hd q => mono_tLcF hi.mono _ _ _ _ _ hx (fun x δ1 => hd.nx _) q) fun _ _ _ h => lcF_le hi.mono (hg s0 (fun _ => none) 0 [] []).mono (ht s0 (fun _ => none) 0 [] []).mono (he s0 (fun _ => none) 0 [] []).mono h
theorem setLcM (i : Nat) (ws : List Nat) {y : Str} {py spos : Pos} (hc : X.calm = true) (hN : X.N.Nodup) (hi : PI3 X E tg iter ti) (ok : BlkOk X.N X.env.scope scope own)
    (hg : ∀ (s : Shared) (H : Hp) (C : Addr) (cl : List (Str × Addr)) (fp : List Addr), PG3 (X.blk s H scope (compEnvC scope cl C X.env) fp) (own.map (·.2)) tg g)
    (he : ∀ (s : Shared) (H : Hp) (C : Addr) (cl : List (Str × Addr)) (fp : List Addr), PE3 (X.blk s H scope (compEnvC scope cl C X.env) fp) XF elt te) (s0 : Shared)
    (hsw : swapsWith (.ListComp elt [⟨tg, iter, [], 0⟩] scope pos) (some (.Name y py)) spos.line X.env = pure true) (hw : ∀ i, i ∈ ws → i ∉ own.map (·.2) := by decide) (hy : X.N[i]? = some y := by rfl) (hyl : X.env.scope.names.lookup y = some .local := by rfl) (hs : ∀ x, foldedSetIterable iter X.env x = pure x := by intro _; rfl) :
    PS3 X E (.Assign [.Name y py] (.ListComp elt [⟨tg, iter, [], 0⟩] scope pos) spos) (tAsg3 (tLcM ws ti g te (own.map (·.2))) (gName3 i)) :=
  (setLc3 i hc hN hi ok hg (fun _ _ _ _ _ => yes3) he s0 hsw hy hyl hs).weak (fun _ _ _ _ _ hx hd q => mono_tLcM hi.mono _ _ _ _ _ hx (fun x δ1 => hd.nx _) q) fun _ _ _ h => lcM_le hi.mono (hg s0 (fun _ => none) 0 [] []).mono (he s0 (fun _ => none) 0 [] []).mono hw h
/-! the same with the list owned -/
def tAsgO (i : Nat) (t : TW3) : TS3 := fun E D δ => t E δ fun o δ1 => D.nx (δ1.set i (some (.own 0 o)))
theorem setOLc3 (i : Nat) {y : Str} {py spos : Pos} (hc : X.calm = true) (hN : X.N.Nodup) (hi : PI3 X E tg iter ti) (ok : BlkOk X.N X.env.scope scope own)
    (hg : ∀ (s : Shared) (H : Hp) (C : Addr) (cl : List (Str × Addr)) (fp : List Addr), PG3 (X.blk s H scope (compEnvC scope cl C X.env) fp) (own.map (·.2)) tg g)
    (ht : ∀ (s : Shared) (H : Hp) (C : Addr) (cl : List (Str × Addr)) (fp : List Addr), PTs3 (X.blk s H scope (compEnvC scope cl C X.env) fp) XF ifs tt)
    (he : ∀ (s : Shared) (H : Hp) (C : Addr) (cl : List (Str × Addr)) (fp : List Addr), PE3 (X.blk s H scope (compEnvC scope cl C X.env) fp) XF elt te) (s0 : Shared)
    (hsw : swapsWith (.ListComp elt [⟨tg, iter, ifs, 0⟩] scope pos) (some (.Name y py)) spos.line X.env = pure true) (hy : X.N[i]? = some y := by rfl) (hyl : X.env.scope.names.lookup y = some .local := by rfl) (hs : ∀ x, foldedSetIterable iter X.env x = pure x := by intro _; rfl) :
    PS3 X E (.Assign [.Name y py] (.ListComp elt [⟨tg, iter, ifs, 0⟩] scope pos) spos) (tAsgO i (tOf (tLc3 ti g tt te (own.map (·.2))))) := by
  refine ⟨fun _ _ _ _ _ hx hd q => mono_tOf (mono_tLc3 hi.mono) _ _ _ _ _ hx (fun x δ1 => hd.nx _) q, (ps_setLc (g := liftG X.K (own.map (·.2)) g) (tt := lift X.K XF RBl tt) (te := lift X.K XF (Rp X.K) te) hc hN hy hyl hsw hi.pi ok (fun s H C cl fp => (hg s H C cl fp).pg) (fun s H C cl fp => (ht s H C cl fp).pts) (fun s H C cl fp => (he s H C cl fp).pe) hs).imp fun D σ H h => ?_⟩
  refine lift_lcO hi.mono (hg s0 (fun _ => none) 0 [] []).mono (ht s0 (fun _ => none) 0 [] []).mono (he s0 (fun _ => none) 0 [] []).mono ?_
  obtain ⟨π, F, ρ, δ, rel, q⟩ := h
  refine ⟨π, F, ρ, δ, rel, ?_⟩
  have q' : tOf (tLc3 ti g tt te (own.map (·.2))) (liftX X.K E F ρ H) δ (fun o δ1 => (liftD D X.K π F ρ H).nx (δ1.set i (some (.own 0 o)))) := q
  show tOf (tLc3 ti g tt te (own.map (·.2))) _ _ _
  exact mono_tOf (mono_tLc3 hi.mono) _ _ _ _ (fun o δ' => ∀ a H' ρ' k, Ex F ρ H ρ' H' → Rel X.K π F ρ' H' σ δ' → δ'.length ≤ k → ρ' k = some a → (∀ p, π p ≠ some a) → ObOk X.K (Ox F ρ') H' a o → D.nx (σ.set i (some (.ref a))) H') (fun _ z => z) (fun o δ1 q a H1 ρ1 k e1 rel1 hk ha np ho => by
    obtain ⟨ρ', r', e'⟩ := rel1.move (i := i) hk ha ho np
    exact q _ H1 ρ' (e1.trans e') r') q'
theorem setOLcP (i : Nat) {y : Str} {py spos : Pos} (hc : X.calm = true) (hN : X.N.Nodup) (hi : PI3 X E tg iter ti) (ok : BlkOk X.N X.env.scope scope own)
    (hg : ∀ (s : Shared) (H : Hp) (C : Addr) (cl : List (Str × Addr)) (fp : List Addr), PG3 (X.blk s H scope (compEnvC scope cl C X.env) fp) (own.map (·.2)) tg g)
    (he : ∀ (s : Shared) (H : Hp) (C : Addr) (cl : List (Str × Addr)) (fp : List Addr), PE3 (X.blk s H scope (compEnvC scope cl C X.env) fp) XF elt te) (s0 : Shared)
    (hsw : swapsWith (.ListComp elt [⟨tg, iter, [], 0⟩] scope pos) (some (.Name y py)) spos.line X.env = pure true) (hy : X.N[i]? = some y := by rfl) (hyl : X.env.scope.names.lookup y = some .local := by rfl) (hs : ∀ x, foldedSetIterable iter X.env x = pure x := by intro _; rfl) :
    PS3 X E (.Assign [.Name y py] (.ListComp elt [⟨tg, iter, [], 0⟩] scope pos) spos) (tAsgO i (tOf (tLcP ti g te (own.map (·.2))))) :=
  (setOLc3 i hc hN hi ok hg (fun _ _ _ _ _ => yes3) he s0 hsw hy hyl hs).weak (fun _ _ _ _ _ hx hd q => mono_tOf (mono_tLcP hi.mono) _ _ _ _ _ hx (fun x δ1 => hd.nx _) q) fun _ _ _ h => by unfold tAsgO tOf at h ⊢; exact lcP_le hi.mono (hg s0 (fun _ => none) 0 [] []).mono (he s0 (fun _ => none) 0 [] []).mono h
theorem setOLcM (i : Nat) (ws : List Nat) {y : Str} {py spos : Pos} (hc : X.calm = true) (hN : X.N.Nodup) (hi : PI3 X E tg iter ti) (ok : BlkOk X.N X.env.scope scope own)
    (hg : ∀ (s : Shared) (H : Hp) (C : Addr) (cl : List (Str × Addr)) (fp : List Addr), PG3 (X.blk s H scope (compEnvC scope cl C X.env) fp) (own.map (·.2)) tg g)
    (he : ∀ (s : Shared) (H : Hp) (C : Addr) (cl : List (Str × Addr)) (fp : List Addr), PE3 (X.blk s H scope (compEnvC scope cl C X.env) fp) XF elt te) (s0 : Shared)
    (hsw : swapsWith (.ListComp elt [⟨tg, iter, [], 0⟩] scope pos) (some (.Name y py)) spos.line X.env = pure true) (hw : ∀ i, i ∈ ws → i ∉ own.map (·.2) := by decide) (hy : X.N[i]? = some y := by rfl) (hyl : X.env.scope.names.lookup y = some .local := by rfl) (hs : ∀ x, foldedSetIterable iter X.env x = pure x := by intro _; rfl) :
    PS3 X E (.Assign [.Name y py] (.ListComp elt [⟨tg, iter, [], 0⟩] scope pos) spos) (tAsgO i (tOf (tLcM ws ti g te (own.map (·.2))))) :=
  (setOLc3 i hc hN hi ok hg (fun _ _ _ _ _ => yes3) he s0 hsw hy hyl hs).weak (fun _ _ _ _ _ hx hd q => mono_tOf (mono_tLcM hi.mono) _ _ _ _ _ hx (fun x δ1 => hd.nx _) q) fun _ _ _ h => by unfold tAsgO tOf at h ⊢; exact lcM_le hi.mono (hg s0 (fun _ => none) 0 [] []).mono (he s0 (fun _ => none) 0 [] []).mono hw h
end
end M3

set_option Elab.async false
set_option linter.all false
set_option maxRecDepth 100000
set_option maxHeartbeats 4000000
namespace M3
open PySem L2
variable [TabsC]
theorem Ask_eq (p : Prop) : Ask p = p := propext ⟨fun h => h.h, fun h => ⟨h⟩⟩
/-! ## slots written out -/
def normK : Sl → (Sl → Prop) → Prop
  | [], k => k []
  | x :: r, k => normK r fun r' => k (x :: r')
theorem normK_eq : ∀ (δ : Sl) (k : Sl → Prop), normK δ k = k δ
  | [], k => rfl
  | x :: r, k => by unfold normK; rw [normK_eq r]
def nthK : Sl → Nat → (Option W → Prop) → Prop
  | [], _, k => k none
  | x :: _, 0, k => k x
  | _ :: r, n + 1, k => nthK r n k
theorem nthK_eq : ∀ (δ : Sl) (i : Nat) (k : Option W → Prop), nthK δ i k = k (match δ[i]? with | some v => v | none => none)
  | [], i, k => by simp [nthK]
  | x :: r, 0, k => by simp [nthK]
  | x :: r, n + 1, k => by simp only [nthK, List.getElem?_cons_succ]; rw [nthK_eq r n]
def getK (δ : Sl) : List Nat → (List (Option W) → Prop) → Prop
  | [], k => k []
  | i :: is, k => nthK δ i fun v => getK δ is fun vs => k (v :: vs)
theorem getK_eq (δ : Sl) : ∀ (ws : List Nat) (k : List (Option W) → Prop), getK δ ws k = k (getS δ ws)
  | [], k => rfl
  | i :: is, k => by
    unfold getK getS
    rw [nthK_eq, getK_eq δ is]
    all_goals (cases δ[i]? <;> rfl)
theorem PSs3.weak {X : Cx} {E : XK} {st : List Stmt} {t t' : TS3} (h : PSs3 X E st t) (m : MonoS t') (k : ∀ E D δ, t' E D δ → t E D δ) : PSs3 X E st t' :=
  ⟨m, h.ps.imp fun D σ H ⟨π, F, ρ, δ, rel, q⟩ => ⟨π, F, ρ, δ, rel, k _ _ _ q⟩⟩
/-! ## items -/
def atN : List D → Nat → (D → Prop) → Prop
  | [], _, _ => False
  | x :: _, 0, k => k x
  | _ :: r, n + 1, k => atN r n k
def atK (xs : List D) (i : Int) (k : D → Prop) : Prop := match i with
  | .ofNat n => atN xs n k
  | .negSucc n => Ask (∃ d, atI xs (.negSucc n) = some d ∧ k d)
theorem atN_iff : ∀ (xs : List D) (n : Nat) (k : D → Prop), atN xs n k ↔ ∃ d, xs[n]? = some d ∧ k d
  | [], n, k => by simp [atN]
  | x :: r, 0, k => by simp [atN]
  | x :: r, n + 1, k => by simp only [atN, List.getElem?_cons_succ]; exact atN_iff r n k
theorem atI_ofNat {xs : List D} {n : Nat} {d : D} : atI xs (.ofNat n) = some d ↔ xs[n]? = some d := by
  unfold atI ixN
  rw [if_pos (by exact Int.natCast_nonneg n)]
  by_cases h : n < xs.length
  · rw [if_pos (show (Int.ofNat n) < (xs.length : Int) from Int.ofNat_lt.mpr h)]
    exact Iff.rfl
  · rw [if_neg (show ¬ (Int.ofNat n) < (xs.length : Int) from fun z => h (Int.ofNat_lt.mp z)), List.getElem?_eq_none (by omega)]
    exact Iff.rfl
theorem atK_iff {xs : List D} {i : Int} {k : D → Prop} : atK xs i k ↔ ∃ d, atI xs i = some d ∧ k d := by
  unfold atK
  split
  · rw [atN_iff]
    exact exists_congr fun d => and_congr atI_ofNat.symm Iff.rfl
  · exact ⟨fun h => h.h, fun h => ⟨h⟩⟩
theorem atK_of {xs : List D} {i : Int} {d : D} {k : D → Prop} (h : atI xs i = some d) (q : k d) : atK xs i k := atK_iff.mpr ⟨d, h, q⟩
theorem atN_of {xs : List D} {i : Nat} {d : D} {k : D → Prop} (h : xs[i]? = some d) (q : k d) : atN xs i k := (atN_iff xs i k).mpr ⟨d, h, q⟩
section
variable {X : Cx} {E : XK} {tg a b c e iter elt : Expr} {ifs : List Expr} {ta tb tc te : T3} {ti : TA3} {tt : TB3} {g : TG3} {vs : List Nat} {pos : Pos} {scope : Scope} {own : List (Str × Nat)} {st : Stmt} {rest : List Stmt} {t u : TS3}
def rIxK (x y : D) (k : D → Prop) : Prop := match x with
  | .tuple xs => asI y fun i => atK xs i k
  | .list xs => asI y fun i => atK xs i k
  | _ => False
theorem rIxK_le {x y : D} {k : D → Prop} (h : rIxK x y k) : rIx3 x y k := by
  unfold rIxK at h; unfold rIx3
  split at h
  · obtain ⟨i, rfl, h1⟩ := asI.to h; exact asI.of (atK_iff.mp h1)
  · obtain ⟨i, rfl, h1⟩ := asI.to h; exact asI.of (atK_iff.mp h1)
  · exact h.elim
theorem m_rIxK : M2 rIxK := fun x y k k' hk h => by
  unfold rIxK at h ⊢
  split at h
  · obtain ⟨i, rfl, h1⟩ := asI.to h; obtain ⟨d, e, z⟩ := atK_iff.mp h1; exact asI.of (atK_of e (hk _ z))
  · obtain ⟨i, rfl, h1⟩ := asI.to h; obtain ⟨d, e, z⟩ := atK_iff.mp h1; exact asI.of (atK_of e (hk _ z))
  · exact h.elim
theorem ixK (ha : PE3 X E a ta) (hb : PE3 X E b tb) (hs : PlainIx b := by exact fun _ _ => rfl) : PE3 X E (.Subscript a b pos) (tB2 rIxK ta tb) :=
  (ix3 ha hb hs).weak (mono_tB2 ha.mono hb.mono m_rIxK) fun E δ Q h => ha.mono _ _ _ _ _ (fun _ z => z) (fun x δ1 => hb.mono _ _ _ _ _ (fun _ z => z) fun y δ2 => rIxK_le) h
def tIxOK (i : Nat) (tb : T3) : T3 := fun E δ Q => onLst δ i fun _ => tb E δ fun y δ1 => asI y fun j => onLst δ1 i fun xs => atK xs j fun d => Q d δ1
theorem ixOK (i : Nat) {x : Str} {pos' : Pos} (hb : PE3 X E b tb) (hs : PlainIx b := by exact fun _ _ => rfl) (hN : X.N[i]? = some x := by rfl) (hv : Vis X.env.scope x := by first | exact Or.inl rfl | exact Or.inr (Or.inl rfl) | exact Or.inr (Or.inr rfl)) (hd : (x == ("__debug__" : Str)) = false := by decide)
    (hcd : (x == ("__classdict__" : Str)) = false := by decide) : PE3 X E (.Subscript (.Name x pos') b pos) (tIxOK i tb) :=
  (ixO3 i hb hs hN hv hd hcd).weak (fun _ _ _ _ _ hx hq q => q.imp fun _ q => hb.mono _ _ _ _ _ hx (fun y δ1 z => by
    obtain ⟨j, rfl, z1⟩ := asI.to z
    exact asI.of (z1.imp fun xs q => by obtain ⟨d, e, q⟩ := atK_iff.mp q; exact atK_of e (hq _ _ q))) q) fun E δ Q h => h.imp fun _ q => hb.mono _ _ _ _ _ (fun _ z => z) (fun y δ1 z => by
    obtain ⟨j, rfl, z1⟩ := asI.to z
    exact asI.of (z1.imp fun xs q => atK_iff.mp q)) q
/-! ## blocks -/
def tSeqN (t u : TS3) : TS3 := fun E D δ => t E { nx := fun δ' => normK δ' fun δ'' => u E D δ'', rt := D.rt, bk := D.bk, ct := D.ct } δ
theorem scN (h1 : PS3 X E st t) (h2 : PSs3 X E rest u) : PSs3 X E (st :: rest) (tSeqN t u) := by
  have e : tSeqN t u = tSeq3 t u := by
    funext E D δ
    unfold tSeqN tSeq3
    simp only [normK_eq]
  rw [e]; exact sc3 h1 h2
/-- slots written back, one by one, the list always written out -/
def setZ : Sl → Nat → Option W → (Sl → Prop) → Prop
  | [], _, _, k => k []
  | _ :: r, 0, v, k => k (v :: r)
  | x :: r, n + 1, v, k => setZ r n v fun r' => k (x :: r')
theorem setZ_eq : ∀ (δ : Sl) (i : Nat) (v : Option W) (k : Sl → Prop), setZ δ i v k = k (δ.set i v)
  | [], i, v, k => rfl
  | x :: r, 0, v, k => rfl
  | x :: r, n + 1, v, k => by unfold setZ; rw [setZ_eq r]; rfl
def putZL : List Nat → List (Option W) → Sl → (Sl → Prop) → Prop
  | i :: is, v :: vs, δ, k => setZ δ i v fun δ' => putZL is vs δ' k
  | [], _, δ, k => k δ
  | _ :: _, [], δ, k => k δ
theorem putZL_eq : ∀ (ws : List Nat) (vs : List (Option W)) (δ : Sl) (k : Sl → Prop), putZL ws vs δ k = k (putS δ ws vs)
  | i :: is, v :: vs, δ, k => by unfold putZL putS; rw [setZ_eq, putZL_eq is vs]
  | [], _, δ, k => by unfold putZL putS; rfl
  | _ :: _, [], δ, k => by unfold putZL putS; rfl
def putZ (δ : Sl) (ws : List Nat) (vs : List (Option W)) (k : Sl → Prop) : Prop := normK δ fun δ' => putZL ws vs δ' k
theorem putZ_eq (δ : Sl) (ws : List Nat) (vs : List (Option W)) (k : Sl → Prop) : putZ δ ws vs k = k (putS δ ws vs) := by unfold putZ; rw [normK_eq, putZL_eq]
/-- a block whose ways meet behind its first statement -/
def tSeqJ (ws : List Nat) (t u : TS3) : TS3 := fun E D δ => Ask (∃ J : List (Option W) → Prop, t E { nx := fun δ' => normK δ' fun δ' => getK δ' ws fun vs => putZ δ ws vs fun δ2 => δ' = δ2 ∧ Ask (J vs), rt := D.rt, bk := D.bk, ct := D.ct } δ ∧ ∀ vs, J vs → putZ δ ws vs fun δ' => u E D δ')
theorem scJ (ws : List Nat) (h1 : PS3 X E st t) (h2 : PSs3 X E rest u) : PSs3 X E (st :: rest) (tSeqJ ws t u) :=
  (sc3 h1 h2).weak (fun E E' D D' δ he hd ⟨⟨J, q1, q2⟩⟩ => ⟨⟨J, h1.mono E E' { nx := fun δ' => normK δ' fun δ' => getK δ' ws fun vs => putZ δ ws vs fun δ2 => δ' = δ2 ∧ Ask (J vs), rt := D.rt, bk := D.bk, ct := D.ct } _ _ he ⟨fun _ z => z, hd.rt, hd.bk, hd.ct⟩ q1, fun vs j => by
    have := q2 vs j
    rw [putZ_eq] at this ⊢
    exact h2.mono _ _ _ _ _ he hd this⟩⟩) fun E D δ ⟨⟨J, q1, q2⟩⟩ =>
    h1.mono E E { nx := fun δ' => normK δ' fun δ' => getK δ' ws fun vs => putZ δ ws vs fun δ2 => δ' = δ2 ∧ Ask (J vs), rt := D.rt, bk := D.bk, ct := D.ct } { nx := fun δ' => u E D δ', rt := D.rt, bk := D.bk, ct := D.ct } δ (fun _ z => z) ⟨fun δ' z => by
      replace z : normK δ' fun δ' => getK δ' ws fun vs => putZ δ ws vs fun δ2 => δ' = δ2 ∧ Ask (J vs) := z
      rw [normK_eq, getK_eq, putZ_eq] at z
      show u E D δ'
      have := q2 _ z.2.h
      rw [putZ_eq, ← z.1] at this
      exact this, fun _ _ z => z, fun _ z => z, fun _ z => z⟩ q1
/-! ## loops -/
def tForN (ws : List Nat) (ti : TA3) (g : TG3) (tb : TS3) : TS3 := fun E D δ => ti E δ fun ds δ1 => Ask <| ∃ I : Nat → List (Option W) → Prop, getK δ1 ws (I 0) ∧
  (∀ i x vs, ds[i]? = some x → I i vs → putZ δ1 ws vs fun δ2 => g x δ2 fun δ3 => normK δ3 fun δ3 => tb E { nx := fun δ' => normK δ' fun δ' => getK δ' ws fun vs => putZ δ1 ws vs fun δ2 => δ' = δ2 ∧ Ask (I (i + 1) vs), ct := fun δ' => normK δ' fun δ' => getK δ' ws fun vs => putZ δ1 ws vs fun δ2 => δ' = δ2 ∧ Ask (I (i + 1) vs), bk := D.nx, rt := D.rt } δ3) ∧ ∀ vs, I ds.length vs → putZ δ1 ws vs fun δ2 => D.nx δ2
theorem forN (ws : List Nat) {ws0 : List Nat} {body : List Stmt} {g : TG3} {tb : TS3} (hp : PassesOwn (model X.prog X.w) X.A X.env X.xe) (hc : X.calm = true) (hi : PI3 X E tg iter ti) (hg : PG3 X ws0 tg g) (hb : PSs3 X E body tb)
    (hs : ∀ x, foldedSetIterable iter X.env x = pure x := by intro _; rfl) : PS3 X E (.For tg iter body [] pos) (tForN ws ti g tb) := by
  have e : tForN ws ti g tb = tForM ws ti g tb := by
    funext E D δ
    unfold tForN tForM
    simp only [normK_eq, getK_eq, putZ_eq, Ask_eq]
  rw [e]; exact forM ws hp hc hi hg hb hs
def tWhileN (ws : List Nat) (c : TB3) (tb : TS3) : TS3 := fun E D δ => Ask <| ∃ I : Nat → List (Option W) → Prop, (∃ m, getK δ ws (I m)) ∧
  ∀ m vs, I m vs → putZ δ ws vs fun δ2 => c E δ2 fun b δ3 => br b (tb E { nx := fun δ' => normK δ' fun δ' => getK δ' ws fun vs => putZ δ ws vs fun δ2 => δ' = δ2 ∧ Ask (∃ m', m' < m ∧ I m' vs), ct := fun δ' => normK δ' fun δ' => getK δ' ws fun vs => putZ δ ws vs fun δ2 => δ' = δ2 ∧ Ask (∃ m', m' < m ∧ I m' vs), bk := D.nx, rt := D.rt } δ3) (D.nx δ3)
theorem whileN (ws : List Nat) {body : List Stmt} {tc : TB3} {tb : TS3} (hp : PassesOwn (model X.prog X.w) X.A X.env X.xe) (hc : PT3 X E c tc) (hb : PSs3 X E body tb) : PS3 X E (.While c body [] pos) (tWhileN ws tc tb) := by
  have e : tWhileN ws tc tb = tWhileM ws tc tb := by
    funext E D δ
    unfold tWhileN tWhileM
    simp only [normK_eq, getK_eq, putZ_eq, Ask_eq]
  rw [e]; exact whileM ws hp hc hb
/-! ## comprehensions -/
def tLcPN (ti : TA3) (g : TG3) (te : T3) (vs : List Nat) : T3 := fun E δ Q => ti E δ fun ds δ1 => ds.length ≤ sizeLine ∧ Ask (∃ ys : List D, ys.length = ds.length ∧
  (∀ (i : Nat) (x : D), ds[i]? = some x → g x (wipeS δ1 vs) fun δ3 => normK δ3 fun δ3 => te (fun _ => False) δ3 fun y δ5 => backS δ1 δ5 vs = δ1 ∧ ys[i]? = some y) ∧ Q (.list ys) δ1)
def tLcFN (ti : TA3) (g : TG3) (tt : TB3) (te : T3) (vs : List Nat) : T3 := fun E δ Q => ti E δ fun ds δ1 => ds.length ≤ sizeLine ∧ Ask (∃ ys : List (Option D), ys.length = ds.length ∧
  (∀ (i : Nat) (x : D), ds[i]? = some x → g x (wipeS δ1 vs) fun δ3 => normK δ3 fun δ3 => tt (fun _ => False) δ3 fun b δ4 => br b (te (fun _ => False) δ4 fun y δ5 => backS δ1 δ5 vs = δ1 ∧ ys[i]? = some (some y)) (backS δ1 δ4 vs = δ1 ∧ ys[i]? = some none)) ∧ Q (.list (ys.filterMap id)) δ1)
def tLcMN (ws : List Nat) (ti : TA3) (g : TG3) (te : T3) (vs : List Nat) : T3 := fun E δ Q => ti E δ fun ds δ1 => ds.length ≤ sizeLine ∧ Ask (∃ I : Nat → List D → List (Option W) → Prop, getK δ1 ws (I 0 []) ∧
  (∀ i x acc us, ds[i]? = some x → I i acc us → putZ δ1 ws us fun δ2 => g x (wipeS δ2 vs) fun δ3 => normK δ3 fun δ3 => te (fun _ => False) δ3 fun y δ5 => normK δ5 fun δ5 => getK δ5 ws fun us' => putZ δ1 ws us' fun δ6 => backS δ2 δ5 vs = δ6 ∧ Ask (I (i + 1) (acc ++ [y]) us')) ∧ ∀ acc us, I ds.length acc us → putZ δ1 ws us fun δ6 => Q (.list acc) δ6)
theorem lcPN_eq : tLcPN ti g te vs = tLcP ti g te vs := by
  funext E δ Q
  unfold tLcPN tLcP
  simp only [normK_eq]
theorem lcFN_eq : tLcFN ti g tt te vs = tLcF ti g tt te vs := by
  funext E δ Q
  unfold tLcFN tLcF
  simp only [normK_eq]
theorem lcMN_eq {ws : List Nat} : tLcMN ws ti g te vs = tLcM ws ti g te vs := by
  funext E δ Q
  unfold tLcMN tLcM
  simp only [normK_eq, getK_eq, putZ_eq, Ask_eq]
theorem PE3.lcP (h : PE3 X E e (tLcP ti g te vs)) : PE3 X E e (tLcPN ti g te vs) := by rw [lcPN_eq]; exact h
theorem PE3.lcF (h : PE3 X E e (tLcF ti g tt te vs)) : PE3 X E e (tLcFN ti g tt te vs) := by rw [lcFN_eq]; exact h
theorem PE3.lcM {ws : List Nat} (h : PE3 X E e (tLcM ws ti g te vs)) : PE3 X E e (tLcMN ws ti g te vs) := by rw [lcMN_eq]; exact h
theorem POw.lcP (h : POw X E e (tOf (tLcP ti g te vs))) : POw X E e (tOf (tLcPN ti g te vs)) := by rw [lcPN_eq]; exact h
theorem POw.lcF (h : POw X E e (tOf (tLcF ti g tt te vs))) : POw X E e (tOf (tLcFN ti g tt te vs)) := by rw [lcFN_eq]; exact h
theorem POw.lcM {ws : List Nat} (h : POw X E e (tOf (tLcM ws ti g te vs))) : POw X E e (tOf (tLcMN ws ti g te vs)) := by rw [lcMN_eq]; exact h
theorem PS3.lcP {i : Nat} (h : PS3 X E st (tAsg3 (tLcP ti g te vs) (gName3 i))) : PS3 X E st (tAsg3 (tLcPN ti g te vs) (gName3 i)) := by rw [lcPN_eq]; exact h
theorem PS3.lcF {i : Nat} (h : PS3 X E st (tAsg3 (tLcF ti g tt te vs) (gName3 i))) : PS3 X E st (tAsg3 (tLcFN ti g tt te vs) (gName3 i)) := by rw [lcFN_eq]; exact h
theorem PS3.lcM {i : Nat} {ws : List Nat} (h : PS3 X E st (tAsg3 (tLcM ws ti g te vs) (gName3 i))) : PS3 X E st (tAsg3 (tLcMN ws ti g te vs) (gName3 i)) := by rw [lcMN_eq]; exact h
theorem PS3.olcP {i : Nat} (h : PS3 X E st (tAsgO i (tOf (tLcP ti g te vs)))) : PS3 X E st (tAsgO i (tOf (tLcPN ti g te vs))) := by rw [lcPN_eq]; exact h
theorem PS3.olcM {i : Nat} {ws : List Nat} (h : PS3 X E st (tAsgO i (tOf (tLcM ws ti g te vs)))) : PS3 X E st (tAsgO i (tOf (tLcMN ws ti g te vs))) := by rw [lcMN_eq]; exact h
end
/-! ## promises read off the arguments -/
abbrev Spec := List W → (R3 → List Ob → Prop) → Prop
def sEnd (p : (R3 → List Ob → Prop) → Prop) : Spec := fun ws Q => match ws with | [] => p Q | _ => False
def sD (f : D → Spec) : Spec := fun ws Q => match ws with | .d x :: r => f x r Q | _ => False
def sI (f : Int → Spec) : Spec := fun ws Q => match ws with | .d (.int x) :: r => f x r Q | _ => False
def sO (n : Nat) (f : Ob → Spec) : Spec := fun ws Q => match ws with | .own t x :: r => t = n ∧ f x r Q | _ => False
def sR (f : List D → Spec) : Spec := fun ws Q => match ws with | .ro x :: r => f x r Q | _ => False
theorem sEnd.inv {p ws Q} (h : sEnd p ws Q) : ws = [] ∧ p Q := by
  unfold sEnd at h; split at h
  · exact ⟨rfl, h⟩
  · exact h.elim
theorem sD.inv {f ws Q} (h : sD f ws Q) : ∃ x r, ws = .d x :: r ∧ f x r Q := by
  unfold sD at h; split at h
  · exact ⟨_, _, rfl, h⟩
  · exact h.elim
theorem sI.inv {f ws Q} (h : sI f ws Q) : ∃ x r, ws = .d (.int x) :: r ∧ f x r Q := by
  unfold sI at h; split at h
  · exact ⟨_, _, rfl, h⟩
  · exact h.elim
theorem sO.inv {n f ws Q} (h : sO n f ws Q) : ∃ x r, ws = .own n x :: r ∧ f x r Q := by
  unfold sO at h; split at h
  · obtain ⟨rfl, h⟩ := h; exact ⟨_, _, rfl, h⟩
  · exact h.elim
theorem sR.inv {f ws Q} (h : sR f ws Q) : ∃ x r, ws = .ro x :: r ∧ f x r Q := by
  unfold sR at h; split at h
  · exact ⟨_, _, rfl, h⟩
  · exact h.elim
def MonoSp (s : Spec) : Prop := ∀ ws (Q Q' : R3 → List Ob → Prop), (∀ r os, Q r os → Q' r os) → s ws Q → s ws Q'
theorem sEnd.mono {p} (h : ∀ (Q Q' : R3 → List Ob → Prop), (∀ r os, Q r os → Q' r os) → p Q → p Q') : MonoSp (sEnd p) := fun ws Q Q' hq z => by
  obtain ⟨rfl, z⟩ := z.inv; exact h Q Q' hq z
theorem sD.mono {f} (h : ∀ x, MonoSp (f x)) : MonoSp (sD f) := fun ws Q Q' hq z => by
  obtain ⟨x, r, rfl, z⟩ := sD.inv z; exact h x r Q Q' hq z
theorem sI.mono {f} (h : ∀ x, MonoSp (f x)) : MonoSp (sI f) := fun ws Q Q' hq z => by
  obtain ⟨x, r, rfl, z⟩ := sI.inv z; exact h x r Q Q' hq z
theorem sO.mono {n f} (h : ∀ x, MonoSp (f x)) : MonoSp (sO n f) := fun ws Q Q' hq z => by
  obtain ⟨x, r, rfl, z1⟩ := sO.inv z; exact ⟨rfl, h x r Q Q' hq z1⟩
theorem sR.mono {f} (h : ∀ x, MonoSp (f x)) : MonoSp (sR f) := fun ws Q Q' hq z => by
  obtain ⟨x, r, rfl, z⟩ := sR.inv z; exact h x r Q Q' hq z
theorem fnN {P : Program} {w : World} {K : PySem.W.Frag} {mg : Str → Option Value} {base : Heap} {x qual : Str} {st : Stmt} {f : Addr} {fd : FuncData} {N ps : List Str} {k : Nat} {S : PrmC} (F : Fun K x qual st f fd) (Sc : FnScope N ps (defScope st)) (len : ∀ ws Q, S.sp ws Q → ws.length = ps.length)
    (hbody : ∀ (cdv : Value) (A : Around) (outer : List Env) (s : Shared) (H : Hp) (E : XK), Room k (A.deeper (PyProof.Rows.envOfC qual (defScope st) s.heap.objs.size f cdv)) →
      ∃ t, PSs3 (cxOf CX0 P w K mg base N qual (defScope st) f cdv A outer s H E).nox XF (defBody st) t ∧ ∀ (ws : List W) (Q : R3 → List Ob → Prop), S.sp ws Q → normK (start3 N ws) fun δ => t (fun _ => False) (ends ws Q) δ) :
    FnOk P w K mg base CX0 (k + 1) f fd ps (liftF K S.p) := by
  refine fnC F Sc len fun cdv A outer s H E hr => ?_
  obtain ⟨t, h1, h2⟩ := hbody cdv A outer s H E hr
  exact ⟨t, h1, fun ws Q h => by have := h2 ws Q h; rw [normK_eq] at this; exact this⟩
end M3

set_option Elab.async false
set_option linter.all false
set_option maxRecDepth 100000
set_option maxHeartbeats 4000000
namespace M3
open PySem L2
variable [TabsC]
/-! ## *rest in targets -/
section
open PySem.Spec PyProof.Rows
variable {prog : Program} {w : World} {A : Around} {E : Value → Shared → Prop} {s : Shared}
theorem walks_tup {it t : Addr} {items : Array Value} (hh : A.handled = none) (hne : t ≠ it) (i0 : Nat) (hi : i0 ≤ items.size) :
    WalksS prog w A it [it, t] [it] Eq (items.size - i0) (fun j v => items[i0 + j]? = some v) (fun j s => s.heap.IsTupleIter it t (i0 + j) ∧ s.heap.IsTuple t items) where
  sub := fun b hb => by rw [List.mem_singleton.mp hb]; simp
  grefl := fun _ => rfl
  gtrans := fun _ _ _ h1 h2 => h1.trans h2
  frame := fun i s h' tk st _ hk => ⟨Heap.IsTupleIter.at st.1 fun o e => hk it (by simp) o e, Heap.IsTuple.at st.2 fun o e => hk t (by simp) o e⟩
  item := fun i s Q E hlt st hQ => by
    have hl : i0 + i < items.size := by omega
    refine next_tuple_item st.1 st.2 (x := items[i0 + i]) (by simp [hl]) fun h' hit' hs' => ?_
    exact hQ _ { s with heap := h' } (by simp [hl]) ⟨hit', Heap.IsTuple.extBut st.2 hs'.extBut hne⟩ ⟨fun b o hb e => hs'.extBut b o (fun z => hb (by rw [z]; simp)) e, rfl, rfl, rfl, Nat.le_refl _⟩
  done := fun s Q E st hQ => next_tuple_end hh st.1 st.2 (by simp; omega) fun h' he => hQ { s with heap := h' } ⟨fun b o hb e => he b o (fun z => hb (by rw [z]; simp)) e, rfl, rfl, rfl, Nat.le_refl _⟩
  self := fun i s Q E st h => wpAny_pyIter_tupleiter st.1 h
theorem items_tail {items : Array Value} {acc : Array Value} {i0 : Nat} (h : ItemsOf (fun j v => items[i0 + j]? = some v) acc (items.size - i0)) : acc.toList = items.toList.drop i0 := by
  obtain ⟨h1, h2⟩ := h
  refine List.ext_getElem? fun j => ?_
  rw [List.getElem?_drop]
  by_cases hj : j < acc.size
  · have e := h2 j acc[j] (by simp [hj])
    rw [Array.getElem?_toList, Array.getElem?_toList, e]; simp [hj]
  · rw [Array.getElem?_toList, Array.getElem?_toList]
    rw [Array.getElem?_eq_none (by omega), Array.getElem?_eq_none (by omega)]
theorem unpackItems_star {t : Addr} {items : Array Value} {n i : Nat} {Q : List Value → Shared → Prop} (hh : A.handled = none) (ht : s.heap.IsTuple t items) (hi : i < n) (hn : n - 1 ≤ items.size) (hsz : items.size ≤ sizeLine)
    (hQ : ∀ (h' : Heap) (tk : Nat), (∀ b o, s.heap.get? b = some o → h'.get? b = some o) →
      Q (items.toList.take i ++ [.ref h'.objs.size] ++ items.toList.drop (i + (items.size - (n - 1)))) { s with heap := h'.push { cls := .type "list", data := .seq (((items.toList.drop i).take (items.size - (n - 1)))).toArray }, toks := tk }) : wpAny (model prog w) A (unpackItems (.ref t) n (some i)) Q E s := by
  have hlt : t ≠ s.heap.objs.size := by obtain ⟨o, ho, _⟩ := ht; exact Nat.ne_of_lt (Heap.lt_size ho)
  have htl : t < s.heap.objs.size := by obtain ⟨o, ho, _⟩ := ht; exact Heap.lt_size ho
  unfold unpackItems
  refine wpAny_bind ?_
  · unfold notIterableAtAll
    refine wpAny_bind (wpAny_specialOf ht.typeIs slot_tuple_iter.lookup ?_)
    refine wpAny_pure ?_
    simp only [Bool.false_eq_true, if_false]
    refine wpAny_bind (wpAny_holding (iter_tuple ht ?_))
    refine wpAny_bind (wpAny_holding (draw_tuple hlt i 0 _ _ ⟨_, Heap.get?_push_size _ rfl, rfl, rfl⟩ (IsTup.push ht _) (by omega) fun h₁ hit₁ hs₁ => ?_))
    have hfl : (List.take i (List.drop 0 items.toList)).length = i := by simp; omega
    rw [if_neg (by rw [hfl]; omega)]
    have ht₁ : h₁.IsTuple t items := Heap.IsTuple.extBut (IsTup.push ht _) hs₁.extBut hlt
    have hsz1 : h₁.objs.size = s.heap.objs.size + 1 := by rw [hs₁.1, Heap.size_push]
    have hW := walks_tup (prog := prog) (w := w) (A := A.in1) (it := s.heap.objs.size) (t := t) (items := items) hh hlt i (by omega)
    refine wpAny_bind (wpAny_holding (wpAny_collect_iter (T := "tuple_iterator") (.inr (.inr (.inr rfl))) hW (fun j s st => st.1.typeIs) (s := { s with heap := h₁ }) (by simpa using (⟨hit₁, ht₁⟩ : h₁.IsTupleIter s.heap.objs.size t (0 + i) ∧ h₁.IsTuple t items)) ?_ (by simp) ?_ (by omega)))
    · intro b hb
      show b < h₁.objs.size
      rcases List.mem_cons.mp hb with z | z
      · rw [z, hsz1]; exact Nat.lt_succ_self _
      · rw [List.mem_singleton.mp z, hsz1]; exact Nat.lt_succ_of_lt htl
    · intro s' acc hm hacc
      have ha := items_tail hacc
      have hal : acc.toList.length = items.size - i := by rw [ha]; simp
      rw [ha]
      have hal' : (items.toList.drop i).length = items.size - i := by simp
      simp only [hal']
      rw [if_neg (by omega)]
      refine wpAny_bind (wpAny_newList ?_ (by simp; omega))
      obtain ⟨m1, m2, m3, m4, m5⟩ := hm
      have e1 : items.size - i - (n - 1 - i) = items.size - (n - 1) := by omega
      rw [e1]
      refine wpAny_pure ?_
      rw [List.drop_drop]
      have keep : ∀ b o, s.heap.get? b = some o → s'.heap.get? b = some o := fun b o e => by
        have hb : b ≠ s.heap.objs.size := Nat.ne_of_lt (Heap.lt_size e)
        exact m1 b o (by simp [hb]) (hs₁.extBut b o hb (Heap.get?_push_of_some _ e))
      have := hQ s'.heap s'.toks keep
      have e3 : s'.gens = s.gens := m2.symm
      simpa [e3, m3, m4] using this
theorem assign_star {env : Env} {elts : List Expr} {x1} {pos : Pos} {t : Addr} {items : Array Value} {n i : Nat} {Q : Unit → Shared → Prop} (hh : A.handled = none) (ht : s.heap.IsTuple t items) (hn' : (assignEach elts env).length = n) (hst : (assignEach elts env).findIdx? (·.1) = some i) (hi : i < n) (hn : n - 1 ≤ items.size) (hsz : items.size ≤ sizeLine)
    (h : ∀ (h' : Heap) (tk : Nat), (∀ b o, s.heap.get? b = some o → h'.get? b = some o) → wpAny (model prog w) A (assignInOrder ((assignEach elts env).map (·.2)) (items.toList.take i ++ [.ref h'.objs.size] ++ items.toList.drop (i + (items.size - (n - 1))))) Q E { s with heap := h'.push { cls := .type "list", data := .seq (((items.toList.drop i).take (items.size - (n - 1)))).toArray }, toks := tk }) :
    wpAny (model prog w) A (assign (.Tuple elts x1 pos) env (.ref t)) Q E s := by
  rw [assign_Tuple]
  refine wpAny_bind (wpAny_standAt ?_)
  unfold unpack
  rw [hn', hst]
  exact wpAny_bind (wpAny_holding (unpackItems_star hh ht hi hn hsz h))
end
section
variable {X : Cx} {pos : Pos}
def starL {α : Type} (n i : Nat) (xs : List α) (y : List α → α) : List α := xs.take i ++ [y ((xs.drop i).take (xs.length - (n - 1)))] ++ xs.drop (i + (xs.length - (n - 1)))
def gStar (K : PySem.W.Frag) (n i : Nat) (t : TGs) : TG := fun v σ H Q => ∃ a xs, v = .ref a ∧ SqT K H a xs ∧ n - 1 ≤ xs.length ∧ ∀ p, H p = none → t (starL n i xs fun _ => .ref p) σ (upd H p (.lst ((xs.drop i).take (xs.length - (n - 1))))) Q
theorem vals_append {vs us : List V} {ws xs : List Value} (h : Vals vs ws) (k : Vals us xs) : Vals (vs ++ us) (ws ++ xs) := by
  induction h with
  | nil => exact k
  | cons r _ ih => exact .cons r ih
theorem vals_take {vs : List V} {ws : List Value} (h : Vals vs ws) : ∀ n : Nat, Vals (vs.take n) (ws.take n) := by
  induction h with
  | nil => intro n; cases n <;> exact .nil
  | cons r _ ih => intro n; cases n with
    | zero => exact .nil
    | succ n => exact .cons r (ih n)
theorem vals_drop {vs : List V} {ws : List Value} (h : Vals vs ws) : ∀ n : Nat, Vals (vs.drop n) (ws.drop n) := by
  induction h with
  | nil => intro n; cases n <;> exact .nil
  | cons r k ih => intro n; cases n with
    | zero => exact .cons r k
    | succ n => exact ih n
theorem pg_star {es : List Expr} {k : Nat} {t : TGs} {n i : Nat} (hc : X.calm = true) (h : PGs X es t)
    (hn : (assignEach es X.env).length = n := by rfl) (hst : (assignEach es X.env).findIdx? (·.1) = some i := by rfl) (hi : i < n := by decide) : PG X (.Tuple es k pos) (gStar X.K n i t) := by
  refine ⟨fun pins s σ H v u Q I r hw => ?_⟩
  obtain ⟨a, xs, e1, hq, hl, hw⟩ := hw
  subst e1
  cases r
  obtain ⟨its, rv, ht, hz⟩ := I.tuple hq
  have hlen : its.length = xs.length := rv.length.symm
  have hlen2 : its.toArray.size = xs.length := by rw [List.size_toArray, hlen]
  refine assign_star (I.ok.hd hc) (show s.heap.IsTuple a its.toArray from ht) hn hst hi (by omega) (by omega) fun h' tk keep => ?_
  have I1 : Inv X pins σ H { s with heap := h', toks := tk } := I.kept (t' := tk) keep
  have hp : H h'.objs.size = none := I1.hok.fresh (Nat.le_refl _)
  have I2 : Inv X pins σ (upd H h'.objs.size (.lst ((xs.drop i).take (xs.length - (n - 1))))) { s with heap := h'.push { cls := .type "list", data := .seq ((its.drop i).take (xs.length - (n - 1))).toArray }, toks := tk } :=
    I1.laid (t' := tk) (o := .lst ((xs.drop i).take (xs.length - (n - 1)))) (fun b ob q => Heap.get?_push_of_some _ q) (Nat.le_refl _)
      ⟨by rw [List.length_take, List.length_drop]; omega, (its.drop i).take (xs.length - (n - 1)), _, vals_take (vals_drop rv _) _, Heap.get?_push_size _ rfl⟩
  have vv : Vals (starL n i xs fun _ => V.ref h'.objs.size) (its.take i ++ [.ref h'.objs.size] ++ its.drop (i + (xs.length - (n - 1)))) :=
    vals_append (vals_append (vals_take rv _) (.cons rfl .nil)) (vals_drop rv _)
  have := h.run pins _ σ _ _ _ Q I2 vv (hw _ hp)
  simpa [hlen2] using this
/-- the starred one among the targets -/
theorem pgs_starred {e : Expr} {es : List Expr} {p : Pos} {t : TG} {u : TGs} (h1 : PG X e t) (h2 : PGs X es u)
    (hs : (assignEach (.Starred e p :: es) X.env).map (·.2) = assign e X.env :: (assignEach es X.env).map (·.2) := by rfl) : PGs X (.Starred e p :: es) (gCons t u) := by
  refine ⟨fun pins s σ H vs us Q I r h => ?_⟩
  obtain ⟨v, vr, e1, h⟩ := h
  subst e1
  cases r with
  | cons r rr =>
    rw [hs]
    refine PyProof.Rows.assignInOrder_cons (thn (h1.run pins s σ H _ _ _ I r h) fun _ s1 ⟨σ1, H1, I1, q1⟩ => ?_)
    exact h2.run pins s1 σ1 H1 _ _ Q I1 rr q1
def gStar3 (n i : Nat) (gs : TGs3) : TG3 := fun x δ Q => match x with
  | .tuple xs => n - 1 ≤ xs.length ∧ gs (starL n i xs .list) δ Q
  | _ => False
theorem RpAll.dropx {K : PySem.W.Frag} {O : Addr → Prop} {H : Hp} {vs : List V} {ds : List D} (r : RpAll K O H vs ds) (n : Nat) : RpAll K O H (vs.drop n) (ds.drop n) := r.drop n
theorem gtS {ws : List Nat} {es : List Expr} {k : Nat} {gs : TGs3} {n i : Nat} {pos : Pos} (hc : X.calm = true) (h : PGs3 X ws es gs) (hn : (assignEach es X.env).length = n := by rfl) (hst : (assignEach es X.env).findIdx? (·.1) = some i := by rfl) (hi : i < n := by decide) : PG3 X ws (.Tuple es k pos) (gStar3 n i gs) := by
  refine ⟨fun x δ Q Q' hq q => ?_, (pg_star hc h.pg hn hst hi).imp fun v σ H Q q => ?_⟩
  · unfold gStar3 at q ⊢
    split at q
    · exact ⟨q.1, h.mono _ _ _ _ hq q.2⟩
    · exact q.elim
  · obtain ⟨π, F, ρ, δ, x, rel, r, q⟩ := q
    unfold gStar3 at q
    split at q
    · obtain ⟨hl, q⟩ := q
      cases r with
      | @tup A vs ds ht hr =>
        refine ⟨_, _, rfl, ht.sq, by rw [hr.length]; exact hl, fun p hp => ?_⟩
        have sm := same_upd (o := .lst ((vs.drop i).take (vs.length - (n - 1)))) hp
        have hr' := RpAll.same sm hr
        refine ⟨π, F, ρ, δ, _, rel.same sm, ?_, h.mono _ _ _ _ (fun δ' q σ' H' ρ' e' rel' w' s' => q σ' H' ρ' ((Ext.same sm).trans e') rel' w' (sm.trans s')) q⟩
        unfold starL
        rw [← hr.length]
        exact ((hr'.take _).append (.cons (.lst ⟨upd_same, rel.fresh hp⟩ ((hr'.drop _).take _)) .nil)).append (hr'.drop _)
    · exact q.elim
theorem gsS {ws : List Nat} {tg : Expr} {p : Pos} {tgs : List Expr} {g : TG3} {gs : TGs3} (h1 : PG3 X ws tg g) (h2 : PGs3 X ws tgs gs) (hs : (assignEach (.Starred tg p :: tgs) X.env).map (·.2) = assign tg X.env :: (assignEach tgs X.env).map (·.2) := by rfl) : PGs3 X ws (.Starred tg p :: tgs) (gCons3 g gs) := by
  refine ⟨fun xs δ Q Q' hq q => ?_, (pgs_starred h1.pg h2.pg hs).imp fun vs σ H Q h => ?_⟩
  · cases xs with
    | nil => exact q
    | cons x r => exact h1.mono _ _ _ _ (fun δ' => h2.mono _ _ _ _ hq) q
  · obtain ⟨π, F, ρ, δ, xs, rel, r, q⟩ := h
    cases r with
    | nil => exact q.elim
    | cons r rr =>
      refine ⟨_, _, rfl, π, F, ρ, δ, _, rel, r, h1.mono _ _ _ _ (fun δ' q σ' H' ρ' e' rel' w' s' => ?_) q⟩
      exact ⟨π, F, ρ', δ', _, rel', rr.ext (e'.frn) fun _ => .inl, h2.mono _ _ _ _ (fun δ2 q σ2 H2 ρ2 e2 rel2 w2 s2 => q σ2 H2 ρ2 (e'.trans e2) rel2 (w2.trans w') (s'.trans s2)) q⟩
theorem _root_.L2.Room.units65 {k : Nat} {A : Around} (r : Room k A) : A.units + 65 < cLine := by have := r.un; omega
/-! ## xs.index(x) of a list of numbers -/
variable {E : XK} {a b : Expr} {ta tb : T3}
def rIndexI (x y : D) (k : D → Prop) : Prop := match x with
  | .list xs => ∃ ns : List Int, xs = ns.map PyData.int ∧ asI y fun v => v ∈ ns ∧ k (.int (ns.idxOf v : Nat))
  | _ => False
theorem m_rIndexI : M2 rIndexI := fun x y k k' hk h => by
  unfold rIndexI at h ⊢
  split at h
  · obtain ⟨ns, e, h⟩ := h
    obtain ⟨v, rfl, h1, h2⟩ := asI.to h
    exact ⟨ns, e, asI.of ⟨h1, hk _ h2⟩⟩
  · exact h.elim
theorem ints_lay : ∀ ns : List Int, PyData.canLayAll0 (ns.map PyData.int) = true
  | [] => rfl
  | n :: r => by simp only [List.map_cons, PyData.canLayAll0, PyData.canLay0, ints_lay r, Bool.and_self]
theorem ints_depth : ∀ ns : List Int, PyData.depthAll (ns.map PyData.int) ≤ 1
  | [] => by simp [PyData.depthAll]
  | n :: r => by simp only [List.map_cons, PyData.depthAll, PyData.depth]; have := ints_depth r; omega
theorem shaped_ints (ns : List Int) : SeqAt.shaped (.list (ns.map PyData.int)) = true := by
  have := ints_depth ns
  unfold SeqAt.shaped
  rw [Bool.and_eq_true, decide_eq_true_eq]
  refine ⟨by simpa [PyData.canLay0] using ints_lay ns, ?_⟩
  simp only [PyData.depth]
  omega
theorem idx_first {ns : List Int} {v : Int} (h : v ∈ ns) : ns[ns.idxOf v]? = some v ∧ ∀ m z, m < ns.idxOf v → ns[m]? = some z → z ≠ v := by
  have hl := List.idxOf_lt_length_iff.mpr h
  refine ⟨by rw [List.getElem?_eq_getElem hl, List.getElem_idxOf hl], fun m z hm hz e => ?_⟩
  have := List.not_of_lt_findIdx (p := fun x => x == v) (xs := ns) (i := m) (by simpa [List.idxOf] using hm)
  obtain ⟨hml, hz'⟩ := List.getElem?_eq_some_iff.mp hz
  rw [hz', e] at this
  simp at this
theorem index3 {apos cpos : Pos} (hu : X.A.units + 65 < cLine) (ha : PE3 X E a ta) (hb : PE3 X E b tb)
    (hbase : attributeBase a "index" X.env (eval a X.env) = eval a X.env := by rfl)
    (hfew : ((backTo cpos (starEach [b] X.env)).all (fun x => !x.1) && (backToKw cpos (keywordEach [] X.env)).all (fun x => x.1.isSome)
      && decide (([b] : List Expr).length + ([] : List Keyword).length + (if ([] : List Keyword).isEmpty then 0 else 1) < 30)) = true := by rfl)
    (hline : (apos.endLine == cpos.line) = true := by rfl) (hs : starEach [b] X.env = (false, eval b X.env) :: starEach [] X.env := by rfl) (hplain : (backTo cpos (starEach [] X.env)).any (·.1) = false := by rfl) :
    PE3 X E (.Call (.Attribute a "index" apos) [b] [] cpos) (fun E δ Q => ta E δ fun x δ1 => (match x with | .list _ => True | _ => False) ∧ tb E δ1 fun y δ2 => rIndexI x y fun z => Q z δ2) := by
  refine ⟨fun _ _ _ _ _ hx hq q => ha.mono _ _ _ _ _ hx (fun x δ1 z => ⟨z.1, hb.mono _ _ _ _ _ hx (fun y δ2 => m_rIndexI _ _ _ _ fun z => hq _ _) z.2⟩) q, (pe_bm PySem.F.plainAttrs_list PySem.F.slot_list_index PySem.F.type_list_index (mt_indexD hu) ha.pe (pa_cons hb.pe pa_nil hs) hbase hfew hline hs hplain).imp fun σ H Q h => ?_⟩
  obtain ⟨π, F, ρ, δ, rel, q⟩ := h
  refine ⟨π, F, ρ, δ, rel, ha.mono _ _ _ _ _ (fun _ z => z) (fun x δ1 q v H1 ρ1 e1 rel1 r1 => ?_) q⟩
  obtain ⟨hx, q⟩ := q
  split at hx
  · cases r1 with
    | lst ht hr =>
      refine ⟨.inl ⟨rfl, _, ht.sq⟩, π, F, ρ1, δ1, rel1, hb.mono _ _ _ _ _ (liftX.mono e1) (fun y δ2 q u H2 ρ2 e2 rel2 r2 => ?_) q⟩
      obtain ⟨ns, rfl, q1⟩ := q
      obtain ⟨w, rfl, hm, q2⟩ := asI.to q1
      cases r2
      have ht' := ht.ext e2.frn fun _ => .inl
      have hr' := hr.ext e2.frn fun _ => .inl
      obtain ⟨f1, f2⟩ := idx_first hm
      refine ⟨_, _, .int w, ns.map PyData.int, ns.idxOf w, .int w, rfl, rfl, (Rp.lst ht' hr').dp (plainAll_of_lay _ (ints_lay ns)), .int w, shaped_ints ns, by simp [SeqAt.shaped, PyData.canLay0, PyData.depth], by rw [List.getElem?_map, f1]; rfl, by simp [PyData.eqv], fun m z' hm' hz' => ?_, q2 _ H2 ρ2 (e1.trans e2) rel2 (.int _)⟩
      rw [List.getElem?_map] at hz'
      cases hz : ns[m]? with
      | none => rw [hz] at hz'; cases hz'
      | some z =>
        rw [hz] at hz'; cases hz'
        simpa [PyData.eqv] using f2 m z hm' hz
  · exact hx.elim
end
end M3

set_option Elab.async false
set_option linter.all false
set_option maxRecDepth 100000
set_option maxHeartbeats 4000000
namespace M3
open PySem L2
variable [TabsC]
section
variable {X : Cx} {E : XK} {a b : Expr} {ta tb : T3} {pos : Pos}
theorem call_repr_bool : CallR X (.builtin "repr") (fun xs H Q => ∃ b, xs = [.bl b] ∧ Q (.str (if b then "True" else "False")) H) := by
  intro pins s σ H xs us Q I r h
  obtain ⟨b, rfl, q⟩ := h
  cases r with
  | cons r rr =>
    cases rr
    cases (show _ = Value.bool b from r)
    exact PySem.P.repr_of_bool ⟨.str _, H, I.tok _, ⟨_, rfl⟩, q⟩
def rRepr3 (x : D) (k : D → Prop) : Prop := asB x fun b => k (.str (if b then "True" else "False"))
theorem repr3 {p : Pos} (hg : Gl X "repr") (hm : X.mg "repr" = none) (ha : PE3 X E a ta) (he : starEach [a] X.env = (false, eval a X.env) :: starEach [] X.env := by rfl) : PE3 X E (.Call (.Name "repr" p) [a] [] pos) (tU3 rRepr3 ta) :=
  un3 (fun _ h => mkB call_repr_bool hg hm (by decide +kernel) h (by decide) (by decide) he) (fun O H v x k Q tr rx h hq => by
    obtain ⟨b, rfl, h⟩ := asB.to h
    cases rx
    exact ⟨b, rfl, hq _ _ H (Same.refl H) (.str _) h⟩) (fun x k k' hk h => by obtain ⟨b, rfl, h⟩ := asB.to h; exact asB.of (hk _ h)) ha
end
theorem rep_len {α : Type} {xs : List α} {j : Int} (h1 : j ≤ 1000) (h2 : xs.length ≤ 1000) : (List.replicate j.toNat xs).flatten.length ≤ 1000000 := by
  rw [PyProof.Rows.lm_len_rep_flat]
  exact Nat.le_trans (Nat.mul_le_mul (show j.toNat ≤ 1000 by omega) h2) (by decide)
end M3

set_option Elab.async false
set_option linter.all false
set_option maxRecDepth 100000
set_option maxHeartbeats 4000000
namespace M3
open PySem L2
variable [TabsC]
section
variable {X : Cx}
/-- a, b = a list or a tuple -/
def gTupA3 (n : Nat) (gs : TGs3) : TG3 := fun x δ Q => match x with
  | .tuple xs => xs.length = n ∧ gs xs δ Q
  | .list xs => xs.length = n ∧ gs xs δ Q
  | _ => False
theorem gtA {ws : List Nat} {es : List Expr} {k : Nat} {gs : TGs3} {n : Nat} {pos : Pos} (hc : X.calm = true) (h : PGs3 X ws es gs) (hn : (assignEach es X.env).length = n := by rfl) (hst : (assignEach es X.env).findIdx? (·.1) = none := by rfl) : PG3 X ws (.Tuple es k pos) (gTupA3 n gs) := by
  refine ⟨fun x δ Q Q' hq q => ?_, ?_⟩
  · unfold gTupA3 at q ⊢
    split at q
    · exact ⟨q.1, h.mono _ _ _ _ hq q.2⟩
    · exact ⟨q.1, h.mono _ _ _ _ hq q.2⟩
    · exact q.elim
  · have h1 := pg_tup (k := k) (pos := pos) hc h.pg hn hst
    have h2 := pg_unl (k := k) (pos := pos) hc h.pg hn hst
    refine ⟨fun pins s σ H v u Q I r q => ?_⟩
    obtain ⟨π, F, ρ, δ, x, rel, rx, q⟩ := q
    unfold gTupA3 at q
    split at q
    · obtain ⟨hl, q⟩ := q
      cases rx with
      | tup ht hr => exact h1.run pins s σ H _ u Q I r ⟨_, _, rfl, ht.sq, by rw [hr.length]; exact hl, π, F, ρ, δ, _, rel, hr, q⟩
    · obtain ⟨hl, q⟩ := q
      cases rx with
      | lst ht hr => exact h2.run pins s σ H _ u Q I r ⟨_, _, rfl, ht.sq, by rw [hr.length]; exact hl, π, F, ρ, δ, _, rel, hr, q⟩
    · exact q.elim
end
end M3

set_option Elab.async false
set_option linter.all false
set_option maxRecDepth 100000
set_option maxHeartbeats 4000000
namespace M3
open PySem L2
variable [TabsC]
section
variable {K : PySem.W.Frag} {σ : St} {pat : List (Option Nat)} {vs : List V} {ds : List DV}
theorem ArgOk.ofAll {O : Addr → Prop} {H : Hp} : ∀ {zs : List V} {ys : List D}, RpAll K O H zs ys → ArgOk K O H σ (List.replicate ys.length none) zs (ys.map .d)
  | _, _, .nil => .nil
  | _, _, .cons r0 t0 => .d (x := .d _) r0 (ArgOk.ofAll t0)
theorem ArgOk.append {O : Addr → Prop} {H : Hp} (h : ArgOk K O H σ pat vs ds) {zs : List V} {ys : List D} (hz : RpAll K O H zs ys) : ArgOk K O H σ (pat ++ List.replicate ys.length none) (vs ++ zs) (ds ++ ys.map .d) := by
  induction h with
  | nil => exact ArgOk.ofAll hz
  | d r _ ih => exact .d r ih
  | r q _ ih => exact .r q ih
/-- what a call is worth, once its arguments stand -/
theorem call_core {E : XK} {sp : Sp3} {π : Rho} {Fo : Addr → Prop} {ρ ρ1 : Rho} {H H1 : Hp} {δ1 : Sl} {Q : VK} {QQ : D → Sl → Prop} (mp : MonoP sp) (nd : (pat.filterMap id).Nodup) (rel1 : Rel K π Fo ρ1 H1 σ δ1) (e1 : Ex Fo ρ H ρ1 H1) (ao : ArgOk K (Ox Fo ρ1) H1 σ pat vs ds)
    (q : mkW pat ds δ1 0 fun ws => sp ws (fun r os => retD r fun x => QQ x (putB pat δ1 os)) (liftX K E Fo ρ H)) (fin : ∀ x δ', QQ x δ' → ∀ v H' ρ', Ex Fo ρ H ρ' H' → Rel K π Fo ρ' H' σ δ' → Rp K (Ox Fo ρ') H' v x → Q v H') : liftF K sp vs H1 Q E := by
  obtain ⟨ws, q, ar⟩ := args_of ao 0 _ q
  have relc := ar.rel rel1 nd
  refine ⟨piC pat ρ1, FC Fo ρ1 pat, piC pat ρ1, ws, relc, ar.tagged, fun j hj => ?_, mp _ _ _ _ _ (fun r os q v H' ρ' e' oo tk ds rr => ?_) (fun ex z => liftX.call ex (liftX.mono e1 ex z)) q⟩
  · unfold piC
    rw [List.getElem?_eq_none (by rw [ar.len.2]; exact hj)]; rfl
  · obtain ⟨r2, ex2, lex⟩ := ar.after rel1 e' oo (fun _ _ => rfl) rel1.inj (fun _ z => .inl z) (fun b z => tk b (.inl z))
    unfold retD at q
    split at q
    · exact fin _ _ q v H' ρ1 (e1.trans ex2) r2 (Rp.mono lex rr)
    · obtain ⟨a, rfl, oa, na, vs', h1, h2⟩ := rr
      refine fin _ _ q _ H' ρ1 (e1.trans ex2) r2 (.lst ⟨h1, fun z => ?_⟩ (h2.mono lex))
      have : H1 a = none := by
        rcases e'.ow a oa with w | w
        · obtain ⟨j, w⟩ := w; exact absurd w (na j)
        · exact w
      obtain ⟨u, hu⟩ := rel1.trk a z
      rw [this] at hu; cases hu
    · exact q.elim
end
/-- a def with keyword-only parameters: called without them (their defaults dv), or with all of them by name -/
structure CalK (P : Program) (w : World) (K : PySem.W.Frag) (mg : Str → Option Value) (base : Heap) (k : Nat) (x : Str) (ps : List Str) (n : Nat) (ks : List Str) (dv : List D) (S : PrmC) : Prop where
  ex : ∃ f fd, FnOk P w K mg base CX0 k f fd ps (liftF K S.p) ∧ mg x = some (.ref f) ∧ PySem.W.keepIn K (.ref f) = true ∧
    (∃ (dvs : List V) (us : List Value), (∀ O H, RpAll K O H dvs dv) ∧ Vals dvs us ∧ Binds K fd ps us) ∧ KBn K fd ps n ks (fun us ws => us ++ ws) (fun vs zs => vs ++ zs)
def tCallD (sp : Sp3) (pat : List (Option Nat)) (dv : List D) (t : TV3) : T3 := fun E δ Q => t E δ fun ds δ1 => mkW (pat ++ List.replicate dv.length none) (ds ++ dv.map .d) δ1 0 fun ws => sp ws (fun r os => retD r fun x => Q x (putB (pat ++ List.replicate dv.length none) δ1 os)) E
def tCallKw (sp : Sp3) (pat : List (Option Nat)) (n m : Nat) (t : TV3) (tk : TA3) : T3 := fun E δ Q => t E δ fun ds δ1 => tk E δ1 fun zs δ2 => (pat.length = n ∧ zs.length = m) ∧ mkW (pat ++ List.replicate zs.length none) (ds ++ zs.map .d) δ2 0 fun ws => sp ws (fun r os => retD r fun x => Q x (putB (pat ++ List.replicate zs.length none) δ2 os)) E
structure PK3 (X : Cx) (E : XK) (kws : List Keyword) (t : TA3) : Prop where
  mono : Mono3 t
  pk : PK X kws (lift X.K E (RpAll X.K) t)
theorem nodup_app {pat : List (Option Nat)} {n : Nat} (h : (pat.filterMap id).Nodup) : ((pat ++ List.replicate n none).filterMap id).Nodup := by
  have : (List.replicate n (none : Option Nat)).filterMap id = [] := by induction n with
    | zero => rfl
    | succ n ih => rw [List.replicate_succ]; simpa using ih
  rw [List.filterMap_append, this, List.append_nil]; exact h
theorem ArgOk.len {K : PySem.W.Frag} {O : Addr → Prop} {H : Hp} {σ : St} {pat : List (Option Nat)} {vs : List V} {ds : List DV} (h : ArgOk K O H σ pat vs ds) : vs.length = pat.length := by
  induction h with
  | nil => rfl
  | d _ _ ih => simp [ih]
  | r _ _ ih => simp [ih]
section
variable {X : Cx} {E : XK} {k j n : Nat} {S : PrmC} {ps ks : List Str} {dv : List D} {e : Expr} {es : List Expr} {kws : List Keyword} {x : Str} {p pos : Pos} {pat : List (Option Nat)} {t : TV3} {tk : TA3} {te : T3}
theorem _root_.L2.PK.imp {X : Cx} {e : List Keyword} {t t' : TA} (h : PK X e t) (k : ∀ σ H Q, t' σ H Q → t σ H Q) : PK X e t' := ⟨fun pos pins s σ H Q I q => h.run pos pins s σ H Q I (k σ H Q q)⟩
theorem kn3 : PK3 X E [] tNil3 := ⟨fun _ _ _ _ _ _ hq q => hq _ _ q, pk_nil.imp fun σ H Q h => by
  obtain ⟨π, F, ρ, δ, rel, q⟩ := h
  exact q [] H ρ Ext.refl rel .nil⟩
theorem kc3 {nm : Option Str} {kpos : Pos} (ha : PE3 X E e te) (hr : PK3 X E kws tk) : PK3 X E (⟨nm, e, kpos⟩ :: kws) (tCons3 te tk) := by
  refine ⟨fun _ _ _ _ _ he hq q => ha.mono _ _ _ _ _ he (fun x δ1 => hr.mono _ _ _ _ _ he fun xs δ2 => hq _ _) q, (pk_cons ha.pe hr.pk).imp fun σ H Q h => ?_⟩
  obtain ⟨π, F, ρ, δ, rel, q⟩ := h
  refine ⟨π, F, ρ, δ, rel, ha.mono _ _ _ _ _ (fun _ z => z) (fun x δ1 q v H1 ρ1 e1 rel1 r1 => ?_) q⟩
  refine ⟨π, F, ρ1, δ1, rel1, hr.mono _ _ _ _ _ (liftX.mono e1) (fun y δ2 q us H2 ρ2 e2 rel2 r2 => ?_) q⟩
  exact q (v :: us) H2 ρ2 (e1.trans e2) rel2 (.cons (r1.ext (e2.frn) fun _ => .inl) r2)
theorem clD (C : CalK X.prog X.w X.K X.mg X.base k x ps n ks dv S) (hr : Room j X.A) (ha : PAr X XF (e :: es) pat t) (hk : k ≤ j := by first | decide | omega) (hg : Gl X x := by rfl) (nd : (pat.filterMap id).Nodup := by decide) (hdb : (x == ("__debug__" : Str)) = false := by decide)
    (he : starEach (e :: es) X.env = (false, eval e X.env) :: starEach es X.env := by rfl) (hpl : (backTo pos (starEach es X.env)).any (·.1) = false := by rfl) : PE3 X XF (.Call (.Name x p) (e :: es) [] pos) (tCallD S.p pat dv t) := by
  obtain ⟨f, fd, F, hm, hk', ⟨dvs, us, hdv, hv, hb⟩, _⟩ := C.ex
  refine ⟨fun _ _ _ _ _ he hq q => ha.mono _ _ _ _ _ he (fun ds δ1 => mkW_mono (fun ws => S.monoP _ _ _ _ _ (fun r os => retD_mono fun x => hq _ _) he) _ _ _ _) q, (pe_call F (hr.mono hk) hg hm hk' hb hv pass0 ha.pa hdb he hpl).imp fun σ H Q h => ?_⟩
  obtain ⟨π, Fo, ρ, δ, rel, q⟩ := h
  refine ⟨π, Fo, ρ, δ, rel, ha.mono _ _ _ _ _ (fun _ z => z) (fun ds δ1 q vs H1 ρ1 e1 rel1 ao => ?_) q⟩
  exact call_core S.monoP (nodup_app nd) rel1 e1 (ao.append (hdv _ _)) q fun x δ' z => z
theorem clK (C : CalK X.prog X.w X.K X.mg X.base k x ps n ks dv S) (hr : Room j X.A) (ha : PAr X XF (e :: es) pat t) (hkw : PK3 X XF kws tk) (hk : k ≤ j := by first | decide | omega) (hg : Gl X x := by rfl) (nd : (pat.filterMap id).Nodup := by decide)
    (hall : (backToKw pos (keywordEach kws X.env)).all (·.1.isSome) = true := by rfl) (hks : (backToKw pos (keywordEach kws X.env)).filterMap (·.1) = ks := by rfl) (hdb : (x == ("__debug__" : Str)) = false := by decide)
    (he : starEach (e :: es) X.env = (false, eval e X.env) :: starEach es X.env := by rfl)
    (hpl : ((backTo pos (starEach (e :: es) X.env)).any (·.1) || (backToKw pos (keywordEach kws X.env)).any (·.1.isNone)) = false := by rfl) : PE3 X XF (.Call (.Name x p) (e :: es) kws pos) (tCallKw S.p pat n ks.length t tk) := by
  obtain ⟨f, fd, F, hm, hk', _, hb⟩ := C.ex
  refine ⟨fun _ _ _ _ _ he hq q => ha.mono _ _ _ _ _ he (fun ds δ1 => hkw.mono _ _ _ _ _ he fun zs δ2 z => ⟨z.1, mkW_mono (fun ws => S.monoP _ _ _ _ _ (fun r os => retD_mono fun x => hq _ _) he) _ _ _ _ z.2⟩) q, (pe_callN F (hr.mono hk) hg hm hk' hb pass0 ha.pa hkw.pk hall hks hdb he hpl).imp fun σ H Q h => ?_⟩
  obtain ⟨π, Fo, ρ, δ, rel, q⟩ := h
  refine ⟨π, Fo, ρ, δ, rel, ha.mono _ _ _ _ _ (fun _ z => z) (fun ds δ1 q vs H1 ρ1 e1 rel1 ao => ?_) q⟩
  refine ⟨π, Fo, ρ1, δ1, rel1, hkw.mono _ _ _ _ _ (liftX.mono e1) (fun zs δ2 q us H2 ρ2 e2 rel2 r2 => ?_) q⟩
  obtain ⟨⟨l1, l2⟩, q⟩ := q
  have ao2 := ao.ext e2.frn fun _ => .inl
  refine ⟨by rw [ao.len]; exact l1, by rw [r2.length]; exact l2, ?_⟩
  exact call_core S.monoP (nodup_app nd) rel2 (e1.trans e2) (ao2.append r2) q fun x δ' z => z
end
end M3

set_option Elab.async false
set_option linter.all false
set_option maxRecDepth 100000
set_option maxHeartbeats 4000000
namespace M3
open PySem L2
variable [TabsC]
section
variable {X : Cx} {E : XK} {a b c e : Expr} {ta tb tc te : T3} {pos : Pos}
theorem rpall_map {α : Type} {K : PySem.W.Frag} {O : Addr → Prop} {H : Hp} {f : α → V} {g : α → D} (h : ∀ i, Rp K O H (f i) (g i)) : ∀ xs : List α, RpAll K O H (xs.map f) (xs.map g)
  | [] => .nil
  | x :: r => .cons (h x) (rpall_map h r)
theorem rpall_rg {K : PySem.W.Frag} {O : Addr → Prop} {H : Hp} (j : Int) : RpAll K O H (rgV 0 j) (rngD 0 j.toNat) := by
  unfold rgV rngD
  rw [Int.sub_zero]
  exact rpall_map (fun i => .int _) _
/-- list(range(a)), owned -/
theorem olistRg3 {p p2 pos2 : Pos} (hc : X.calm = true) (hg : Gl X "list") (hm : X.mg "list" = none) (hg2 : Gl X "range") (hm2 : X.mg "range" = none) (ha : PE3 X E a ta) (na : starEach [a] X.env = (false, eval a X.env) :: starEach [] X.env := by rfl)
    (nb : starEach [.Call (.Name "range" p2) [a] [] pos2] X.env = (false, eval (.Call (.Name "range" p2) [a] [] pos2) X.env) :: starEach [] X.env := by rfl) : POw X E (.Call (.Name "list" p) [.Call (.Name "range" p2) [a] [] pos2] [] pos) (fun E δ Q => ta E δ fun x δ1 => asI x fun j => (0 ≤ j ∧ j ≤ 16777216) ∧ Q (.lst (rngD 0 j.toNat)) δ1) := by
  refine ⟨fun _ _ _ _ _ he hq q => ha.mono _ _ _ _ _ he (fun x δ1 z => by obtain ⟨j, rfl, z1, z2⟩ := asI.to z; exact asI.of ⟨z1, hq _ _ z2⟩) q, (pe_listRg hc hg hm (prg_1 hg2 hm2 ha.pe na) nb).imp fun σ H Q q => ?_⟩
  obtain ⟨π, F, ρ, δ, rel, q⟩ := q
  refine ⟨π, F, ρ, δ, rel, ha.mono _ _ _ _ _ (fun _ z => z) (fun x δ1 q v H1 ρ1 e1 rel1 r1 => ?_) q⟩
  obtain ⟨j, rfl, ⟨h0, h1⟩, q⟩ := asI.to q
  cases r1
  refine ⟨j, rfl, RgOk.of_le (Int.le_refl _) h1 (by omega) h0, fun p hp => ?_⟩
  obtain ⟨r2, e2, np⟩ := rel1.tmpO (k := δ1.length) (a := p) hp (same_upd (o := .lst (rgV 0 j)) hp) ⟨_, upd_same⟩ (Nat.le_refl _)
  exact q p _ _ δ1.length (e1.trans e2) r2 (Nat.le_refl _) (by unfold own1; rw [if_pos rfl]) np ⟨_, upd_same, rpall_rg j⟩
/-- list(range(a)) as data -/
theorem listRg3 {p p2 pos2 : Pos} (hc : X.calm = true) (hg : Gl X "list") (hm : X.mg "list" = none) (hg2 : Gl X "range") (hm2 : X.mg "range" = none) (ha : PE3 X E a ta) (na : starEach [a] X.env = (false, eval a X.env) :: starEach [] X.env := by rfl)
    (nb : starEach [.Call (.Name "range" p2) [a] [] pos2] X.env = (false, eval (.Call (.Name "range" p2) [a] [] pos2) X.env) :: starEach [] X.env := by rfl) : PE3 X E (.Call (.Name "list" p) [.Call (.Name "range" p2) [a] [] pos2] [] pos) (fun E δ Q => ta E δ fun x δ1 => asI x fun j => (0 ≤ j ∧ j ≤ 16777216) ∧ Q (.list (rngD 0 j.toNat)) δ1) := by
  refine ⟨fun _ _ _ _ _ he hq q => ha.mono _ _ _ _ _ he (fun x δ1 z => by obtain ⟨j, rfl, z1, z2⟩ := asI.to z; exact asI.of ⟨z1, hq _ _ z2⟩) q, (pe_listRg hc hg hm (prg_1 hg2 hm2 ha.pe na) nb).imp fun σ H Q q => ?_⟩
  obtain ⟨π, F, ρ, δ, rel, q⟩ := q
  refine ⟨π, F, ρ, δ, rel, ha.mono _ _ _ _ _ (fun _ z => z) (fun x δ1 q v H1 ρ1 e1 rel1 r1 => ?_) q⟩
  obtain ⟨j, rfl, ⟨h0, h1⟩, q⟩ := asI.to q
  cases r1
  refine ⟨j, rfl, RgOk.of_le (Int.le_refl _) h1 (by omega) h0, fun p hp => ?_⟩
  exact q _ _ ρ1 (e1.trans (Ext.same (same_upd hp))) (rel1.same (same_upd hp)) (rp_lst rel1.trk hp (rpall_rg j))
def asL (x : D) (k : List D → Prop) : Prop := match x with | .list xs => k xs | _ => False
theorem asL.to {x : D} {k : List D → Prop} (h : asL x k) : ∃ xs, x = .list xs ∧ k xs := by
  cases x <;> first | exact ⟨_, rfl, h⟩ | exact False.elim h
theorem asL.of {xs : List D} {k : List D → Prop} (h : k xs) : asL (.list xs) k := h
/-- x.extend(e), e a list of data -/
theorem ext3 (i : Nat) {x : Str} {pos' p' pos2 : Pos} (he : PE3 X E e te) (hs : starEach [e] X.env = (false, eval e X.env) :: starEach [] X.env := by rfl) (hN : X.N[i]? = some x := by rfl) (hv : Vis X.env.scope x := by first | exact Or.inl rfl | exact Or.inr (Or.inl rfl) | exact Or.inr (Or.inr rfl)) (hd : (x == ("__debug__" : Str)) = false := by decide)
    (hcd : (x == ("__classdict__" : Str)) = false := by decide) (hw : swapsWith (.Call (.Attribute (.Name x pos') "extend" p') [e] [] pos) none pos2.line X.env = pure false := by rfl)
    (hfew : ((backTo pos (starEach [e] X.env)).all (fun x => !x.1) && (backToKw pos (keywordEach [] X.env)).all (fun x => x.1.isSome)
      && decide (([e] : List Expr).length + ([] : List Keyword).length + (if ([] : List Keyword).isEmpty then 0 else 1) < 30)) = true := by rfl)
    (hline : (p'.endLine == pos.line) = true := by rfl) : PS3 X E (.Expr (.Call (.Attribute (.Name x pos') "extend" p') [e] [] pos) pos2) (fun E D δ => onL δ i fun _ _ => te E δ fun y δ1 => asL y fun ys => onL δ1 i fun t xs => xs.length + ys.length ≤ sizeLine ∧ D.nx (δ1.set i (some (.own t (.lst (xs ++ ys)))))) := by
  refine ⟨fun _ _ _ _ _ hx hd q => ?_, (ps_expr (pe_bm PySem.F.plainAttrs_list PySem.F.slot_list_extend PySem.F.type_list_extend mt_extend (pe_var hN hv hd hcd) (pa_cons he.pe pa_nil hs) rfl hfew hline hs rfl) hw).imp fun D σ H h => ?_⟩
  · obtain ⟨t, xs, e, q⟩ := q.to
    refine onL.of e (he.mono _ _ _ _ _ hx (fun y δ1 z => ?_) q)
    obtain ⟨ys, rfl, z⟩ := asL.to z
    obtain ⟨t, xs, e, q1, q2⟩ := onL.to z
    exact asL.of (onL.of e ⟨q1, hd.nx _ q2⟩)
  · obtain ⟨π, F, ρ, δ, rel, q⟩ := h
    obtain ⟨t, xs, e, q⟩ := q.to
    obtain ⟨a, _, hσ, ⟨vs, h3, _⟩, _⟩ := rel.own i _ _ e
    refine ⟨_, hσ, .inl ⟨rfl, _, .inl (.inl h3)⟩, π, F, ρ, δ, rel, he.mono _ _ _ _ _ (fun _ z => z) (fun y δ1 q w H1 ρ1 e1 rel1 r1 => ?_) q⟩
    obtain ⟨ys, rfl, q⟩ := asL.to q
    obtain ⟨t, xs, e', q1, q2⟩ := onL.to q
    obtain ⟨a', ha', hσ', ⟨vs', h3', h4'⟩, _⟩ := rel1.own i _ _ e'
    rw [hσ] at hσ'; cases hσ'
    cases r1 with
    | lst ht hr =>
      refine ⟨_, _, vs', _, rfl, rfl, h3', ht.1, by rw [h4'.length, hr.length]; exact q1, ?_⟩
      obtain ⟨r2, e2⟩ := rel1.setO (o' := .lst (xs ++ ys)) (u := .lst (vs' ++ _)) e' ha' fun H' hH' keep ktb => ⟨_, hH', (h4'.append hr).ext (P := Ow ρ1) ⟨fun b o hb n _ => keep b o (fun z => n (by rw [z]; exact ⟨i, ha'⟩)) hb, fun _ z => .inl z, fun b o hb => by
        by_cases z : b = a
        · rw [z]; exact ⟨_, hH'⟩
        · exact ⟨o, keep b o z hb⟩, ktb⟩ fun _ => .inl⟩
      exact q2 σ _ ρ1 (e1.trans e2) r2
end
end M3

set_option Elab.async false
set_option linter.all false
set_option maxRecDepth 100000
set_option maxHeartbeats 4000000
namespace M3
open PySem L2 PyProof.Rows
variable [TabsC]
section
variable {prog : Program} {w : World} {A : Around} {E : Value → Shared → Prop} {s : Shared} {l : Addr} {xs : Array (Int × Tok)}
theorem iter_intTup {Q : Value → Shared → Prop} (hl : s.heap.IsTuple l (intItems xs))
    (h : ∀ s₂ : Shared, s₂ = { s with heap := s.heap.push { cls := .type "tuple_iterator", data := .fields #[.ref l, .int 0 0] } } →
      (s₂.heap.IsTupleIter s.heap.objs.size l 0 ∧ s₂.heap.IsTuple l (intItems xs)) → (∀ b ∈ [s.heap.objs.size, l], b < s₂.heap.objs.size) → l ≠ s.heap.objs.size → Q (.ref s.heap.objs.size) s₂) :
    wpAny (model prog w) A (pyIter (.ref l)) Q E s := by
  have hlt : l < s.heap.objs.size := by obtain ⟨_, e, _⟩ := hl; exact Heap.lt_size e
  refine wpAny_pyIter_tuple hl (h _ rfl ⟨⟨_, Heap.get?_push_size _ rfl, rfl, rfl⟩, hl.push _⟩ (fun b hb => ?_) (Nat.ne_of_lt hlt))
  show b < (s.heap.push _).objs.size
  rw [Heap.size_push]
  rcases List.mem_cons.mp hb with rfl | hb
  · exact Nat.lt_succ_self _
  · rcases List.mem_cons.mp hb with rfl | hb
    · exact Nat.lt_succ_of_lt hlt
    · cases hb
theorem old_keptT {h' : Heap} (hk : ∀ b o, b ∉ [s.heap.objs.size] → (s.heap.push { cls := .type "tuple_iterator", data := .fields #[.ref l, .int 0 0] }).get? b = some o → h'.get? b = some o) :
    ∀ b o, s.heap.get? b = some o → h'.get? b = some o := fun b o e => by
  refine hk b o (fun hm => ?_) (Heap.get?_push_of_some _ e)
  rcases List.mem_cons.mp hm with e1 | hm
  · exact absurd (e1 ▸ Heap.lt_size e) (Nat.lt_irrefl _)
  · cases hm
theorem max_intTup {Q : Value → Shared → Prop} (hh : A.handled = none) (hl : s.heap.IsTuple l (intItems xs)) (hne : 0 < xs.size)
    (h : ∀ v h' tk, (intItems xs)[argBest (fun i j => decide (numAt xs i > numAt xs j)) (xs.size - 1)]? = some v → (∀ b o, s.heap.get? b = some o → h'.get? b = some o) → Q v { s with heap := h', toks := tk }) :
    wpAny (model prog w) A (call (.builtin "max") [.ref l]) Q E s := by
  refine call_max_walk (iter_intTup hl fun s₂ e st hfp hlI => ?_)
  subst e
  refine ⟨_, _, _, _, _, _, _, rfl, Walks.tuple (A := A.in1) hh _ l hlI (intItems xs), st, hfp, by simpa [intItems] using hne, CmpOf.ints_gt (numAt xs) (fun _ _ => intItems_at), fun v h' tk hP hk => ?_⟩
  exact h v h' tk (by simpa [intItems] using hP) (old_keptT hk)
theorem min_intTup {Q : Value → Shared → Prop} (hh : A.handled = none) (hl : s.heap.IsTuple l (intItems xs)) (hne : 0 < xs.size)
    (h : ∀ v h' tk, (intItems xs)[argBest (fun i j => decide (numAt xs i < numAt xs j)) (xs.size - 1)]? = some v → (∀ b o, s.heap.get? b = some o → h'.get? b = some o) → Q v { s with heap := h', toks := tk }) :
    wpAny (model prog w) A (call (.builtin "min") [.ref l]) Q E s := by
  refine call_min_walk (iter_intTup hl fun s₂ e st hfp hlI => ?_)
  subst e
  refine ⟨_, _, _, _, _, _, _, rfl, Walks.tuple (A := A.in1) hh _ l hlI (intItems xs), st, hfp, by simpa [intItems] using hne, CmpOf.ints_lt (numAt xs) (fun _ _ => intItems_at), fun v h' tk hP hk => ?_⟩
  exact h v h' tk (by simpa [intItems] using hP) (old_keptT hk)
end
section
variable {prog : Program} {w : World} {A : Around} {E : Value → Shared → Prop} {s : Shared} {l : Addr} {its : List Value} {ns : List Int} {Q : Value → Shared → Prop}
theorem max_rawT (hh : A.handled = none) (hl : s.heap.IsTuple l its.toArray) (hi : IntsAre its ns) (hne : 0 < ns.length)
    (h : ∀ h' tk M t', (∀ b o, s.heap.get? b = some o → h'.get? b = some o) → M ∈ ns → (∀ a, a ∈ ns → a ≤ M) → Q (.int M t') { s with heap := h', toks := tk }) : wpAny (model prog w) A (call (.builtin "max") [.ref l]) Q E s := by
  obtain ⟨xs, e⟩ := hi.allInts.items
  have hn : numsOf (intItems xs).toList = ns := by rw [← e]; exact hi.numsOf
  rw [nums_intItems] at hn
  subst hn
  rw [e] at hl
  have hsz : 0 < xs.size := by simpa using hne
  refine max_intTup hh hl hsz fun v h' tk hv hk => ?_
  obtain ⟨t, rfl⟩ := intItems_at hv
  obtain ⟨h1, h2⟩ := argBest_gt (numAt xs) (xs.size - 1)
  refine h h' tk _ t hk ?_ fun a ha => ?_
  · rw [numAt_eq]; exact PySem.getD_mem (by rw [List.length_map, Array.length_toList]; omega)
  · obtain ⟨j, hj, rfl⟩ := mem_getD ha
    rw [List.length_map, Array.length_toList] at hj
    rw [← numAt_eq]; exact h2 j (by omega)
theorem min_rawT (hh : A.handled = none) (hl : s.heap.IsTuple l its.toArray) (hi : IntsAre its ns) (hne : 0 < ns.length)
    (h : ∀ h' tk M t', (∀ b o, s.heap.get? b = some o → h'.get? b = some o) → M ∈ ns → (∀ a, a ∈ ns → M ≤ a) → Q (.int M t') { s with heap := h', toks := tk }) : wpAny (model prog w) A (call (.builtin "min") [.ref l]) Q E s := by
  obtain ⟨xs, e⟩ := hi.allInts.items
  have hn : numsOf (intItems xs).toList = ns := by rw [← e]; exact hi.numsOf
  rw [nums_intItems] at hn
  subst hn
  rw [e] at hl
  have hsz : 0 < xs.size := by simpa using hne
  refine min_intTup hh hl hsz fun v h' tk hv hk => ?_
  obtain ⟨t, rfl⟩ := intItems_at hv
  obtain ⟨h1, h2⟩ := argBest_lt (numAt xs) (xs.size - 1)
  refine h h' tk _ t hk ?_ fun a ha => ?_
  · rw [numAt_eq]; exact PySem.getD_mem (by rw [List.length_map, Array.length_toList]; omega)
  · obtain ⟨j, hj, rfl⟩ := mem_getD ha
    rw [List.length_map, Array.length_toList] at hj
    rw [← numAt_eq]; exact h2 j (by omega)
end
section
variable {X : Cx} {E : XK} {a : Expr} {ta : T3} {pos : Pos}
def rMaxU (K : PySem.W.Frag) : List V → Hp → VK → Prop := fun vs H Q => ∃ (a : Addr) (ns : List Int), vs = [V.ref a] ∧ (SqL K H a (ns.map V.int) ∨ SqT K H a (ns.map V.int)) ∧ 0 < ns.length ∧ ∀ m, m ∈ ns → (∀ y, y ∈ ns → y ≤ m) → Q (.int m) H
def rMinU (K : PySem.W.Frag) : List V → Hp → VK → Prop := fun vs H Q => ∃ (a : Addr) (ns : List Int), vs = [V.ref a] ∧ (SqL K H a (ns.map V.int) ∨ SqT K H a (ns.map V.int)) ∧ 0 < ns.length ∧ ∀ m, m ∈ ns → (∀ y, y ∈ ns → m ≤ y) → Q (.int m) H
theorem cr_maxU (hc : X.calm = true) : CallR X (.builtin "max") (rMaxU X.K) := by
  intro pins s σ H vs us Q I r h
  obtain ⟨a, ns, rfl, hs | hs, hne, q⟩ := h
  · obtain ⟨its, rv, hl, _⟩ := I.list hs
    rw [Vals.ref1 r]
    exact max_raw (I.ok.hd hc) hl.isList rv.ints hne fun h' tk m t' hk h1 h2 => ⟨.int _, H, I.kept hk, ⟨_, rfl⟩, q m h1 h2⟩
  · obtain ⟨its, rv, hl, _⟩ := I.tuple hs
    rw [Vals.ref1 r]
    exact max_rawT (I.ok.hd hc) hl rv.ints hne fun h' tk m t' hk h1 h2 => ⟨.int _, H, I.kept hk, ⟨_, rfl⟩, q m h1 h2⟩
theorem cr_minU (hc : X.calm = true) : CallR X (.builtin "min") (rMinU X.K) := by
  intro pins s σ H vs us Q I r h
  obtain ⟨a, ns, rfl, hs | hs, hne, q⟩ := h
  · obtain ⟨its, rv, hl, _⟩ := I.list hs
    rw [Vals.ref1 r]
    exact min_raw (I.ok.hd hc) hl.isList rv.ints hne fun h' tk m t' hk h1 h2 => ⟨.int _, H, I.kept hk, ⟨_, rfl⟩, q m h1 h2⟩
  · obtain ⟨its, rv, hl, _⟩ := I.tuple hs
    rw [Vals.ref1 r]
    exact min_rawT (I.ok.hd hc) hl rv.ints hne fun h' tk m t' hk h1 h2 => ⟨.int _, H, I.kept hk, ⟨_, rfl⟩, q m h1 h2⟩
def rMaxU3 (x : D) (k : D → Prop) : Prop := match x with
  | .list xs => ∃ ns : List Int, xs = ns.map PyData.int ∧ 0 < ns.length ∧ ∀ m, m ∈ ns → (∀ y, y ∈ ns → y ≤ m) → k (.int m)
  | .tuple xs => ∃ ns : List Int, xs = ns.map PyData.int ∧ 0 < ns.length ∧ ∀ m, m ∈ ns → (∀ y, y ∈ ns → y ≤ m) → k (.int m)
  | _ => False
def rMinU3 (x : D) (k : D → Prop) : Prop := match x with
  | .list xs => ∃ ns : List Int, xs = ns.map PyData.int ∧ 0 < ns.length ∧ ∀ m, m ∈ ns → (∀ y, y ∈ ns → m ≤ y) → k (.int m)
  | .tuple xs => ∃ ns : List Int, xs = ns.map PyData.int ∧ 0 < ns.length ∧ ∀ m, m ∈ ns → (∀ y, y ∈ ns → m ≤ y) → k (.int m)
  | _ => False
theorem maxU3 {p : Pos} (hc : X.calm = true) (hg : Gl X "max") (hm : X.mg "max" = none) (ha : PE3 X E a ta) (he : starEach [a] X.env = (false, eval a X.env) :: starEach [] X.env := by rfl) : PE3 X E (.Call (.Name "max" p) [a] [] pos) (tU3 rMaxU3 ta) :=
  un3 (fun _ h => mkB (cr_maxU hc) hg hm (by decide +kernel) h (by decide) (by decide) he) (fun O H v x k Q tr rx h hq => by
    unfold rMaxU3 at h
    split at h
    · obtain ⟨ns, rfl, h1, h⟩ := h
      cases rx with
      | lst ht hr => exact ⟨_, ns, rfl, .inl (by rw [← rpall_ints' hr]; exact ht.sq), h1, fun m z1 z2 => hq _ _ H (Same.refl H) (.int _) (h m z1 z2)⟩
    · obtain ⟨ns, rfl, h1, h⟩ := h
      cases rx with
      | tup ht hr => exact ⟨_, ns, rfl, .inr (by rw [← rpall_ints' hr]; exact ht.sq), h1, fun m z1 z2 => hq _ _ H (Same.refl H) (.int _) (h m z1 z2)⟩
    · exact h.elim) (fun x k k' hk h => by
    unfold rMaxU3 at h ⊢
    split at h
    · obtain ⟨ns, e, h1, h⟩ := h; exact ⟨ns, e, h1, fun m z1 z2 => hk _ (h m z1 z2)⟩
    · obtain ⟨ns, e, h1, h⟩ := h; exact ⟨ns, e, h1, fun m z1 z2 => hk _ (h m z1 z2)⟩
    · exact h.elim) ha
theorem minU3 {p : Pos} (hc : X.calm = true) (hg : Gl X "min") (hm : X.mg "min" = none) (ha : PE3 X E a ta) (he : starEach [a] X.env = (false, eval a X.env) :: starEach [] X.env := by rfl) : PE3 X E (.Call (.Name "min" p) [a] [] pos) (tU3 rMinU3 ta) :=
  un3 (fun _ h => mkB (cr_minU hc) hg hm (by decide +kernel) h (by decide) (by decide) he) (fun O H v x k Q tr rx h hq => by
    unfold rMinU3 at h
    split at h
    · obtain ⟨ns, rfl, h1, h⟩ := h
      cases rx with
      | lst ht hr => exact ⟨_, ns, rfl, .inl (by rw [← rpall_ints' hr]; exact ht.sq), h1, fun m z1 z2 => hq _ _ H (Same.refl H) (.int _) (h m z1 z2)⟩
    · obtain ⟨ns, rfl, h1, h⟩ := h
      cases rx with
      | tup ht hr => exact ⟨_, ns, rfl, .inr (by rw [← rpall_ints' hr]; exact ht.sq), h1, fun m z1 z2 => hq _ _ H (Same.refl H) (.int _) (h m z1 z2)⟩
    · exact h.elim) (fun x k k' hk h => by
    unfold rMinU3 at h ⊢
    split at h
    · obtain ⟨ns, e, h1, h⟩ := h; exact ⟨ns, e, h1, fun m z1 z2 => hk _ (h m z1 z2)⟩
    · obtain ⟨ns, e, h1, h⟩ := h; exact ⟨ns, e, h1, fun m z1 z2 => hk _ (h m z1 z2)⟩
    · exact h.elim) ha
end
end M3

set_option Elab.async false
set_option linter.all false
set_option maxRecDepth 100000
set_option maxHeartbeats 4000000
namespace M3
open PySem L2
variable [TabsC]
/-! ## tables of data -/
def keyEq (a b : D) : Bool := match a, b with | .int i, .int j => decide (i = j) | .str x, .str y => decide (x = y) | _, _ => false
def dgetD (ds : List (D × D)) (k : D) : Option D := (ds.find? fun kv => keyEq kv.1 k).map (·.2)
def dputD (ds : List (D × D)) (k v : D) : List (D × D) := if (ds.any fun kv => keyEq kv.1 k) = true then ds.map (fun kv => if keyEq kv.1 k = true then (kv.1, v) else kv) else ds ++ [(k, v)]
def ddropD (ds : List (D × D)) (k : D) : List (D × D) := ds.filter fun kv => !keyEq kv.1 k
theorem keyEq_kD (a b : Key) : keyEq (kD a) (kD b) = decide (a = b) := by
  cases a <;> cases b <;> simp [keyEq, kD]
section
variable {K : PySem.W.Frag} {O : Addr → Prop} {H : Hp}
theorem RpKV.length : ∀ {kvs : List (Key × V)} {ds : List (D × D)}, RpKV K O H kvs ds → kvs.length = ds.length
  | _, _, .nil => rfl
  | _, _, .cons r t => by rw [List.length_cons, List.length_cons, t.length]
theorem RpKV.get : ∀ {kvs : List (Key × V)} {ds : List (D × D)}, RpKV K O H kvs ds → ∀ k : Key, (valV kvs k = none ∧ dgetD ds (kD k) = none) ∨ ∃ v d, valV kvs k = some v ∧ dgetD ds (kD k) = some d ∧ Rp K O H v d
  | _, _, .nil, k => .inl ⟨rfl, rfl⟩
  | _, _, .cons (k := j) (v := v) (d := d) (ds := ds) r t, k => by
    by_cases e : j = k
    · exact .inr ⟨v, d, valV_pos e, by simp [dgetD, List.find?_cons, keyEq_kD, e], r⟩
    · have e2 : dgetD ((kD j, d) :: ds) (kD k) = dgetD ds (kD k) := by simp [dgetD, List.find?_cons, keyEq_kD, e]
      rw [valV_neg (p := (j, v)) e, e2]
      exact t.get k
theorem RpKV.any : ∀ {kvs : List (Key × V)} {ds : List (D × D)}, RpKV K O H kvs ds → ∀ k : Key, (kvs.any fun kv => decide (kv.1 = k)) = (ds.any fun kv => keyEq kv.1 (kD k))
  | _, _, .nil, k => rfl
  | _, _, .cons r t, k => by simp only [List.any_cons, keyEq_kD]; rw [t.any k]
theorem RpKV.repl {k : Key} {v : V} {d : D} (hv : Rp K O H v d) : ∀ {kvs : List (Key × V)} {ds : List (D × D)}, RpKV K O H kvs ds → RpKV K O H (kvs.map fun kv => if kv.1 = k then (kv.1, v) else kv) (ds.map fun kv => if keyEq kv.1 (kD k) = true then (kv.1, d) else kv)
  | _, _, .nil => .nil
  | _, _, .cons (k := j) r t => by
    simp only [List.map_cons, keyEq_kD, decide_eq_true_eq]
    by_cases e : j = k
    · rw [if_pos e, if_pos e]; exact .cons hv (t.repl hv)
    · rw [if_neg e, if_neg e]; exact .cons r (t.repl hv)
theorem RpKV.snoc {k : Key} {v : V} {d : D} (hv : Rp K O H v d) : ∀ {kvs : List (Key × V)} {ds : List (D × D)}, RpKV K O H kvs ds → RpKV K O H (kvs ++ [(k, v)]) (ds ++ [(kD k, d)])
  | _, _, .nil => .cons hv .nil
  | _, _, .cons r t => .cons r (t.snoc hv)
theorem RpKV.put {kvs : List (Key × V)} {ds : List (D × D)} (h : RpKV K O H kvs ds) {k : Key} {v : V} {d : D} (hv : Rp K O H v d) : RpKV K O H (putK kvs k v) (dputD ds (kD k) d) := by
  unfold putK dputD
  rw [h.any k]
  split
  · exact h.repl hv
  · exact h.snoc hv
theorem RpKV.drop {k : Key} : ∀ {kvs : List (Key × V)} {ds : List (D × D)}, RpKV K O H kvs ds → RpKV K O H (dropK kvs k) (ddropD ds (kD k))
  | _, _, .nil => .nil
  | _, _, .cons (k := j) (v := v) (vs := vs) (d := d) (ds := ds) r t => by
    unfold dropK ddropD
    simp only [List.filter_cons, keyEq_kD]
    by_cases e : j = k
    · simp only [e, ne_eq, not_true_eq_false, decide_false, decide_true, Bool.not_true]
      exact t.drop
    · simp only [ne_eq, e, not_false_eq_true, decide_true, decide_false, Bool.not_false, if_true]
      exact .cons r t.drop
theorem RpKV.at : ∀ {kvs : List (Key × V)} {ds : List (D × D)}, RpKV K O H kvs ds → ∀ {i : Nat} {x : D × D}, ds[i]? = some x → ∃ k v, kvs[i]? = some (k, v) ∧ x.1 = kD k ∧ Rp K O H v x.2
  | _, _, .nil, i, x, h => by cases i <;> cases h
  | _, _, .cons (k := k) (v := v) r t, 0, x, h => by cases h; exact ⟨k, v, rfl, rfl, r⟩
  | _, _, .cons r t, i + 1, x, h => t.at (by simpa using h)
end
theorem rp_kV {K : PySem.W.Frag} {O : Addr → Prop} {H : Hp} (k : Key) : Rp K O H (kV k) (kD k) := by
  cases k with
  | inl i => exact .int i
  | inr x => exact .str x
def asDct (x : D) (k : List (D × D) → Prop) : Prop := match x with | .dict ds => k ds | _ => False
theorem asDct.to {x : D} {k : List (D × D) → Prop} (h : asDct x k) : ∃ ds, x = .dict ds ∧ k ds := by
  cases x <;> first | exact ⟨_, rfl, h⟩ | exact False.elim h
theorem asDct.of {ds : List (D × D)} {k : List (D × D) → Prop} (h : k ds) : asDct (.dict ds) k := h
def isKey (x : D) : Prop := match x with | .int _ => True | .str _ => True | _ => False
theorem isKey.to {x : D} (h : isKey x) : ∃ k, x = kD k := by
  cases x <;> first | exact ⟨.inl _, rfl⟩ | exact ⟨.inr _, rfl⟩ | exact False.elim h
/-! ### owned dicts -/
def onDct (δ : Sl) (i : Nat) (k : Nat → List (D × D) → Prop) : Prop := match δ[i]? with | some (some (.own t (.dct xs))) => k t xs | _ => False
theorem onDct.to {δ : Sl} {i : Nat} {k : Nat → List (D × D) → Prop} (h : onDct δ i k) : ∃ t xs, δ[i]? = some (some (.own t (.dct xs))) ∧ k t xs := by
  unfold onDct at h
  split at h
  · exact ⟨_, _, by assumption, h⟩
  · exact h.elim
theorem onDct.of {δ : Sl} {i t : Nat} {xs : List (D × D)} {k : Nat → List (D × D) → Prop} (e : δ[i]? = some (some (.own t (.dct xs)))) (h : k t xs) : onDct δ i k := by
  unfold onDct
  rw [e]
  exact h
section
variable {X : Cx} {E : XK} {a b c e f : Expr} {ta tb tc te tf : T3} {pos : Pos}
/-- {} as an owned dict -/
theorem odict0 : POw X E (.Dict [] [] pos) (fun E δ Q => Q (.dct []) δ) := by
  refine ⟨fun _ _ _ _ _ he hq q => hq _ _ q, pe_dnewK.imp fun σ H Q q => ?_⟩
  obtain ⟨π, F, ρ, δ, rel, q⟩ := q
  intro p hp
  obtain ⟨r2, e2, np⟩ := rel.tmpO (k := δ.length) (a := p) hp (same_upd (o := .dK []) hp) ⟨_, upd_same⟩ (Nat.le_refl _)
  exact q p _ _ δ.length e2 r2 (Nat.le_refl _) (by unfold own1; rw [if_pos rfl]) np ⟨[], upd_same, .nil⟩
/-- d[k] = v, d owned -/
theorem setD3 (i : Nat) {x : Str} {pos' p' : Pos} (hu : X.A.units + 64 < cLine) (he : PE3 X E e te) (hb : PE3 X E b tb) (hN : X.N[i]? = some x := by rfl) (hv : Vis X.env.scope x := by first | exact Or.inl rfl | exact Or.inr (Or.inl rfl) | exact Or.inr (Or.inr rfl)) (hd : (x == ("__debug__" : Str)) = false := by decide)
    (hcd : (x == ("__classdict__" : Str)) = false := by decide) (hs : swapsWith e (some (.Subscript (.Name x pos') b p')) pos.line X.env = pure false := by rfl) :
    PS3 X E (.Assign [.Subscript (.Name x pos') b p'] e pos) (fun E D δ => te E δ fun y δ1 => onDct δ1 i fun _ _ => tb E δ1 fun z δ2 => onDct δ2 i fun t ds => (isKey z ∧ ds.length < sizeLine) ∧ D.nx (δ2.set i (some (.own t (.dct (dputD ds z y)))))) := by
  refine ⟨fun _ _ _ _ _ hx hd q => he.mono _ _ _ _ _ hx (fun y δ1 z => ?_) q, (ps_dput (by omega) (pe_var hN hv hd hcd) hb.pe he.pe hs).imp fun D σ H h => ?_⟩
  · obtain ⟨t, xs, e, z⟩ := z.to
    refine onDct.of e (hb.mono _ _ _ _ _ hx (fun w δ2 z => ?_) z)
    obtain ⟨t, xs, e, q1, q2⟩ := z.to
    exact onDct.of e ⟨q1, hd.nx _ q2⟩
  · obtain ⟨π, F, ρ, δ, rel, q⟩ := h
    refine ⟨π, F, ρ, δ, rel, he.mono _ _ _ _ _ (fun _ z => z) (fun y δ1 q w H1 ρ1 e1 rel1 r1 => ?_) q⟩
    obtain ⟨t, xs, e, q⟩ := q.to
    obtain ⟨a, _, hσ, _, _⟩ := rel1.own i _ _ e
    refine ⟨_, hσ, π, F, ρ1, δ1, rel1, hb.mono _ _ _ _ _ (liftX.mono e1) (fun z δ2 q w2 H2 ρ2 e2 rel2 r2 => ?_) q⟩
    obtain ⟨t, ds, e', ⟨q1, q1'⟩, q2⟩ := q.to
    obtain ⟨k, rfl⟩ := q1.to
    obtain ⟨a', ha', hσ', ⟨kvs, h3', h4'⟩, _⟩ := rel2.own i _ _ e'
    rw [hσ] at hσ'; cases hσ'
    have hk := rp_key r2
    subst hk
    refine ⟨a, _, rfl, DPut.k h3' (by rw [h4'.length]; exact q1'), ?_⟩
    have r1' := r1.ext e2.frn fun _ => .inl
    obtain ⟨r3, e3⟩ := rel2.setO (o' := .dct (dputD ds (kD k) y)) (u := .dK (putK kvs k w)) e' ha' fun H' hH' keep ktb => ⟨_, hH', (h4'.put r1').ext (P := Ow ρ2) ⟨fun b o hb n _ => keep b o (fun z => n (by rw [z]; exact ⟨i, ha'⟩)) hb, fun _ z => .inl z, fun b o hb => by
      by_cases z : b = a
      · rw [z]; exact ⟨_, hH'⟩
      · exact ⟨o, keep b o z hb⟩, ktb⟩ fun _ => .inl⟩
    exact q2 σ _ ρ2 ((e1.trans e2).trans e3) r3
/-- d.get(k, z), d owned -/
theorem getO3 (i : Nat) {x : Str} {pos' apos : Pos} (hu : X.A.units + 64 < cLine) (he : PE3 X E e te) (hf : PE3 X E f tf) (hN : X.N[i]? = some x := by rfl) (hv : Vis X.env.scope x := by first | exact Or.inl rfl | exact Or.inr (Or.inl rfl) | exact Or.inr (Or.inr rfl)) (hd : (x == ("__debug__" : Str)) = false := by decide)
    (hcd : (x == ("__classdict__" : Str)) = false := by decide) (m : L2.M2 X (.Name x pos') "get" apos e f pos := by exact ⟨rfl, rfl, rfl, rfl⟩) :
    PE3 X E (.Call (.Attribute (.Name x pos') "get" apos) [e, f] [] pos) (fun E δ Q => onDct δ i fun _ _ => te E δ fun y δ1 => tf E δ1 fun z δ2 => onDct δ2 i fun _ ds => isKey y ∧ Q ((dgetD ds y).getD z) δ2) := by
  refine ⟨fun _ _ _ _ _ hx hq q => ?_, (pe_dget2 (by omega) (pe_var hN hv hd hcd) he.pe hf.pe m).imp fun σ H Q h => ?_⟩
  · obtain ⟨t, xs, e, q⟩ := q.to
    refine onDct.of e (he.mono _ _ _ _ _ hx (fun y δ1 => hf.mono _ _ _ _ _ hx fun z δ2 w => ?_) q)
    obtain ⟨t, xs, e, q1, q2⟩ := w.to
    exact onDct.of e ⟨q1, hq _ _ q2⟩
  · obtain ⟨π, F, ρ, δ, rel, q⟩ := h
    obtain ⟨t, xs, e, q⟩ := q.to
    obtain ⟨a, _, hσ, ⟨kvs, h3, _⟩, _⟩ := rel.own i _ _ e
    refine ⟨_, hσ, a, rfl, .inl ⟨_, .inl h3⟩, π, F, ρ, δ, rel, he.mono _ _ _ _ _ (fun _ z => z) (fun y δ1 q w H1 ρ1 e1 rel1 r1 => ?_) q⟩
    refine ⟨π, F, ρ1, δ1, rel1, hf.mono _ _ _ _ _ (liftX.mono e1) (fun z δ2 q u H2 ρ2 e2 rel2 r2 => ?_) q⟩
    obtain ⟨t, ds, e', q1, q2⟩ := q.to
    obtain ⟨k, rfl⟩ := q1.to
    obtain ⟨a', ha', hσ', ⟨kvs', h3', h4'⟩, _⟩ := rel2.own i _ _ e'
    rw [hσ] at hσ'; cases hσ'
    have hk := rp_key r1
    subst hk
    refine ⟨_, DGet.k h3', ?_⟩
    rcases h4'.get k with ⟨g1, g2⟩ | ⟨v, d, g1, g2, g3⟩
    · rw [g1]; rw [g2] at q2; exact q2 _ H2 ρ2 (e1.trans e2) rel2 r2
    · rw [g1]; rw [g2] at q2; exact q2 _ H2 ρ2 (e1.trans e2) rel2 g3
/-- d.get(k, z), d data -/
theorem getD3 {apos : Pos} (hu : X.A.units + 64 < cLine) (ha : PE3 X E a ta) (he : PE3 X E e te) (hf : PE3 X E f tf) (m : L2.M2 X a "get" apos e f pos := by exact ⟨rfl, rfl, rfl, rfl⟩) :
    PE3 X E (.Call (.Attribute a "get" apos) [e, f] [] pos) (fun E δ Q => ta E δ fun x δ0 => asDct x fun ds => te E δ0 fun y δ1 => tf E δ1 fun z δ2 => isKey y ∧ Q ((dgetD ds y).getD z) δ2) := by
  refine ⟨fun _ _ _ _ _ hx hq q => ha.mono _ _ _ _ _ hx (fun x δ0 z => ?_) q, (pe_dget2 (by omega) ha.pe he.pe hf.pe m).imp fun σ H Q h => ?_⟩
  · obtain ⟨ds, rfl, z⟩ := asDct.to z
    exact asDct.of (he.mono _ _ _ _ _ hx (fun y δ1 => hf.mono _ _ _ _ _ hx fun z δ2 w => ⟨w.1, hq _ _ w.2⟩) z)
  · obtain ⟨π, F, ρ, δ, rel, q⟩ := h
    refine ⟨π, F, ρ, δ, rel, ha.mono _ _ _ _ _ (fun _ z => z) (fun x δ0 q v H0 ρ0 e0 rel0 r0 => ?_) q⟩
    obtain ⟨ds, rfl, q⟩ := asDct.to q
    cases r0 with
    | dic h n r =>
      refine ⟨_, rfl, .inl ⟨_, .inr ⟨_, h⟩⟩, π, F, ρ0, δ0, rel0, he.mono _ _ _ _ _ (liftX.mono e0) (fun y δ1 q w H1 ρ1 e1 rel1 r1 => ?_) q⟩
      refine ⟨π, F, ρ1, δ1, rel1, hf.mono _ _ _ _ _ (liftX.mono (e0.trans e1)) (fun z δ2 q u H2 ρ2 e2 rel2 r2 => ?_) q⟩
      obtain ⟨q1, q2⟩ := q
      obtain ⟨k, rfl⟩ := q1.to
      have hk := rp_key r1
      subst hk
      have ex := e1.trans e2
      have h' := ex.fr _ _ h (fun z => n (.inl z)) rfl
      have r' := r.ext ex.frn fun _ => .inl
      refine ⟨_, .inl ⟨_, k, .inr ⟨_, h'⟩, rfl, rfl⟩, ?_⟩
      rcases r'.get k with ⟨g1, g2⟩ | ⟨v, d, g1, g2, g3⟩
      · rw [g1]; rw [g2] at q2; exact q2 _ H2 ρ2 (e0.trans ex) rel2 r2
      · rw [g1]; rw [g2] at q2; exact q2 _ H2 ρ2 (e0.trans ex) rel2 g3
/-! ### an owned dict is given free as data: it is locked -/
theorem Rel.freezeD {K : PySem.W.Frag} {π : Rho} {F : Addr → Prop} {ρ : Rho} {H : Hp} {σ : St} {δ : Sl} (r : Rel K π F ρ H σ δ) {i t : Nat} {ds : List (D × D)} (e : δ[i]? = some (some (.own t (.dct ds)))) :
    ∃ a kvs, H a = some (.dK kvs) ∧ ∀ od, Rel K π F (M3.drop ρ i) (upd H a (.frz od (.dK kvs))) σ (δ.set i (some (.d (.dict ds)))) ∧ Ext (Ow ρ) (Ow ρ) H (Ow (M3.drop ρ i)) (upd H a (.frz od (.dK kvs))) := by
  obtain ⟨a, h1, h2, ⟨kvs, h3, h4⟩, h5⟩ := r.own i _ _ e
  have hl : i < δ.length := (List.getElem?_eq_some_iff.mp e).1
  have nd : ¬ Ox F (M3.drop ρ i) a := fun z => by
    rcases z with ⟨j, z⟩ | z
    · obtain ⟨z1, z2⟩ := drop_some z
      exact z1 (r.inj _ _ _ z2 h1)
    · exact r.dis a z ⟨i, h1⟩
  refine ⟨a, kvs, h3, fun od => ?_⟩
  have tk : ∀ b o, H b = some o → ∃ o', upd H a (.frz od (.dK kvs)) b = some o' := fun b o hb => by
    by_cases z : b = a
    · rw [z]; exact ⟨_, upd_same⟩
    · exact ⟨o, by rw [upd_ne z]; exact hb⟩
  have ex : Ext (Ow ρ) (Ow ρ) H (Ow (M3.drop ρ i)) (upd H a (.frz od (.dK kvs))) := ⟨fun b o hb n _ => by rw [upd_ne fun z => n (by rw [z]; exact ⟨i, h1⟩)]; exact hb, fun b z => .inl (drop_le b z), tk, Tb.upd h3 ⟨rfl, rfl⟩⟩
  refine ⟨⟨by rw [List.length_set]; exact r.len, fun j y q => ?_, fun j t' o2 q => ?_, fun j k a h1 h2 => r.inj j k a (drop_some h1).2 (drop_some h2).2, fun b z => ?_, fun b z q => r.dis b z (drop_le b q), fun p b z => ?_, r.ln.setδ (fun p z => by cases z), ex.tb.t r.tab⟩, ex⟩
  · by_cases hj : i = j
    · subst hj
      rw [List.getElem?_set_self hl] at q; cases y <;> cases q
      exact ⟨_, h2, Rp.dic upd_same nd (h4.ext (ex.frn (F := F)) fun _ => .inl)⟩
    · rw [List.getElem?_set_ne hj] at q
      obtain ⟨w, k1, k2⟩ := r.dat j y q
      exact ⟨w, k1, k2.ext (ex.frn (F := F)) fun _ => .inl⟩
  · by_cases hj : i = j
    · subst hj
      rw [List.getElem?_set_self hl] at q; cases q
    · rw [List.getElem?_set_ne hj] at q
      obtain ⟨b, k1, k2, k3, k4⟩ := r.own j t' o2 q
      refine ⟨b, drop_ne k1 (Ne.symm hj), k2, k3.ext ex (fun u hu _ => ?_), k4⟩
      rw [upd_ne fun z => hj (r.inj _ _ _ h1 (by rw [z] at k1; exact k1))]; exact hu
  · obtain ⟨o, ho⟩ := r.trk b (dropx_le b z); exact tk b o ho
  · obtain ⟨o, ho⟩ := r.pit p b z; exact tk b o ho
theorem pss_lk {sts : List Stmt} {t : TS} (h : PSs X sts t) : PSs X sts (fun D σ H => ∃ d u, H d = some u ∧ Mut (some u) ∧ ∀ od, t D σ (upd H d (.frz od u))) := by
  refine ⟨fun pins s σ H D I hw => ?_⟩
  obtain ⟨d, u, hd, mu, hw⟩ := hw
  obtain ⟨od, I1⟩ := I.lock hd mu
  exact h.run pins s σ _ D I1 (hw od)
theorem frzD3 (i : Nat) {sts : List Stmt} {t : TS3} (h : PSs3 X E sts t) : PSs3 X E sts (fun E D δ => onDct δ i fun _ ds => t E D (δ.set i (some (.d (.dict ds))))) := by
  refine ⟨fun _ _ _ _ _ hx hd q => ?_, (pss_lk h.ps).imp fun D σ H q => ?_⟩
  · obtain ⟨t, xs, e, q⟩ := q.to
    exact onDct.of e (h.mono _ _ _ _ _ hx hd q)
  · obtain ⟨π, F, ρ, δ, rel, q⟩ := q
    obtain ⟨t, xs, e, q⟩ := q.to
    obtain ⟨a, kvs, hk, fz⟩ := rel.freezeD e
    refine ⟨a, _, hk, trivial, fun od => ?_⟩
    obtain ⟨rel', ex⟩ := fz od
    exact ⟨π, F, _, _, rel', h.mono _ _ _ _ _ (liftX.mono ex) (liftD.mono ex) q⟩
/-! ### walks over data dicts -/
def itemsD (ds : List (D × D)) : List D := ds.map fun kv => .tuple [kv.1, kv.2]
theorem itemsD_get {ds : List (D × D)} {i : Nat} {x : D} (h : (itemsD ds)[i]? = some x) : ∃ k v, ds[i]? = some (k, v) ∧ x = .tuple [k, v] := by
  unfold itemsD at h
  rw [List.getElem?_map] at h
  cases e : ds[i]? with
  | none => rw [e] at h; cases h
  | some p => rw [e] at h; exact ⟨p.1, p.2, rfl, (Option.some.inj h).symm⟩
theorem itemsD_length {ds : List (D × D)} : (itemsD ds).length = ds.length := by unfold itemsD; simp
theorem jok_items {K : PySem.W.Frag} {F : Addr → Prop} {ρ0 : Rho} {H0 : Hp} {a : Addr} {o : Obj} {kvs : List (Key × V)} {ds : List (D × D)} (h : H0 a = some (.frz o (.dK kvs))) (n : ¬ Ox F ρ0 a) (r : RpKV K (Ox F ρ0) H0 kvs ds) : JOk K F ρ0 H0 (Iti a o kvs) (itemsD ds) := by
  intro i F' ρ H P po ex tr
  have h' := ex.fr _ _ h (fun z => n (po _ z)) rfl
  have r' := r.ext ex po
  refine ⟨fun x hx => ?_, fun hx => ⟨h', by rw [itemsD_length] at hx; rw [r'.length]; exact hx⟩⟩
  obtain ⟨k, v, hk, rfl⟩ := itemsD_get hx
  obtain ⟨k', v', hk', e1, rv⟩ := r'.at hk
  simp only at e1 rv
  subst e1
  refine ⟨⟨h', (List.getElem?_eq_some_iff.mp hk').1⟩, fun w H' y => ?_⟩
  obtain ⟨T, k2, v2, f1, f2, f3, f4⟩ := y
  rw [hk'] at f1; cases f1
  subst f2 f4
  exact ⟨same_upd f3, rp_tup tr f3 (.cons (rp_kV _) (.cons rv .nil))⟩
def keysD (ds : List (D × D)) : List D := ds.map (·.1)
theorem jok_keys {K : PySem.W.Frag} {F : Addr → Prop} {ρ0 : Rho} {H0 : Hp} {a : Addr} {o : Obj} {kvs : List (Key × V)} {ds : List (D × D)} (h : H0 a = some (.frz o (.dK kvs))) (n : ¬ Ox F ρ0 a) (r : RpKV K (Ox F ρ0) H0 kvs ds) : JOk K F ρ0 H0 (Itk a o kvs) (keysD ds) := by
  intro i F' ρ H P po ex tr
  have h' := ex.fr _ _ h (fun z => n (po _ z)) rfl
  have r' := r.ext ex po
  refine ⟨fun x hx => ?_, fun hx => ⟨h', by unfold keysD at hx; rw [List.length_map] at hx; rw [r'.length]; exact hx⟩⟩
  unfold keysD at hx
  rw [List.getElem?_map] at hx
  cases e : ds[i]? with
  | none => rw [e] at hx; cases hx
  | some p =>
    rw [e] at hx
    cases hx
    obtain ⟨k', v', hk', e1, rv⟩ := r'.at e
    refine ⟨⟨h', (List.getElem?_eq_some_iff.mp hk').1⟩, fun w H' y => ?_⟩
    obtain ⟨f0, k2, v2, f1, f2⟩ := y
    rw [hk'] at f1; cases f1
    subst f0 f2
    exact ⟨Same.refl _, by show Rp K (Ox F' ρ) _ (kV k') p.1; rw [e1]; exact rp_kV _⟩
def tItems (ta : T3) : TA3 := fun E δ Q => ta E δ fun x δ1 => asDct x fun ds => Q (itemsD ds) δ1
theorem items3 {apos tpos : Pos} {elts : List Expr} {kk : Nat} (ha : PE3 X E a ta) (hbase : attributeBase a "items" X.env (eval a X.env) = eval a X.env := by rfl) (hline : (apos.endLine == pos.line) = true := by rfl) : PI3 X E (.Tuple elts kk tpos) (.Call (.Attribute a "items" apos) [] [] pos) (tItems ta) := by
  refine ⟨fun _ _ _ _ _ hx hq q => ha.mono _ _ _ _ _ hx (fun x δ1 z => by obtain ⟨ds, rfl, z⟩ := asDct.to z; exact asDct.of (hq _ _ z)) q, (pi_items ha.pe hbase hline).imp fun σ H R h => ?_⟩
  obtain ⟨π, F, ρ, δ, rel, q⟩ := h
  refine ⟨π, F, ρ, δ, rel, ha.mono _ _ _ _ _ (fun _ z => z) (fun x δ1 q v H1 ρ1 e1 rel1 r1 => ?_) q⟩
  obtain ⟨ds, rfl, q⟩ := asDct.to q
  cases r1 with
  | dic h n r => exact ⟨_, _, _, rfl, h, q _ H1 ρ1 e1 rel1 (jok_items h n r)⟩
def tKeys (ta : T3) : TA3 := fun E δ Q => ta E δ fun x δ1 => asDct x fun ds => Q (keysD ds) δ1
theorem keys3 {tg : Expr} (ha : PE3 X E a ta) : PI3 X E tg a (tKeys ta) := by
  refine ⟨fun _ _ _ _ _ hx hq q => ha.mono _ _ _ _ _ hx (fun x δ1 z => by obtain ⟨ds, rfl, z⟩ := asDct.to z; exact asDct.of (hq _ _ z)) q, (pi_keys ha.pe).imp fun σ H R h => ?_⟩
  obtain ⟨π, F, ρ, δ, rel, q⟩ := h
  refine ⟨π, F, ρ, δ, rel, ha.mono _ _ _ _ _ (fun _ z => z) (fun x δ1 q v H1 ρ1 e1 rel1 r1 => ?_) q⟩
  obtain ⟨ds, rfl, q⟩ := asDct.to q
  cases r1 with
  | dic h n r => exact ⟨_, _, rfl, .inl ⟨_, h, q _ H1 ρ1 e1 rel1 (jok_keys h n r)⟩⟩
/-! ### sum(d.values()) -/
theorem preSum_getD (is : List Int) : ∀ n, n ≤ is.length → preSum (fun i => is.getD i 0) n = (is.take n).sum
  | 0, _ => by simp [preSum]
  | n + 1, h => by
    have hn : n < is.length := by omega
    rw [List.take_succ, List.sum_append, ← preSum_getD is n (by omega), List.getElem?_eq_getElem hn]
    simp [preSum, hn]
def tSumVals (td : TE) : TE := fun σ H Q => td σ H fun x H1 => ∃ (a : Addr) (kvs : List (Key × V)) (is : List Int), x = V.ref a ∧ Rd H1 a (.dK kvs) ∧ kvs.map (·.2) = is.map V.int ∧ Q (.int is.sum) H1
theorem pe_sumVals {o : Expr} {p apos mpos : Pos} {td : TE} (hc : X.calm = true) (hg : Gl X "sum") (hm : X.mg "sum" = none) (hd : PE X o td) (hbase : attributeBase o "values" X.env (eval o X.env) = eval o X.env := by rfl) (hline : (apos.endLine == mpos.line) = true := by rfl)
    (hse : starEach [Expr.Call (.Attribute o "values" apos) [] [] mpos] X.env = [(false, eval (Expr.Call (.Attribute o "values" apos) [] [] mpos) X.env)] := by rfl) :
    PE X (.Call (.Name "sum" p) [.Call (.Attribute o "values" apos) [] [] mpos] [] pos) (tSumVals td) := by
  refine ⟨fun pins s σ H Q I h => ?_⟩
  refine wpAny_Call_Name_kw (ld_blt I hg hm (u := .builtin "sum") (by first | rfl | decide +kernel) ?_ (by first | decide +kernel | decide) (by first | decide +kernel | decide))
  rw [hse]
  refine PySem.callWith_builtin1 (wpAny_Call_method0_late hbase hline (thn (hd.run pins s σ H _ I h) fun v s1 ⟨x, H1, I1, r1, a, kvs, is, ex, ha, hv, q⟩ => ?_))
  subst ex
  obtain rfl : v = Value.ref a := r1
  obtain ⟨_, hsys, vs, rel, dof⟩ := dk_rd I1.hok ha
  obtain ⟨ep, dat⟩ := dof.dictAt
  have dat' := dat
  obtain ⟨ob, es, ho, ex, hdat, hko, hpr, hnd⟩ := dat'
  refine ⟨"dict", "dict.values", F.plainAttrs_dict, F.slot_dict_values, F.type_dict_values, ⟨ob, ho, ex.1⟩, fun b e => ?_, PySem.Calls.callWith_builtin rfl (PySem.evalArgs_none ?_)⟩
  · cases e
    exact ⟨ob, ho, ex.2.1⟩
  refine call_meetsIn F.slot_dict_values ⟨ob, ho, ex.1⟩ F.entry_dict_values (F.args_dict_values_1 _) (meets_dict_values (mixKind X.prog X.w) a hsys) ⟨⟨vs, dof⟩, ?_⟩
  have k1 : ∀ b u, s1.heap.get? b = some u → (s1.heap.push { cls := .type "dict_values", data := .fields #[.ref a] }).get? b = some u := fun b u e => Heap.get?_push_of_some _ e
  have dat1 : (s1.heap.push { cls := .type "dict_values", data := .fields #[.ref a] }).DictAt (mixKind X.prog X.w) a vs ep := dat.keep k1
  have hlv : vs.length = is.length := by
    have e1 := congrArg List.length hv
    rw [List.length_map, List.length_map] at e1
    rw [← e1]
    exact (KV.length rel).symm
  have hval : ∀ (i : Nat) (v : Value), (∃ k, vs[i]? = some (k, v)) → ∃ t, v = Value.int (is.getD i 0) t := fun i v ⟨k, hk⟩ => by
    obtain ⟨x, h1, h2⟩ := KV.at' rel hk
    have e1 : (kvs.map (·.2))[i]? = some x := by rw [List.getElem?_map, h1] <;> rfl
    rw [hv, List.getElem?_map] at e1
    obtain ⟨j, hj, e2⟩ := Option.map_eq_some_iff.mp e1
    subst e2
    obtain ⟨t, e3⟩ := h2
    refine ⟨t, ?_⟩
    rw [e3, List.getD_eq_getElem?_getD, hj] <;> rfl
  refine PySem.call_sum_walkG (wpAny_pyIter_values (v := s1.heap.objs.size) (d := a) ⟨_, Heap.get?_push_size _ rfl, rfl, rfl⟩ dat1 ?_)
  have hlt : a < s1.heap.objs.size := Heap.lt_size ho
  have hsz : (s1.heap.push { cls := .type "dict_values", data := .fields #[.ref a] }).objs.size = s1.heap.objs.size + 1 := Heap.size_push _ _
  refine ⟨_, _, _, _, _, _, fun i => is.getD i 0, rfl, Walks.dictValues (knd := mixKind X.prog X.w) (A := X.A.in1) (I.ok.hd hc) (s1.heap.push { cls := .type "dict_values", data := .fields #[.ref a] }).objs.size a (by rw [hsz]; exact Nat.ne_of_lt (Nat.lt_succ_of_lt hlt)) vs ep,
    ⟨⟨_, Heap.get?_push_size _ rfl, rfl, rfl⟩, dat1.keep fun b u e => Heap.get?_push_of_some _ e⟩, fun b hb => ?_, hval, fun h' tk t' hk => ?_⟩
  · show b < ((s1.heap.push _).push _).objs.size
    rw [Heap.size_push, Heap.size_push]
    rw [hsz] at hb
    rcases List.mem_cons.mp hb with e | hb
    · rw [e]
      exact Nat.lt_succ_self _
    · have e : b = a := List.mem_singleton.mp hb
      rw [e]
      exact Nat.lt_succ_of_lt (Nat.lt_succ_of_lt hlt)
  · refine ⟨.int is.sum, H1, I1.kept (t' := tk) fun b u e => hk b u (fun hmem => ?_) (Heap.get?_push_of_some _ (k1 b u e)), ⟨t', ?_⟩, q⟩
    · have e1 : b = (s1.heap.push { cls := .type "dict_values", data := .fields #[.ref a] }).objs.size := List.mem_singleton.mp hmem
      have e2 := Heap.lt_size e
      rw [hsz] at e1
      rw [e1] at e2
      exact absurd e2 (Nat.not_lt.mpr (Nat.le_succ _))
    · rw [hlv, preSum_getD is _ (Nat.le_refl _), List.take_length]
theorem rpkv_ints {K : PySem.W.Frag} {O : Addr → Prop} {H : Hp} : ∀ {kvs : List (Key × V)} {ds : List (D × D)} {is : List Int}, RpKV K O H kvs ds → ds.map (·.2) = is.map PyData.int → kvs.map (·.2) = is.map V.int
  | _, _, [], .nil, _ => rfl
  | _, _, i :: is, .nil, h => by cases h
  | _, _, [], .cons r t, h => by cases h
  | _, _, i :: is, .cons r t, h => by
    simp only [List.map_cons, List.cons.injEq] at h ⊢
    obtain ⟨h1, h2⟩ := h
    subst h1
    cases r
    exact ⟨rfl, rpkv_ints t h2⟩
/-- sum(d.values()), d data with int values -/
theorem sumV3 {p apos mpos : Pos} (hc : X.calm = true) (hg : Gl X "sum") (hm : X.mg "sum" = none) (ha : PE3 X E a ta) (hbase : attributeBase a "values" X.env (eval a X.env) = eval a X.env := by rfl) (hline : (apos.endLine == mpos.line) = true := by rfl)
    (hse : starEach [Expr.Call (.Attribute a "values" apos) [] [] mpos] X.env = [(false, eval (Expr.Call (.Attribute a "values" apos) [] [] mpos) X.env)] := by rfl) :
    PE3 X E (.Call (.Name "sum" p) [.Call (.Attribute a "values" apos) [] [] mpos] [] pos) (fun E δ Q => ta E δ fun x δ1 => asDct x fun ds => ∃ is : List Int, ds.map (·.2) = is.map PyData.int ∧ Q (.int is.sum) δ1) := by
  refine ⟨fun _ _ _ _ _ hx hq q => ha.mono _ _ _ _ _ hx (fun x δ1 z => by obtain ⟨ds, rfl, is, z1, z2⟩ := asDct.to z; exact asDct.of ⟨is, z1, hq _ _ z2⟩) q, (pe_sumVals hc hg hm ha.pe hbase hline hse).imp fun σ H Q h => ?_⟩
  obtain ⟨π, F, ρ, δ, rel, q⟩ := h
  refine ⟨π, F, ρ, δ, rel, ha.mono _ _ _ _ _ (fun _ z => z) (fun x δ1 q v H1 ρ1 e1 rel1 r1 => ?_) q⟩
  obtain ⟨ds, rfl, is, q1, q2⟩ := asDct.to q
  cases r1 with
  | dic h n r => exact ⟨_, _, is, rfl, .inr ⟨_, h⟩, rpkv_ints r q1, q2 _ H1 ρ1 e1 rel1 (.int _)⟩
/-! ### {1: 8, 2: 7, ..} of numbers -/
structure PC3 (X : Cx) (pos : Pos) (ks : List (Option Expr)) (vs : List Expr) (l : List (Int × Int)) : Prop where
  ex : ∃ trs, PPs X pos ks vs trs ∧ ∀ σ H Q, Q (l.map fun p => (V.int p.1, V.int p.2)) H → tPairs trs σ H Q
  all : ks.all (·.isSome) = true
  len : ks.length = vs.length
  lel : ks.length = l.length
theorem pc0 : PC3 X pos [] [] [] := ⟨⟨[], pps_nil, fun _ _ _ h => h⟩, rfl, rfl, rfl⟩
theorem pc1 {i j : Int} {n m : Nat} {p p2 : Pos} {ks : List (Option Expr)} {vs : List Expr} {l : List (Int × Int)} (h : PC3 X pos ks vs l) : PC3 X pos (some (.Constant (.int i) n p) :: ks) (.Constant (.int j) m p2 :: vs) ((i, j) :: l) := by
  obtain ⟨⟨trs, h1, h2⟩, h3, h4, h5⟩ := h
  refine ⟨⟨_, pps_cons pe_int pe_int h1, fun σ H Q q => ?_⟩, by simpa using h3, by simp [h4], by simp [h5]⟩
  exact h2 σ H _ q
def mergeI (acc : List (D × D)) (l : List (Int × Int)) : List (D × D) := l.foldl (fun acc kv => dputD acc (.int kv.1) (.int kv.2)) acc
theorem rpkv_merge {K : PySem.W.Frag} {O : Addr → Prop} {H : Hp} : ∀ (l : List (Int × Int)) {kvs : List (Key × V)} {ds : List (D × D)}, RpKV K O H kvs ds → RpKV K O H (mergeK kvs (l.map fun p => ((.inl p.1 : Key), V.int p.2))) (mergeI ds l)
  | [], _, _, h => h
  | p :: r, _, _, h => rpkv_merge r (h.put (k := .inl p.1) (.int p.2))
theorem dictC3 {ks : List (Option Expr)} {vs : List Expr} {l : List (Int × Int)} (h : PC3 X pos ks vs l) (h0 : l ≠ [] := by decide) (hl : l.length ≤ 15 := by decide) : PE3 X E (.Dict ks vs pos) (tC3 (.dict (mergeI [] l))) := by
  obtain ⟨⟨trs, h1, h2⟩, h3, h4, h5⟩ := h
  refine ⟨mono_tC3, (pe_lkR (pe_disp h1 h3 h4 (fun z => h0 (List.length_eq_zero_iff.mp (by rw [← h5, z]; rfl))) (by rw [h5]; exact hl))).imp fun σ H Q h => ?_⟩
  obtain ⟨π, F, ρ, δ, rel, q⟩ := h
  intro p hp
  refine h2 _ _ _ ⟨upd_same, l.map (fun p => ((.inl p.1 : Key), V.int p.2)), by rw [List.map_map]; rfl, by rw [List.length_map]; exact hl, p, _, rfl, upd_same, trivial, fun od => ?_⟩
  rw [updupd, updupd]
  exact q _ _ ρ (Ext.same (same_upd hp)) (rel.same (same_upd hp)) (.dic upd_same (rel.fresh hp) (rpkv_merge l .nil))
end
end M3

set_option Elab.async false
set_option linter.all false
set_option maxRecDepth 100000
set_option maxHeartbeats 4000000
namespace M3
open PySem L2
variable [TabsC]
/-! ## x = y if .. else ..: y's object is lent to x -/
section
variable {K : PySem.W.Frag} {π : Rho} {F : Addr → Prop} {ρ : Rho} {H : Hp} {σ : St} {δ : Sl}
theorem Rel.lend (r : Rel K π F ρ H σ δ) {i j t p : Nat} {o : Ob} (hij : i ≠ j) (e : δ[j]? = some (some (.own t o))) (hp : t = p + 1) :
    ∃ a, σ[j]? = some (some (.ref a)) ∧ ∃ ρ', Rel K π F ρ' H (σ.set i (some (.ref a))) ((δ.set i (some (.own t o))).set j (some (.lnt p))) ∧ Ext (Ow ρ) (Ow ρ) H (Ow ρ') H := by
  obtain ⟨a, h1, h2, h3, h4, h5⟩ := r.own j t o e
  have hj : j < δ.length := (List.getElem?_eq_some_iff.mp e).1
  refine ⟨a, h2, ?_⟩
  let ρ' : Rho := fun k => if k = i then some a else if k = j then none else ρ k
  have at_ : ∀ k b, ρ' k = some b → (k = i ∧ b = a) ∨ (k ≠ i ∧ k ≠ j ∧ ρ k = some b) := fun k b h => by
    simp only [ρ'] at h
    split at h
    · cases h; exact .inl ⟨by assumption, rfl⟩
    · split at h
      · cases h
      · exact .inr ⟨by assumption, by assumption, h⟩
  have le : ∀ b, Ow ρ' b → Ow ρ b := fun b ⟨k, h⟩ => by
    rcases at_ k b h with ⟨_, z⟩ | ⟨_, _, z⟩
    · rw [z]; exact ⟨j, h1⟩
    · exact ⟨k, z⟩
  have lex : ∀ b, Ox F ρ' b → Ox F ρ b := fun b z => z.imp (le b) id
  have hjl : j < (δ.set i (some (.own t o))).length := by rw [List.length_set]; exact hj
  refine ⟨ρ', ⟨by rw [List.length_set, List.length_set, List.length_set]; exact r.len, fun k y q => ?_, fun k t' o2 q => ?_, fun k l b q1 q2 => ?_, fun b z => r.trk b (lex b z), fun b z q => r.dis b z (le b q), r.pit, fun k p' q => ?_, r.tab⟩, ⟨fun _ _ h _ _ => h, fun b z => .inl (le b z), fun _ u h => ⟨u, h⟩, Tb.refl⟩⟩
  · by_cases hk : j = k
    · subst hk; rw [List.getElem?_set_self hjl] at q; cases y <;> cases q
    · rw [List.getElem?_set_ne hk] at q
      by_cases hi : i = k
      · subst hi
        by_cases hl : i < δ.length
        · rw [List.getElem?_set_self hl] at q; cases y <;> cases q
        · rw [List.getElem?_eq_none (by rw [List.length_set]; omega)] at q; cases q
      · rw [List.getElem?_set_ne hi] at q
        obtain ⟨w, k1, k2⟩ := r.dat k y q
        exact ⟨w, by rw [List.getElem?_set_ne hi]; exact k1, k2.mono lex⟩
  · by_cases hk : j = k
    · subst hk; rw [List.getElem?_set_self hjl] at q; cases q
    · rw [List.getElem?_set_ne hk] at q
      by_cases hi : i = k
      · subst hi
        by_cases hl : i < δ.length
        · rw [List.getElem?_set_self hl] at q; cases q
          exact ⟨a, by simp only [ρ', if_true], by rw [List.getElem?_set_self (by rw [r.len]; exact hl)], h3.mono lex, h4, h5⟩
        · rw [List.getElem?_eq_none (by rw [List.length_set]; omega)] at q; cases q
      · rw [List.getElem?_set_ne hi] at q
        obtain ⟨b, k1, k2, k3, k4⟩ := r.own k t' o2 q
        exact ⟨b, by simp only [ρ']; rw [if_neg (Ne.symm hi), if_neg (Ne.symm hk)]; exact k1, by rw [List.getElem?_set_ne hi]; exact k2, k3.mono lex, k4⟩
  · rcases at_ _ _ q1 with ⟨e1, e2⟩ | ⟨e1, e2, e3⟩
    · rcases at_ _ _ q2 with ⟨f1, f2⟩ | ⟨f1, f2, f3⟩
      · rw [e1, f1]
      · subst e2; exact absurd (r.inj _ _ _ f3 h1) f2
    · rcases at_ _ _ q2 with ⟨f1, f2⟩ | ⟨f1, f2, f3⟩
      · subst f2; exact absurd (r.inj _ _ _ e3 h1) e2
      · exact r.inj _ _ _ e3 f3
  · by_cases hk : j = k
    · subst hk; rw [List.getElem?_set_self hjl] at q; cases q
      exact ⟨a, h4 p hp, by rw [List.getElem?_set_ne hij]; exact h2⟩
    · rw [List.getElem?_set_ne hk] at q
      by_cases hi : i = k
      · subst hi
        by_cases hl : i < δ.length
        · rw [List.getElem?_set_self hl] at q; cases q
        · rw [List.getElem?_eq_none (by rw [List.length_set]; omega)] at q; cases q
      · rw [List.getElem?_set_ne hi] at q
        obtain ⟨b, k1, k2⟩ := r.ln k p' q
        exact ⟨b, k1, by rw [List.getElem?_set_ne hi]; exact k2⟩
/-- what was lent comes back -/
theorem Rel.retake (r : Rel K π F ρ H σ δ) {i j t p : Nat} {o : Ob} (hij : i ≠ j) (e : δ[i]? = some (some (.own t o))) (e2 : δ[j]? = some (some (.lnt p))) (hp : t = p + 1) :
    ∃ ρ', Rel K π F ρ' H σ ((δ.set j (some (.own t o))).set i none) ∧ Ext (Ow ρ) (Ow ρ) H (Ow ρ') H := by
  obtain ⟨a, h1, h2, h3, h4, h5⟩ := r.own i t o e
  obtain ⟨a', l1, l2⟩ := r.ln j p e2
  have ea : a = a' := by have := h4 p hp; rw [this] at l1; exact Option.some.inj l1
  subst ea
  have hi : i < δ.length := (List.getElem?_eq_some_iff.mp e).1
  have hj : j < δ.length := (List.getElem?_eq_some_iff.mp e2).1
  let ρ' : Rho := fun k => if k = j then some a else if k = i then none else ρ k
  have at_ : ∀ k b, ρ' k = some b → (k = j ∧ b = a) ∨ (k ≠ j ∧ k ≠ i ∧ ρ k = some b) := fun k b h => by
    simp only [ρ'] at h
    split at h
    · cases h; exact .inl ⟨by assumption, rfl⟩
    · split at h
      · cases h
      · exact .inr ⟨by assumption, by assumption, h⟩
  have le : ∀ b, Ow ρ' b → Ow ρ b := fun b ⟨k, h⟩ => by
    rcases at_ k b h with ⟨_, z⟩ | ⟨_, _, z⟩
    · rw [z]; exact ⟨i, h1⟩
    · exact ⟨k, z⟩
  have lex : ∀ b, Ox F ρ' b → Ox F ρ b := fun b z => z.imp (le b) id
  have hil : i < (δ.set j (some (.own t o))).length := by rw [List.length_set]; exact hi
  refine ⟨ρ', ⟨by rw [List.length_set, List.length_set]; exact r.len, fun k y q => ?_, fun k t' o2 q => ?_, fun k l b q1 q2 => ?_, fun b z => r.trk b (lex b z), fun b z q => r.dis b z (le b q), r.pit, (r.ln.setδ fun p z => by cases z).setδ (fun p z => by cases z), r.tab⟩, ⟨fun _ _ h _ _ => h, fun b z => .inl (le b z), fun _ u h => ⟨u, h⟩, Tb.refl⟩⟩
  · by_cases hk : i = k
    · subst hk; rw [List.getElem?_set_self hil] at q; cases y <;> cases q
    · rw [List.getElem?_set_ne hk] at q
      by_cases hl : j = k
      · subst hl; rw [List.getElem?_set_self hj] at q; cases y <;> cases q
      · rw [List.getElem?_set_ne hl] at q
        obtain ⟨w, k1, k2⟩ := r.dat k y q
        exact ⟨w, k1, k2.mono lex⟩
  · by_cases hk : i = k
    · subst hk; rw [List.getElem?_set_self hil] at q; cases q
    · rw [List.getElem?_set_ne hk] at q
      by_cases hl : j = k
      · subst hl; rw [List.getElem?_set_self hj] at q; cases q
        exact ⟨a, by simp only [ρ', if_true], l2, h3.mono lex, h4, h5⟩
      · rw [List.getElem?_set_ne hl] at q
        obtain ⟨b, k1, k2, k3, k4⟩ := r.own k t' o2 q
        exact ⟨b, by simp only [ρ']; rw [if_neg (Ne.symm hl), if_neg (Ne.symm hk)]; exact k1, k2, k3.mono lex, k4⟩
  · rcases at_ _ _ q1 with ⟨e1, e2⟩ | ⟨e1, e2, e3⟩
    · rcases at_ _ _ q2 with ⟨f1, f2⟩ | ⟨f1, f2, f3⟩
      · rw [e1, f1]
      · subst e2; exact absurd (r.inj _ _ _ f3 h1) f2
    · rcases at_ _ _ q2 with ⟨f1, f2⟩ | ⟨f1, f2, f3⟩
      · subst f2; exact absurd (r.inj _ _ _ e3 h1) e2
      · exact r.inj _ _ _ e3 f3
end
def retK (i j : Nat) (δ : Sl) (k : Sl → Prop) : Prop := match δ[j]?, δ[i]? with
  | some (some (.lnt p)), some (some (.own t o)) => t = p + 1 ∧ k ((δ.set j (some (.own t o))).set i none)
  | _, _ => k δ
section
variable {X : Cx} {E : XK} {a b c e f : Expr} {ta tb tc te tf : T3} {pos : Pos}
theorem back3 (i j : Nat) {sts : List Stmt} {t : TS3} (hij : i ≠ j) (h : PSs3 X E sts t) : PSs3 X E sts (fun E D δ => retK i j δ fun δ' => t E D δ') := by
  refine ⟨fun _ _ _ _ _ hx hd q => ?_, h.ps.imp fun D σ H q => ?_⟩
  · unfold retK at q ⊢
    split at q
    · exact ⟨q.1, h.mono _ _ _ _ _ hx hd q.2⟩
    · exact h.mono _ _ _ _ _ hx hd q
  · obtain ⟨π, F, ρ, δ, rel, q⟩ := q
    unfold retK at q
    split at q
    · rename_i p t o e1 e2
      obtain ⟨ρ', rel', ex⟩ := rel.retake hij e2 e1 q.1
      exact ⟨π, F, _, _, rel', h.mono _ _ _ _ _ (liftX.mono ex) (liftD.mono ex) q.2⟩
    · exact ⟨π, F, ρ, δ, rel, q⟩
def tLend (i j : Nat) (tt : TB3) (to : TW3) : TS3 := fun E D δ => tt E δ fun b δ1 => br b (onOwn δ1 j fun t o => ∃ p, t = p + 1 ∧ D.nx ((δ1.set i (some (.own t o))).set j (some (.lnt p)))) (to E δ1 fun o δ2 => D.nx (δ2.set i (some (.own 0 o))))
theorem lend3 (i j : Nat) {to : TW3} {tt : TB3} {x y : Str} {test : Expr} {pos' p2 p3 : Pos} (hN : X.N.Nodup) (ht : PT3 X E test tt) (he : POw X E e to) (hij : i ≠ j := by decide) (hi : X.N[i]? = some x := by rfl) (hj : X.N[j]? = some y := by rfl)
    (hv : Vis X.env.scope y := by first | exact Or.inl rfl | exact Or.inr (Or.inl rfl) | exact Or.inr (Or.inr rfl)) (hdb : (y == ("__debug__" : Str)) = false := by decide) (hcd : (y == ("__classdict__" : Str)) = false := by decide)
    (hx : Loc X.env.scope x := by first | exact Or.inl rfl | exact Or.inr rfl) (hs : swapsWith (.IfExp test (.Name y p2) e p3) (some (.Name x pos')) pos.line X.env = pure false := by rfl)
    (hf : X.fn x = true ∨ X.env.scope.names.lookup x = some .local := by first | exact .inl rfl | exact .inr rfl | assumption) : PS3 X E (.Assign [.Name x pos'] (.IfExp test (.Name y p2) e p3) pos) (tLend i j tt to) := by
  have mo : MonoS (tLend i j tt to) := fun _ _ _ _ _ hx hd q => ht.mono _ _ _ _ _ hx (fun b δ1 z => br.imp z (fun z => by
    obtain ⟨t, o, e, p, z1, z2⟩ := onOwn.to z
    exact onOwn.of e ⟨p, z1, hd.nx _ z2⟩) (fun z => he.mono _ _ _ _ _ hx (fun o δ2 => hd.nx _) z)) q
  refine ⟨mo, (ps_set hN hi hx (pe_ifExp ht.pe (pe_var hj hv hdb hcd) he.pe) hs hf).imp fun D σ H h => ?_⟩
  obtain ⟨π, F, ρ, δ, rel, q⟩ := h
  refine ⟨π, F, ρ, δ, rel, ht.mono _ _ _ _ _ (fun _ z => z) (fun b δ1 q v H1 ρ1 e1 rel1 r1 => ?_) q⟩
  subst r1
  refine (q.imp (fun q => ?_) (fun q => ?_)).ite
  · obtain ⟨t, o, e, p, z1, z2⟩ := q.to
    obtain ⟨a, hσ, ρ', rel', ex⟩ := rel1.lend hij e z1
    exact ⟨_, hσ, z2 _ H1 ρ' (e1.trans ex) rel'⟩
  · refine ⟨π, F, ρ1, δ1, rel1, he.mono _ _ _ _ _ (liftX.mono e1) (fun o δ2 q a H2 ρ2 k e2 rel2 hk ha np ho => ?_) q⟩
    obtain ⟨ρ', r', e'⟩ := rel2.move (i := i) hk ha ho np
    exact q _ H2 ρ' ((e1.trans e2).trans e') r'
end
end M3

set_option Elab.async false
set_option linter.all false
set_option maxRecDepth 100000
set_option maxHeartbeats 4000000
namespace M3
open PySem L2
variable [TabsC]
/-! ## exceptions -/
def veB : List Value := [.type "ValueError", .type "Exception", .type "BaseException", .type "object"]
/-- a class of the program over ValueError, without __init__ -/
structure ExCls (K : PySem.W.Frag) (mg : Str → Option Value) (n : Str) (C : Addr) : Prop where
  g : mg n = some (.ref C)
  x : PySem.W.excIn K C veB "ValueError.__new__" = true
  k : PySem.W.keepIn K (.ref C) = true
  b : PySem.W.subIn K (.ref C) (.type "BaseException") = some true
  t : PySem.W.typeIn K (.ref C) = some (.type "type")
/-- promises of defs that may raise -/
structure PrmX where
  p : Sp3
  mono : MonoP p
abbrev TakesE (X : Cx) (E : XK) : Prop := Takes X (fun cls d _ H => E cls d H)
theorem fnX {P : Program} {w : World} {K : PySem.W.Frag} {mg : Str → Option Value} {base : Heap} {x qual : Str} {st : Stmt} {f : Addr} {fd : FuncData} {N ps : List Str} {k : Nat} {S : PrmX} (F : Fun K x qual st f fd) (Sc : FnScope N ps (defScope st)) (len : ∀ ws Q E, S.p ws Q E → ws.length = ps.length)
    (hbody : ∀ (cdv : Value) (A : Around) (outer : List Env) (s : Shared) (H : Hp) (E : XK), Room k (A.deeper (PyProof.Rows.envOfC qual (defScope st) s.heap.objs.size f cdv)) →
      TakesE (cxOf (L2.CX P w) P w K mg base N qual (defScope st) f cdv A outer s H E) E → PassesOwn (model P w) (cxOf (L2.CX P w) P w K mg base N qual (defScope st) f cdv A outer s H E).A (cxOf (L2.CX P w) P w K mg base N qual (defScope st) f cdv A outer s H E).env (cxOf (L2.CX P w) P w K mg base N qual (defScope st) f cdv A outer s H E).xe →
      ∃ t, PSs3 (cxOf (L2.CX P w) P w K mg base N qual (defScope st) f cdv A outer s H E) E (defBody st) t ∧ ∀ (ws : List W) (Q : R3 → List Ob → Prop) (Ex : Ex3 → Prop), S.p ws Q Ex → normK (start3 N ws) fun δ => t Ex (ends ws Q) δ) :
    FnOk P w K mg base (L2.CX P w) (k + 1) f fd ps (liftF K S.p) := by
  refine F.okX Sc (fun vs H Q E h => ?_) (fun cdv A outer s H vs Q E hr h => ?_)
  · obtain ⟨π, Fo, ρ, ws, rel, _, _, h⟩ := h
    rw [← len ws _ _ h]
    simpa using rel.len
  · obtain ⟨π, Fo, ρ, ws, rel, tg, hk, h⟩ := h
    obtain ⟨t, h1, h2⟩ := hbody cdv A outer s H E hr (takes_of rfl rfl rfl rfl) (passes_of rfl)
    have h3 := h2 ws _ _ h
    rw [normK_eq] at h3
    refine ⟨_, h1.ps, π, Fo, ρ, _, rel.start N, h1.mono _ _ _ _ _ (fun _ z => z) ⟨fun δ q σ' H' ρ' e' rel' => ?_, fun r δ q v σ' H' ρ' e' rel' rr => ?_, fun _ (z : False) => z.elim, fun _ (z : False) => z.elim⟩ h3⟩
    · obtain ⟨os, q1, q2⟩ := outs_ok rel' ws 0 _ q
      exact q1 .non H' ρ' e' q2 rel'.trk rel'.dis .non
    · obtain ⟨os, q1, q2⟩ := outs_ok rel' ws 0 _ q
      exact q1 v H' ρ' e' q2 rel'.trk rel'.dis rr
structure CalX (P : Program) (w : World) (K : PySem.W.Frag) (mg : Str → Option Value) (base : Heap) (k : Nat) (x : Str) (ps : List Str) (S : PrmX) : Prop where
  ex : ∃ f fd, FnOk P w K mg base (L2.CX P w) k f fd ps (liftF K S.p) ∧ mg x = some (.ref f) ∧ PySem.W.keepIn K (.ref f) = true ∧ Binds K fd ps []
section
variable {X : Cx} {E : XK} {k j : Nat} {ps : List Str} {e : Expr} {es : List Expr} {x : Str} {p pos : Pos} {pat : List (Option Nat)} {t : TV3}
/-- a call of a def that raises nothing, where others may -/
theorem clCE {S : PrmC} (C : CalC X.prog X.w X.K X.mg X.base k x ps S) (hr : Room j X.A) (ha : PAr X E (e :: es) pat t) (hk : k ≤ j := by first | decide | omega) (hg : Gl X x := by rfl) (nd : (pat.filterMap id).Nodup := by decide) (hdb : (x == ("__debug__" : Str)) = false := by decide)
    (he : starEach (e :: es) X.env = (false, eval e X.env) :: starEach es X.env := by rfl) (hpl : (backTo pos (starEach es X.env)).any (·.1) = false := by rfl) : PE3 X E (.Call (.Name x p) (e :: es) [] pos) (tCall3 S.p pat t) := by
  obtain ⟨f, fd, F, hm, hk', hb⟩ := C.ex
  exact call3 F S.monoP (hr.mono hk) hg hm hk' hb pass0 ha nd hdb he hpl
/-- a call of a def that may raise -/
theorem clX {S : PrmX} (C : CalX X.prog X.w X.K X.mg X.base k x ps S) (tk : TakesE X E) (hr : Room j X.A) (ha : PAr X E (e :: es) pat t) (hk : k ≤ j := by first | decide | omega) (hg : Gl X x := by rfl) (nd : (pat.filterMap id).Nodup := by decide) (hdb : (x == ("__debug__" : Str)) = false := by decide)
    (he : starEach (e :: es) X.env = (false, eval e X.env) :: starEach es X.env := by rfl) (hpl : (backTo pos (starEach es X.env)).any (·.1) = false := by rfl) : PE3 X E (.Call (.Name x p) (e :: es) [] pos) (tCall3 S.p pat t) := by
  obtain ⟨f, fd, F, hm, hk', hb⟩ := C.ex
  exact call3 F S.mono (hr.mono hk) hg hm hk' hb (passes_call tk fun _ _ _ _ h => h) ha nd hdb he hpl
/-- raise C('..') -/
theorem raise3 {n m : Str} {C : Addr} {i : Nat} {p2 p3 : Pos} (T : ExCls X.K X.mg n C) (tk : TakesE X E) (hc : X.calm = true := by rfl) (hg : Gl X n := by rfl) (hdb : (n == ("__debug__" : Str)) = false := by decide) :
    PS3 X E (.Raise (some (.Call (.Name n p) [.Constant (.str m) i p2] [] p3)) none pos) (fun E _ _ => E ⟨.ref C, none⟩) := by
  refine ⟨fun _ _ _ _ _ hx _ q => hx _ q, (ps_raise hc tk (pmk_own PySem.F.excBase_ValueError T.x T.g T.k (raises_own T.b T.t) hg hdb)).imp fun D σ H h => ?_⟩
  obtain ⟨π, F, ρ, δ, rel, q⟩ := h
  exact q none H ρ Ext.refl rfl
end
end M3

set_option Elab.async false
set_option linter.all false
set_option maxRecDepth 100000
set_option maxHeartbeats 4000000
namespace M3
open PySem L2
variable [TabsC]
/-! ## try -/
/-- readings of a try's body: what is wished of an exception sees the slots -/
abbrev TX3 := (Ex3 → Sl → Prop) → End3 → Sl → Prop
def MonoX (t : TX3) : Prop := ∀ (W W' : Ex3 → Sl → Prop) (D D' : End3) (δ : Sl), (∀ e δ, W e δ → W' e δ) → D.le D' → t W D δ → t W' D' δ
def liftW (K : PySem.W.Frag) (W : WX) (π : Rho) (F : Addr → Prop) (ρ : Rho) (H : Hp) : Ex3 → Sl → Prop := fun ex δ' => ∀ d σ' H' ρ', Ex F ρ H ρ' H' → Rel K π F ρ' H' σ' δ' → XOk H' ex.arg d → W ex.cls d σ' H'
theorem liftW.mono {K : PySem.W.Frag} {W : WX} {π : Rho} {F : Addr → Prop} {ρ ρ1 : Rho} {H H1 : Hp} (e : Ex F ρ H ρ1 H1) : ∀ ex δ, liftW K W π F ρ H ex δ → liftW K W π F ρ1 H1 ex δ :=
  fun ex δ h d σ' H' ρ' e' rel x => h d σ' H' ρ' (e.trans e') rel x
def liftB (K : PySem.W.Frag) (W : WX) (t : TX3) : TS := fun D σ H => ∃ π F ρ δ, Rel K π F ρ H σ δ ∧ t (liftW K W π F ρ H) (liftD D K π F ρ H) δ
structure PB3 (X : Cx) (b : List Stmt) (t : TX3) : Prop where
  mono : MonoX t
  run : ∀ (W : WX) (pn : List (Addr × Obj)) (xe : Value → Shared → Prop), Takes (X.tr pn xe) W → PassesOwn (model X.prog X.w) X.A X.env xe → PSs (X.tr pn xe) b (liftB X.K W t)
/-- a call that may raise, its arguments data -/
def tCX (sp : Sp3) (n : Nat) (t : TV3) (W : Ex3 → Sl → Prop) (δ : Sl) (Q : D → Sl → Prop) : Prop := t (fun _ => False) δ fun ds δ1 => mkW (List.replicate n none) ds δ1 0 fun ws => sp ws (fun r os => retD r fun x => Q x δ1) (fun ex => W ex δ1)
def liftC (K : PySem.W.Frag) (W : WX) (tc : (Ex3 → Sl → Prop) → Sl → (D → Sl → Prop) → Prop) : TE := fun σ H Q => ∃ π F ρ δ, Rel K π F ρ H σ δ ∧ tc (liftW K W π F ρ H) δ fun y δ' => ∀ v H' ρ', Ex F ρ H ρ' H' → Rel K π F ρ' H' σ δ' → Rp K (Ox F ρ') H' v y → Q v H'
theorem rep_none : ∀ n : Nat, (List.replicate n (none : Option Nat)).filterMap id = []
  | 0 => rfl
  | n + 1 => rep_none n
theorem putB_none : ∀ (n : Nat) (δ : Sl) (os : List Ob), putB (List.replicate n none) δ os = δ
  | 0, _, _ => rfl
  | n + 1, δ, os => putB_none n δ os
section
variable {X : Cx} {k j : Nat} {ps : List Str} {e : Expr} {es : List Expr} {x : Str} {p pos : Pos} {t : TV3} {n : Nat}
theorem mono_tCX {S : PrmX} (ha : Mono3 t) {W W' : Ex3 → Sl → Prop} {δ : Sl} {Q Q' : D → Sl → Prop} (hw : ∀ e δ, W e δ → W' e δ) (hq : ∀ y δ, Q y δ → Q' y δ) (h : tCX S.p n t W δ Q) : tCX S.p n t W' δ Q' :=
  ha _ _ _ _ _ (fun _ z => z) (fun ds δ1 => mkW_mono (fun ws => S.mono _ _ _ _ _ (fun r os => retD_mono fun x => hq _ _) fun ex => hw ex δ1) _ _ _ _) h
theorem peX {S : PrmX} (C : CalX X.prog X.w X.K X.mg X.base k x ps S) {W : WX} (tk : Takes X W) (hr : Room j X.A) (ha : PAr X XF (e :: es) (List.replicate n none) t) (hk : k ≤ j) (hg : Gl X x) (hdb : (x == ("__debug__" : Str)) = false)
    (he : starEach (e :: es) X.env = (false, eval e X.env) :: starEach es X.env) (hpl : (backTo pos (starEach es X.env)).any (·.1) = false) : PE X (.Call (.Name x p) (e :: es) [] pos) (liftC X.K W (tCX S.p n t)) := by
  obtain ⟨f, fd, F, hm, hk', hb⟩ := C.ex
  refine (pe_callS F (hr.mono hk) hg hm hk' hb (fun σ => passAt tk σ) ha.pa hdb he hpl).imp fun σ H Q h => ?_
  obtain ⟨π, Fo, ρ, δ, rel, q⟩ := h
  refine ⟨π, Fo, ρ, δ, rel, ha.mono _ _ _ _ _ (fun _ z => z.elim) (fun ds δ1 q vs H1 ρ1 e1 rel1 ao => ?_) q⟩
  obtain ⟨ws, q, ar⟩ := args_of ao 0 _ q
  have nd : ((List.replicate n (none : Option Nat)).filterMap id).Nodup := by rw [rep_none]; exact List.nodup_nil
  have relc := ar.rel rel1 nd
  have none' : ∀ i, piC (List.replicate n none) ρ1 i = none := fun i => by
    unfold piC
    cases h : (List.replicate n (none : Option Nat))[i]? with
    | none => rfl
    | some o =>
      have := List.eq_of_mem_replicate (List.mem_of_getElem? h)
      subst this; rfl
  refine ⟨piC (List.replicate n none) ρ1, FC Fo ρ1 (List.replicate n none), piC (List.replicate n none) ρ1, ws, relc, ar.tagged, fun j hj => none' j, S.mono _ _ _ _ _ (fun r os q v H' ρ' e' oo tk' ds rr => ?_) (fun ex z d H' ρ' e' xo => ?_) q⟩
  · obtain ⟨r2, ex2, lex⟩ := ar.after rel1 e' oo (fun _ _ => rfl) rel1.inj (fun _ z => .inl z) (fun b z => tk' b (.inl z))
    rw [putB_none] at r2
    unfold retD at q
    split at q
    · exact q v H' ρ1 (e1.trans ex2) r2 (Rp.mono lex rr)
    · obtain ⟨a, rfl, oa, na, vs', h1, h2⟩ := rr
      refine q _ H' ρ1 (e1.trans ex2) r2 (.lst ⟨h1, fun z => ?_⟩ (h2.mono lex))
      have : H1 a = none := by
        rcases e'.ow a oa with w | w
        · obtain ⟨j, w⟩ := w; exact absurd w (na j)
        · exact w
      obtain ⟨u, hu⟩ := rel1.trk a z
      rw [this] at hu; cases hu
    · exact q.elim
  · obtain ⟨r3, e3⟩ := rel1.calm (H' := H') (fun b o hb t => e'.fr b o hb (fun ⟨i, z⟩ => by rw [none' i] at z; cases z) t) e'.tk e'.tb
    exact z d σ H' ρ1 (e1.trans e3) r3 xo
/-! ### bodies -/
variable {pos2 : Pos}
/-- f(..) -/
theorem pbExpr {S : PrmX} (C : CalX X.prog X.w X.K X.mg X.base k x ps S) (hr : Room j X.A) (ha : ∀ pn xe, PAr (X.tr pn xe) XF (e :: es) (List.replicate n none) t) (hk : k ≤ j := by first | decide | omega) (hg : Gl X x := by rfl) (hdb : (x == ("__debug__" : Str)) = false := by decide)
    (he : starEach (e :: es) X.env = (false, eval e X.env) :: starEach es X.env := by rfl) (hpl : (backTo pos (starEach es X.env)).any (·.1) = false := by rfl) (hw : swapsWith (.Call (.Name x p) (e :: es) [] pos) none pos2.line X.env = pure false := by rfl) :
    PB3 X [.Expr (.Call (.Name x p) (e :: es) [] pos) pos2] (fun W D δ => tCX S.p n t W δ fun _ δ1 => D.nx δ1) := by
  refine ⟨fun _ _ _ _ _ hw hd q => mono_tCX (ha [] (fun _ _ => False)).mono hw (fun _ δ => hd.nx δ) q, fun W pn xe tk po => pss_one ((ps_expr (peX (X := X.tr pn xe) C tk hr (ha pn xe) hk hg hdb he hpl) hw).imp fun D σ H h => ?_)⟩
  obtain ⟨π, F, ρ, δ, rel, q⟩ := h
  exact ⟨π, F, ρ, δ, rel, mono_tCX (ha [] (fun _ _ => False)).mono (fun _ _ z => z) (fun y δ1 q v H' ρ' e' rel' r' => q σ H' ρ' e' rel') q⟩
/-- y = f(..) -/
theorem pbSet (i : Nat) {y : Str} {pos' : Pos} {S : PrmX} (C : CalX X.prog X.w X.K X.mg X.base k x ps S) (hr : Room j X.A) (hN : X.N.Nodup) (ha : ∀ pn xe, PAr (X.tr pn xe) XF (e :: es) (List.replicate n none) t) (hk : k ≤ j := by first | decide | omega) (hg : Gl X x := by rfl) (hdb : (x == ("__debug__" : Str)) = false := by decide)
    (he : starEach (e :: es) X.env = (false, eval e X.env) :: starEach es X.env := by rfl) (hpl : (backTo pos (starEach es X.env)).any (·.1) = false := by rfl) (hi : X.N[i]? = some y := by rfl) (hy : Loc X.env.scope y := by first | exact Or.inl rfl | exact Or.inr rfl)
    (hs : swapsWith (.Call (.Name x p) (e :: es) [] pos) (some (.Name y pos')) pos2.line X.env = pure false := by rfl) (hf : X.fn y = true ∨ X.env.scope.names.lookup y = some .local := by first | exact .inl rfl | exact .inr rfl | assumption) :
    PB3 X [.Assign [.Name y pos'] (.Call (.Name x p) (e :: es) [] pos) pos2] (fun W D δ => tCX S.p n t W δ fun v δ1 => D.nx (δ1.set i (some (.d v)))) := by
  refine ⟨fun _ _ _ _ _ hw hd q => mono_tCX (ha [] (fun _ _ => False)).mono hw (fun _ δ => hd.nx _) q, fun W pn xe tk po => pss_one ((ps_set (X := X.tr pn xe) hN hi hy (peX (X := X.tr pn xe) C tk hr (ha pn xe) hk hg hdb he hpl) hs hf).imp fun D σ H h => ?_)⟩
  obtain ⟨π, F, ρ, δ, rel, q⟩ := h
  exact ⟨π, F, ρ, δ, rel, mono_tCX (ha [] (fun _ _ => False)).mono (fun _ _ z => z) (fun y δ1 q v H' ρ' e' rel' r' => q _ H' _ (e'.trans Ext.drop) (rel'.setD r')) q⟩
/-- return f(..) -/
theorem pbRet {S : PrmX} (C : CalX X.prog X.w X.K X.mg X.base k x ps S) (hr : Room j X.A) (ha : ∀ pn xe, PAr (X.tr pn xe) XF (e :: es) (List.replicate n none) t) (hk : k ≤ j := by first | decide | omega) (hg : Gl X x := by rfl) (hdb : (x == ("__debug__" : Str)) = false := by decide)
    (he : starEach (e :: es) X.env = (false, eval e X.env) :: starEach es X.env := by rfl) (hpl : (backTo pos (starEach es X.env)).any (·.1) = false := by rfl) :
    PB3 X [.Return (some (.Call (.Name x p) (e :: es) [] pos)) pos2] (fun W D δ => tCX S.p n t W δ fun v δ1 => D.rt (.d v) δ1) := by
  refine ⟨fun _ _ _ _ _ hw hd q => mono_tCX (ha [] (fun _ _ => False)).mono hw (fun _ δ => hd.rt _ δ) q, fun W pn xe tk po => pss_one ((ps_ret (X := X.tr pn xe) (peX (X := X.tr pn xe) C tk hr (ha pn xe) hk hg hdb he hpl)).imp fun D σ H h => ?_)⟩
  obtain ⟨π, F, ρ, δ, rel, q⟩ := h
  exact ⟨π, F, ρ, δ, rel, mono_tCX (ha [] (fun _ _ => False)).mono (fun _ _ z => z) (fun y δ1 q v H' ρ' e' rel' r' => q v σ H' ρ' e' rel' r') q⟩
/-- if test: .. else: .. -/
theorem pbIf {c : Expr} {a b : List Stmt} {tc : TB3} {ta tb : TX3} (hc : ∀ pn xe, PT3 (X.tr pn xe) XF c tc) (ha : PB3 X a ta) (hb : PB3 X b tb) : PB3 X [.If c a b pos] (fun W D δ => tc (fun _ => False) δ fun v δ1 => br v (ta W D δ1) (tb W D δ1)) := by
  refine ⟨fun _ _ _ _ _ hw hd q => (hc [] (fun _ _ => False)).mono _ _ _ _ _ (fun _ z => z) (fun v δ1 z => z.imp (ha.mono _ _ _ _ _ hw hd) (hb.mono _ _ _ _ _ hw hd)) q, fun W pn xe tk po => pss_one ((ps_if (hc pn xe).pe (ha.run W pn xe tk po) (hb.run W pn xe tk po)).imp fun D σ H h => ?_)⟩
  obtain ⟨π, F, ρ, δ, rel, q⟩ := h
  refine ⟨π, F, ρ, δ, rel, (hc pn xe).mono _ _ _ _ _ (fun _ z => z.elim) (fun v δ1 q x H1 ρ1 e1 rel1 r1 => ?_) q⟩
  subst r1
  refine (q.imp (fun q => ?_) (fun q => ?_)).ite
  · exact ⟨π, F, ρ1, δ1, rel1, ha.mono _ _ _ _ _ (liftW.mono e1) (liftD.mono e1) q⟩
  · exact ⟨π, F, ρ1, δ1, rel1, hb.mono _ _ _ _ _ (liftW.mono e1) (liftD.mono e1) q⟩
/-- nothing -/
theorem pbNil : PB3 X [] (fun _ D δ => D.nx δ) := by
  refine ⟨fun _ _ _ _ _ _ hd q => hd.nx _ q, fun W pn xe tk po => pss_nil.imp fun D σ H h => ?_⟩
  obtain ⟨π, F, ρ, δ, rel, q⟩ := h
  exact q σ H ρ Ext.refl rel
/-- try: .. except C: .. -/
theorem tryO3 {E : XK} {C : Addr} {cn : Str} {body suite : List Stmt} {b0 : Stmt} {np pos' : Pos} {tb : TX3} {ts : TS3} (hb : PB3 X body tb) (hsu : ∀ (a : Addr) (oe : Obj) (pn : List (Addr × Obj)), PSs3 (X.suite a ((a, oe) :: pn)) XF (b0 :: suite) ts) (hm : X.mg cn = some (.ref C))
    (hs : X.stack = X.env :: X.outer := by rfl) (hf : X.env.frame = some X.env.locals := by rfl) (hg : Gl X cn := by rfl) (hdb : (cn == ("__debug__" : Str)) = false := by decide) :
    PS3 X E (.Try body [.ExceptHandler (some (.Name cn np)) none (b0 :: suite) pos'] [] [] pos) (fun _ D δ => tb (fun ex δ' => PySem.W.exmOne X.K ex.cls (.ref C) = some true ∧ ts (fun _ => False) D δ') D δ) := by
  have sm := (hsu 0 ⟨.none, none, .fields #[], #[]⟩ []).mono
  refine ⟨fun _ _ _ _ _ _ hd q => hb.mono _ _ _ _ _ (fun ex δ' z => ⟨z.1, sm _ _ _ _ _ (fun _ z => z) hd z.2⟩) hd q, (ps_try_only (ts := fun _ _ _ => liftS X.K XF ts) hs hf ⟨hg, hdb, .inl hm⟩ takes0 (fun W pn xe tk po => hb.run W pn xe tk po) (fun a oe cls d pn hz hfd => (hsu a oe pn).ps)).imp fun D σ H h => ?_⟩
  obtain ⟨π, F, ρ, δ, rel, q⟩ := h
  refine ⟨π, F, ρ, δ, rel, hb.mono _ _ _ _ _ (fun ex δ' z d σ' H' ρ' e' rel' xo => ?_) ⟨fun _ z => z, fun _ _ z => z, fun _ z => z, fun _ z => z⟩ q⟩
  exact ⟨true, z.1, fun _ a ha => ⟨π, F, ρ', δ', rel', sm _ _ _ _ _ (fun _ z => z.elim) (liftD.mono e') z.2⟩, fun z => nomatch z⟩
end
end M3

set_option Elab.async false
set_option linter.all false
set_option maxRecDepth 100000
set_option maxHeartbeats 4000000
namespace M3
open PySem L2
variable [TabsC]
/-! ## except C as e: .. isinstance(e, D) .. -/
def onAd (δ : Sl) (i : Nat) (k : Addr → Prop) : Prop := match δ[i]? with | some (some (.ad a)) => k a | _ => False
theorem onAd.to {δ : Sl} {i : Nat} {k : Addr → Prop} (h : onAd δ i k) : ∃ a, δ[i]? = some (some (.ad a)) ∧ k a := by
  unfold onAd at h
  split at h
  · exact ⟨_, by assumption, h⟩
  · exact h.elim
theorem onAd.of {δ : Sl} {i : Nat} {a : Addr} {k : Addr → Prop} (e : δ[i]? = some (some (.ad a))) (h : k a) : onAd δ i k := by
  unfold onAd; rw [e]; exact h
section
variable {X : Cx}
def rIsX (K : PySem.W.Frag) (cls : Value) (d : Option Addr) (a : Addr) : List V → Hp → VK → Prop := fun xs H Q => ∃ C, cls = .ref C ∧ d = none ∧ ExcC K C ∧ rIsE K C a xs H Q
theorem call_isX {a : Addr} {oe : Obj} {pn : List (Addr × Obj)} {cls : Value} {d : Option Addr} (hz : Zc cls d oe) (hf : ∃ vs, oe.data = .fields vs) : CallR (X.suite a ((a, oe) :: pn)) (.builtin "isinstance") (rIsX X.K cls d a) := by
  intro pins s σ H xs us Q I r h
  obtain ⟨C, rfl, rfl, hC, h⟩ := h
  exact call_isE hC hz hf pins s σ H xs us Q I r h
/-- isinstance(e, D), e the exception that the suite holds; cls its class -/
theorem isE3 (i : Nat) {E : XK} {a : Addr} {oe : Obj} {pn : List (Addr × Obj)} {cls : Value} {d : Option Addr} {y cn : Str} {c : V} {cv : Value} {p p1 p2 pos : Pos} (hz : Zc cls d oe) (hf : ∃ vs, oe.data = .fields vs)
    (hg : Gl X "isinstance") (hm : X.mg "isinstance" = none) (hcv : ∀ u, RelV c u → u = cv) (hc : PE (X.suite a ((a, oe) :: pn)) (.Name cn p2) (tC c))
    (hN : X.N[i]? = some y := by rfl) (hv : Vis X.env.scope y := by first | exact Or.inl rfl | exact Or.inr (Or.inl rfl) | exact Or.inr (Or.inr rfl)) (hd : (y == ("__debug__" : Str)) = false := by decide) (hcd : (y == ("__classdict__" : Str)) = false := by decide)
    (he : starEach [.Name y p1, .Name cn p2] X.env = (false, eval (.Name y p1) X.env) :: starEach [.Name cn p2] X.env := by rfl) (he2 : starEach [.Name cn p2] X.env = (false, eval (.Name cn p2) X.env) :: starEach [] X.env := by rfl)
    (hpl : (backTo pos (starEach [.Name cn p2] X.env)).any (·.1) = false := by rfl) :
    PE3 (X.suite a ((a, oe) :: pn)) E (.Call (.Name "isinstance" p) [.Name y p1, .Name cn p2] [] pos) (fun _ δ Q => onAd δ i fun a' => a' = a ∧ ∃ (C : Addr) (b : Bool), cls = .ref C ∧ d = none ∧ ExcC X.K C ∧ PySem.W.kitOne X.K (.ref C) cv = some b ∧ Q (.bool b) δ) := by
  refine ⟨fun _ _ _ _ _ _ hq q => ?_, (mk2 (X := X.suite a ((a, oe) :: pn)) (call_isX hz hf) hg hm (by decide +kernel) (pe_var (X := X.suite a ((a, oe) :: pn)) hN hv hd hcd) hc (by decide) (by decide) he he2 hpl).imp fun σ H Q h => ?_⟩
  · obtain ⟨a', e, rfl, C, b, h1, h2, h3, h4, h5⟩ := q.to
    exact onAd.of e ⟨rfl, C, b, h1, h2, h3, h4, hq _ _ h5⟩
  · obtain ⟨π, F, ρ, δ, rel, q⟩ := h
    obtain ⟨a', e, rfl, C, b, h1, h2, h3, h4, h5⟩ := q.to
    obtain ⟨v, k1, k2⟩ := rel.dat i (.ad a') e
    have k2 : v = .ref a' := k2
    subst k2
    exact ⟨_, k1, C, h1, h2, h3, c, cv, b, rfl, hcv, h4, h5 _ H ρ Ext.refl rel (.bl _)⟩
theorem Rel.setV {K : PySem.W.Frag} {π : Rho} {F : Addr → Prop} {ρ : Rho} {H : Hp} {σ : St} {δ : Sl} (r : Rel K π F ρ H σ δ) {i : Nat} {v : V} {x : DV} (h : RpV K (Ox F ρ) H v x) : Rel K π F (M3.drop ρ i) H (σ.set i (some v)) (δ.set i (some x.w)) where
  len := by rw [List.length_set, List.length_set]; exact r.len
  dat := fun j y e => by
    by_cases hj : i = j
    · subst hj
      by_cases hl : i < δ.length
      · rw [List.getElem?_set_self hl] at e
        have : x = y := by cases x <;> cases y <;> cases e <;> rfl
        subst this
        exact ⟨v, by rw [List.getElem?_set_self (by rw [r.len]; exact hl)], h.mono dropx_le⟩
      · rw [List.getElem?_eq_none (by rw [List.length_set]; omega)] at e; cases e
    · rw [List.getElem?_set_ne hj] at e
      obtain ⟨u, h1, h2⟩ := r.dat j y e
      exact ⟨u, by rw [List.getElem?_set_ne hj]; exact h1, h2.mono dropx_le⟩
  own := fun j t o e => by
    by_cases hj : i = j
    · subst hj
      by_cases hl : i < δ.length
      · rw [List.getElem?_set_self hl] at e; cases x <;> cases e
      · rw [List.getElem?_eq_none (by rw [List.length_set]; omega)] at e; cases e
    · rw [List.getElem?_set_ne hj] at e
      obtain ⟨a, h1, h2, h3, h4⟩ := r.own j t o e
      exact ⟨a, drop_ne h1 (Ne.symm hj), by rw [List.getElem?_set_ne hj]; exact h2, h3.mono dropx_le, h4⟩
  inj := fun j k a h1 h2 => r.inj j k a (drop_some h1).2 (drop_some h2).2
  trk := fun a z => r.trk a (dropx_le a z)
  dis := fun a z q => r.dis a z (drop_le a q)
  pit := r.pit
  ln := r.ln.set fun p z => by cases x <;> cases z
  tab := r.tab
def End3.un (D : End3) (i : Nat) : End3 := { nx := fun δ => D.nx (δ.set i none), rt := D.rt, bk := fun δ => D.bk (δ.set i none), ct := fun δ => D.ct (δ.set i none) }
theorem End3.un_le {D D' : End3} (h : D.le D') (i : Nat) : (D.un i).le (D'.un i) := ⟨fun _ => h.nx _, fun _ _ => h.rt _ _, fun _ => h.bk _, fun _ => h.ct _⟩
/-- try: .. except C as e: .. -/
theorem tryA3 (i : Nat) {E : XK} {C : Addr} {cn y : Str} {body suite : List Stmt} {b0 : Stmt} {np pos pos' : Pos} {tb : TX3} {ts : Addr → Value → Option Addr → TS3} (hN : X.N.Nodup) (hb : PB3 X body tb)
    (hsu : ∀ (a : Addr) (oe : Obj) (cls : Value) (d : Option Addr) (pn : List (Addr × Obj)), Zc cls d oe → (∃ vs, oe.data = .fields vs) → PSs3 (X.suite a ((a, oe) :: pn)) XF (b0 :: suite) (ts a cls d)) (hm : X.mg cn = some (.ref C))
    (hi : X.N[i]? = some y := by rfl) (hln : X.env.kindOf y = some .local := by rfl) (hs : X.stack = X.env :: X.outer := by rfl) (hf : X.env.frame = some X.env.locals := by rfl) (hg : Gl X cn := by rfl) (hdb : (cn == ("__debug__" : Str)) = false := by decide) :
    PS3 X E (.Try body [.ExceptHandler (some (.Name cn np)) (some y) (b0 :: suite) pos'] [] [] pos) (fun _ D δ => tb (fun ex δ' => (ex.arg = none ∧ PySem.W.exmOne X.K ex.cls (.ref C) = some true) ∧ ∀ a, ts a ex.cls none (fun _ => False) (D.un i) (δ'.set i (some (.ad a)))) D δ) := by
  have sm : ∀ a cls d, MonoS (ts a cls d) := fun a cls d => (hsu a ⟨cls, d, .fields #[], #[]⟩ cls d [] ⟨rfl, rfl⟩ ⟨_, rfl⟩).mono
  refine ⟨fun _ _ _ _ _ _ hd q => hb.mono _ _ _ _ _ (fun ex δ' z => ⟨z.1, fun a => sm _ _ _ _ _ _ _ _ (fun _ z => z) (End3.un_le hd i) (z.2 a)⟩) hd q, (ps_try_as (i := i) (ts := fun a cls d => liftS X.K XF (ts a cls d)) hs hf hN hi hln ⟨hg, hdb, .inl hm⟩ takes0 (fun W pn xe tk po => hb.run W pn xe tk po) (fun a oe cls d pn hz hfd => (hsu a oe cls d pn hz hfd).ps)).imp fun D σ H h => ?_⟩
  obtain ⟨π, F, ρ, δ, rel, q⟩ := h
  refine ⟨π, F, ρ, δ, rel, hb.mono _ _ _ _ _ (fun ex δ' z d σ' H' ρ' e' rel' xo => ?_) ⟨fun _ z => z, fun _ _ z => z, fun _ z => z, fun _ z => z⟩ q⟩
  obtain ⟨⟨z0, z1⟩, z2⟩ := z
  rw [z0] at xo
  have hd : d = none := xo
  subst hd
  refine ⟨true, z1, fun _ a ha => ⟨π, F, _, _, rel'.setV (i := i) (x := .ad a) (v := .ref a) rfl, sm _ _ _ _ _ _ _ _ (fun _ z => z.elim) ⟨fun δ2 q σ2 H2 ρ2 e2 rel2 => ?_, fun r δ2 q v σ2 H2 ρ2 e2 rel2 rr => ?_, fun δ2 q σ2 H2 ρ2 e2 rel2 => ?_, fun δ2 q σ2 H2 ρ2 e2 rel2 => ?_⟩ (z2 a)⟩, fun z => nomatch z⟩
  · exact q _ H2 _ (((e'.trans Ext.drop).trans e2).trans Ext.drop) rel2.setN
  · exact q v σ2 H2 ρ2 ((e'.trans Ext.drop).trans e2) rel2 rr
  · exact q _ H2 _ (((e'.trans Ext.drop).trans e2).trans Ext.drop) rel2.setN
  · exact q _ H2 _ (((e'.trans Ext.drop).trans e2).trans Ext.drop) rel2.setN
end
end M3

set_option Elab.async false
set_option linter.all false
set_option maxRecDepth 100000
set_option maxHeartbeats 4000000
namespace M3
open PySem L2
variable [TabsC]
/-! ## a def in a variable, called; a def as an argument -/
structure FnAt (P : Program) (w : World) (K : PySem.W.Frag) (mg : Str → Option Value) (base : Heap) (k : Nat) (f : Addr) (S : PrmX) : Prop where
  ex : ∃ fd ps, FnOk P w K mg base (L2.CX P w) k f fd ps (liftF K S.p) ∧ PySem.W.keepIn K (.ref f) = true ∧ Binds K fd ps []
theorem CalX.at {P : Program} {w : World} {K : PySem.W.Frag} {mg : Str → Option Value} {base : Heap} {k : Nat} {x : Str} {ps : List Str} {S : PrmX} (C : CalX P w K mg base k x ps S) : ∃ f, mg x = some (.ref f) ∧ FnAt P w K mg base k f S := by
  obtain ⟨f, fd, F, hm, hk, hb⟩ := C.ex
  exact ⟨f, hm, ⟨fd, ps, F, hk, hb⟩⟩
section
variable {X : Cx} {CX : CXT} {k j i : Nat} {f : Addr} {fd : FuncData} {ps : List Str} {sp : Sp} {E : St → XK} {y : Str} {p pos pos2 : Pos} {e : Expr} {es : List Expr} {t : TA}
theorem pe_callSV (F : FnOk X.prog X.w X.K X.mg X.base CX k f fd ps sp) (hr : Room k X.A) (hk : PySem.W.keepIn X.K (.ref f) = true) (hb : Binds X.K fd ps []) (hx : ∀ σ, PassesAt CX X σ (E σ))
    (ha : PA X (e :: es) t) (hN : X.N[i]? = some y) (hv : Vis X.env.scope y) (hd : (y == ("__debug__" : Str)) = false) (hcd : (y == ("__classdict__" : Str)) = false) (he : starEach (e :: es) X.env = (false, eval e X.env) :: starEach es X.env) (hpl : (backTo pos (starEach es X.env)).any (·.1) = false)
    (pins : List (Addr × Obj)) (s : Shared) (σ : St) (H : Hp) (Q : VK) (I : Inv X pins σ H s) (hσ : σ[i]? = some (some (.ref f))) (h : t σ H fun vs H1 => sp vs H1 Q (E σ)) :
    wpAny (model X.prog X.w) X.A (eval (.Call (.Name y p) (e :: es) [] pos) X.env) (EP X pins σ Q) X.xe s := by
  refine wpAny_Call_Name_kw (thn ((pe_var hN hv hd hcd).run pins s σ H (fun v H1 => v = .ref f ∧ H1 = H) I ⟨_, hσ, rfl, rfl⟩) fun u s1 ⟨x, H1, I1, r, e1, e2⟩ => ?_)
  subst e1 e2
  obtain rfl : u = Value.ref f := r
  refine PySem.W.callWith_K (h₀ := X.base) I1.ok.mod.kin hk (thn (ha.run pos pins s1 σ H1 _ I1 h) fun us s2 ⟨vs, H2, I2, r, q⟩ => ⟨I2.kIn, ?_⟩) he hpl
  exact run_fnS F hr hb (hx σ) I2 r q
end
def tCXv (P : Program) (w : World) (K : PySem.W.Frag) (mg : Str → Option Value) (base : Heap) (i j n : Nat) (t : TV3) (W : Ex3 → Sl → Prop) (δ : Sl) (Q : D → Sl → Prop) : Prop :=
  onAd δ i fun f => ∃ (k : Nat) (S : PrmX), (FnAt P w K mg base k f S ∧ k ≤ j) ∧ tCX S.p n t W δ Q
section
variable {X : Cx} {k j i : Nat} {ps : List Str} {e : Expr} {es : List Expr} {y : Str} {p pos pos2 : Pos} {t : TV3} {n : Nat}
theorem mono_tCXv {P : Program} {w : World} {K : PySem.W.Frag} {mg : Str → Option Value} {base : Heap} (ha : Mono3 t) {W W' : Ex3 → Sl → Prop} {δ : Sl} {Q Q' : D → Sl → Prop} (hw : ∀ e δ, W e δ → W' e δ) (hq : ∀ y δ, Q y δ → Q' y δ) (h : tCXv P w K mg base i j n t W δ Q) : tCXv P w K mg base i j n t W' δ Q' := by
  obtain ⟨f, e, k, S, h1, h2⟩ := onAd.to h
  exact onAd.of e ⟨k, S, h1, mono_tCX ha hw hq h2⟩
theorem peXv {W : WX} (tk : Takes X W) (hr : Room j X.A) (ha : PAr X XF (e :: es) (List.replicate n none) t) (hN : X.N[i]? = some y) (hv : Vis X.env.scope y) (hd : (y == ("__debug__" : Str)) = false) (hcd : (y == ("__classdict__" : Str)) = false)
    (he : starEach (e :: es) X.env = (false, eval e X.env) :: starEach es X.env) (hpl : (backTo pos (starEach es X.env)).any (·.1) = false) : PE X (.Call (.Name y p) (e :: es) [] pos) (liftC X.K W (tCXv X.prog X.w X.K X.mg X.base i j n t)) := by
  refine ⟨fun pins s σ H Q I h => ?_⟩
  obtain ⟨π, Fo, ρ, δ, rel, q⟩ := h
  obtain ⟨f, ef, k, S, ⟨⟨fd, ps, F, hk', hb⟩, hk⟩, q⟩ := onAd.to q
  obtain ⟨v, k1, k2⟩ := rel.dat i (.ad f) ef
  have k2 : v = .ref f := k2
  subst k2
  refine pe_callSV F (hr.mono hk) hk' hb (fun σ => passAt tk σ) ha.pa hN hv hd hcd he hpl pins s σ H Q I k1 ?_
  refine ⟨π, Fo, ρ, δ, rel, ha.mono _ _ _ _ _ (fun _ z => z.elim) (fun ds δ1 q vs H1 ρ1 e1 rel1 ao => ?_) q⟩
  obtain ⟨ws, q, ar⟩ := args_of ao 0 _ q
  have nd : ((List.replicate n (none : Option Nat)).filterMap id).Nodup := by rw [rep_none]; exact List.nodup_nil
  have relc := ar.rel rel1 nd
  have none' : ∀ i, piC (List.replicate n none) ρ1 i = none := fun i => by
    unfold piC
    cases h : (List.replicate n (none : Option Nat))[i]? with
    | none => rfl
    | some o =>
      have := List.eq_of_mem_replicate (List.mem_of_getElem? h)
      subst this; rfl
  refine ⟨piC (List.replicate n none) ρ1, FC Fo ρ1 (List.replicate n none), piC (List.replicate n none) ρ1, ws, relc, ar.tagged, fun j hj => none' j, S.mono _ _ _ _ _ (fun r os q v H' ρ' e' oo tk' ds rr => ?_) (fun ex z d H' ρ' e' xo => ?_) q⟩
  · obtain ⟨r2, ex2, lex⟩ := ar.after rel1 e' oo (fun _ _ => rfl) rel1.inj (fun _ z => .inl z) (fun b z => tk' b (.inl z))
    rw [putB_none] at r2
    unfold retD at q
    split at q
    · exact q v H' ρ1 (e1.trans ex2) r2 (Rp.mono lex rr)
    · obtain ⟨a, rfl, oa, na, vs', h1, h2⟩ := rr
      refine q _ H' ρ1 (e1.trans ex2) r2 (.lst ⟨h1, fun z => ?_⟩ (h2.mono lex))
      have : H1 a = none := by
        rcases e'.ow a oa with w | w
        · obtain ⟨j, w⟩ := w; exact absurd w (na j)
        · exact w
      obtain ⟨u, hu⟩ := rel1.trk a z
      rw [this] at hu; cases hu
    · exact q.elim
  · obtain ⟨r3, e3⟩ := rel1.calm (H' := H') (fun b o hb t => e'.fr b o hb (fun ⟨i, z⟩ => by rw [none' i] at z; cases z) t) e'.tk e'.tb
    exact z d σ H' ρ1 (e1.trans e3) r3 xo
/-- g(..), g a variable that holds a def -/
theorem pbExprV (i : Nat) (hr : Room j X.A) (ha : ∀ pn xe, PAr (X.tr pn xe) XF (e :: es) (List.replicate n none) t) (hN : X.N[i]? = some y := by rfl) (hv : Vis X.env.scope y := by first | exact Or.inl rfl | exact Or.inr (Or.inl rfl) | exact Or.inr (Or.inr rfl)) (hd : (y == ("__debug__" : Str)) = false := by decide) (hcd : (y == ("__classdict__" : Str)) = false := by decide)
    (he : starEach (e :: es) X.env = (false, eval e X.env) :: starEach es X.env := by rfl) (hpl : (backTo pos (starEach es X.env)).any (·.1) = false := by rfl) (hw : swapsWith (.Call (.Name y p) (e :: es) [] pos) none pos2.line X.env = pure false := by rfl) :
    PB3 X [.Expr (.Call (.Name y p) (e :: es) [] pos) pos2] (fun W D δ => tCXv X.prog X.w X.K X.mg X.base i j n t W δ fun _ δ1 => D.nx δ1) := by
  refine ⟨fun _ _ _ _ _ hw hd q => mono_tCXv (ha [] (fun _ _ => False)).mono hw (fun _ δ => hd.nx δ) q, fun W pn xe tk po => pss_one ((ps_expr (peXv (X := X.tr pn xe) tk hr (ha pn xe) hN hv hd hcd he hpl) hw).imp fun D σ H h => ?_)⟩
  obtain ⟨π, F, ρ, δ, rel, q⟩ := h
  exact ⟨π, F, ρ, δ, rel, mono_tCXv (ha [] (fun _ _ => False)).mono (fun _ _ z => z) (fun y δ1 q v H' ρ' e' rel' r' => q σ H' ρ' e' rel') q⟩
end
section
variable {X : Cx} {E : XK} {es : List Expr} {pat : List (Option Nat)} {t : TV3}
/-- a def of the program handed on -/
theorem rg3 {x : Str} {f : Addr} {pos' : Pos} (hm : X.mg x = some (.ref f)) (hr : PAr X E es pat t) (hg : Gl X x := by rfl) (hd : (x == ("__debug__" : Str)) = false := by decide) (hs : starEach (.Name x pos' :: es) X.env = (false, eval (.Name x pos') X.env) :: starEach es X.env := by rfl) :
    PAr X E (.Name x pos' :: es) (none :: pat) (fun E δ Q => t E δ fun ys δ1 => Q (.ad f :: ys) δ1) := by
  refine ⟨fun _ _ _ _ _ he hq q => hr.mono _ _ _ _ _ he (fun ys δ1 => hq _ _) q, (pa_cons (pe_glob (v := .ref f) hg hm rfl hd) hr.pa hs).imp fun σ H Q h => ?_⟩
  obtain ⟨π, F, ρ, δ, rel, q⟩ := h
  refine ⟨π, F, ρ, δ, rel, hr.mono _ _ _ _ _ (fun _ z => z) (fun y δ2 q us H2 ρ2 e2 rel2 r2 => ?_) q⟩
  exact q (_ :: us) H2 ρ2 e2 rel2 (.d (x := .ad f) rfl r2)
end
def sA (f : Addr → Spec) : Spec := fun ws Q => match ws with | .ad x :: r => f x r Q | _ => False
theorem sA.inv {f ws Q} (h : sA f ws Q) : ∃ x r, ws = .ad x :: r ∧ f x r Q := by
  unfold sA at h; split at h
  · exact ⟨_, _, rfl, h⟩
  · exact h.elim
theorem sA.mono {f} (h : ∀ x, MonoSp (f x)) : MonoSp (sA f) := fun ws Q Q' hq z => by
  obtain ⟨x, r, rfl, z⟩ := sA.inv z; exact h x r Q Q' hq z
end M3

set_option Elab.async false
set_option linter.all false
set_option maxRecDepth 100000
set_option maxHeartbeats 4000000
namespace M3
open PySem L2
variable [TabsC]
/-! ## a raising def where it raises nothing; defs as values; addresses by names -/
def PrmX.quiet (S : PrmX) : PrmC := ⟨fun ws Q => S.p ws Q (fun _ => False), fun _ _ _ h z => S.mono _ _ _ _ _ h (fun _ z => z) z⟩
theorem FnOk.quiet {P : Program} {w : World} {K : PySem.W.Frag} {mg : Str → Option Value} {base : Heap} {k : Nat} {f : Addr} {fd : FuncData} {ps : List Str} {S : PrmX} (F : FnOk P w K mg base (L2.CX P w) k f fd ps (liftF K S.p)) : FnOk P w K mg base CX0 k f fd ps (liftF K S.quiet.p) := by
  have h : ∀ vs H Q E, liftF K S.quiet.p vs H Q E → liftF K S.p vs H Q XF := fun vs H Q E ⟨π, Fo, ρ, ws, h1, h2, h3, h4⟩ => ⟨π, Fo, ρ, ws, h1, h2, h3, S.mono _ _ _ _ _ (fun _ _ z => z) (fun _ z => z.elim) h4⟩
  refine ⟨fun vs H Q E q => F.len vs H Q _ (h _ _ _ _ q), fun A outer s H args us vs Q E hr he hb hv hs => codeAny_mono (F.run A outer s H args us vs Q _ hr he hb hv (h _ _ _ _ hs)) fun r s' q => ?_⟩
  unfold CR at q ⊢
  split at q
  · exact q
  · exact q
  · obtain ⟨_, _, _, _, _, _, _, _, _, _, _, _, z⟩ := q
    exact z
theorem CalX.quiet {P : Program} {w : World} {K : PySem.W.Frag} {mg : Str → Option Value} {base : Heap} {k : Nat} {x : Str} {ps : List Str} {S : PrmX} (C : CalX P w K mg base k x ps S) : CalC P w K mg base k x ps S.quiet := by
  obtain ⟨f, fd, F, hm, hk, hb⟩ := C.ex
  exact ⟨f, fd, FnOk.quiet F, hm, hk, hb⟩
/-- an address by its name in the module -/
def ccOf (mg : Str → Option Value) (x : Str) : Addr := match mg x with | some (.ref a) => a | _ => 0
theorem ccOf_of {mg : Str → Option Value} {x : Str} {a : Addr} (h : mg x = some (.ref a)) : ccOf mg x = a := by unfold ccOf; rw [h]
/-- a def of the program as a value -/
structure FnV (P : Program) (w : World) (K : PySem.W.Frag) (mg : Str → Option Value) (base : Heap) (k : Nat) (x : Str) (f : Addr) (S : PrmX) : Prop where
  m : mg x = some (.ref f)
  f : FnAt P w K mg base k f S
theorem CalX.val {P : Program} {w : World} {K : PySem.W.Frag} {mg : Str → Option Value} {base : Heap} {k : Nat} {x : Str} {ps : List Str} {S : PrmX} (C : CalX P w K mg base k x ps S) : FnV P w K mg base k x (ccOf mg x) S := by
  obtain ⟨f, hm, hf⟩ := C.at
  rw [ccOf_of hm]; exact ⟨hm, hf⟩
theorem kit_self {K : PySem.W.Frag} {C : Addr} : PySem.W.kitOne K (.ref C) (.ref C) = some true := if_pos (beq_self_eq_true _)
theorem kit_ne {K : PySem.W.Frag} {A C : Addr} (h1 : PySem.W.subIn K (.ref A) (.ref A) = some true) (h2 : PySem.W.subIn K (.ref A) (.ref C) = some false) (hd : PySem.W.hasDictIn K C = true) (ht : PySem.W.typeIn K (.ref C) = some (.type "type")) : PySem.W.kitOne K (.ref A) (.ref C) = some false := by
  have hne : ((Value.ref A == Value.ref C) = true) → False := fun e => by
    have e2 := eq_of_beq e
    injection e2 with e3
    subst e3
    rw [h1] at h2
    cases h2
  have e2 : ((PySem.W.clsIn K C).isSome && PySem.W.typeIn K (.ref C) == some (.type "type")) = true := by
    rw [ht]
    unfold PySem.W.hasDictIn at hd
    cases h : PySem.W.clsIn K C with
    | none => rw [h] at hd; cases hd
    | some cd => rfl
  unfold PySem.W.kitOne
  rw [if_neg hne]
  show (if ((PySem.W.clsIn K C).isSome && PySem.W.typeIn K (.ref C) == some (.type "type")) = true then PySem.W.subIn K (.ref A) (.ref C) else none) = some false
  rw [if_pos e2]
  exact h2
end M3

set_option Elab.async false
set_option linter.all false
set_option maxRecDepth 100000
set_option maxHeartbeats 4000000
namespace M3
open PySem L2
variable [TabsC]
/-! ## members of tables -/
def isNKey (x : D) : Prop := match x with | .int _ => True | .str _ => True | .none => True | _ => False
def dhas (ds : List (D × D)) (x : D) : Bool := (dgetD ds x).isSome
theorem keyEq_none (a : D) : keyEq a .none = false := by cases a <;> rfl
theorem dhas_none (ds : List (D × D)) : dhas ds .none = false := by
  unfold dhas dgetD
  rw [show (ds.find? fun kv => keyEq kv.1 .none) = none from List.find?_eq_none.mpr fun x _ => by rw [keyEq_none]; exact Bool.false_ne_true]
  rfl
section
variable {X : Cx} {E : XK} {a b c e f : Expr} {ta tb tc te tf : T3} {pos : Pos}
def rInDc (f : Bool → Bool) : R2 := fun y x H Q => (∃ a o, x = .ref a ∧ DGet H a y o ∧ Q (.bl (f o.isSome)) H) ∨ ∃ a kvs, x = .ref a ∧ y = .non ∧ Rd H a (.dK kvs) ∧ Q (.bl (f false)) H
theorem op_inDc (hu : X.A.units + 64 < cLine) : OpR X (compareOp .In) (rInDc id) := by
  intro pins s σ H y x u v Q I ry rx h
  rcases h with ⟨a, o, rfl, g, q⟩ | ⟨a, kvs, rfl, rfl, e, q⟩
  · obtain rfl : v = Value.ref a := rx
    exact d_in (by omega) I g ry fun s' I' => ⟨.bl o.isSome, H, I', rfl, q⟩
  · obtain rfl : v = Value.ref a := rx
    obtain rfl : u = Value.none := ry
    exact d_inNone I e fun s' I' => ⟨.bl false, H, I', rfl, q⟩
theorem op_notInDc (hu : X.A.units + 64 < cLine) : OpR X (compareOp .NotIn) (rInDc not) := by
  intro pins s σ H y x u v Q I ry rx h
  rcases h with ⟨a, o, rfl, g, q⟩ | ⟨a, kvs, rfl, rfl, e, q⟩
  · obtain rfl : v = Value.ref a := rx
    exact d_notIn (by omega) I g ry fun s' I' => ⟨.bl (!o.isSome), H, I', rfl, q⟩
  · obtain rfl : v = Value.ref a := rx
    obtain rfl : u = Value.none := ry
    exact d_notInNone I e fun s' I' => ⟨.bl true, H, I', rfl, q⟩
/-- what the table at a tells of a key -/
theorem dc_look {K : PySem.W.Frag} {O : Addr → Prop} {H : Hp} {f : Bool → Bool} {a : Addr} {kvs : List (Key × V)} {ds : List (D × D)} {x : D} {v : V} {Q : VK} (h : Rd H a (.dK kvs)) (r : RpKV K O H kvs ds) (hx : isNKey x) (rx : Rp K O H v x) (q : Q (.bl (f (dhas ds x))) H) : rInDc f v (.ref a) H Q := by
  have at_ : ∀ k : Key, v = kV k → x = kD k → rInDc f v (.ref a) H Q := fun k e1 e2 => by
    subst e1 e2
    refine .inl ⟨a, valV kvs k, rfl, .inl ⟨kvs, k, h, rfl, rfl⟩, ?_⟩
    unfold dhas at q
    rcases r.get k with ⟨g1, g2⟩ | ⟨v, d, g1, g2, g3⟩
    · rw [g1]; rw [g2] at q; exact q
    · rw [g1]; rw [g2] at q; exact q
  cases x with
  | none =>
    cases rx
    rw [dhas_none] at q
    exact .inr ⟨a, kvs, rfl, rfl, h, q⟩
  | int i => cases rx; exact at_ (.inl i) rfl rfl
  | str i => cases rx; exact at_ (.inr i) rfl rfl
  | _ => exact hx.elim
def rIn4 (f : Bool → Bool) (x y : D) (k : D → Prop) : Prop := match y with | .dict ds => isNKey x ∧ k (.bool (f (dhas ds x))) | _ => rIn3 f x y k
theorem m_rIn4 {f} : M2 (rIn4 f) := fun x y k k' hk h => by
  unfold rIn4 at h ⊢
  split at h
  · exact ⟨h.1, hk _ h.2⟩
  · exact m_rIn3 x _ k k' hk h
theorem ok_rIn4 {K : PySem.W.Frag} {f : Bool → Bool} : OpOk2 K (fun x y H Q => rInR K f x y H Q ∨ rInDc f x y H Q) (rIn4 f) := fun O H v u x y k Q tr rx ry h hq => by
  unfold rIn4 at h
  split at h
  · cases ry with
    | dic hh n r => exact .inr (dc_look (f := f) (.inr ⟨_, hh⟩) r h.1 rx (hq _ _ H (Same.refl H) (.bl _) h.2))
  · exact .inl (ok_rIn3 O H v u x _ k Q tr rx ry h hq)
theorem in4 (hu : X.A.units + 64 < cLine) (ha : PE3 X E a ta) (hb : PE3 X E b tb) (hl : behindInMarks .In b = false := by rfl) : PE3 X E (.Compare a [.In] [b] pos) (tB2 (rIn4 id) ta tb) := bin3 (fun _ _ h h' => pe_cmpR ((op_inR hu).or (op_inDc hu)) h h' hl) ok_rIn4 m_rIn4 ha hb
theorem notIn4 (hu : X.A.units + 64 < cLine) (ha : PE3 X E a ta) (hb : PE3 X E b tb) (hl : behindInMarks .NotIn b = false := by rfl) : PE3 X E (.Compare a [.NotIn] [b] pos) (tB2 (rIn4 not) ta tb) := bin3 (fun _ _ h h' => pe_cmpR ((op_notInR hu).or (op_notInDc hu)) h h' hl) ok_rIn4 m_rIn4 ha hb
theorem in4T (hu : X.A.units + 64 < cLine) (ha : PE3 X E a ta) (hb : PE3 X E b tb) (hl : behindInMarks .In b = false := by rfl) : PT3 X E (.Compare a [.In] [b] pos) (tBool (tB2 (rIn4 id) ta tb)) := bin3T (fun _ _ h h' => pt_cmpR ((op_inR hu).or (op_inDc hu)) h h' hl) ok_rIn4 m_rIn4 ha hb
theorem notIn4T (hu : X.A.units + 64 < cLine) (ha : PE3 X E a ta) (hb : PE3 X E b tb) (hl : behindInMarks .NotIn b = false := by rfl) : PT3 X E (.Compare a [.NotIn] [b] pos) (tBool (tB2 (rIn4 not) ta tb)) := bin3T (fun _ _ h h' => pt_cmpR ((op_notInR hu).or (op_notInDc hu)) h h' hl) ok_rIn4 m_rIn4 ha hb
/-! ### the table owned -/
def tInO (f : Bool → Bool) (i : Nat) (ta : T3) : T3 := fun E δ Q => ta E δ fun y δ1 => onDct δ1 i fun _ ds => isNKey y ∧ Q (.bool (f (dhas ds y))) δ1
theorem mono_tInO {f i} (h : Mono3 ta) : Mono3 (tInO f i ta) := fun _ _ _ _ _ hx hq q => h _ _ _ _ _ hx (fun y δ1 z => by
  obtain ⟨t, ds, e, z1, z2⟩ := z.to
  exact onDct.of e ⟨z1, hq _ _ z2⟩) q
theorem lift_inO {f : Bool → Bool} {i : Nat} (ha : Mono3 ta) {σ : St} {H : Hp} {Q : VK} (h : lift X.K E (Rp X.K) (tInO f i ta) σ H Q) : tOp (rInDc f) (lift X.K E (Rp X.K) ta) (tVar i) σ H Q := by
  obtain ⟨π, F, ρ, δ, rel, q⟩ := h
  refine ⟨π, F, ρ, δ, rel, ha _ _ _ _ _ (fun _ z => z) (fun y δ1 q v H1 ρ1 e1 rel1 r1 => ?_) q⟩
  obtain ⟨t, ds, e, q1, q2⟩ := q.to
  obtain ⟨a, _, hσ, ⟨kvs, h3, h4⟩, _⟩ := rel1.own i _ _ e
  exact ⟨_, hσ, dc_look (f := f) (.inl h3) h4 q1 r1 (q2 _ H1 ρ1 e1 rel1 (.bl _))⟩
variable {x : Str} {pos' : Pos}
theorem inO3 (i : Nat) (hu : X.A.units + 64 < cLine) (ha : PE3 X E a ta) (hN : X.N[i]? = some x := by rfl) (hv : Vis X.env.scope x := by first | exact Or.inl rfl | exact Or.inr (Or.inl rfl) | exact Or.inr (Or.inr rfl)) (hd : (x == ("__debug__" : Str)) = false := by decide) (hcd : (x == ("__classdict__" : Str)) = false := by decide) :
    PE3 X E (.Compare a [.In] [.Name x pos'] pos) (tInO id i ta) := ⟨mono_tInO ha.mono, (pe_cmpR (op_inDc hu) ha.pe (pe_var hN hv hd hcd) rfl).imp fun _ _ _ h => lift_inO ha.mono h⟩
theorem notInO3 (i : Nat) (hu : X.A.units + 64 < cLine) (ha : PE3 X E a ta) (hN : X.N[i]? = some x := by rfl) (hv : Vis X.env.scope x := by first | exact Or.inl rfl | exact Or.inr (Or.inl rfl) | exact Or.inr (Or.inr rfl)) (hd : (x == ("__debug__" : Str)) = false := by decide) (hcd : (x == ("__classdict__" : Str)) = false := by decide) :
    PE3 X E (.Compare a [.NotIn] [.Name x pos'] pos) (tInO not i ta) := ⟨mono_tInO ha.mono, (pe_cmpR (op_notInDc hu) ha.pe (pe_var hN hv hd hcd) rfl).imp fun _ _ _ h => lift_inO ha.mono h⟩
theorem inO3T (i : Nat) (hu : X.A.units + 64 < cLine) (ha : PE3 X E a ta) (hN : X.N[i]? = some x := by rfl) (hv : Vis X.env.scope x := by first | exact Or.inl rfl | exact Or.inr (Or.inl rfl) | exact Or.inr (Or.inr rfl)) (hd : (x == ("__debug__" : Str)) = false := by decide) (hcd : (x == ("__classdict__" : Str)) = false := by decide) :
    PT3 X E (.Compare a [.In] [.Name x pos'] pos) (tBool (tInO id i ta)) := ⟨mono_tBool (mono_tInO ha.mono), (pt_cmpR (op_inDc hu) ha.pe (pe_var hN hv hd hcd) rfl).imp fun _ _ _ h => lift_inO ha.mono (lift_bool (mono_tInO ha.mono) h)⟩
theorem notInO3T (i : Nat) (hu : X.A.units + 64 < cLine) (ha : PE3 X E a ta) (hN : X.N[i]? = some x := by rfl) (hv : Vis X.env.scope x := by first | exact Or.inl rfl | exact Or.inr (Or.inl rfl) | exact Or.inr (Or.inr rfl)) (hd : (x == ("__debug__" : Str)) = false := by decide) (hcd : (x == ("__classdict__" : Str)) = false := by decide) :
    PT3 X E (.Compare a [.NotIn] [.Name x pos'] pos) (tBool (tInO not i ta)) := ⟨mono_tBool (mono_tInO ha.mono), (pt_cmpR (op_notInDc hu) ha.pe (pe_var hN hv hd hcd) rfl).imp fun _ _ _ h => lift_inO ha.mono (lift_bool (mono_tInO ha.mono) h)⟩
/-- d.pop(k), its value dropped -/
theorem popD3 (i : Nat) {apos cpos : Pos} (hb : PE3 X E b tb) (hN : X.N[i]? = some x := by rfl) (hv : Vis X.env.scope x := by first | exact Or.inl rfl | exact Or.inr (Or.inl rfl) | exact Or.inr (Or.inr rfl)) (hd : (x == ("__debug__" : Str)) = false := by decide) (hcd : (x == ("__classdict__" : Str)) = false := by decide)
    (m : L2.M1 X (.Name x pos') "pop" apos b cpos := by exact ⟨rfl, rfl, rfl, rfl⟩) (hw : swapsWith (.Call (.Attribute (.Name x pos') "pop" apos) [b] [] cpos) none pos.line X.env = pure false := by rfl) :
    PS3 X E (.Expr (.Call (.Attribute (.Name x pos') "pop" apos) [b] [] cpos) pos) (fun E D δ => onDct δ i fun _ _ => tb E δ fun z δ1 => onDct δ1 i fun t ds => (isKey z ∧ dhas ds z = true) ∧ D.nx (δ1.set i (some (.own t (.dct (ddropD ds z)))))) := by
  refine ⟨fun _ _ _ _ _ hx hd q => ?_, (ps_expr (pe_dpop1 (pe_var hN hv hd hcd) hb.pe m) hw).imp fun D σ H h => ?_⟩
  · obtain ⟨t, ds, e, q⟩ := q.to
    refine onDct.of e (hb.mono _ _ _ _ _ hx (fun z δ1 w => ?_) q)
    obtain ⟨t, ds, e, q1, q2⟩ := w.to
    exact onDct.of e ⟨q1, hd.nx _ q2⟩
  · obtain ⟨π, F, ρ, δ, rel, q⟩ := h
    obtain ⟨t, ds, e, q⟩ := q.to
    obtain ⟨a, _, hσ, ⟨kvs, h3, _⟩, _⟩ := rel.own i _ _ e
    refine ⟨_, hσ, a, rfl, .inl ⟨_, .inl h3⟩, π, F, ρ, δ, rel, hb.mono _ _ _ _ _ (fun _ z => z) (fun z δ1 q w H1 ρ1 e1 rel1 r1 => ?_) q⟩
    obtain ⟨t, ds, e', ⟨q1, q1'⟩, q2⟩ := q.to
    obtain ⟨k, rfl⟩ := q1.to
    obtain ⟨a', ha', hσ', ⟨kvs', h3', h4'⟩, _⟩ := rel1.own i _ _ e'
    rw [hσ] at hσ'; cases hσ'
    have hk := rp_key r1
    subst hk
    unfold dhas at q1'
    rcases h4'.get k with ⟨g1, g2⟩ | ⟨v, d, g1, g2, g3⟩
    · rw [g2] at q1'; cases q1'
    refine ⟨kvs', k, v, h3', rfl, g1, ?_⟩
    obtain ⟨r3, e3⟩ := rel1.setO (o' := .dct (ddropD ds (kD k))) (u := .dK (dropK kvs' k)) e' ha' fun H' hH' keep ktb => ⟨_, hH', (h4'.drop (k := k)).ext (P := Ow ρ1) ⟨fun b o hb n _ => keep b o (fun z => n (by rw [z]; exact ⟨i, ha'⟩)) hb, fun _ z => .inl z, fun b o hb => by
      by_cases z : b = a
      · rw [z]; exact ⟨_, hH'⟩
      · exact ⟨o, keep b o z hb⟩, ktb⟩ fun _ => .inl⟩
    exact q2 σ _ ρ1 (e1.trans e3) r3
end
end M3

set_option Elab.async false
set_option linter.all false
set_option maxRecDepth 100000
set_option maxHeartbeats 4000000
namespace M3
open PySem L2
variable [TabsC]
/-! ## a table is lent while a statement runs -/
/-- an object is owned again: what is plain knows nothing of it -/
def OA (O : Addr → Prop) (a : Addr) : Addr → Prop := fun b => O b ∨ b = a
section
variable {K : PySem.W.Frag} {O : Addr → Prop} {H : Hp} {a : Addr} {od : Obj} {kv : List (Key × V)} {u : HO}
mutual
theorem Rp.unl (ha : H a = some (.frz od (.dK kv))) : ∀ {v : V} {d : D}, d.plain = true → Rp K O H v d → Rp K (OA O a) (upd H a u) v d
  | _, _, _, .non => .non
  | _, _, _, .bl b => .bl b
  | _, _, _, .int i => .int i
  | _, _, _, .str x => .str x
  | _, _, p, .lst (a := b) h r => by
    have nb : b ≠ a := fun z => by have h1 := h.1; rw [z, ha] at h1; cases h1
    exact .lst ⟨by rw [upd_ne nb]; exact h.1, fun z => z.elim h.2 nb⟩ (RpAll.unl ha p r)
  | _, _, p, .tup (a := b) h r => by
    refine .tup ?_ (RpAll.unl ha p r)
    rcases h with ⟨h, n⟩ | h
    · have nb : b ≠ a := fun z => by
        rcases h with h | ⟨o, h⟩ <;> (rw [z, ha] at h; cases h)
      refine .inl ⟨?_, fun z => z.elim n nb⟩
      rcases h with h | ⟨o, h⟩
      · exact .inl (by rw [upd_ne nb]; exact h)
      · exact .inr ⟨o, by rw [upd_ne nb]; exact h⟩
    · exact .inr h
  | _, _, p, .dic h n r => by cases p
theorem RpAll.unl (ha : H a = some (.frz od (.dK kv))) : ∀ {v : List V} {d : List D}, PyData.plainAll d = true → RpAll K O H v d → RpAll K (OA O a) (upd H a u) v d
  | _, _, _, .nil => .nil
  | _, _, p, .cons r t => .cons (Rp.unl ha (Bool.and_eq_true_iff.mp p).1 r) (RpAll.unl ha (Bool.and_eq_true_iff.mp p).2 t)
end
theorem RpKV.unl (ha : H a = some (.frz od (.dK kv))) : ∀ {v : List (Key × V)} {d : List (D × D)}, PyData.plainAll (d.map (·.2)) = true → RpKV K O H v d → RpKV K (OA O a) (upd H a u) v d
  | _, _, _, .nil => .nil
  | _, _, p, .cons r t => .cons (Rp.unl ha (Bool.and_eq_true_iff.mp p).1 r) (RpKV.unl ha (Bool.and_eq_true_iff.mp p).2 t)
end
theorem TT.unl {K : PySem.W.Frag} {O : Addr → Prop} {H : Hp} {a b : Addr} {od : Obj} {kv : List (Key × V)} {u : HO} {xs : List V} (ha : H a = some (.frz od (.dK kv))) (h : TT K O H b xs) : TT K (OA O a) (upd H a u) b xs := by
  rcases h with ⟨h, n⟩ | h
  · have nb : b ≠ a := fun z => by
      rcases h with h | ⟨o, h⟩ <;> (rw [z, ha] at h; cases h)
    refine .inl ⟨?_, fun z => z.elim n nb⟩
    rcases h with h | ⟨o, h⟩
    · exact .inl (by rw [upd_ne nb]; exact h)
    · exact .inr ⟨o, by rw [upd_ne nb]; exact h⟩
  · exact .inr h
theorem RpTX.unl {K : PySem.W.Frag} {O : Addr → Prop} {H : Hp} {a : Addr} {od : Obj} {kv : List (Key × V)} {u : HO} (ha : H a = some (.frz od (.dK kv))) : ∀ {v : List (Row × Addr × V)} {d : List (D × D)}, PyData.plainAll (d.map (·.2)) = true → RpTX K O H v d → RpTX K (OA O a) (upd H a u) v d
  | _, _, _, .nil => .nil
  | _, _, p, .cons h r t => .cons (TT.unl ha h) (Rp.unl ha (Bool.and_eq_true_iff.mp p).1 r) (RpTX.unl ha (Bool.and_eq_true_iff.mp p).2 t)
/-- slots that hold nothing but plain data -/
def plW (w : Option W) (k : Prop) : Prop := match w with
  | none => k
  | some (.d x) => x.plain = true ∧ k
  | some (.ro xs) => PyData.plainAll xs = true ∧ k
  | some (.own _ (.lst xs)) => PyData.plainAll xs = true ∧ k
  | some (.own _ (.dct ds)) => PyData.plainAll (ds.map (·.2)) = true ∧ k
  | some (.own _ (.dcT ds)) => PyData.plainAll (ds.map (·.2)) = true ∧ k
  | some (.lnt _) => k
  | some (.ad _) => k
  | some (.lk _ _) => False
  | some (.cl _ _) => k
  | some (.fv _ _) => False
def plK : Sl → Nat → Prop → Prop
  | [], _, k => k
  | _ :: r, 0, k => plA r k
  | x :: r, n + 1, k => plW x (plK r n k)
where plA : Sl → Prop → Prop
  | [], k => k
  | x :: r, k => plW x (plA r k)
def plO : Option W → Prop
  | none => True
  | some (.d x) => x.plain = true
  | some (.ro xs) => PyData.plainAll xs = true
  | some (.own _ (.lst xs)) => PyData.plainAll xs = true
  | some (.own _ (.dct ds)) => PyData.plainAll (ds.map (·.2)) = true
  | some (.own _ (.dcT ds)) => PyData.plainAll (ds.map (·.2)) = true
  | some (.lnt _) => True
  | some (.ad _) => True
  | some (.lk _ _) => False
  | some (.cl _ _) => True
  | some (.fv _ _) => False
theorem plW_iff {w : Option W} {k : Prop} : plW w k ↔ plO w ∧ k := by
  unfold plW plO
  split <;> simp
theorem plA_iff : ∀ {δ : Sl} {k : Prop}, plK.plA δ k ↔ (∀ (j : Nat) w, δ[j]? = some w → plO w) ∧ k
  | [], k => by simp [plK.plA]
  | x :: r, k => by
    unfold plK.plA
    rw [plW_iff, plA_iff]
    constructor
    · rintro ⟨h1, h2, h3⟩
      refine ⟨fun j w e => ?_, h3⟩
      cases j with
      | zero => cases e; exact h1
      | succ j => exact h2 j w e
    · rintro ⟨h1, h2⟩
      exact ⟨h1 0 x rfl, fun j w e => h1 (j + 1) w e, h2⟩
theorem plK_iff : ∀ {δ : Sl} {i : Nat} {k : Prop}, plK δ i k ↔ (∀ (j : Nat) w, j ≠ i → δ[j]? = some w → plO w) ∧ k
  | [], i, k => by simp [plK]
  | x :: r, 0, k => by
    unfold plK
    rw [plA_iff]
    constructor
    · rintro ⟨h1, h2⟩
      refine ⟨fun j w hj e => ?_, h2⟩
      cases j with
      | zero => exact absurd rfl hj
      | succ j => exact h1 j w e
    · rintro ⟨h1, h2⟩
      exact ⟨fun j w e => h1 (j + 1) w (by omega) e, h2⟩
  | x :: r, i + 1, k => by
    unfold plK
    rw [plW_iff, plK_iff]
    constructor
    · rintro ⟨h1, h2, h3⟩
      refine ⟨fun j w hj e => ?_, h3⟩
      cases j with
      | zero => cases e; exact h1
      | succ j => exact h2 j w (by omega) e
    · rintro ⟨h1, h2⟩
      exact ⟨h1 0 x (by omega) rfl, fun j w hj e => h1 (j + 1) w (by omega) e, h2⟩
def onLk (δ : Sl) (i : Nat) (a : Addr) (ds : List (D × D)) (k : Prop) : Prop := match δ[i]? with | some (some (.lk b es)) => (b = a ∧ es = ds) ∧ k | _ => False
theorem onLk.to {δ : Sl} {i : Nat} {a : Addr} {ds : List (D × D)} {k : Prop} (h : onLk δ i a ds k) : δ[i]? = some (some (.lk a ds)) ∧ k := by
  unfold onLk at h
  split at h
  · rename_i b es e; obtain ⟨⟨rfl, rfl⟩, h⟩ := h; exact ⟨e, h⟩
  · exact h.elim
theorem onLk.of {δ : Sl} {i : Nat} {a : Addr} {ds : List (D × D)} {k : Prop} (e : δ[i]? = some (some (.lk a ds))) (h : k) : onLk δ i a ds k := by
  unfold onLk
  rw [e]
  exact ⟨⟨rfl, rfl⟩, h⟩
theorem Rel.lendK {K : PySem.W.Frag} {π : Rho} {F : Addr → Prop} {ρ : Rho} {H : Hp} {σ : St} {δ : Sl} (r : Rel K π F ρ H σ δ) {i t : Nat} {ds : List (D × D)} (e : δ[i]? = some (some (.own t (.dct ds)))) :
    ∃ a kvs, H a = some (.dK kvs) ∧ ρ i = some a ∧ (∀ p, t = p + 1 → π p = some a) ∧ (t = 0 → ∀ p, π p ≠ some a) ∧ ∀ od, Rel K π F (M3.drop ρ i) (upd H a (.frz od (.dK kvs))) σ (δ.set i (some (.lk a ds))) ∧ Ext (Ow ρ) (Ow ρ) H (Ow (M3.drop ρ i)) (upd H a (.frz od (.dK kvs))) := by
  obtain ⟨a, h1, h2, ⟨kvs, h3, h4⟩, h5⟩ := r.own i _ _ e
  have hl : i < δ.length := (List.getElem?_eq_some_iff.mp e).1
  have nd : ¬ Ox F (M3.drop ρ i) a := fun z => by
    rcases z with ⟨j, z⟩ | z
    · obtain ⟨z1, z2⟩ := drop_some z
      exact z1 (r.inj _ _ _ z2 h1)
    · exact r.dis a z ⟨i, h1⟩
  refine ⟨a, kvs, h3, h1, h5.1, h5.2, fun od => ?_⟩
  have tk : ∀ b o, H b = some o → ∃ o', upd H a (.frz od (.dK kvs)) b = some o' := fun b o hb => by
    by_cases z : b = a
    · rw [z]; exact ⟨_, upd_same⟩
    · exact ⟨o, by rw [upd_ne z]; exact hb⟩
  have ex : Ext (Ow ρ) (Ow ρ) H (Ow (M3.drop ρ i)) (upd H a (.frz od (.dK kvs))) := ⟨fun b o hb n _ => by rw [upd_ne fun z => n (by rw [z]; exact ⟨i, h1⟩)]; exact hb, fun b z => .inl (drop_le b z), tk, Tb.upd h3 ⟨rfl, rfl⟩⟩
  refine ⟨⟨by rw [List.length_set]; exact r.len, fun j y q => ?_, fun j t' o2 q => ?_, fun j k a h1 h2 => r.inj j k a (drop_some h1).2 (drop_some h2).2, fun b z => ?_, fun b z q => r.dis b z (drop_le b q), fun p b z => ?_, r.ln.setδ (fun p z => by cases z), ex.tb.t r.tab⟩, ex⟩
  · by_cases hj : i = j
    · subst hj
      rw [List.getElem?_set_self hl] at q; cases y <;> cases q
      exact ⟨_, h2, rfl, od, kvs, upd_same, nd, h4.ext (ex.frn (F := F)) fun _ => .inl⟩
    · rw [List.getElem?_set_ne hj] at q
      obtain ⟨w, k1, k2⟩ := r.dat j y q
      exact ⟨w, k1, k2.ext (ex.frn (F := F)) fun _ => .inl⟩
  · by_cases hj : i = j
    · subst hj
      rw [List.getElem?_set_self hl] at q; cases q
    · rw [List.getElem?_set_ne hj] at q
      obtain ⟨b, k1, k2, k3, k4⟩ := r.own j t' o2 q
      refine ⟨b, drop_ne k1 (Ne.symm hj), k2, k3.ext ex (fun u hu _ => ?_), k4⟩
      rw [upd_ne fun z => hj (r.inj _ _ _ h1 (by rw [z] at k1; exact k1))]; exact hu
  · obtain ⟨o, ho⟩ := r.trk b (dropx_le b z); exact tk b o ho
  · obtain ⟨o, ho⟩ := r.pit p b z; exact tk b o ho
theorem Rel.regain {K : PySem.W.Frag} {π : Rho} {F : Addr → Prop} {ρ : Rho} {H : Hp} {σ : St} {δ : Sl} (r : Rel K π F ρ H σ δ) {i t : Nat} {a : Addr} {ds : List (D × D)} {od : Obj} {kvs : List (Key × V)} (e : δ[i]? = some (some (.lk a ds))) (ha : H a = some (.frz od (.dK kvs))) (na : ¬ Ow ρ a) (nf : ¬ F a)
    (ht1 : ∀ p, t = p + 1 → π p = some a) (ht2 : t = 0 → ∀ p, π p ≠ some a) (hp : PyData.plainAll (ds.map (·.2)) = true) (pl : ∀ (j : Nat) w, j ≠ i → δ[j]? = some w → plO w) :
    Rel K π F (own1 ρ i a) (upd H a (.dK kvs)) σ (δ.set i (some (.own t (.dct ds)))) := by
  have hl : i < δ.length := (List.getElem?_eq_some_iff.mp e).1
  have tk : ∀ b o, H b = some o → ∃ o', upd H a (.dK kvs) b = some o' := fun b o hb => by
    by_cases z : b = a
    · rw [z]; exact ⟨_, upd_same⟩
    · exact ⟨o, by rw [upd_ne z]; exact hb⟩
  have le : ∀ b, Ox F (own1 ρ i a) b → OA (Ox F ρ) a b := fun b z => by
    rcases z with z | z
    · rcases own1_le b z with z | z
      · exact .inl (.inl z)
      · exact .inr z
    · exact .inl (.inr z)
  have neq : ∀ j b, ρ j = some b → b ≠ a := fun j b h z => na (by rw [← z]; exact ⟨j, h⟩)
  refine ⟨by rw [List.length_set]; exact r.len, fun j y q => ?_, fun j t' o2 q => ?_, fun j k b q1 q2 => ?_, fun b z => ?_, fun b z q => ?_, fun p b z => ?_, r.ln.setδ (fun p z => by cases z), r.tab.upd ha ⟨rfl, rfl⟩⟩
  · by_cases hj : i = j
    · subst hj
      rw [List.getElem?_set_self hl] at q; cases y <;> cases q
    · rw [List.getElem?_set_ne hj] at q
      obtain ⟨w, k1, k2⟩ := r.dat j y q
      have p := pl j _ (Ne.symm hj) q
      refine ⟨w, k1, ?_⟩
      cases y with
      | d x => exact Rp.mono le (Rp.unl ha p k2)
      | ro xs =>
        obtain ⟨b, vs, h1, h2, h3⟩ := k2
        refine ⟨b, vs, h1, ?_, (RpAll.unl ha p h3).mono le⟩
        rcases h2 with ⟨h2 | ⟨o, h2⟩, n⟩ | h2
        · have nb : b ≠ a := fun z => by rw [z, ha] at h2; cases h2
          exact .inl ⟨.inl (by rw [upd_ne nb]; exact h2), fun z => (le b z).elim n nb⟩
        · have nb : b ≠ a := fun z => by rw [z, ha] at h2; cases h2
          exact .inl ⟨.inr ⟨o, by rw [upd_ne nb]; exact h2⟩, fun z => (le b z).elim n nb⟩
        · exact .inr h2
      | ad b => exact k2
      | lk b es => exact p.elim
      | cl f G =>
        obtain ⟨h0, ⟨o, h1⟩, h2, ⟨oc, h3⟩⟩ := k2
        have n1 : f ≠ a := fun z => by rw [z, ha] at h1; cases h1
        have n2 : G.c ≠ a := fun z => by rw [z, ha] at h3; cases h3
        exact ⟨h0, ⟨o, by rw [upd_ne n1]; exact h1⟩, fun z => (le _ z).elim h2 n1, ⟨oc, by rw [upd_ne n2]; exact h3⟩⟩
      | fv b I => exact p.elim
  · by_cases hj : i = j
    · subst hj
      rw [List.getElem?_set_self hl] at q; cases q
      obtain ⟨w, k1, k2, o, kvs', k3, k4, k5⟩ := r.dat i (.lk a ds) e
      rw [ha] at k3; cases k3
      subst k2
      exact ⟨a, by unfold own1; rw [if_pos rfl], k1, ⟨kvs, upd_same, (RpKV.unl ha hp k5).mono le⟩, ht1, ht2⟩
    · rw [List.getElem?_set_ne hj] at q
      obtain ⟨b, k1, k2, k3, k4⟩ := r.own j t' o2 q
      have p := pl j _ (Ne.symm hj) q
      have nb := neq j b k1
      refine ⟨b, by unfold own1; rw [if_neg (Ne.symm hj)]; exact k1, k2, ?_, k4⟩
      cases o2 with
      | lst xs => obtain ⟨vs, h1, h2⟩ := k3; exact ⟨vs, by rw [upd_ne nb]; exact h1, (RpAll.unl ha p h2).mono le⟩
      | dct xs => obtain ⟨vs, h1, h2⟩ := k3; exact ⟨vs, by rw [upd_ne nb]; exact h1, (RpKV.unl ha p h2).mono le⟩
      | dcT xs => obtain ⟨vs, h1, h2⟩ := k3; exact ⟨vs, by rw [upd_ne nb]; exact h1, (RpTX.unl ha p h2).mono le⟩
  · unfold own1 at q1 q2
    by_cases hj : j = i
    · by_cases hk : k = i
      · rw [hj, hk]
      · rw [if_pos hj] at q1; rw [if_neg hk] at q2
        cases q1; exact absurd rfl (neq k a q2)
    · by_cases hk : k = i
      · rw [if_neg hj] at q1; rw [if_pos hk] at q2
        cases q2; exact absurd rfl (neq j a q1)
      · rw [if_neg hj] at q1; rw [if_neg hk] at q2
        exact r.inj j k b q1 q2
  · rcases le b z with z | z
    · obtain ⟨o, ho⟩ := r.trk b z; exact tk b o ho
    · rw [z]; exact ⟨_, upd_same⟩
  · rcases own1_le b q with q | q
    · exact r.dis b z q
    · rw [q] at z; exact nf z
  · obtain ⟨o, ho⟩ := r.pit p b z; exact tk b o ho
section
variable {X : Cx} {E : XK} {a b c e f : Expr} {ta tb tc te tf : T3} {pos : Pos}
def bEnd (i tg : Nat) (a : Addr) (ds : List (D × D)) (D : End3) : End3 := { nx := fun δ' => normK δ' fun δ' => onLk δ' i a ds (PyData.plainAll (ds.map (·.2)) = true ∧ plK δ' i (D.nx (δ'.set i (some (.own tg (.dct ds)))))), rt := fun _ _ => False, bk := fun _ => False, ct := fun _ => False }
theorem bEnd.nx_iff {i tg : Nat} {a : Addr} {ds : List (D × D)} {D : End3} {δ' : Sl} (h : (bEnd i tg a ds D).nx δ') : δ'[i]? = some (some (.lk a ds)) ∧ PyData.plainAll (ds.map (·.2)) = true ∧ (∀ (j : Nat) w, j ≠ i → δ'[j]? = some w → plO w) ∧ D.nx (δ'.set i (some (.own tg (.dct ds)))) := by
  unfold bEnd at h
  simp only [normK_eq] at h
  obtain ⟨z1, z2, z3⟩ := h.to
  rw [plK_iff] at z3
  exact ⟨z1, z2, z3⟩
theorem bEnd.le {i tg : Nat} {a : Addr} {ds : List (D × D)} {D D' : End3} (hd : D.le D') : (bEnd i tg a ds D).le (bEnd i tg a ds D') := by
  refine ⟨fun δ' z => ?_, fun _ _ z => z, fun _ z => z, fun _ z => z⟩
  obtain ⟨z1, z2, z3, z4⟩ := bEnd.nx_iff z
  unfold bEnd
  simp only [normK_eq]
  exact onLk.of z1 ⟨z2, plK_iff.mpr ⟨z3, hd.nx _ z4⟩⟩
def tBor (i : Nat) (t : TS3) : TS3 := fun E D δ => onDct δ i fun tg ds => ∀ a, t E (bEnd i tg a ds D) (δ.set i (some (.lk a ds)))
theorem bor3 (i : Nat) {st : Stmt} {t : TS3} (h : PS3 X E st t) : PS3 X E st (tBor i t) := by
  refine ⟨fun E E' D D' δ hx hd q => ?_, (ps_lock h.ps).imp fun D σ H q => ?_⟩
  · obtain ⟨tg, ds, e, q⟩ := q.to
    exact onDct.of e fun a => h.mono _ _ _ _ _ hx (bEnd.le hd) (q a)
  · obtain ⟨π, F, ρ, δ, rel, q⟩ := q
    obtain ⟨tg, ds, e, q⟩ := q.to
    obtain ⟨a, kvs, hk, hρ, ht1, ht2, fz⟩ := rel.lendK e
    refine ⟨a, _, hk, trivial, fun od => ?_⟩
    obtain ⟨rel', ex⟩ := fz od
    have na : ¬ Ow (M3.drop ρ i) a := fun ⟨j, z⟩ => (drop_some z).1 (rel.inj _ _ _ (drop_some z).2 hρ)
    have nf : ¬ F a := fun z => rel.dis a z ⟨i, hρ⟩
    refine ⟨π, F, _, _, rel', h.mono _ _ (bEnd i tg a ds (liftD D X.K π F ρ H)) _ _ (liftX.mono ex) ⟨fun δ' z σ' H' ρ' e' r' => ?_, fun _ _ z => False.elim z, fun _ z => False.elim z, fun _ z => False.elim z⟩ (q a)⟩
    obtain ⟨z1, z2, z3⟩ := bEnd.nx_iff z
    have hH' : H' a = some (.frz od (.dK kvs)) := e'.fr a _ upd_same na rfl
    have na' : ¬ Ow ρ' a := fun z => (e'.ow a z).elim na fun q => by rw [upd_same] at q; cases q
    refine ⟨hH', z3.2 σ' _ (own1 ρ' i a) ⟨fun b o hb n ht => ?_, fun b z => ?_, fun b o hb => ?_, (ex.tb.trans e'.tb).trans (Tb.upd hH' ⟨rfl, rfl⟩)⟩ (r'.regain z1 hH' na' nf ht1 ht2 z2 z3.1)⟩
    · have nb : b ≠ a := fun z => n (by rw [z]; exact ⟨i, hρ⟩)
      rw [upd_ne nb]
      exact e'.fr b o (by rw [upd_ne nb]; exact hb) (fun z => n (drop_le b z)) ht
    · rcases own1_le b z with z | z
      · rcases e'.ow b z with w | w
        · exact .inl (drop_le b w)
        · by_cases nb : b = a
          · rw [nb, upd_same] at w; cases w
          · rw [upd_ne nb] at w; exact .inr w
      · rw [z]; exact .inl ⟨i, hρ⟩
    · by_cases nb : b = a
      · rw [nb]; exact ⟨_, upd_same⟩
      · obtain ⟨o', h'⟩ := e'.tk b o (by rw [upd_ne nb]; exact hb)
        exact ⟨o', by rw [upd_ne nb]; exact h'⟩
/-- the lent table read -/
def tVL3 (i : Nat) : T3 := fun _ δ Q => match δ[i]? with | some (some (.lk _ ds)) => Q (.dict ds) δ | _ => False
theorem tVL3.to {i : Nat} {E : Ex3 → Prop} {δ : Sl} {Q : D → Sl → Prop} (h : tVL3 i E δ Q) : ∃ a ds, δ[i]? = some (some (.lk a ds)) ∧ Q (.dict ds) δ := by
  unfold tVL3 at h
  split at h
  · exact ⟨_, _, by assumption, h⟩
  · exact h.elim
theorem vL3 (i : Nat) {x : Str} {pos : Pos} (hN : X.N[i]? = some x := by rfl) (hv : Vis X.env.scope x := by first | exact Or.inl rfl | exact Or.inr (Or.inl rfl) | exact Or.inr (Or.inr rfl)) (hd : (x == ("__debug__" : Str)) = false := by decide)
    (hcd : (x == ("__classdict__" : Str)) = false := by decide) : PE3 X E (.Name x pos) (tVL3 i) := by
  refine ⟨fun _ _ _ _ _ _ hq q => ?_, (pe_var hN hv hd hcd).imp fun σ H Q h => ?_⟩
  · obtain ⟨a, ds, e, q⟩ := q.to
    unfold tVL3
    rw [e]
    exact hq _ _ q
  · obtain ⟨π, F, ρ, δ, rel, q⟩ := h
    obtain ⟨a, ds, e, q⟩ := q.to
    obtain ⟨v, e1, rfl, o, kvs, h1, h2, h3⟩ := rel.dat i (.lk a ds) e
    exact ⟨_, e1, q _ H ρ Ext.refl rel (.dic h1 h2 h3)⟩
end
end M3

set_option Elab.async false
set_option linter.all false
set_option maxRecDepth 100000
set_option maxHeartbeats 4000000
namespace M3
open PySem L2
variable [TabsC]
/-! ## {k: v for .. in .. if ..}, keys ints and texts, the table owned -/
theorem dputD_len {ds : List (D × D)} {k v : D} : (dputD ds k v).length ≤ ds.length + 1 := by
  unfold dputD
  split
  · rw [List.length_map]; omega
  · rw [List.length_append]; exact Nat.le_refl _
section
variable {X : Cx} {E : XK} {tg a b c e iter kx vx : Expr} {ifs : List Expr} {ta tb tc te tk : T3} {ti : TA3} {tt : TB3} {g : TG3} {vs : List Nat} {pos : Pos} {scope : Scope} {own : List (Str × Nat)}
def tDc3 (ti : TA3) (g : TG3) (tt : TB3) (tk te : T3) (vs : List Nat) : TW3 := fun E δ Q => ti E δ fun ds δ1 => ds.length ≤ sizeLine ∧ ∃ Pv : Nat → List (D × D) → Sl → Prop, Pv 0 [] δ1 ∧
  (∀ i x acc δ2, ds[i]? = some x → Pv i acc δ2 → g x (wipeS δ2 vs) fun δ3 => tt (fun _ => False) δ3 fun b δ4 => br b (tk (fun _ => False) δ4 fun y δ5 => te (fun _ => False) δ5 fun z δ6 => isKey y ∧ Pv (i + 1) (dputD acc y z) (backS δ2 δ6 vs)) (Pv (i + 1) acc (backS δ2 δ4 vs))) ∧
  ∀ acc δ2, Pv ds.length acc δ2 → Q (.dct acc) δ2
theorem mono_tDc3 (hi : Mono3 ti) : Mono3 (tDc3 ti g tt tk te vs) := fun _ _ _ _ _ hx hq q => hi _ _ _ _ _ hx (fun ds δ1 ⟨h1, Pv, h2, h3, h4⟩ => ⟨h1, Pv, h2, h3, fun acc δ2 p => hq _ _ (h4 acc δ2 p)⟩) q
theorem lift_dcO (hi : Mono3 ti) (hg : MonoG g) (ht : Mono3 tt) (hk : Mono3 tk) (he : Mono3 te) {σ : St} {H : Hp} {Q : VK} (h : liftO X.K E (tDc3 ti g tt tk te vs) σ H Q) :
    tDc (liftI X.K E ti) (liftG X.K vs g) (lift X.K XF RBl tt) (lift X.K XF (Rp X.K) tk) (lift X.K XF (Rp X.K) te) vs σ H Q := by
  obtain ⟨π, F, ρ, δ, rel, q⟩ := h
  refine ⟨π, F, ρ, δ, rel, hi _ _ _ _ _ (fun _ z => z) (fun ds δ1 ⟨hz, Pv, h0, hs, hd⟩ J H1 ρ1 e1 rel1 jok => ?_) q⟩
  intro L hL
  have nL : ¬ Ox F ρ1 L := rel1.fresh hL
  have exJ : ∀ {ρ2 : Rho} {H2 : Hp}, Ex F ρ1 H1 ρ2 H2 → Ext (Ow ρ1) (Ox F ρ1) H1 (Ox (FD F L) ρ2) H2 := fun {ρ2 H2} e => ⟨e.fr, fun b z => by
    rcases z with z | z | z
    · exact (e.ow b z).imp .inl id
    · exact .inl (.inr z)
    · exact .inr (by rw [z]; exact hL), e.tk, e.tb⟩
  refine ⟨fun i m H2 => m = ds.length - i ∧ i ≤ ds.length ∧ ∃ acc accV ρ2 δ2, Ex F ρ1 H1 ρ2 H2 ∧ Rel X.K π (FD F L) ρ2 H2 σ δ2 ∧ H2 L = some (.dK accV) ∧ RpKV X.K (Ox (FD F L) ρ2) H2 accV acc ∧ acc.length ≤ i ∧ Pv i acc δ2, ⟨ds.length, by simp, Nat.zero_le _, [], [], ρ1, δ1, Ext.same (same_upd hL), rel1.addF hL, upd_same, .nil, Nat.le_refl _, h0⟩, ?_⟩
  rintro i m H2 ⟨rfl, hil, acc, accV, ρ2, δ2, e2, rel2, hH2, ra, hal, p⟩
  obtain ⟨j1, j2⟩ := jok i (FD F L) ρ2 H2 _ (fun _ => .inl) (exJ e2) rel2.trk
  by_cases hlt : i < ds.length
  · obtain ⟨go, y⟩ := j1 ds[i] (by simp [hlt])
    refine .inr ⟨go, fun H' => i + 1 ≤ ds.length ∧ ∃ acc accV ρ2 δ2, Ex F ρ1 H1 ρ2 H' ∧ Rel X.K π (FD F L) ρ2 H' σ δ2 ∧ H' L = some (.dK accV) ∧ RpKV X.K (Ox (FD F L) ρ2) H' accV acc ∧ acc.length ≤ i + 1 ∧ Pv (i + 1) acc δ2, fun H' ⟨hl, z⟩ => ⟨ds.length - (i + 1), by omega, rfl, hl, z⟩, fun v H' yl => ?_⟩
    obtain ⟨sm, rp⟩ := y v H' yl
    have rel2' := rel2.same sm
    obtain ⟨ρw, relw, lew⟩ := rel2'.wipe vs
    have lewx : ∀ b, Ox (FD F L) ρw b → Ox (FD F L) ρ2 b := fun b z => z.imp (lew b) id
    have e2w : Ex (FD F L) ρ2 H2 ρw H' := ⟨fun b u h _ _ => sm b u h, fun b z => .inl (lew b z), fun b u h => ⟨u, sm b u h⟩, Tb.same sm⟩
    refine ⟨π, FD F L, ρw, _, _, relw, rp.mono lewx, hg _ _ _ _ (fun δ3 q σ3 H3 ρ3 e3 rel3 w3 s3 => ?_) (hs i _ acc δ2 (by simp [hlt]) p)⟩
    rw [wipe_wipe] at w3
    refine ⟨w3, π, FD F L, ρ3, δ3, rel3, ht _ _ _ _ _ (fun _ z => z.elim) (fun b δ4 q b' H4 ρ4 e4 rel4 eb => ?_) q⟩
    subst eb
    have e24 : Ex (FD F L) ρ2 H2 ρ4 H4 := (e2w.trans e3).trans e4
    have e14 : Ex F ρ1 H1 ρ4 H4 := e2.trans e24
    have hLo : ¬ Ow ρ2 L := rel2.dis L (.inr rfl)
    refine (q.imp (fun q => ?_) (fun q => ?_)).ite
    · refine ⟨π, FD F L, ρ4, δ4, rel4, hk _ _ _ _ _ (fun _ z => z.elim) (fun y δ5 q w H5 ρ5 e5 rel5 r5 => ?_) q⟩
      refine ⟨π, FD F L, ρ5, δ5, rel5, he _ _ _ _ _ (fun _ z => z.elim) (fun z δ6 q u H6 ρ6 e6 rel6 r6 => ?_) q⟩
      obtain ⟨q1, q⟩ := q
      obtain ⟨k, rfl⟩ := q1.to
      have hk5 := rp_key r5
      subst hk5
      have e26 := (e24.trans e5).trans e6
      have e16 := (e14.trans e5).trans e6
      have hH6 : H6 L = some (.dK accV) := e26.fr L _ hH2 hLo rfl
      have ra6 := ra.ext (e26.frn) fun _ => .inl
      refine ⟨accV, k, rfl, hH6, by rw [ra6.length]; omega, hlt, ?_⟩
      obtain ⟨ρ7, rel7, le7⟩ := rel6.back rel2 e26 w3
      obtain ⟨rel8, ex8⟩ := rel7.updF (d := L) (o := .dK (putK accV k u)) (.inr rfl) hH6 ⟨rfl, rfl⟩
      have le7x : ∀ b, Ox (FD F L) ρ7 b → Ox (FD F L) ρ6 b := fun b z => z.imp (le7 b) id
      have po : ∀ b, b = L → Ox (FD F L) ρ7 b := fun b z => by rw [z]; exact .inr (.inr rfl)
      refine ⟨dputD acc (kD k) z, putK accV k u, ρ7, _, ⟨fun b o hb n ht => ?_, fun b z => e16.ow b (le7 b z), fun b o hb => ?_, e16.tb.trans ex8.tb⟩, rel8, upd_same, ((ra6.put r6).mono le7x).ext ex8 po, ?_, q⟩
      · rw [upd_ne fun z => by rw [z, hL] at hb; cases hb]
        exact e16.fr b o hb n ht
      · obtain ⟨o', h'⟩ := e16.tk b o hb
        exact ex8.tk b o' h'
      · have := dputD_len (ds := acc) (k := kD k) (v := z); omega
    · obtain ⟨ρ6, rel6, le6⟩ := rel4.back rel2 e24 w3
      have le6x : ∀ b, Ox (FD F L) ρ6 b → Ox (FD F L) ρ4 b := fun b z => z.imp (le6 b) id
      exact ⟨hlt, acc, accV, ρ6, _, ⟨e14.fr, fun b z => e14.ow b (le6 b z), e14.tk, e14.tb⟩, rel6, e24.fr L _ hH2 hLo rfl, (ra.ext (e24.frn) fun _ => .inl).mono le6x, by omega, q⟩
  · have e : i = ds.length := by omega
    subst e
    have hLo : ¬ Ow ρ2 L := rel2.dis L (.inr rfl)
    have np : ∀ p, π p ≠ some L := fun p z => by
      obtain ⟨u, q⟩ := rel1.pit p L z
      rw [hL] at q; cases q
    have nF : ¬ F L := fun z => nL (.inr z)
    have rel3 := rel2.adopt (k := δ2.length) (Nat.le_refl _) nF np
    have lex : ∀ b, Ox F (own1 ρ2 δ2.length L) b → Ox (FD F L) ρ2 b := fun b z => by
      rcases z with z | z
      · rcases own1_le b z with z | z
        · exact .inl z
        · exact .inr (.inr z)
      · exact .inr (.inl z)
    have ex3 : Ex F ρ1 H1 (own1 ρ2 δ2.length L) H2 := ⟨e2.fr, fun b z => by
      rcases own1_le b z with z | z
      · exact e2.ow b z
      · exact .inr (by rw [z]; exact hL), e2.tk, e2.tb⟩
    refine .inl ⟨j2 (Nat.le_refl _), hd acc δ2 p L H2 (own1 ρ2 δ2.length L) δ2.length (e1.trans ex3) rel3 (Nat.le_refl _) (by unfold own1; rw [if_pos rfl]) np ⟨accV, hH2, ra.mono lex⟩⟩
/-- y = {..}, y a local -/
theorem ps_setDc {i : Nat} {y : Str} {py : Pos} {spos : Pos} {wi : TI} {g : TG} {tt : L2.TT} {tk tv : TE} (hc : X.calm = true) (hN : X.N.Nodup) (hy : X.N[i]? = some y) (hyl : X.env.scope.names.lookup y = some .local)
    (hsw : swapsWith (.DictComp kx vx [⟨tg, iter, ifs, 0⟩] scope pos) (some (.Name y py)) spos.line X.env = pure true) (hi : PI X tg iter wi) (ok : BlkOk X.N X.env.scope scope own)
    (hg : ∀ s H C cl fp, PG (X.blk s H scope (compEnvC scope cl C X.env) fp) tg g) (ht : ∀ s H C cl fp, PTs (X.blk s H scope (compEnvC scope cl C X.env) fp) ifs tt)
    (hk : ∀ s H C cl fp, PE (X.blk s H scope (compEnvC scope cl C X.env) fp) kx tk) (he : ∀ s H C cl fp, PE (X.blk s H scope (compEnvC scope cl C X.env) fp) vx tv) (hs : ∀ x, foldedSetIterable iter X.env x = pure x) :
    PS X (.Assign [.Name y py] (.DictComp kx vx [⟨tg, iter, ifs, 0⟩] scope pos) spos) (tAsg (tDc wi g tt tk tv (own.map (·.2))) (gName i)) := by
  refine ⟨fun pins s σ H D I h => ?_⟩
  rw [exec_Assign_Name_used _ _ _ _ hsw]
  refine wpAny_bind (wpAny_standAt (wpAny_bind ?_))
  have h : tDc wi g tt tk tv (own.map (·.2)) σ H (fun x H1 => gName i x σ H1 D.nx) := h
  refine wpAny_bind (thn (dc_core (Qf := fun _ s' => SP X pins D .next s') (use := some (assign (.Name y py) X.env)) hc hN I hi ok hg ht hk he hs h fun L C s' m H' I' q hn f => ?_) fun _ s' hq => wpAny_pure (wpAny_pure hq))
  show wpAny _ _ (assign (.Name y py) X.env (.ref L)) _ _ _
  refine wpAny_assign_Name (store_ok2 (v := V.ref L) I' hN hy (.inl hyl) rfl (fun s2 I2 ⟨a, sb, ha⟩ => ?_) (.inr hyl))
  obtain ⟨g0, g1, g2, g3, g4, g5⟩ := f
  have neC : C ≠ a := by
    rcases ha with z | z
    · rw [z]; exact g1
    · exact fun e => g4 y a z e.symm
  refine ⟨m, hn.sameBut sb neC, fun h3 sb3 => ?_⟩
  exact ⟨_, H', I2.turned (t' := s2.toks) (fun b o hb e => (sb3.2 b hb).trans e) g0 g1 g3 g4 g5, q⟩
theorem swD_true {gs : List Comprehension} {py : Pos} {y : Str} {l : Nat} {env : Env} (hk : env.scope.kind = .function) (hy : env.scope.names.lookup y = some .local) (hl : (py.line == pos.line) = true)
    (ha : (scope.names.any fun (n, k) => n == y && (k == .local || k == .cell)) = false) : swapsWith (.DictComp kx vx gs scope pos) (some (.Name y py)) l env = pure true := by
  have e1 : env.kindOf y = some .local := hy
  have e2 : env.blockKind = .function := by unfold Env.blockKind; rw [hk]; rfl
  unfold swapsWith
  simp only [e2, e1, ha, Expr.pos, hl]
  rfl
/-! ### nothing else changes -/
def mergeD (ys : List (Option (D × D))) : List (D × D) := ys.foldl (fun acc y => match y with | some kv => dputD acc kv.1 kv.2 | none => acc) []
theorem mergeD_snoc {ys : List (Option (D × D))} {y : Option (D × D)} : mergeD (ys ++ [y]) = match y with | some kv => dputD (mergeD ys) kv.1 kv.2 | none => mergeD ys := by
  unfold mergeD
  rw [List.foldl_append]
  rfl
def tDcN (ti : TA3) (g : TG3) (tt : TB3) (tk te : T3) (vs : List Nat) : TW3 := fun E δ Q => ti E δ fun ds δ1 => ds.length ≤ sizeLine ∧ Ask (∃ ys : List (Option (D × D)), ys.length = ds.length ∧
  (∀ (i : Nat) (x : D), ds[i]? = some x → g x (wipeS δ1 vs) fun δ3 => normK δ3 fun δ3 => tt (fun _ => False) δ3 fun b δ4 => br b (tk (fun _ => False) δ4 fun y δ5 => te (fun _ => False) δ5 fun z δ6 => isKey y ∧ backS δ1 δ6 vs = δ1 ∧ ys[i]? = some (some (y, z))) (backS δ1 δ4 vs = δ1 ∧ ys[i]? = some none)) ∧ Q (.dct (mergeD ys)) δ1)
theorem mono_tDcN (hi : Mono3 ti) : Mono3 (tDcN ti g tt tk te vs) := fun _ _ _ _ _ hx hq q => hi _ _ _ _ _ hx (fun ds δ1 ⟨h1, ⟨⟨ys, h2, h3, h4⟩⟩⟩ => ⟨h1, ⟨⟨ys, h2, h3, hq _ _ h4⟩⟩⟩) q
theorem dcN_le (hi : Mono3 ti) (hg : MonoG g) (ht : Mono3 tt) (hk : Mono3 tk) (he : Mono3 te) {E : Ex3 → Prop} {δ : Sl} {Q : Ob → Sl → Prop} (h : tDcN ti g tt tk te vs E δ Q) : tDc3 ti g tt tk te vs E δ Q := by
  refine hi _ _ _ _ _ (fun _ z => z) (fun ds δ1 ⟨h1, ⟨⟨ys, h2, h3, h4⟩⟩⟩ => ⟨h1, fun i acc δ2 => δ2 = δ1 ∧ acc = mergeD (ys.take i), ⟨rfl, by simp [mergeD]⟩, ?_, ?_⟩) h
  · rintro i x acc δ2 hx ⟨rfl, rfl⟩
    refine hg _ _ _ _ (fun δ3 q => ?_) (h3 i x hx)
    rw [normK_eq] at q
    refine ht _ _ _ _ _ (fun _ z => z) (fun b δ4 z => z.imp (fun q => hk _ _ _ _ _ (fun _ z => z) (fun y δ5 q => he _ _ _ _ _ (fun _ z => z) (fun z δ6 ⟨q0, q1, q2⟩ => ⟨q0, q1, ?_⟩) q) q) (fun ⟨q1, q2⟩ => ⟨q1, ?_⟩)) q
    · rw [List.take_add_one, q2]; exact (mergeD_snoc (y := none)).symm
    · rw [List.take_add_one, q2]; exact (mergeD_snoc (y := some (y, z))).symm
  · rintro acc δ2 ⟨rfl, rfl⟩
    rw [← h2, List.take_length]; exact h4
theorem oDc (hc : X.calm = true) (hN : X.N.Nodup) (hi : PI3 X E tg iter ti) (ok : BlkOk X.N X.env.scope scope own)
    (hg : ∀ s H C cl fp, PG3 (X.blk s H scope (compEnvC scope cl C X.env) fp) (own.map (·.2)) tg g) (ht : ∀ s H C cl fp, PTs3 (X.blk s H scope (compEnvC scope cl C X.env) fp) XF ifs tt)
    (hk : ∀ s H C cl fp, PE3 (X.blk s H scope (compEnvC scope cl C X.env) fp) XF kx tk) (he : ∀ s H C cl fp, PE3 (X.blk s H scope (compEnvC scope cl C X.env) fp) XF vx te) (s0 : Shared) (hs : ∀ x, foldedSetIterable iter X.env x = pure x := by intro _; rfl) :
    POw X E (.DictComp kx vx [⟨tg, iter, ifs, 0⟩] scope pos) (tDcN ti g tt tk te (own.map (·.2))) := by
  refine ⟨mono_tDcN hi.mono, (pe_dc (g := liftG X.K (own.map (·.2)) g) (tt := lift X.K XF RBl tt) (tk := lift X.K XF (Rp X.K) tk) (tv := lift X.K XF (Rp X.K) te) hc hN hi.pi ok (fun s H C cl fp => (hg s H C cl fp).pg) (fun s H C cl fp => (ht s H C cl fp).pts) (fun s H C cl fp => (hk s H C cl fp).pe) (fun s H C cl fp => (he s H C cl fp).pe) hs).imp fun σ H Q h => ?_⟩
  refine lift_dcO hi.mono (hg s0 (fun _ => none) 0 [] []).mono (ht s0 (fun _ => none) 0 [] []).mono (hk s0 (fun _ => none) 0 [] []).mono (he s0 (fun _ => none) 0 [] []).mono ?_
  obtain ⟨π, F, ρ, δ, rel, q⟩ := h
  exact ⟨π, F, ρ, δ, rel, dcN_le hi.mono (hg s0 (fun _ => none) 0 [] []).mono (ht s0 (fun _ => none) 0 [] []).mono (hk s0 (fun _ => none) 0 [] []).mono (he s0 (fun _ => none) 0 [] []).mono q⟩
theorem setODc (i : Nat) {y : Str} {py spos : Pos} (hc : X.calm = true) (hN : X.N.Nodup) (hi : PI3 X E tg iter ti) (ok : BlkOk X.N X.env.scope scope own)
    (hg : ∀ s H C cl fp, PG3 (X.blk s H scope (compEnvC scope cl C X.env) fp) (own.map (·.2)) tg g) (ht : ∀ s H C cl fp, PTs3 (X.blk s H scope (compEnvC scope cl C X.env) fp) XF ifs tt)
    (hk : ∀ s H C cl fp, PE3 (X.blk s H scope (compEnvC scope cl C X.env) fp) XF kx tk) (he : ∀ s H C cl fp, PE3 (X.blk s H scope (compEnvC scope cl C X.env) fp) XF vx te) (s0 : Shared)
    (hsw : swapsWith (.DictComp kx vx [⟨tg, iter, ifs, 0⟩] scope pos) (some (.Name y py)) spos.line X.env = pure true) (hy : X.N[i]? = some y := by rfl) (hyl : X.env.scope.names.lookup y = some .local := by rfl) (hs : ∀ x, foldedSetIterable iter X.env x = pure x := by intro _; rfl) :
    PS3 X E (.Assign [.Name y py] (.DictComp kx vx [⟨tg, iter, ifs, 0⟩] scope pos) spos) (tAsgO i (tDcN ti g tt tk te (own.map (·.2)))) := by
  refine ⟨fun _ _ _ _ _ hx hd q => mono_tDcN hi.mono _ _ _ _ _ hx (fun x δ1 => hd.nx _) q, (ps_setDc (g := liftG X.K (own.map (·.2)) g) (tt := lift X.K XF RBl tt) (tk := lift X.K XF (Rp X.K) tk) (tv := lift X.K XF (Rp X.K) te) hc hN hy hyl hsw hi.pi ok (fun s H C cl fp => (hg s H C cl fp).pg) (fun s H C cl fp => (ht s H C cl fp).pts) (fun s H C cl fp => (hk s H C cl fp).pe) (fun s H C cl fp => (he s H C cl fp).pe) hs).imp fun D σ H h => ?_⟩
  refine lift_dcO hi.mono (hg s0 (fun _ => none) 0 [] []).mono (ht s0 (fun _ => none) 0 [] []).mono (hk s0 (fun _ => none) 0 [] []).mono (he s0 (fun _ => none) 0 [] []).mono ?_
  obtain ⟨π, F, ρ, δ, rel, q⟩ := h
  refine ⟨π, F, ρ, δ, rel, dcN_le hi.mono (hg s0 (fun _ => none) 0 [] []).mono (ht s0 (fun _ => none) 0 [] []).mono (hk s0 (fun _ => none) 0 [] []).mono (he s0 (fun _ => none) 0 [] []).mono ?_⟩
  have q' : tDcN ti g tt tk te (own.map (·.2)) (liftX X.K E F ρ H) δ (fun o δ1 => (liftD D X.K π F ρ H).nx (δ1.set i (some (.own 0 o)))) := q
  exact mono_tDcN hi.mono _ _ _ _ (fun o δ' => ∀ a H' ρ' k, Ex F ρ H ρ' H' → Rel X.K π F ρ' H' σ δ' → δ'.length ≤ k → ρ' k = some a → (∀ p, π p ≠ some a) → ObOk X.K (Ox F ρ') H' a o → D.nx (σ.set i (some (.ref a))) H') (fun _ z => z) (fun o δ1 q a H1 ρ1 k e1 rel1 hk ha np ho => by
    obtain ⟨ρ', r', e'⟩ := rel1.move (i := i) hk ha ho np
    exact q _ H1 ρ' (e1.trans e') r') q'
end
end M3

set_option Elab.async false
set_option linter.all false
set_option maxRecDepth 100000
set_option maxHeartbeats 4000000
namespace M3
open PySem L2
variable [TabsC]
/-! ## tables whose keys are rows of ints and None: the rules by values -/
theorem oi_some (a b : Option Int) : decide (a.map (Sum.inl : Int → Key) = b.map Sum.inl) = decide (a = b) := by
  cases a <;> cases b <;> simp
theorem oi_hash (P : Program) (w : World) (k : Option Int) : (noneKind P w).hash (k.map Sum.inl) = oiHash k := by cases k <;> rfl
def oiKind (P : Program) (w : World) : PySem.KeyKind P w (Option Int) where
  is := fun k v => nkIs (k.map Sum.inl) v
  hash := oiHash
  inj := fun v a b ha hb => by
    have h := (noneKind P w).inj v _ _ ha hb
    cases a <;> cases b
    · rfl
    · cases h
    · cases h
    · cases h; rfl
  byValue := fun k v h => (noneKind P w).byValue _ v h
  pyHash := @fun A E s k v Q hv h => (noneKind P w).pyHash (k := k.map Sum.inl) hv (by rw [oi_hash]; exact h)
  eqBool := @fun A E s a b u v Q hu hv h => (noneKind P w).eqBool (a := a.map Sum.inl) (b := b.map Sum.inl) hu hv (by rw [oi_some]; exact h)
  «strs» := fun k x t v h => (noneKind P w).«strs» _ x t v h
abbrev tKind (P : Program) (w : World) : HeapKind P w Row := tupleKind (oiKind P w)
theorem oV_is {k : Option Int} {u : Value} (r : RelV (oV k) u) : nkIs (k.map Sum.inl) u = true := by
  cases k with
  | none => cases (show u = Value.none from r); rfl
  | some i => obtain ⟨t, rfl⟩ := r; exact keyIs_int i t
theorem oItems {P : Program} {w : World} : ∀ {ks : Row} {us : List Value}, Vals (ks.map oV) us → ItemsAre (oiKind P w) ks us
  | [], _, h => by cases h; exact .nil
  | k :: r, _, h => by
    cases h with
    | cons h t => exact .cons (oV_is h) (oItems t)
section
variable {X : Cx} {pins : List (Addr × Obj)} {σ : St} {H : Hp} {s : Shared}
theorem tkey {b : Addr} {ks : Row} (I : Inv X pins σ H s) (h : SqT X.K H b (ks.map oV)) : (tKind X.prog X.w).is s.heap ks b := by
  obtain ⟨its, r, ⟨ob, h1, h2, n, h3⟩, _⟩ := I.tuple h
  exact ⟨ob, its.toArray, n, h1, h2, h3, by simpa using oItems r⟩
def AllK (K : PySem.W.Frag) (H : Hp) (xs : List (Row × Addr × V)) : Prop := ∀ x ∈ xs, SqT K H x.2.1 (x.1.map oV)
theorem pair_mem {α β : Type} {G : α → β → Prop} : ∀ {xs : List α} {ys : List β}, Paired G xs ys → ∀ y ∈ ys, ∃ x ∈ xs, G x y
  | _, _, .nil, y, h => nomatch h
  | _, _, .cons r t, y, h => by
    rcases List.mem_cons.mp h with e | h
    · subst e; exact ⟨_, List.mem_cons_self, r⟩
    · obtain ⟨x, hx, hr⟩ := pair_mem t y h; exact ⟨x, List.mem_cons_of_mem _ hx, hr⟩
/-- what the heap knows of the table -/
theorem tab_at {a : Addr} {xs : List (Row × Addr × V)} (I : Inv X pins σ H s) (e : Rd H a (dTx a xs)) (hk : AllK X.K H xs) :
    (xs.length ≤ sizeLine ∧ (a == sysModules) = false) ∧ ∃ ys, Paired TxP xs ys ∧ s.heap.DictOfH (tKind X.prog X.w) a ys := by
  have ok : ObjOk X.prog X.w H s.heap a (dTx a xs) := rd_of I.hok e
  obtain ⟨⟨z, ob, es, ep, ys, h1, h2, h3, h4, h5, h6⟩, _⟩ := ok
  refine ⟨z, ys, h6, ob, es, ep, h1, h2, h3, ?_, fun y hy => ?_, h5⟩
  · rw [h4]; rfl
  · obtain ⟨x, hx, ⟨e1, e2⟩, _⟩ := pair_mem h6 y hy
    rw [← e1, ← e2]
    exact tkey I (hk x hx)
def xval (xs : List (Row × Addr × V)) (k : Row) : Option V := (xs.find? fun x => decide (x.1 = k)).map fun x => x.2.2
theorem xval_rel {k : Row} : ∀ {xs : List (Row × Addr × V)} {ys : List (Row × Addr × Value)}, Paired TxP xs ys → RelO (xval xs k) ((atKey ys k).map fun p => p.2)
  | _, _, .nil => trivial
  | _, _, .cons (a := x) (b := y) r t => by
    have ih := xval_rel (k := k) t
    unfold xval atKey at ih ⊢
    simp only [List.find?_cons]
    obtain ⟨⟨e1, e2⟩, e3⟩ := r
    rw [← e1]
    by_cases c : x.1 = k
    · simp only [c, decide_true]; exact e3
    · simp only [c, decide_false]; exact ih
def XGet (K : PySem.W.Frag) (H : Hp) (a : Addr) (y : V) (r : Option V) : Prop := ∃ xs k b, Rd H a (dTx a xs) ∧ AllK K H xs ∧ y = .ref b ∧ SqT K H b (k.map oV) ∧ r = xval xs k
theorem relO_isSome {o : Option V} {u : Option Value} (r : RelO o u) : o.isSome = u.isSome := by
  cases o <;> cases u <;> first | rfl | exact r.elim
variable {a : Addr} {y v : V} {o : Option V} {u : Value} {A : Around} {E : Value → Shared → Prop}
theorem x_in {Q : Value → Shared → Prop} (hu : A.units + 1 < cLine) (I : Inv X pins σ H s) (g : XGet X.K H a y o) (ry : RelV y u) (h : ∀ s', Inv X pins σ H s' → Q (.bool o.isSome) s') : wpAny (model X.prog X.w) A (compareOp .In u (.ref a)) Q E s := by
  obtain ⟨xs, k, b, e, hk, rfl, eb, rfl⟩ := g
  obtain rfl : u = Value.ref b := ry
  obtain ⟨z, ys, rel, dd⟩ := tab_at I e hk
  refine wpAny_in_heap (tupleKind_room_in1 hu) (tkey I eb) z.2 dd ?_
  have q := relO_isSome (xval_rel (k := k) rel)
  rw [Option.isSome_map] at q
  rw [← q]; exact h _ (I.tok _)
theorem x_notIn {Q : Value → Shared → Prop} (hu : A.units + 1 < cLine) (I : Inv X pins σ H s) (g : XGet X.K H a y o) (ry : RelV y u) (h : ∀ s', Inv X pins σ H s' → Q (.bool (!o.isSome)) s') : wpAny (model X.prog X.w) A (compareOp .NotIn u (.ref a)) Q E s := by
  obtain ⟨xs, k, b, e, hk, rfl, eb, rfl⟩ := g
  obtain rfl : u = Value.ref b := ry
  obtain ⟨z, ys, rel, dd⟩ := tab_at I e hk
  refine PyProof.Rows.wpAny_notIn_heap (tupleKind_room_in1 hu) (tkey I eb) z.2 dd ?_
  have q := relO_isSome (xval_rel (k := k) rel)
  rw [Option.isSome_map] at q
  rw [← q]; exact h _ (I.tok _)
theorem relO_some {v : V} {u : Option Value} (r : RelO (some v) u) : ∃ w, u = some w ∧ RelV v w := by
  cases u with
  | none => exact r.elim
  | some w => exact ⟨w, rfl, r⟩
theorem x_get {Q : Value → Shared → Prop} (hu : A.units + 1 < cLine) (I : Inv X pins σ H s) (g : XGet X.K H a y (some v)) (ry : RelV y u) (h : ∀ w' s', Inv X pins σ H s' → RelV v w' → Q w' s') : wpAny (model X.prog X.w) A (getItem (.ref a) u) Q E s := by
  obtain ⟨xs, k, b, e, hk, rfl, eb, l⟩ := g
  obtain rfl : u = Value.ref b := ry
  obtain ⟨z, ys, rel, dd⟩ := tab_at I e hk
  have q := xval_rel (k := k) rel
  rw [← l] at q
  obtain ⟨w', hw, rw'⟩ := relO_some q
  obtain ⟨p, hp, hp2⟩ := Option.map_eq_some_iff.mp hw
  refine wpAny_getItem_heap (tupleKind_room_in1 hu) (tkey I eb) dd hp ?_
  rw [hp2]; exact h w' _ (I.tok _) rw'
theorem relO_getD {o : Option V} {u : Option Value} {d : V} {d' : Value} (r : RelO o u) (rd : RelV d d') : RelV (o.getD d) (u.getD d') := by
  cases o <;> cases u <;> first | exact rd | exact r | exact r.elim
theorem x_get2 {Q : Value → Shared → Prop} {d : V} {r : Value} (hu : A.units + 1 < cLine) (I : Inv X pins σ H s) (g : XGet X.K H a y o) (ry : RelV y u) (rd : RelV d r) (h : ∀ w' s', Inv X pins σ H s' → RelV (o.getD d) w' → Q w' s') :
    wpAny (model X.prog X.w) A (call (.builtin "dict.get") [.ref a, u, r]) Q E s := by
  obtain ⟨xs, k, b, e, hk, rfl, eb, rfl⟩ := g
  obtain rfl : u = Value.ref b := ry
  obtain ⟨z, ys, rel, dd⟩ := tab_at I e hk
  exact call_meetsIn PySem.F.slot_dict_get dd.typeIs PySem.F.entry_dict_get (PySem.F.args_dict_get_3 _ _ _) (meetsH_dict_get_default (tKind X.prog X.w) a b z.2 r) ⟨tupleKind_room_in1 hu, k, ys, tkey I eb, dd, h _ _ (I.tok _) (relO_getD (xval_rel rel) rd)⟩
/-! ### d[k] = v -/
def xput (xs : List (Row × Addr × V)) (k : Row) (b : Addr) (v : V) : List (Row × Addr × V) := if (xval xs k).isSome = true then xs.map (fun x => if x.1 = k then (x.1, x.2.1, v) else x) else xs ++ [(k, b, v)]
theorem xput_len {xs : List (Row × Addr × V)} {k : Row} {b : Addr} {v : V} : (xput xs k b v).length ≤ xs.length + 1 := by
  unfold xput
  split
  · rw [List.length_map]; omega
  · rw [List.length_append]; exact Nat.le_refl _
theorem xput_rel {k : Row} {b : Addr} {v : V} {r : Value} (rv : RelV v r) {xs : List (Row × Addr × V)} {ys : List (Row × Addr × Value)} (h : Paired TxP xs ys) : Paired TxP (xput xs k b v) (storedH ys k b r) := by
  have q := relO_isSome (xval_rel (k := k) h)
  rw [Option.isSome_map] at q
  unfold xput storedH
  rw [q]
  split
  · have go : ∀ {xs : List (Row × Addr × V)} {ys : List (Row × Addr × Value)}, Paired TxP xs ys → Paired TxP (xs.map fun x => if x.1 = k then (x.1, x.2.1, v) else x) (ys.map (putAt k r)) := by
      intro xs ys h
      induction h with
      | nil => exact .nil
      | @cons x y xs ys p t ih =>
        refine .cons ?_ ih
        obtain ⟨⟨e1, e2⟩, e3⟩ := p
        unfold putAt
        rw [← e1]
        dsimp only
        by_cases c : x.1 = k
        · rw [if_pos c, if_pos c]; exact ⟨⟨e1.symm ▸ rfl, e2⟩, rv⟩
        · rw [if_neg c, if_neg c]; exact ⟨⟨e1, e2⟩, e3⟩
    exact go h
  · have go : ∀ {xs : List (Row × Addr × V)} {ys : List (Row × Addr × Value)}, Paired TxP xs ys → Paired TxP (xs ++ [(k, b, v)]) (ys ++ [(k, b, r)]) := by
      intro xs ys h
      induction h with
      | nil => exact .cons ⟨⟨rfl, rfl⟩, rv⟩ .nil
      | cons p t ih => exact .cons p ih
    exact go h
theorem dTx_stay {a : Addr} {xs : List (Row × Addr × V)} (h1 h2 : Heap) (h : DTOk a xs h1) (k : ∀ o, h1.get? a = some o → h2.get? a = some o) : DTOk a xs h2 := by
  obtain ⟨z, ob, es, ep, ys, e1, e2⟩ := h
  exact ⟨z, ob, es, ep, ys, k _ e1, e2⟩
theorem dTx_ok {P : Program} {w : World} {H : Hp} {h : Heap} {a : Addr} {xs : List (Row × Addr × V)} (x : DTOk a xs h) : ObjOk P w H h a (dTx a xs) :=
  ⟨x, let ⟨_, ob, _, _, _, e, _⟩ := x; ⟨ob, e⟩, dTx_stay⟩
theorem x_set {xs : List (Row × Addr × V)} {k : Row} {b : Addr} {r : Value} {Q : Unit → Shared → Prop} (hu : A.units + 1 < cLine) (I : Inv X pins σ H s) (e : H a = some (dTx a xs)) (hk : AllK X.K H xs) (eb : SqT X.K H b (k.map oV)) (hl : xs.length < sizeLine) (rv : RelV v r)
    (h : ∀ s', Inv X pins σ (upd H a (dTx a (xput xs k b v))) s' → Q () s') : wpAny (model X.prog X.w) A (setItem (.ref a) (.ref b) r) Q E s := by
  obtain ⟨z, ys, rel, dd⟩ := tab_at I (.inl e) hk
  have hz : ys.length ≤ sizeLine := by rw [← Paired.length rel]; exact z.1
  have hl2 : (xput xs k b v).length ≤ sizeLine := by have := xput_len (xs := xs) (k := k) (b := b) (v := v); omega
  refine wpAny_setItem_heap (hsz := hz) (tupleKind_room_in1 hu) (tkey I eb) dd fun h' dd' hs => h _ ?_
  obtain ⟨q, es, ep, hq, d2, d3, d4, _, d5⟩ := dd'
  exact d_write I (by rw [e]; exact True.intro) hs ⟨q, hq⟩ (dTx_ok ⟨⟨hl2, z.2⟩, q, es, ep, _, hq, d2, d3, d4, d5, xput_rel rv rel⟩)
/-- {} -/
theorem x_empty (h : Heap) (hb : sysModules < h.objs.size) : DTOk h.objs.size [] (h.push { cls := .type "dict", data := .dict #[] }) :=
  ⟨⟨Nat.zero_le _, beq_eq_false_iff_ne.mpr (Ne.symm (Nat.ne_of_lt hb))⟩, _, #[], 0, [], Heap.get?_push_size _ rfl, ⟨rfl, rfl, rfl⟩, rfl, rfl, List.nodup_nil, .nil⟩
end
end M3

set_option Elab.async false
set_option linter.all false
set_option maxRecDepth 100000
set_option maxHeartbeats 4000000
namespace M3
open PySem L2
variable [TabsC]
/-! ## tables with rows as keys: data -/
def oEq (a b : D) : Bool := match a, b with | .int i, .int j => decide (i = j) | .none, .none => true | _, _ => false
def rowEq : List D → List D → Bool
  | [], [] => true
  | x :: xs, y :: ys => oEq x y && rowEq xs ys
  | _, _ => false
def tEq (a b : D) : Bool := match a, b with | .tuple xs, .tuple ys => rowEq xs ys | _, _ => false
theorem oEq_oD (a b : Option Int) : oEq (oD a) (oD b) = decide (a = b) := by cases a <;> cases b <;> simp [oEq, oD]
theorem rowEq_oD : ∀ a b : Row, rowEq (a.map oD) (b.map oD) = decide (a = b)
  | [], [] => rfl
  | [], _ :: _ => rfl
  | _ :: _, [] => rfl
  | x :: xs, y :: ys => by simp [rowEq, oEq_oD, rowEq_oD xs ys]
theorem tEq_oT (a b : Row) : tEq (oT a) (oT b) = decide (a = b) := rowEq_oD a b
def xgetD (ds : List (D × D)) (k : D) : Option D := (ds.find? fun kv => tEq kv.1 k).map (·.2)
def xputD (ds : List (D × D)) (k v : D) : List (D × D) := if (xgetD ds k).isSome = true then ds.map (fun kv => if tEq kv.1 k = true then (kv.1, v) else kv) else ds ++ [(k, v)]
def oB (d : D) : Bool := match d with | .int _ => true | .none => true | _ => false
def tkB (d : D) : Bool := match d with | .tuple xs => xs.all oB | _ => false
theorem tkB_to {z : D} (h : tkB z = true) : ∃ k, z = oT k := by
  cases z with
  | tuple xs =>
    have go : ∀ xs : List D, xs.all oB = true → ∃ k : Row, xs = k.map oD := fun xs => by
      induction xs with
      | nil => intro _; exact ⟨[], rfl⟩
      | cons x r ih =>
        intro h
        simp only [List.all_cons, Bool.and_eq_true] at h
        obtain ⟨k, rfl⟩ := ih h.2
        cases x <;> first | exact ⟨none :: k, rfl⟩ | exact ⟨some _ :: k, rfl⟩ | cases h.1
    obtain ⟨k, rfl⟩ := go xs h
    exact ⟨k, rfl⟩
  | _ => cases h
theorem xputD_len {ds : List (D × D)} {k v : D} : (xputD ds k v).length ≤ ds.length + 1 := by
  unfold xputD
  split
  · rw [List.length_map]; omega
  · rw [List.length_append]; exact Nat.le_refl _
section
variable {K : PySem.W.Frag} {O : Addr → Prop} {H : Hp}
theorem RpTX.length : ∀ {xs : List (Row × Addr × V)} {ds : List (D × D)}, RpTX K O H xs ds → xs.length = ds.length
  | _, _, .nil => rfl
  | _, _, .cons h r t => by rw [List.length_cons, List.length_cons, t.length]
theorem RpTX.all : ∀ {xs : List (Row × Addr × V)} {ds : List (D × D)}, RpTX K O H xs ds → AllK K H xs
  | _, _, .nil => fun x hx => nomatch hx
  | _, _, .cons h r t => fun x hx => by
    rcases List.mem_cons.mp hx with e | hx
    · subst e; exact h.sq
    · exact t.all x hx
theorem RpTX.get : ∀ {xs : List (Row × Addr × V)} {ds : List (D × D)}, RpTX K O H xs ds → ∀ k : Row, (xval xs k = none ∧ xgetD ds (oT k) = none) ∨ ∃ v d, xval xs k = some v ∧ xgetD ds (oT k) = some d ∧ Rp K O H v d
  | _, _, .nil, k => .inl ⟨rfl, rfl⟩
  | _, _, .cons (k := j) (b := b) (v := v) (vs := vs) (d := d) (ds := ds) h r t, k => by
    have ih := t.get k
    unfold xval xgetD at ih ⊢
    simp only [List.find?_cons, tEq_oT]
    by_cases e : j = k
    · simp only [e, decide_true]; exact .inr ⟨v, d, rfl, rfl, r⟩
    · simp only [e, decide_false]; exact ih
theorem RpTX.repl {k : Row} {v : V} {d : D} (hv : Rp K O H v d) : ∀ {xs : List (Row × Addr × V)} {ds : List (D × D)}, RpTX K O H xs ds → RpTX K O H (xs.map fun x => if x.1 = k then (x.1, x.2.1, v) else x) (ds.map fun kv => if tEq kv.1 (oT k) = true then (kv.1, d) else kv)
  | _, _, .nil => .nil
  | _, _, .cons (k := j) h r t => by
    simp only [List.map_cons, tEq_oT, decide_eq_true_eq]
    by_cases e : j = k
    · rw [if_pos e, if_pos e]; exact .cons h hv (t.repl hv)
    · rw [if_neg e, if_neg e]; exact .cons h r (t.repl hv)
theorem RpTX.snoc {k : Row} {b : Addr} {v : V} {d : D} (hb : TT K O H b (k.map oV)) (hv : Rp K O H v d) : ∀ {xs : List (Row × Addr × V)} {ds : List (D × D)}, RpTX K O H xs ds → RpTX K O H (xs ++ [(k, b, v)]) (ds ++ [(oT k, d)])
  | _, _, .nil => .cons hb hv .nil
  | _, _, .cons h r t => .cons h r (t.snoc hb hv)
theorem RpTX.put {xs : List (Row × Addr × V)} {ds : List (D × D)} (h : RpTX K O H xs ds) {k : Row} {b : Addr} {v : V} {d : D} (hb : TT K O H b (k.map oV)) (hv : Rp K O H v d) : RpTX K O H (xput xs k b v) (xputD ds (oT k) d) := by
  unfold xput xputD
  rcases h.get k with ⟨g1, g2⟩ | ⟨v', d', g1, g2, _⟩
  · rw [g1, g2]; exact h.snoc hb hv
  · rw [g1, g2]; exact h.repl hv
theorem rp_oD {v : V} {k : Option Int} (h : Rp K O H v (oD k)) : v = oV k := by
  cases k <;> (cases h; rfl)
theorem rpall_oD : ∀ {vs : List V} {k : Row}, RpAll K O H vs (k.map oD) → vs = k.map oV
  | [], [], _ => rfl
  | _ :: _, [], h => by cases h
  | [], _ :: _, h => by cases h
  | v :: vs, k :: ks, h => by
    cases h with
    | cons h t => rw [rp_oD h, rpall_oD t]; rfl
theorem rp_row {v : V} {k : Row} (h : Rp K O H v (oT k)) : ∃ b, v = .ref b ∧ TT K O H b (k.map oV) := by
  cases h with
  | tup ht hr => rw [rpall_oD hr] at ht; exact ⟨_, rfl, ht⟩
end
def onTab (δ : Sl) (i : Nat) (k : Nat → List (D × D) → Prop) : Prop := match δ[i]? with | some (some (.own t (.dcT xs))) => k t xs | _ => False
theorem onTab.to {δ : Sl} {i : Nat} {k : Nat → List (D × D) → Prop} (h : onTab δ i k) : ∃ t xs, δ[i]? = some (some (.own t (.dcT xs))) ∧ k t xs := by
  unfold onTab at h
  split at h
  · exact ⟨_, _, by assumption, h⟩
  · exact h.elim
theorem onTab.of {δ : Sl} {i t : Nat} {xs : List (D × D)} {k : Nat → List (D × D) → Prop} (e : δ[i]? = some (some (.own t (.dcT xs)))) (h : k t xs) : onTab δ i k := by
  unfold onTab
  rw [e]
  exact h
section
variable {X : Cx} {E : XK} {a b c e f : Expr} {ta tb tc te tf : T3} {pos : Pos} {x : Str} {pos' : Pos}
/-- {} -/
theorem pe_x0 : PE X (.Dict [] [] pos) (fun _ H Q => ∀ p, H p = none → Q (.ref p) (upd H p (dTx p []))) := ⟨fun pins s σ H Q I h =>
  wpAny_Dict_empty ⟨.ref s.heap.objs.size, _, I.laid (t' := s.toks) (fun _ _ q => Heap.get?_push_of_some _ q) (Nat.le_refl _) (dTx_ok (x_empty s.heap I.big)), rfl, h _ (I.hok.fresh (Nat.le_refl _))⟩⟩
theorem otab0 : POw X E (.Dict [] [] pos) (fun E δ Q => Q (.dcT []) δ) := by
  refine ⟨fun _ _ _ _ _ he hq q => hq _ _ q, pe_x0.imp fun σ H Q q => ?_⟩
  obtain ⟨π, F, ρ, δ, rel, q⟩ := q
  intro p hp
  obtain ⟨r2, e2, np⟩ := rel.tmpO (k := δ.length) (a := p) hp (same_upd (o := dTx p []) hp) ⟨_, upd_same⟩ (Nat.le_refl _)
  exact q p _ _ δ.length e2 r2 (Nat.le_refl _) (by unfold own1; rw [if_pos rfl]) np ⟨[], upd_same, .nil⟩
/-- {k: v} -/
theorem pe_x1 {tk tv : TE} (hu : X.A.units + 64 < cLine) (hk : PE X a tk) (hv : PE X b tv) : PE X (.Dict [some a] [b] pos) (fun σ H Q => ∀ p, H p = none → tk σ (upd H p (dTx p [])) fun x H1 => tv σ H1 fun y H2 => ∃ k d, x = .ref d ∧ SqT X.K H2 d (k.map oV) ∧ H2 p = some (dTx p []) ∧ Q (.ref p) (upd H2 p (dTx p [(k, d, y)]))) := by
  refine ⟨fun pins s σ H Q I q => ?_⟩
  have hn := I.hok.fresh (Nat.le_refl s.heap.objs.size)
  have I1 := I.laid (a := s.heap.objs.size) (o := dTx s.heap.objs.size []) (h' := s.heap.push { cls := .type "dict", data := .dict #[] }) (t' := s.toks) (fun _ _ q => Heap.get?_push_of_some _ q) (Nat.le_refl _) (dTx_ok (x_empty s.heap I.big))
  rw [arm_eval_Dict, zip_pairTrees [some a] [b] X.env pos rfl rfl, dictDisplay_pairs _ (by rw [pairTrees]; exact List.cons_ne_nil _ _) (by rw [pairTrees_length _ _ _ _ rfl rfl]; show 1 < 17; omega)]
  refine wpAny_bind (wpAny_standAt (wpAny_bind (wpAny_subDictH (knd := tKind X.prog X.w) (show X.A.units < cLine by omega) (by rw [pairTrees_length _ _ _ _ rfl rfl]; show 1 ≤ 15; omega) ?_)))
  refine thn ((pps_cons hk hv pps_nil).run pins _ σ _ (fun ps H2 => match ps with | [(x, y)] => ∃ k d, x = .ref d ∧ SqT X.K H2 d (k.map oV) ∧ H2 s.heap.objs.size = some (dTx s.heap.objs.size []) ∧ Q (.ref s.heap.objs.size) (upd H2 s.heap.objs.size (dTx s.heap.objs.size [(k, d, y)])) | _ => False) I1 (q _ hn)) fun ws s2 ⟨ps, H2, I2, rel, q2⟩ => ?_
  split at q2
  · rename_i x y
    obtain ⟨k, d, rfl, e2, e3, q2⟩ := q2
    cases rel with
    | @cons _ w _ ws r t =>
      cases t
      obtain ⟨r1, r2⟩ := r
      obtain ⟨w1, w2⟩ := w
      obtain rfl : w1 = Value.ref d := r1
      obtain ⟨z, ys, rl, dd⟩ := tab_at I2 (.inl e3) (fun x hx => nomatch hx)
      cases rl
      refine ⟨[(k, d, w2)], ⟨rfl, rfl, tkey I2 e2, trivial⟩, dd, fun h' tk dd' hs => ?_⟩
      refine wpAny_pure ⟨.ref s.heap.objs.size, _, ?_, rfl, q2⟩
      obtain ⟨ob, es, ep, hq, d2, d3, d4, _, d5⟩ := dd'
      exact d_write I2 (by rw [e3]; exact True.intro) hs ⟨ob, hq⟩ (dTx_ok ⟨⟨by show 1 ≤ sizeLine; decide, z.2⟩, ob, es, ep, _, hq, d2, d3, d4, d5, .cons ⟨⟨rfl, rfl⟩, r2⟩ .nil⟩)
  · exact q2.elim
theorem otab1 {tk tv : T3} (hu : X.A.units + 64 < cLine) (hk : PE3 X E a tk) (hv : PE3 X E b tv) : POw X E (.Dict [some a] [b] pos) (fun E δ Q => tk E δ fun x δ1 => tv E δ1 fun y δ2 => tkB x = true ∧ Q (.dcT [(x, y)]) δ2) := by
  refine ⟨fun _ _ _ _ _ he hq q => hk.mono _ _ _ _ _ he (fun x δ1 => hv.mono _ _ _ _ _ he fun y δ2 z => ⟨z.1, hq _ _ z.2⟩) q, (pe_x1 hu hk.pe hv.pe).imp fun σ H Q q => ?_⟩
  obtain ⟨π, F, ρ, δ, rel, q⟩ := q
  intro p hp
  have np0 : ¬ Ox F ρ p := rel.fresh hp
  refine ⟨π, FD F p, ρ, δ, rel.addF hp, hk.mono _ _ _ _ _ (liftX.mono (Ext.same (same_upd hp))) (fun x δ1 q v H1 ρ1 e1 rel1 r1 => ?_) q⟩
  refine ⟨π, FD F p, ρ1, δ1, rel1, hv.mono _ _ _ _ _ (liftX.mono ((Ext.same (same_upd hp)).trans e1)) (fun y δ2 q u H2 ρ2 e2 rel2 r2 => ?_) q⟩
  obtain ⟨q1, q2⟩ := q
  obtain ⟨k, rfl⟩ := tkB_to q1
  have r1' := r1.ext e2.frn fun _ => .inl
  obtain ⟨d, rfl, td⟩ := rp_row r1'
  have nw : ¬ Ow ρ2 p := rel2.dis p (.inr rfl)
  have nw0 : ¬ Ow ρ p := fun z => np0 (.inl z)
  have e12 := e1.trans e2
  have hH2 : H2 p = some (dTx p []) := e12.fr p _ upd_same nw0 rfl
  refine ⟨k, d, rfl, td.sq, hH2, ?_⟩
  obtain ⟨rel3, ex3⟩ := rel2.updF (d := p) (o := dTx p [(k, d, u)]) (.inr rfl) hH2 ⟨rfl, rfl⟩
  have np : ∀ i, π i ≠ some p := fun i z => by
    obtain ⟨w, h⟩ := rel.pit i p z
    rw [hp] at h; cases h
  have nF : ¬ F p := fun z => np0 (.inr z)
  have rel4 := rel3.adopt (k := δ2.length) (Nat.le_refl _) nF np
  have po : ∀ c, c = p → Ox (FD F p) ρ2 c := fun c z => by rw [z]; exact .inr (.inr rfl)
  have lex : ∀ c, Ox F (own1 ρ2 δ2.length p) c → Ox (FD F p) ρ2 c := fun c z => by
    rcases z with z | z
    · rcases own1_le c z with z | z
      · exact .inl z
      · exact .inr (.inr z)
    · exact .inr (.inl z)
  refine q2 p _ (own1 ρ2 δ2.length p) δ2.length ⟨fun c o hc n ht => ?_, fun c z => ?_, fun c o hc => ?_, ((Tb.fresh hp).trans e12.tb).trans ex3.tb⟩ rel4 (Nat.le_refl _) (by unfold own1; rw [if_pos rfl]) np ⟨_, upd_same, .cons ((td.ext ex3 po).mono lex) ((r2.ext ex3 po).mono lex) .nil⟩
  · have nc : c ≠ p := fun z => by rw [z, hp] at hc; cases hc
    rw [upd_ne nc]
    exact e12.fr c o (by rw [upd_ne nc]; exact hc) n ht
  · rcases own1_le c z with z | z
    · rcases e12.ow c z with w | w
      · exact .inl w
      · by_cases nc : c = p
        · rw [nc]; exact .inr hp
        · rw [upd_ne nc] at w; exact .inr w
    · rw [z]; exact .inr hp
  · have nc : c ≠ p := fun z => by rw [z, hp] at hc; cases hc
    obtain ⟨o', h'⟩ := e12.tk c o (by rw [upd_ne nc]; exact hc)
    exact ⟨o', by rw [upd_ne nc]; exact h'⟩
/-! ### in, not in -/
def rInX (K : PySem.W.Frag) (f : Bool → Bool) : R2 := fun y x H Q => ∃ a o, x = .ref a ∧ XGet K H a y o ∧ Q (.bl (f o.isSome)) H
theorem op_inX (hu : X.A.units + 64 < cLine) : OpR X (compareOp .In) (rInX X.K id) := by
  intro pins s σ H y x u v Q I ry rx h
  obtain ⟨a, o, rfl, g, q⟩ := h
  obtain rfl : v = Value.ref a := rx
  exact x_in (by omega) I g ry fun s' I' => ⟨.bl o.isSome, H, I', rfl, q⟩
theorem op_notInX (hu : X.A.units + 64 < cLine) : OpR X (compareOp .NotIn) (rInX X.K not) := by
  intro pins s σ H y x u v Q I ry rx h
  obtain ⟨a, o, rfl, g, q⟩ := h
  obtain rfl : v = Value.ref a := rx
  exact x_notIn (by omega) I g ry fun s' I' => ⟨.bl (!o.isSome), H, I', rfl, q⟩
def tInX (f : Bool → Bool) (i : Nat) (ta : T3) : T3 := fun E δ Q => ta E δ fun y δ1 => onTab δ1 i fun _ ds => tkB y = true ∧ Q (.bool (f (xgetD ds y).isSome)) δ1
theorem mono_tInX {f i} (h : Mono3 ta) : Mono3 (tInX f i ta) := fun _ _ _ _ _ hx hq q => h _ _ _ _ _ hx (fun y δ1 z => by
  obtain ⟨t, ds, e, z1, z2⟩ := z.to
  exact onTab.of e ⟨z1, hq _ _ z2⟩) q
theorem lift_inX {f : Bool → Bool} {i : Nat} (ha : Mono3 ta) {σ : St} {H : Hp} {Q : VK} (h : lift X.K E (Rp X.K) (tInX f i ta) σ H Q) : tOp (rInX X.K f) (lift X.K E (Rp X.K) ta) (tVar i) σ H Q := by
  obtain ⟨π, F, ρ, δ, rel, q⟩ := h
  refine ⟨π, F, ρ, δ, rel, ha _ _ _ _ _ (fun _ z => z) (fun y δ1 q v H1 ρ1 e1 rel1 r1 => ?_) q⟩
  obtain ⟨t, ds, e, q1, q2⟩ := q.to
  obtain ⟨a, _, hσ, ⟨xs, h3, h4⟩, _⟩ := rel1.own i _ _ e
  obtain ⟨k, rfl⟩ := tkB_to q1
  obtain ⟨b, rfl, tb⟩ := rp_row r1
  refine ⟨_, hσ, a, xval xs k, rfl, ⟨xs, k, b, .inl h3, h4.all, rfl, tb.sq, rfl⟩, ?_⟩
  have : (xval xs k).isSome = (xgetD ds (oT k)).isSome := by
    rcases h4.get k with ⟨g1, g2⟩ | ⟨v, d, g1, g2, g3⟩ <;> rw [g1, g2] <;> rfl
  rw [this]
  exact q2 _ H1 ρ1 e1 rel1 (.bl _)
theorem inX3 (i : Nat) (hu : X.A.units + 64 < cLine) (ha : PE3 X E a ta) (hN : X.N[i]? = some x := by rfl) (hv : Vis X.env.scope x := by first | exact Or.inl rfl | exact Or.inr (Or.inl rfl) | exact Or.inr (Or.inr rfl)) (hd : (x == ("__debug__" : Str)) = false := by decide) (hcd : (x == ("__classdict__" : Str)) = false := by decide) :
    PE3 X E (.Compare a [.In] [.Name x pos'] pos) (tInX id i ta) := ⟨mono_tInX ha.mono, (pe_cmpR (op_inX hu) ha.pe (pe_var hN hv hd hcd) rfl).imp fun _ _ _ h => lift_inX ha.mono h⟩
theorem notInX3 (i : Nat) (hu : X.A.units + 64 < cLine) (ha : PE3 X E a ta) (hN : X.N[i]? = some x := by rfl) (hv : Vis X.env.scope x := by first | exact Or.inl rfl | exact Or.inr (Or.inl rfl) | exact Or.inr (Or.inr rfl)) (hd : (x == ("__debug__" : Str)) = false := by decide) (hcd : (x == ("__classdict__" : Str)) = false := by decide) :
    PE3 X E (.Compare a [.NotIn] [.Name x pos'] pos) (tInX not i ta) := ⟨mono_tInX ha.mono, (pe_cmpR (op_notInX hu) ha.pe (pe_var hN hv hd hcd) rfl).imp fun _ _ _ h => lift_inX ha.mono h⟩
theorem inX3T (i : Nat) (hu : X.A.units + 64 < cLine) (ha : PE3 X E a ta) (hN : X.N[i]? = some x := by rfl) (hv : Vis X.env.scope x := by first | exact Or.inl rfl | exact Or.inr (Or.inl rfl) | exact Or.inr (Or.inr rfl)) (hd : (x == ("__debug__" : Str)) = false := by decide) (hcd : (x == ("__classdict__" : Str)) = false := by decide) :
    PT3 X E (.Compare a [.In] [.Name x pos'] pos) (tBool (tInX id i ta)) := ⟨mono_tBool (mono_tInX ha.mono), (pt_cmpR (op_inX hu) ha.pe (pe_var hN hv hd hcd) rfl).imp fun _ _ _ h => lift_inX ha.mono (lift_bool (mono_tInX ha.mono) h)⟩
theorem notInX3T (i : Nat) (hu : X.A.units + 64 < cLine) (ha : PE3 X E a ta) (hN : X.N[i]? = some x := by rfl) (hv : Vis X.env.scope x := by first | exact Or.inl rfl | exact Or.inr (Or.inl rfl) | exact Or.inr (Or.inr rfl)) (hd : (x == ("__debug__" : Str)) = false := by decide) (hcd : (x == ("__classdict__" : Str)) = false := by decide) :
    PT3 X E (.Compare a [.NotIn] [.Name x pos'] pos) (tBool (tInX not i ta)) := ⟨mono_tBool (mono_tInX ha.mono), (pt_cmpR (op_notInX hu) ha.pe (pe_var hN hv hd hcd) rfl).imp fun _ _ _ h => lift_inX ha.mono (lift_bool (mono_tInX ha.mono) h)⟩
/-! ### d[k] -/
def rIxX (K : PySem.W.Frag) : R2 := fun x y H Q => ∃ a v, x = .ref a ∧ XGet K H a y (some v) ∧ Q v H
theorem pe_ixX {td ty : TE} (hu : X.A.units + 64 < cLine) (ho : PE X a td) (hi : PE X b ty) (hs : NoSl b) : PE X (.Subscript a b pos) (tOp (rIxX X.K) td ty) := by
  refine ⟨fun pins s σ H Q I h => ?_⟩
  refine subD_of PySem.F.slot_dict_getitem.lookup hs (thn (ho.run pins s σ H _ I h) fun u s1 ⟨x, H1, I1, rx, q1⟩ => thn (hi.run pins s1 σ H1 _ I1 q1) fun iv s2 ⟨y, H2, I2, ry, d, v, ex, g, q2⟩ => ?_)
  subst ex
  obtain rfl : u = Value.ref d := rx
  obtain ⟨xs, k, b', e, hk, ey, eb, l⟩ := id g
  exact ⟨(tab_at I2 e hk).2.choose_spec.2.typeIs, x_get (by omega) I2 g ry fun w' s3 I3 rw' => ⟨v, H2, I3, rw', q2⟩⟩
def tIxX (i : Nat) (tb : T3) : T3 := fun E δ Q => onTab δ i fun _ _ => tb E δ fun y δ1 => onTab δ1 i fun _ ds => tkB y = true ∧ Ask (∃ d, xgetD ds y = some d ∧ Q d δ1)
theorem ixX3 (i : Nat) (hu : X.A.units + 64 < cLine) (hb : PE3 X E b tb) (hs : NoSl b := by exact fun _ _ => rfl) (hN : X.N[i]? = some x := by rfl) (hv : Vis X.env.scope x := by first | exact Or.inl rfl | exact Or.inr (Or.inl rfl) | exact Or.inr (Or.inr rfl)) (hd : (x == ("__debug__" : Str)) = false := by decide) (hcd : (x == ("__classdict__" : Str)) = false := by decide) :
    PE3 X E (.Subscript (.Name x pos') b pos) (tIxX i tb) := by
  refine ⟨fun _ _ _ _ _ hx hq q => ?_, (pe_ixX hu (pe_var hN hv hd hcd) hb.pe hs).imp fun σ H Q h => ?_⟩
  · obtain ⟨t, ds, e, q⟩ := q.to
    refine onTab.of e (hb.mono _ _ _ _ _ hx (fun y δ1 z => ?_) q)
    obtain ⟨t, ds, e, z1, ⟨⟨d, z2, z3⟩⟩⟩ := z.to
    exact onTab.of e ⟨z1, ⟨⟨d, z2, hq _ _ z3⟩⟩⟩
  · obtain ⟨π, F, ρ, δ, rel, q⟩ := h
    obtain ⟨t, ds, e, q⟩ := q.to
    obtain ⟨a, _, hσ, _, _⟩ := rel.own i _ _ e
    refine ⟨_, hσ, π, F, ρ, δ, rel, hb.mono _ _ _ _ _ (fun _ z => z) (fun y δ1 q v H1 ρ1 e1 rel1 r1 => ?_) q⟩
    obtain ⟨t, ds, e', q1, ⟨⟨d, q2, q3⟩⟩⟩ := q.to
    obtain ⟨a', ha', hσ', ⟨xs, h3, h4⟩, _⟩ := rel1.own i _ _ e'
    rw [hσ] at hσ'; cases hσ'
    obtain ⟨k, rfl⟩ := tkB_to q1
    obtain ⟨b, rfl, tb⟩ := rp_row r1
    rcases h4.get k with ⟨g1, g2⟩ | ⟨w, d', g1, g2, g3⟩
    · rw [g2] at q2; cases q2
    rw [g2] at q2; cases q2
    exact ⟨a, w, rfl, ⟨xs, k, b, .inl h3, h4.all, rfl, tb.sq, g1.symm⟩, q3 _ H1 ρ1 e1 rel1 g3⟩
/-! ### d[k] = v -/
theorem ps_xset {td ty tv : TE} {i : Expr} {p' : Pos} (hu : X.A.units + 64 < cLine) (ho : PE X a td) (hi : PE X b ty) (hv : PE X e tv) (hs : swapsWith e (some (.Subscript a b p')) pos.line X.env = pure false) :
    PS X (.Assign [.Subscript a b p'] e pos) (fun D σ H => tv σ H fun v H1 => td σ H1 fun x H2 => ty σ H2 fun y H3 => ∃ a xs k b, x = .ref a ∧ y = .ref b ∧ H3 a = some (dTx a xs) ∧ AllK X.K H3 xs ∧ SqT X.K H3 b (k.map oV) ∧ xs.length < sizeLine ∧ D.nx σ (upd H3 a (dTx a (xput xs k b v)))) := by
  refine ⟨fun pins s σ H D I h => ?_⟩
  refine wpAny_Assign_Subscript (thn (hv.run pins s σ H _ I h) fun r s1 ⟨v, H1, I1, rv, q1⟩ => thn (ho.run pins s1 σ H1 _ I1 q1) fun u s2 ⟨x, H2, I2, rx, q2⟩ => thn (hi.run pins s2 σ H2 _ I2 q2) fun iv s3 ⟨y, H3, I3, ry, c, xs, k, d, ex, ey, e1, e2, e3, e4, q3⟩ => ?_) hs
  subst ex ey
  obtain rfl : u = Value.ref c := rx
  obtain rfl : iv = Value.ref d := ry
  exact x_set (by omega) I3 e1 e2 e3 e4 rv fun s4 I4 => ⟨σ, _, I4, q3⟩
theorem setX3 (i : Nat) {p' : Pos} (hu : X.A.units + 64 < cLine) (he : PE3 X E e te) (hb : PE3 X E b tb) (hN : X.N[i]? = some x := by rfl) (hv : Vis X.env.scope x := by first | exact Or.inl rfl | exact Or.inr (Or.inl rfl) | exact Or.inr (Or.inr rfl)) (hd : (x == ("__debug__" : Str)) = false := by decide)
    (hcd : (x == ("__classdict__" : Str)) = false := by decide) (hs : swapsWith e (some (.Subscript (.Name x pos') b p')) pos.line X.env = pure false := by rfl) :
    PS3 X E (.Assign [.Subscript (.Name x pos') b p'] e pos) (fun E D δ => te E δ fun y δ1 => onTab δ1 i fun _ _ => tb E δ1 fun z δ2 => onTab δ2 i fun t ds => (tkB z = true ∧ ds.length < sizeLine) ∧ D.nx (δ2.set i (some (.own t (.dcT (xputD ds z y)))))) := by
  refine ⟨fun _ _ _ _ _ hx hd q => he.mono _ _ _ _ _ hx (fun y δ1 z => ?_) q, (ps_xset (i := e) hu (pe_var hN hv hd hcd) hb.pe he.pe hs).imp fun D σ H h => ?_⟩
  · obtain ⟨t, xs, e, z⟩ := z.to
    refine onTab.of e (hb.mono _ _ _ _ _ hx (fun w δ2 z => ?_) z)
    obtain ⟨t, xs, e, q1, q2⟩ := z.to
    exact onTab.of e ⟨q1, hd.nx _ q2⟩
  · obtain ⟨π, F, ρ, δ, rel, q⟩ := h
    refine ⟨π, F, ρ, δ, rel, he.mono _ _ _ _ _ (fun _ z => z) (fun y δ1 q w H1 ρ1 e1 rel1 r1 => ?_) q⟩
    obtain ⟨t, xs, e, q⟩ := q.to
    obtain ⟨a, _, hσ, _, _⟩ := rel1.own i _ _ e
    refine ⟨_, hσ, π, F, ρ1, δ1, rel1, hb.mono _ _ _ _ _ (liftX.mono e1) (fun z δ2 q w2 H2 ρ2 e2 rel2 r2 => ?_) q⟩
    obtain ⟨t, ds, e', ⟨q1, q1'⟩, q2⟩ := q.to
    obtain ⟨k, rfl⟩ := tkB_to q1
    obtain ⟨b, rfl, tb⟩ := rp_row r2
    obtain ⟨a', ha', hσ', ⟨kvs, h3', h4'⟩, _⟩ := rel2.own i _ _ e'
    rw [hσ] at hσ'; cases hσ'
    refine ⟨a, kvs, k, b, rfl, rfl, h3', h4'.all, tb.sq, by rw [h4'.length]; exact q1', ?_⟩
    have r1' := r1.ext e2.frn fun _ => .inl
    obtain ⟨r3, e3⟩ := rel2.setO (o' := .dcT (xputD ds (oT k) y)) (u := dTx a (xput kvs k b w)) e' ha' fun H' hH' keep ktb => ⟨_, hH', (h4'.put tb r1').ext (P := Ow ρ2) ⟨fun b o hb n _ => keep b o (fun z => n (by rw [z]; exact ⟨i, ha'⟩)) hb, fun _ z => .inl z, fun b o hb => by
      by_cases z : b = a
      · rw [z]; exact ⟨_, hH'⟩
      · exact ⟨o, keep b o z hb⟩, ktb⟩ fun _ => .inl⟩
    exact q2 σ _ ρ2 ((e1.trans e2).trans e3) r3
end
end M3

set_option Elab.async false
set_option linter.all false
set_option maxRecDepth 100000
set_option maxHeartbeats 4000000
namespace M3
open PySem L2
variable [TabsC]
/-! ## dict([(k, v)]), k a row -/
section
variable {X : Cx} {E : XK} {a b c e f : Expr} {ta tb tc te tf : T3} {pos : Pos} {x : Str} {pos' : Pos}
theorem call_dict1 (hcalm : X.calm = true) (hu : X.A.units + 64 < cLine) : CallR X (.type "dict") (fun xs H Q => ∃ (a p d : Addr) (k : Row) (v : V), xs = [.ref a] ∧ SqL X.K H a [.ref p] ∧ SqT X.K H p [.ref d, v] ∧ SqT X.K H d (k.map oV) ∧ ∀ c, H c = none → Q (.ref c) (upd H c (dTx c [(k, d, v)]))) := by
  intro pins s σ H xs us Q I r q
  obtain ⟨a, p, d, k, v, rfl, h1, h2, h3, q⟩ := q
  obtain ⟨u, rfl, rx⟩ := vals1 r
  obtain rfl : u = Value.ref a := rx
  obtain ⟨its, rv, pl, _⟩ := I.list h1
  obtain ⟨u1, rfl, r1⟩ := vals1 rv
  obtain rfl : u1 = Value.ref p := r1
  obtain ⟨its2, rv2, ht, _⟩ := I.tuple h2
  obtain ⟨u2, y, rfl, r2, ry⟩ := vals2 rv2
  obtain rfl : u2 = Value.ref d := r2
  obtain ⟨o, n, ho, hc, hd, hdat⟩ := pl
  obtain ⟨ot, ht1, ht2, nt, ht3⟩ := id ht
  have hk := tkey I h3
  obtain ⟨od, kit, kn, hd1, hd2, hd3, hd4⟩ := id hk
  have hm : (s.heap.objs.size == sysModules) = false := beq_eq_false_iff_ne.mpr (Nat.ne_of_gt I.big)
  refine call_dict_pairsH (knd := tKind X.prog X.w) (ps := [(k, d, y)]) (PairArg.list (prog := X.prog) (w := X.w) a #[.ref p] (fun _ => p) [(.ref d, y)]) (I.ok.hd hcalm) (show X.A.units + 1 + 1 < cLine by omega) ⟨⟨o, n, ho, hc, hd, hdat⟩, rfl, fun j k' v' hj => ?_⟩ ⟨rfl, fun i key v' hi => ?_⟩ (fun h' hk' x' hx' => ?_) (by show 1 ≤ sizeLine; decide) fun h' tk dd hx => ?_
  · cases j with
    | zero =>
      cases hj
      exact ⟨rfl, .inl ht⟩
    | succ j => cases hj
  · cases i with
    | zero =>
      cases hi
      exact ⟨k, d, rfl, rfl⟩
    | succ i => cases hi
  · rw [List.mem_singleton.mp hx']
    exact ⟨od, kit, kn, hk' d od (Nat.ne_of_lt (Heap.lt_size hd1)) (by simp) hd1, hd2, hd3, hd4⟩
  · obtain ⟨ob, es, ep, hq, d2, d3, d4, _, d5⟩ := dd
    refine ⟨.ref s.heap.objs.size, _, I.laid (t' := tk) (fun b u e => hx b u (by simp) e) (Nat.le_refl _) (dTx_ok ⟨⟨by show 1 ≤ sizeLine; decide, hm⟩, ob, es, ep, _, hq, d2, d3, d4, d5, .cons ⟨⟨rfl, rfl⟩, ry⟩ .nil⟩), rfl, q _ (I.hok.fresh (Nat.le_refl _))⟩
def asPair1 (x : D) (k : D → D → Prop) : Prop := match x with | .list [.tuple [a, b]] => k a b | _ => False
theorem asPair1.to {x : D} {k : D → D → Prop} (h : asPair1 x k) : ∃ a b, x = .list [.tuple [a, b]] ∧ k a b := by
  unfold asPair1 at h
  split at h
  · exact ⟨_, _, rfl, h⟩
  · exact h.elim
theorem otabD {p : Pos} (hcalm : X.calm = true) (hu : X.A.units + 64 < cLine) (hg : Gl X "dict") (hm : X.mg "dict" = none) (ha : PE3 X E a ta) (he : starEach [a] X.env = (false, eval a X.env) :: starEach [] X.env := by rfl) :
    POw X E (.Call (.Name "dict" p) [a] [] pos) (fun E δ Q => ta E δ fun x δ1 => asPair1 x fun k v => tkB k = true ∧ Q (.dcT [(k, v)]) δ1) := by
  refine ⟨fun _ _ _ _ _ hx hq q => ha.mono _ _ _ _ _ hx (fun x δ1 z => by obtain ⟨k, v, rfl, z1, z2⟩ := asPair1.to z; exact ⟨z1, hq _ _ z2⟩) q, (mkTy (call_dict1 hcalm hu) hg hm (by decide +kernel) ha.pe (by decide) (by decide) he).imp fun σ H Q q => ?_⟩
  obtain ⟨π, F, ρ, δ, rel, q⟩ := q
  refine ⟨π, F, ρ, δ, rel, ha.mono _ _ _ _ _ (fun _ z => z) (fun x δ1 q v H1 ρ1 e1 rel1 r1 => ?_) q⟩
  obtain ⟨k, y, rfl, q1, q2⟩ := asPair1.to q
  obtain ⟨ks, rfl⟩ := tkB_to q1
  cases r1 with
  | lst ht hr =>
    cases hr with
    | cons hp hn =>
      cases hn
      cases hp with
      | tup ht2 hr2 =>
        cases hr2 with
        | cons hk hr3 =>
          cases hr3 with
          | cons hv hn2 =>
            cases hn2
            obtain ⟨d, rfl, td⟩ := rp_row hk
            refine ⟨_, _, d, ks, _, rfl, ht.sq, ht2.sq, td.sq, fun c hc => ?_⟩
            obtain ⟨r2, e2, np⟩ := rel1.tmpO (k := δ1.length) (a := c) hc (same_upd (o := dTx c [(ks, d, _)]) hc) ⟨_, upd_same⟩ (Nat.le_refl _)
            have ex := e2.frn (F := F)
            exact q2 c _ _ δ1.length (e1.trans e2) r2 (Nat.le_refl _) (by unfold own1; rw [if_pos rfl]) np ⟨_, upd_same, .cons (td.ext ex fun _ => .inl) (hv.ext ex fun _ => .inl) .nil⟩
end
end M3

set_option Elab.async false
set_option linter.all false
set_option maxRecDepth 100000
set_option maxHeartbeats 4000000
namespace M3
open PySem PySem.Spec PyProof.Rows L2
variable [TabsC]
/-! ## list comprehensions of any number of clauses -/
section
variable {prog : Program} {w : World} {A : Around} {R : Result → Shared → Prop} {s : Shared} {elt : Expr} {gens : List Comprehension} {scope : Scope} {pos : Pos} {it acc : Value} {env : Env} {t0 i0 : Expr} {ifs0 : List Expr} {n : Nat}
/-- what a turn does behind its tests: the next clause, or the part itself -/
def Piece (prog : Program) (w : World) (A : Around) (elt : Expr) (gens : List Comprehension) (scope : Scope) (pos : Pos) (acc : Value) (env : Env) (E : Value → Shared → Prop) (n : Nat) (Post : Shared → Prop) (s : Shared) : Prop := match gens[n]? with
  | some g' => wpAny (model prog w) A (eval g'.iter env) (fun x s₄ => wpAny (model prog w) A (pyIter x) (fun it1 s₅ =>
      codeAny (model prog w) A (.compStart (.ListComp elt gens scope pos) n it1 acc env) (fun r s' => match r with
        | .ok _ => Post s'
        | .error _ => False) s₅) E s₄) E s
  | none => wpAny (model prog w) A (eval elt env) (fun x s₄ => wpAny (model prog w) A (call (.builtin "list.append") [acc, x]) (fun _ s₅ => Post s₅) E s₄) E s
theorem Piece.mono {E : Value → Shared → Prop} {P P' : Shared → Prop} (h : Piece prog w A elt gens scope pos acc env E n P s) (k : ∀ s, P s → P' s) : Piece prog w A elt gens scope pos acc env E n P' s := by
  unfold Piece at h ⊢
  split at h
  · refine wpAny_mono h (fun x s4 h => wpAny_mono h (fun it1 s5 h => codeAny_mono h fun r s' h => ?_) fun _ _ z => z) fun _ _ z => z
    cases r with
    | ok f => exact k _ h
    | error e => exact h
  · exact wpAny_mono h (fun x s4 h => wpAny_mono h (fun _ s5 h => k _ h) fun _ _ z => z) fun _ _ z => z
theorem compLoopN (h0 : gens[n]? = some ⟨t0, i0, ifs0, 0⟩) (hs : ∀ g', gens[n + 1]? = some g' → g'.is_async = 0 ∧ ∀ x, foldedSetIterable g'.iter env x = pure x) (I : Nat → Shared → Prop)
    (turn : ∀ m s, I m s → wpAny (model prog w) A (pyNext it) (fun r s₁ => match r with
      | none => R (.ok .next) s₁
      | some v => wpAny (model prog w) A (letOwnedTupleGo t0 it v) (fun _ s₁' => wpAny (model prog w) A (assign t0 env v) (fun _ s₂ =>
          wpAny (model prog w) A (forIn ifs0 true fun c r => if r = true then do let ok ← isTrue c env (eval c env); pure (ForInStep.yield ok) else pure (ForInStep.yield r)) (fun ok s₃ =>
            if ok = true then Piece prog w A elt gens scope pos acc env (notedBy (model prog w) A env fun e s' => R (.error e) s') (n + 1) (fun s' => ∃ m', m' < m ∧ I m' s') s₃
            else ∃ m', m' < m ∧ I m' s₃) (notedBy (model prog w) A env fun e s' => R (.error e) s') s₂) (notedBy (model prog w) A env fun e s' => R (.error e) s') s₁') (notedBy (model prog w) A env fun e s' => R (.error e) s') s₁) (notedBy (model prog w) A env fun e s' => R (.error e) s') s)
    (m : Nat) (h : I m s) :
    codeAny (model prog w) A (.compLoop (.ListComp elt gens scope pos) n it acc env) R s := by
  refine codeAny_loop rfl I (fun m s hI => ?_) m h
  show wpAny _ A ((compTurn (.ListComp elt gens scope pos) n it acc env).onRaise (fun x => do noteFrame x env; theTreesLotGoes x)) _ _ s
  refine wpAny_noted ?_
  unfold compTurn
  simp only [h0]
  refine wpAny_bind (wpAny_standAt (wpAny_bind (wpAny_mono (turn m s hI) (fun r s₁ h₁ => ?_) fun _ _ h' => h')))
  cases r with
  | none => exact wpAny_pure h₁
  | some v =>
    refine wpAny_bind (wpAny_mono h₁ (fun _ s₁' h₁' => ?_) fun _ _ h' => h')
    refine wpAny_bind (wpAny_mono h₁' (fun _ s₂ h₂ => wpAny_bind (wpAny_mono h₂ (fun ok s₃ h₃ => ?_) fun _ _ h' => h')) fun _ _ h' => h')
    cases ok with
    | false => exact wpAny_pure ⟨rfl, h₃⟩
    | true =>
      simp only [if_true] at h₃
      unfold Piece at h₃
      cases hg : gens[n + 1]? with
      | none =>
        rw [hg] at h₃
        exact wpAny_bind (wpAny_bind (wpAny_mono h₃ (fun x s₄ h₄ => wpAny_bind (wpAny_mono h₄ (fun _ s₅ h₅ => wpAny_pure (wpAny_pure ⟨rfl, h₅⟩)) fun _ _ h' => h')) fun _ _ h' => h'))
      | some g' =>
        obtain ⟨ha, hs⟩ := hs g' hg
        rw [hg] at h₃
        obtain ⟨t1, i1, ifs1, as1⟩ := g'
        dsimp only at ha hs h₃
        subst ha
        refine wpAny_bind (wpAny_mono h₃ (fun x s₄ h₄ => ?_) fun _ _ h' => h')
        refine wpAny_bind (wpAny_standAt (wpAny_bind (wpAny_of_eq (hs x) (wpAny_bind (wpAny_holding (wpAny_mono h₄ (fun it1 s₅ h₅ => ?_) fun _ _ h' => h'))))))
        refine wpAny_bind (wpAny_runOwn ?_)
        rw [Around.mark_none]
        refine codeAny_mono h₅ fun r s' hr => ?_
        cases r with
        | ok f =>
          first
            | exact wpAny_pure ⟨rfl, hr⟩
            | exact wpAny_bind (wpAny_pure (wpAny_pure ⟨rfl, hr⟩))
        | error e => exact hr.elim
theorem compStartN (hg : gens[n]? = some ⟨t0, i0, ifs0, 0⟩) (h0 : codeAny (model prog w) A (.compLoop (.ListComp elt gens scope pos) n it acc env) R s)
    (h : wpAny (model prog w) A (pyIter it) (fun it' s' => codeAny (model prog w) A (.compLoop (.ListComp elt gens scope pos) n it' acc env) R s')
      (notedBy (model prog w) A env fun x s' => R (.error x) s') s) :
    codeAny (model prog w) A (.compStart (.ListComp elt gens scope pos) n it acc env) R s := by
  refine codeAny_of_tree ?_
  show wpAny _ _ ((compStart (.ListComp elt gens scope pos) n it acc env).onRaise (fun x => do noteFrame x env; standAt theWindowsPlace)) _ _ s
  refine wpAny_notedAt ?_
  unfold compStart
  have hc : clausesOf (.ListComp elt gens scope pos) = gens := rfl
  rw [hc, hg]
  show wpAny _ _ (ask >>= _) _ _ s
  refine wpAny_bind (wpAny_askSetting (wpAny_ite ?_))
  split
  · first
      | exact wpAny_bind (wpAny_pure (wpAny_pure (And.intro rfl h0)))
      | exact wpAny_pure (And.intro rfl h0)
  · first
      | exact wpAny_bind (wpAny_rule (wpAny_bind (wpAny_standAt (wpAny_bind (wpAny_mono h (fun it' s' h' => wpAny_pure (And.intro rfl h')) fun _ _ x => x)))))
      | (refine wpAny_bind (wpAny_rule ?_); show wpAny _ _ (standAt i0.pos >>= _) _ _ s; exact wpAny_bind (wpAny_standAt (wpAny_bind (wpAny_mono h (fun it' s' h' => wpAny_pure (And.intro rfl h')) fun _ _ x => x))))
end

/-! ### the readings by heaps -/
structure ClR where
  tg : Expr
  iter : Expr
  ifs : List Expr
  wi : TI
  g : TG
  tt : L2.TT
  vs : List Nat
def ClR.c (c : ClR) : Comprehension := ⟨c.tg, c.iter, c.ifs, 0⟩
/-- behind the tests of a clause: the clauses left, L the new list -/
def tIn (L : Addr) (te : TE) : List ClR → L2.St → Hp → (Hp → Prop) → Prop
  | [], σ, H, Nx => te σ H fun y H7 => ∃ acc, H7 L = some (.lst acc) ∧ acc.length < sizeLine ∧ Nx (upd H7 L (.lst (acc ++ [y])))
  | c :: cs, σ, H, Nx => c.wi σ H fun J1 H4 => ∃ W1 : Nat → Nat → Hp → Prop, (∃ m, W1 0 m H4) ∧ ∀ j k H, W1 j k H →
      (J1.stop j H ∧ Nx H) ∨ (J1.go j H ∧ ∃ Nx1 : Hp → Prop, (∀ H', Nx1 H' → ∃ k', k' < k ∧ W1 (j + 1) k' H') ∧ ∀ x H', J1.yld j H x H' → c.g x (wipe σ c.vs) H' fun σ3 H5 => wipe σ3 c.vs = wipe σ c.vs ∧ c.tt σ3 H5 fun b H6 =>
        if b = true then tIn L te cs σ3 H6 Nx1 else Nx1 H6)
/-- the slots vs apart, all that was known is known -/
def Knows (vs : List Nat) (σ σ' : L2.St) : Prop := σ'.length = σ.length ∧ ∀ (j : Nat) v, j ∉ vs → σ[j]? = some (some v) → σ'[j]? = some (some v)
theorem Knows.trans {vs : List Nat} {a b c : L2.St} (h : Knows vs a b) (k : Knows vs b c) : Knows vs a c := ⟨k.1.trans h.1, fun j v n e => k.2 j v n (h.2 j v n e)⟩
theorem knows_wipe {vs us : List Nat} {σ : L2.St} (h : ∀ i ∈ us, i ∈ vs) : Knows vs σ (wipe σ us) := ⟨wipe_length _ _, fun j v n e => by rw [wipe_out fun z => n (h j z)]; exact e⟩
theorem knows_of {vs us : List Nat} {σ σ' : L2.St} (h : ∀ i ∈ us, i ∈ vs) (e : wipe σ' us = wipe σ us) : Knows vs σ σ' := ⟨by rw [← wipe_length σ' us, e, wipe_length], fun j v n q => by
  have := wipe_out (σ := σ) (vs := us) fun z => n (h j z)
  rw [← e] at this
  rw [wipe_out fun z => n (h j z)] at this
  rw [this]; exact q⟩
def hdvs : List ClR → List Nat
  | [] => []
  | c :: _ => c.vs
/-- c.vs: the names from this clause on -/
def NestV : List ClR → Prop
  | [] => True
  | c :: cs => (∀ i ∈ hdvs cs, i ∈ c.vs) ∧ NestV cs
section
variable {Y : Cx} {elt : Expr} {gens : List Comprehension} {scope : Scope} {pos : Pos} {te : TE} {L : Addr}
theorem piece_ok (hc : Y.calm = true) (hxe : ∀ v s, ¬ Y.xe v s) (he : PE Y elt te) : ∀ (cs : List ClR) (n : Nat), gens.drop n = cs.map ClR.c → (∀ c ∈ cs, PI Y c.tg c.iter c.wi) → (∀ c ∈ cs, PG Y c.tg c.g) → (∀ c ∈ cs, PTs Y c.ifs c.tt) → (∀ c ∈ cs, ∀ x, foldedSetIterable c.iter Y.env x = pure x) → NestV cs →
    ∀ (pins : List (Addr × Obj)) (σ : L2.St) (H : Hp) (s : Shared) (Nx : Hp → Prop) (E : Value → Shared → Prop), Inv Y pins σ H s → tIn L te cs σ H Nx →
      Piece Y.prog Y.w Y.A elt gens scope pos (.ref L) Y.env E n (fun s' => ∃ σ' H', Inv Y pins σ' H' s' ∧ Knows (hdvs cs) σ σ' ∧ Nx H') s
  | [], n, hd, _, _, _, _, _, pins, σ, H, s, Nx, E, I, h => by
    have hn : gens[n]? = none := by
      have : (gens.drop n)[0]? = none := by rw [hd]; rfl
      rw [List.getElem?_drop] at this
      simpa using this
    unfold Piece
    rw [hn]
    refine wpAny_mono (he.run pins s σ H _ I h) (fun z s17 ⟨yv, H17, I17, r17, acc, hD17, hz17, nx⟩ => ?_) fun v s z => (hxe v s z).elim
    exact app_ok (X := Y) I17 hD17 hz17 r17 fun s18 I18 => ⟨σ, _, I18, ⟨rfl, fun j v _ e => e⟩, nx⟩
  | c :: cs, n, hd, hPI, hPG, hPT, hS, hO, pins, σ, H, s, Nx, E, I, h => by
    have hn : gens[n]? = some c.c := by
      have : (gens.drop n)[0]? = some c.c := by rw [hd]; rfl
      rw [List.getElem?_drop] at this
      simpa using this
    have hd' : gens.drop (n + 1) = cs.map ClR.c := by
      rw [← List.drop_drop, hd]; rfl
    have ih := piece_ok hc hxe he cs (n + 1) hd' (fun c hc => hPI c (List.mem_cons_of_mem _ hc)) (fun c hc => hPG c (List.mem_cons_of_mem _ hc)) (fun c hc => hPT c (List.mem_cons_of_mem _ hc)) (fun c hc => hS c (List.mem_cons_of_mem _ hc)) hO.2
    have hm : c ∈ c :: cs := List.mem_cons_self
    unfold Piece
    rw [hn]
    show wpAny _ _ (eval c.iter Y.env) _ _ s
    refine wpAny_mono ((hPI c hm).run pins s σ H _ I h) (fun xv s10 hx => wpAny_mono hx (fun itv s11 h11 => ?_) fun v s z => (hxe v s z).elim) fun v s z => (hxe v s z).elim
    obtain ⟨it1, fp1, tn1, J1, H11, e1, I11, T1, st11, f11, W1, ⟨m1, w1⟩, turn1⟩ := h11
    subst e1
    have stat1 : ∀ {H' : Hp}, (∀ b ∈ fp1, H' b = none) → ∀ b ∈ fp1, FpOk Y pins H' b := fun hn b hb => ⟨hn b hb, (f11 b hb).2⟩
    have loop1 : codeAny (model Y.prog Y.w) Y.A (.compLoop (.ListComp elt gens scope pos) n (.ref it1) (.ref L) Y.env)
        (fun r s' => match r with
          | .ok _ => ∃ σ' H', Inv Y pins σ' H' s' ∧ Knows c.vs σ σ' ∧ Nx H'
          | .error _ => False) s11 := by
      refine compLoopN (t0 := c.tg) (i0 := c.iter) (ifs0 := c.ifs) hn (fun g' hg' => ?_) (fun k s' => ∃ j H', Inv Y pins (wipe σ c.vs) H' s' ∧ tn1 j s'.heap ∧ (∀ b ∈ fp1, H' b = none) ∧ W1 j k H') ?_ m1 ⟨0, H11, I11.weak (wipe_length _ _) (fun j v e => (wipe_some e).1), st11, fun b hb => (f11 b hb).1, w1⟩
      · have : (gens.drop (n + 1))[0]? = some g' := by rw [List.getElem?_drop]; simpa using hg'
        rw [hd'] at this
        cases cs with
        | nil => cases this
        | cons c' cs' =>
          obtain rfl : c'.c = g' := Option.some.inj this
          exact ⟨rfl, hS c' (by simp)⟩
      rintro k s12 ⟨j, H12, I12, st12, n12, w12⟩
      rcases turn1 j k H12 w12 with ⟨stop1, nx1⟩ | ⟨go1, Nx1, hNx1, step1⟩
      · refine thnF (T1.done Y rfl rfl rfl hc j _ s12 (wipe σ c.vs) H12 (fun _ _ => False) I12 (stat1 n12) st12 stop1) fun r s13 ⟨hr, I13⟩ => ?_
        subst hr
        exact ⟨_, H12, I13, knows_wipe fun _ z => z, nx1⟩
      · refine thnF (T1.item Y rfl rfl rfl hc j _ s12 (wipe σ c.vs) H12 (fun _ _ => False) I12 (stat1 n12) st12 go1) fun r s13 ⟨u1, hr, h13⟩ => ?_
        subst hr
        refine thnF h13 fun _ s14 ⟨x1, H14, I14, r14, y14, st14, n14⟩ => ?_
        have I14' := I14.pinned (stat1 n14) (T1.obj _ _ st14)
        have wx : ∀ {α : Type} {t : Sem α} {Q Q' : α → Shared → Prop} {E : Value → Shared → Prop} {s : Shared}, wpAny (model Y.prog Y.w) Y.A t Q Y.xe s → (∀ a s, Q a s → Q' a s) → wpAny (model Y.prog Y.w) Y.A t Q' E s := fun h k => wpAny_mono h k fun v s z => (hxe v s z).elim
        refine wx ((hPG c hm).run _ s14 (wipe σ c.vs) H14 x1 u1 _ I14' r14 (step1 x1 H14 y14)) fun _ s15 ⟨σ15, H15, I15, hw15, q15⟩ => ?_
        refine wx ((hPT c hm).run _ s15 σ15 H15 _ I15 q15) fun b1 s16 ⟨H16, I16, q16⟩ => ?_
        have fin1 : ∀ {σ' : L2.St} {s' : Shared} {H' : Hp}, Inv Y (pins ++ pinsAt fp1 s14.heap) σ' H' s' → (wipe σ c.vs).length = σ'.length → (∀ (j : Nat) v, (wipe σ c.vs)[j]? = some (some v) → σ'[j]? = some (some v)) → Nx1 H' → ∃ m, m < k ∧ ∃ j H', Inv Y pins (wipe σ c.vs) H' s' ∧ tn1 j s'.heap ∧ (∀ b ∈ fp1, H' b = none) ∧ W1 j m H' := fun {σ' s' H'} I' hl hk nx => by
          obtain ⟨m', hm, w'⟩ := hNx1 H' nx
          have pin' : ∀ b ∈ fp1, ∀ o, s14.heap.get? b = some o → s'.heap.get? b = some o ∧ H' b = none := fun b hb o e =>
            let z := I'.pin (b, o) (List.mem_append_right _ (List.mem_append_right _ (mem_pinsAt hb e)))
            ⟨z.1, z.2.1⟩
          refine ⟨m', hm, j + 1, H', I'.unpinned.weak hl hk, T1.keep _ _ _ st14 fun b hb o e => (pin' b hb o e).1, fun b hb => ?_, w'⟩
          obtain ⟨o, e, _⟩ := T1.obj _ _ st14 b hb
          exact (pin' b hb o e).2
        cases b1 with
        | false =>
          simp only [Bool.false_eq_true, if_false] at q16 ⊢
          exact fin1 I16 (by rw [← hw15, wipe_length]) (fun j v e => by rw [← hw15] at e; exact (wipe_some e).1) q16
        | true =>
          simp only [if_true] at q16 ⊢
          refine (ih _ σ15 H16 s16 Nx1 _ I16 q16).mono fun s' ⟨σ', H', I', ⟨hl, hk⟩, nx⟩ => ?_
          refine fin1 I' (by rw [hl, ← hw15, wipe_length]) (fun j v e => ?_) nx
          rw [← hw15] at e
          obtain ⟨e1, e2⟩ := wipe_some e
          exact hk j v (fun z => e2 (hO.1 j z)) e1
    exact compStartN hn loop1 (T1.self Y.A 0 _ _ _ st11 loop1)
end
/-- [elt for tg in iter if .. for .. ]: c0.wi is read ahead of the block -/
def tLcN (c0 : ClR) (cs : List ClR) (te : TE) : TE := fun σ H Q => c0.wi σ H fun J H1 => ∀ L, H1 L = none → ∃ W : Nat → Nat → Hp → Prop, (∃ m, W 0 m (upd H1 L (.lst []))) ∧ ∀ i m H, W i m H →
  (J.stop i H ∧ Q (.ref L) H) ∨ (J.go i H ∧ ∃ Nx : Hp → Prop, (∀ H', Nx H' → ∃ m', m' < m ∧ W (i + 1) m' H') ∧ ∀ x H', J.yld i H x H' → c0.g x (wipe σ c0.vs) H' fun σ2 H2 => wipe σ2 c0.vs = wipe σ c0.vs ∧ c0.tt σ2 H2 fun b H3 =>
    if b = true then tIn L te cs σ2 H3 Nx else Nx H3)
/-- a clause that is read within the block -/
structure ClIn (Y : Cx) (c : ClR) : Prop where
  i : PI Y c.tg c.iter c.wi
  g : PG Y c.tg c.g
  t : PTs Y c.ifs c.tt
section
variable {X : Cx}
theorem lcN_core {pins : List (Addr × Obj)} {s : Shared} {σ : L2.St} {H : Hp} {Q : VK} {elt : Expr} {c0 : ClR} {cs : List ClR} {scope : Scope} {own : List (Str × Nat)} {pos pos' : Pos} {te : TE} {use : Option (Value → Sem Unit)} {Qf : Value → Shared → Prop}
    (hc : X.calm = true) (hN : X.N.Nodup) (I : Inv X pins σ H s) (hi : PI X c0.tg c0.iter c0.wi) (hvs : c0.vs = own.map (·.2)) (hnv : NestV (c0 :: cs)) (ok : BlkOk X.N X.env.scope scope own)
    (hg : ∀ (s : Shared) (H : Hp) (C : Addr) (cl : List (Str × Addr)) (fp : List Addr), PG (X.blk s H scope (compEnvC scope cl C X.env) fp) c0.tg c0.g ∧ PTs (X.blk s H scope (compEnvC scope cl C X.env) fp) c0.ifs c0.tt ∧ PE (X.blk s H scope (compEnvC scope cl C X.env) fp) elt te ∧ ∀ c ∈ cs, ClIn (X.blk s H scope (compEnvC scope cl C X.env) fp) c)
    (hs : ∀ x, foldedSetIterable c0.iter X.env x = pure x) (hs1 : ∀ c ∈ cs, ∀ env x, foldedSetIterable c.iter env x = pure x)
    (h : tLcN c0 cs te σ H Q)
    (hRR : ∀ L C s' m H', Inv X pins σ H' s' → Q (.ref L) H' → s'.heap.Ns C m → FpOk X pins H' C → compPost (model X.prog X.w) X.A X.xe use Qf (.ref L) C (.ok .next) s') :
    wpAny (model X.prog X.w) X.A (comprehension (.ListComp elt (c0.c :: cs.map ClR.c) scope pos) scope X.env pos' (newList []) false (eval c0.iter X.env) use) Qf X.xe s := by
  have hfr : ∀ y ∈ scope.names, y.2 = .free → ∃ c, X.env.cells.lookup y.1 = some c := fun y hy e => (ok.free y hy e).elim (fun k => I.ok.has _ (.inl k)) fun k => I.ok.has _ (.inr k)
  refine wpAny_comprehension_free (use := use) rfl hs (closure_ok hfr) ok.kind (fun y hy e => by rw [ok.uniq y hy, e])
    (thn (hi.run pins s σ H _ I h) fun xv s1 hx => thn hx fun itv s2 h2 => ?_)
  obtain ⟨it, fp, tn, J, H2, e, I2, T, st2, f2, q⟩ := h2
  subst e
  refine wpAny_newObj_type (newEnv_comp ?_) (by show 0 ≤ sizeLine; decide)
  generalize hL : s2.heap.objs.size = L
  have hLn : H2 L = none := I2.hok.fresh (Nat.le_of_eq hL)
  obtain ⟨W, ⟨m0, w0⟩, turn⟩ := q L hLn
  generalize hs3 : ({ s2 with heap := s2.heap.push { cls := .type "list", data := .seq ([] : List Value).toArray } } : Shared) = s3
  have I3 : Inv X pins σ (upd H2 L (.lst [])) s3 := by
    rw [← hs3]
    refine I2.laid (t' := s2.toks) (fun b o z => Heap.get?_push_of_some _ z) (Nat.le_of_eq hL) ⟨Nat.zero_le _, [], 0, .nil, ?_⟩
    rw [← hL]
    exact Heap.get?_push_size _ rfl
  have h3 : s3.heap = s2.heap.push { cls := .type "list", data := .seq ([] : List Value).toArray } := by rw [← hs3]
  have f3 : ∀ b ∈ fp, FpOk X pins (upd H2 L (.lst [])) b ∧ b < s3.heap.objs.size := fun b hb => by
    have hlt : b < s2.heap.objs.size := by obtain ⟨o, z, _⟩ := T.obj _ _ st2 b hb; exact Heap.lt_size z
    refine ⟨⟨?_, (f2 b hb).2⟩, by rw [h3, Heap.size_push]; exact Nat.lt_succ_of_lt hlt⟩
    rw [upd_ne (by rw [← hL]; exact Nat.ne_of_lt hlt)]
    exact (f2 b hb).1
  have st3 : tn 0 s3.heap := T.keep _ _ _ st2 fun b _ o z => by rw [h3]; exact Heap.get?_push_of_some _ z
  have I4 := block_start I3 ok hN f3
  obtain ⟨pg, pt, pe, pcs⟩ := hg s3 (upd H2 L (.lst [])) s3.heap.objs.size (cellsFrom (s3.heap.objs.size + 1) scope.names (cloFrom X.env.cells scope.names [])) fp
  show codeAny _ _ (.compStart (.ListComp elt (c0.c :: cs.map ClR.c) scope pos) 0 (.ref it) (.ref L) (compEnvC scope (cellsFrom (s3.heap.objs.size + 1) scope.names (cloFrom X.env.cells scope.names [])) s3.heap.objs.size X.env)) (compPost (model X.prog X.w) X.A X.xe use Qf (.ref L) s3.heap.objs.size) { s3 with heap := pushCells (s3.heap.push { cls := .type "dict", data := .dict #[] }) scope.names }
  have nfp : ∀ b ∈ fp, (upd H2 L (.lst [])) b = none := fun b hb => (f3 b hb).1.1
  generalize hce : compEnvC scope (cellsFrom (s3.heap.objs.size + 1) scope.names (cloFrom X.env.cells scope.names [])) s3.heap.objs.size X.env = ce at I4 pg pt pe pcs ⊢
  have cL : ce.locals = s3.heap.objs.size := by subst hce; rfl
  generalize hH3 : upd H2 L (.lst []) = H3 at I3 I4 pg pt pe pcs w0 nfp f3
  generalize hs4 : ({ s3 with heap := pushCells (s3.heap.push { cls := .type "dict", data := .dict #[] }) scope.names } : Shared) = s4 at I4 ⊢
  have st4 : tn 0 s4.heap := T.keep _ _ _ st3 fun b _ o z => by rw [← hs4]; exact pushCells_keeps _ _ _ _ (Heap.get?_push_of_some _ z)
  rw [← hvs] at I4
  generalize hY : X.blk s3 H3 scope ce fp = Y at I4 pg pt pe pcs
  have hYc : Y.calm = true := by rw [← hY]; exact hc
  have hYx : ∀ v s, ¬ Y.xe v s := by rw [← hY]; exact fun _ _ z => z
  have hYe : Y.env = ce := by rw [← hY]
  have hYp : Y.prog = X.prog := by rw [← hY]
  have hYw : Y.w = X.w := by rw [← hY]
  have hYA : Y.A = X.A := by rw [← hY]
  have hYK : Y.K = X.K := by rw [← hY]
  have stat : ∀ {σ' : L2.St} {H' : Hp} {s' : Shared}, Inv Y [] σ' H' s' → (∀ b ∈ fp, H' b = none) → ∀ b ∈ fp, FpOk Y [] H' b := by
    subst hY
    exact fun {σ' H' s'} I' hn b hb => ⟨hn b hb, (I'.ok.exf b hb).1, I'.ok.exfs b hb, .inl hb, fun x c z => (I'.ok.exf b hb).2 x c z, fun p hp => absurd (show p ∈ ([] : List (Addr × Obj)) ++ [] from hp) (by simp)⟩
  have wx : ∀ {α : Type} {t : Sem α} {Q Q' : α → Shared → Prop} {E : Value → Shared → Prop} {s : Shared}, wpAny (model Y.prog Y.w) Y.A t Q Y.xe s → (∀ a s, Q a s → Q' a s) → wpAny (model X.prog X.w) X.A t Q' E s := fun h k => by
    rw [hYp, hYw, hYA] at h
    exact wpAny_mono h k fun v s z => (hYx v s z).elim
  have loop : codeAny (model X.prog X.w) X.A (.compLoop (.ListComp elt (c0.c :: cs.map ClR.c) scope pos) 0 (.ref it) (.ref L) ce) (compPost (model X.prog X.w) X.A X.xe use Qf (.ref L) s3.heap.objs.size) s4 := by
    refine compLoopN (t0 := c0.tg) (i0 := c0.iter) (ifs0 := c0.ifs) rfl (fun g' hg' => ?_) (fun n s' => ∃ i H', Inv Y [] (wipe σ c0.vs) H' s' ∧ tn i s'.heap ∧ (∀ b ∈ fp, H' b = none) ∧ W i n H') ?_ m0 ⟨0, H3, I4, st4, nfp, w0⟩
    · cases cs with
      | nil => cases hg'
      | cons c' cs' =>
        obtain rfl : c'.c = g' := Option.some.inj hg'
        exact ⟨rfl, hs1 c' List.mem_cons_self ce⟩
    rintro n s5 ⟨i, H5, I5, st5, n5, w5⟩
    rcases turn i n H5 w5 with ⟨stop, qq⟩ | ⟨go, Nx, hNx, step⟩
    · have td := T.done Y hYp hYw hYK hYc i [] s5 _ H5 (fun _ _ => False) I5 (stat I5 n5) st5 stop
      rw [hYA] at td
      refine thnF td fun r s6 ⟨hr, I6⟩ => ?_
      subst hr
      subst hY
      have I7 : Inv X pins σ H5 s6 := I3.call' (ch := fp) I6.os I6.base I6.hok I6.bare fun b hb => ⟨(f3 b hb).1.2.2.2.1, (f3 b hb).1.2.1, (f3 b hb).1.2.2.2.2.1, (f3 b hb).1.2.2.2.2.2⟩
      have nC : H5 s3.heap.objs.size = none := by rw [← cL]; exact I6.free
      obtain ⟨m, hn, _⟩ := I6.loc
      have hn : s6.heap.Ns ce.locals m := hn
      rw [cL] at hn
      exact hRR L s3.heap.objs.size s6 m H5 I7 qq hn (I3.fpOk (Nat.le_refl _) nC)
    · have ti := T.item Y hYp hYw hYK hYc i [] s5 _ H5 (fun _ _ => False) I5 (stat I5 n5) st5 go
      rw [hYA] at ti
      refine thnF ti fun r s6 ⟨u, hr, h6⟩ => ?_
      subst hr
      refine thnF h6 fun _ s7 ⟨x, H7, I7, r7, y7, st7, n7⟩ => ?_
      have I7' := I7.pinned (stat I7 n7) (T.obj _ _ st7)
      have pgr := pg.run _ s7 _ H7 x u _ I7' r7 (step x H7 y7)
      rw [hYe] at pgr
      refine wx pgr fun _ s8 ⟨σ8, H8, I8, hw8, q8⟩ => ?_
      have ptr := pt.run _ s8 σ8 H8 _ I8 q8
      rw [hYe] at ptr
      refine wx ptr fun b s9 ⟨H9, I9, q9⟩ => ?_
      have fin : ∀ {σ9 : L2.St} {s' : Shared} {H' : Hp}, Inv Y ([] ++ pinsAt fp s7.heap) σ9 H' s' → (wipe σ c0.vs).length = σ9.length → (∀ (j : Nat) v, (wipe σ c0.vs)[j]? = some (some v) → σ9[j]? = some (some v)) → Nx H' →
          ∃ m, m < n ∧ ∃ i H', Inv Y [] (wipe σ c0.vs) H' s' ∧ tn i s'.heap ∧ (∀ b ∈ fp, H' b = none) ∧ W i m H' := fun {σ9 s' H'} I' hl hk nx => by
        obtain ⟨m', hm, w'⟩ := hNx H' nx
        have pin' : ∀ b ∈ fp, ∀ o, s7.heap.get? b = some o → s'.heap.get? b = some o ∧ H' b = none := fun b hb o z =>
          let y := I'.pin (b, o) (List.mem_append_right _ (List.mem_append_right _ (mem_pinsAt hb z)))
          ⟨y.1, y.2.1⟩
        refine ⟨m', hm, i + 1, H', (I'.unpinned (pins := [])).weak hl hk, T.keep _ _ _ st7 fun b hb o z => (pin' b hb o z).1, fun b hb => ?_, w'⟩
        obtain ⟨o, z, _⟩ := T.obj _ _ st7 b hb
        exact (pin' b hb o z).2
      cases b with
      | false =>
        simp only [Bool.false_eq_true, if_false] at q9 ⊢
        exact fin I9 (by rw [← hw8, wipe_length]) (fun j v z => by rw [← hw8] at z; exact (wipe_some z).1) q9
      | true =>
        simp only [if_true] at q9 ⊢
        have pk := piece_ok (gens := c0.c :: cs.map ClR.c) (scope := scope) (pos := pos) hYc hYx pe cs 1 rfl (fun c hc => (pcs c hc).i) (fun c hc => (pcs c hc).g) (fun c hc => (pcs c hc).t) (fun c hc => hs1 c hc _) hnv.2 _ σ8 H9 s9 Nx (notedBy (model X.prog X.w) X.A ce fun e s' => compPost (model X.prog X.w) X.A X.xe use Qf (.ref L) s3.heap.objs.size (.error e) s') I9 q9
        rw [hYp, hYw, hYA, hYe] at pk
        refine pk.mono fun s' ⟨σ', H', I', ⟨hl, hk⟩, nx⟩ => ?_
        refine fin I' (by rw [hl, ← hw8, wipe_length]) (fun j v z => ?_) nx
        rw [← hw8] at z
        obtain ⟨z1, z2⟩ := wipe_some z
        exact hk j v (fun z => z2 (hnv.1 j z)) z1
  exact codeAny_compStart_list loop (T.self X.A 0 _ _ _ st4 loop)
end
section
variable {X : Cx}
theorem pe_lcN {elt : Expr} {c0 : ClR} {cs : List ClR} {scope : Scope} {own : List (Str × Nat)} {pos : Pos} {te : TE} (hc : X.calm = true) (hN : X.N.Nodup) (hi : PI X c0.tg c0.iter c0.wi) (hvs : c0.vs = own.map (·.2)) (hnv : NestV (c0 :: cs)) (ok : BlkOk X.N X.env.scope scope own)
    (hg : ∀ (s : Shared) (H : Hp) (C : Addr) (cl : List (Str × Addr)) (fp : List Addr), PG (X.blk s H scope (compEnvC scope cl C X.env) fp) c0.tg c0.g ∧ PTs (X.blk s H scope (compEnvC scope cl C X.env) fp) c0.ifs c0.tt ∧ PE (X.blk s H scope (compEnvC scope cl C X.env) fp) elt te ∧ ∀ c ∈ cs, ClIn (X.blk s H scope (compEnvC scope cl C X.env) fp) c)
    (hs : ∀ x, foldedSetIterable c0.iter X.env x = pure x) (hs1 : ∀ c ∈ cs, ∀ env x, foldedSetIterable c.iter env x = pure x) : PE X (.ListComp elt (c0.c :: cs.map ClR.c) scope pos) (tLcN c0 cs te) := by
  refine ⟨fun pins s σ H Q I h => ?_⟩
  rw [eval_ListComp]
  refine lcN_core hc hN I hi hvs hnv ok hg hs hs1 h fun L C s' m H' J q hn f => ⟨m, hn, fun h2 sb => ?_⟩
  obtain ⟨f0, f1, f2, f3, f4, f5⟩ := f
  exact ⟨.ref L, H', J.turned (t' := s'.toks) (fun b o hb z => (sb.2 b hb).trans z) f0 f1 f3 f4 f5, rfl, q⟩
theorem ps_setLcN {i : Nat} {y : Str} {py spos : Pos} {elt : Expr} {c0 : ClR} {cs : List ClR} {scope : Scope} {own : List (Str × Nat)} {pos : Pos} {te : TE} (hc : X.calm = true) (hN : X.N.Nodup) (hy : X.N[i]? = some y) (hyl : X.env.scope.names.lookup y = some .local)
    (hsw : swapsWith (.ListComp elt (c0.c :: cs.map ClR.c) scope pos) (some (.Name y py)) spos.line X.env = pure true) (hi : PI X c0.tg c0.iter c0.wi) (hvs : c0.vs = own.map (·.2)) (hnv : NestV (c0 :: cs)) (ok : BlkOk X.N X.env.scope scope own)
    (hg : ∀ (s : Shared) (H : Hp) (C : Addr) (cl : List (Str × Addr)) (fp : List Addr), PG (X.blk s H scope (compEnvC scope cl C X.env) fp) c0.tg c0.g ∧ PTs (X.blk s H scope (compEnvC scope cl C X.env) fp) c0.ifs c0.tt ∧ PE (X.blk s H scope (compEnvC scope cl C X.env) fp) elt te ∧ ∀ c ∈ cs, ClIn (X.blk s H scope (compEnvC scope cl C X.env) fp) c)
    (hs : ∀ x, foldedSetIterable c0.iter X.env x = pure x) (hs1 : ∀ c ∈ cs, ∀ env x, foldedSetIterable c.iter env x = pure x) : PS X (.Assign [.Name y py] (.ListComp elt (c0.c :: cs.map ClR.c) scope pos) spos) (tAsg (tLcN c0 cs te) (gName i)) := by
  refine ⟨fun pins s σ H D I h => ?_⟩
  rw [exec_Assign_Name_used _ _ _ _ hsw]
  refine wpAny_bind (wpAny_standAt (wpAny_bind ?_))
  show wpAny _ X.A (do let _ ← comprehension (.ListComp elt (c0.c :: cs.map ClR.c) scope pos) scope X.env (firstIterPos (c0.c :: cs.map ClR.c) pos) (newList []) false (eval c0.iter X.env) (some (assign (.Name y py) X.env))) _ _ s
  have h : tLcN c0 cs te σ H (fun x H1 => gName i x σ H1 D.nx) := h
  refine wpAny_bind (thn (lcN_core (Qf := fun _ s' => SP X pins D .next s') hc hN I hi hvs hnv ok hg hs hs1 h fun L C s' m H' J q hn f => ?_) fun _ s' hq => wpAny_pure (wpAny_pure hq))
  show wpAny _ _ (assign (.Name y py) X.env (.ref L)) _ _ _
  refine wpAny_assign_Name (store_ok2 (v := V.ref L) J hN hy (.inl hyl) rfl (fun s2 J2 ⟨a, sb, ha⟩ => ?_) (.inr hyl))
  obtain ⟨f0, f1, f2, f3, f4, f5⟩ := f
  have haC : C ≠ a := by
    rcases ha with z | z
    · rw [z]; exact f1
    · exact fun e => f4 y a z e.symm
  exact ⟨m, hn.sameBut sb haC, fun h3 sb3 => ⟨_, H', J2.turned (t' := s2.toks) (fun b o hb z => (sb3.2 b hb).trans z) f0 f1 f3 f4 f5, q⟩⟩
end
/-! ### over slots -/
structure Cl3 where
  tg : Expr
  iter : Expr
  ifs : List Expr
  ti : TA3
  g : TG3
  tt : TB3
  vs : List Nat
def Cl3.r (K : PySem.W.Frag) (E : XK) (c : Cl3) : ClR := ⟨c.tg, c.iter, c.ifs, liftI K E c.ti, liftG K c.vs c.g, lift K XF RBl c.tt, c.vs⟩
structure Cl3.Mono (c : Cl3) : Prop where
  ti : Mono3 c.ti
  g : MonoG c.g
  tt : Mono3 c.tt
def nox : Ex3 → Prop := fun _ => False
def tIn3 (te : T3) : List Cl3 → Sl → List D → (List D → Sl → Prop) → Prop
  | [], δ, acc, k => te nox δ fun y δ' => acc.length < sizeLine ∧ k (acc ++ [y]) δ'
  | c :: cs, δ, acc, k => c.ti nox δ fun ds δ1 => ∃ Pv : Nat → List D → Sl → Prop, Pv 0 acc δ1 ∧
      (∀ i x acc δ2, ds[i]? = some x → Pv i acc δ2 → c.g x (wipeS δ2 c.vs) fun δ3 => c.tt nox δ3 fun b δ4 => br b (tIn3 te cs δ4 acc fun acc' δ5 => Pv (i + 1) acc' (backS δ2 δ5 c.vs)) (Pv (i + 1) acc (backS δ2 δ4 c.vs))) ∧
      ∀ acc δ2, Pv ds.length acc δ2 → k acc δ2
theorem tIn3_mono {te : T3} (he : Mono3 te) : ∀ (cs : List Cl3), (∀ c ∈ cs, c.Mono) → ∀ (δ : Sl) (acc : List D) (k k' : List D → Sl → Prop), (∀ acc δ, k acc δ → k' acc δ) → tIn3 te cs δ acc k → tIn3 te cs δ acc k'
  | [], _, δ, acc, k, k', hk, q => he _ _ _ _ _ (fun _ z => z) (fun y δ' z => ⟨z.1, hk _ _ z.2⟩) q
  | c :: cs, mc, δ, acc, k, k', hk, q => (mc c List.mem_cons_self).ti _ _ _ _ _ (fun _ z => z) (fun ds δ1 ⟨Pv, h0, hs, hd⟩ => ⟨Pv, h0, hs, fun acc δ2 p => hk _ _ (hd acc δ2 p)⟩) q
/-- L may change, too -/
abbrev ExL (L : Addr) (ρ : Rho) (H : Hp) (ρ' : Rho) (H' : Hp) : Prop := Ext (fun b => Ow ρ b ∨ b = L) (Ow ρ) H (Ow ρ') H'
section
variable {K : PySem.W.Frag} {π : Rho} {F : Addr → Prop} {L : Addr} {ρ ρ1 ρ2 : Rho} {H H1 H2 : Hp}
theorem ExL.of (e : Ext (Ow ρ) (Ow ρ) H (Ow ρ1) H1) : ExL L ρ H ρ1 H1 := ⟨fun b o h n t => e.fr b o h (fun z => n (.inl z)) t, e.ow, e.tk, e.tb⟩
theorem ExL.trans (a : ExL L ρ H ρ1 H1) (b : ExL L ρ1 H1 ρ2 H2) : ExL L ρ H ρ2 H2 where
  fr := fun c o h n t => b.fr c o (a.fr c o h n t) (fun z => z.elim (fun z => (a.ow c z).elim (fun z => n (.inl z)) fun q => by rw [q] at h; cases h) fun z => n (.inr z)) t
  ow := fun c z => by
    rcases b.ow c z with q | q
    · exact a.ow c q
    · cases h : H c with
      | none => exact .inr rfl
      | some o =>
        obtain ⟨o', z⟩ := a.tk c o h
        rw [z] at q; cases q
  tk := fun c o h => let ⟨o1, h1⟩ := a.tk c o h; b.tk c o1 h1
  tb := a.tb.trans b.tb
theorem ExL.frn (e : ExL L ρ H ρ1 H1) : Ext (fun b => Ow ρ b ∨ b = L) (Ox (FD F L) ρ) H (Ox (FD F L) ρ1) H1 :=
  ⟨e.fr, fun b z => z.elim (fun q => (e.ow b q).elim (fun q => .inl (.inl q)) .inr) fun q => .inl (.inr q), e.tk, e.tb⟩
theorem poL : ∀ b, (Ow ρ b ∨ b = L) → Ox (FD F L) ρ b := fun b z => z.elim .inl fun z => .inr (.inr z)
/-- what the inner clauses come to -/
def InOk (K : PySem.W.Frag) (π : Rho) (F : Addr → Prop) (L : Addr) (te : T3) (cs : List Cl3) : Prop := ∀ (ρ : Rho) (H : Hp) (σ : L2.St) (δ : Sl) (acc : List D) (accV : List V) (k : List D → Sl → Prop), Rel K π (FD F L) ρ H σ δ → H L = some (.lst accV) → RpAll K (Ox (FD F L) ρ) H accV acc → tIn3 te cs δ acc k →
  ∀ Nx : Hp → Prop, (∀ H' ρ' δ' acc' accV', ExL L ρ H ρ' H' → Rel K π (FD F L) ρ' H' σ δ' → H' L = some (.lst accV') → RpAll K (Ox (FD F L) ρ') H' accV' acc' → k acc' δ' → Nx H') → tIn L (lift K XF (Rp K) te) (cs.map (Cl3.r K XF)) σ H Nx
theorem turn3 {te : T3} {c : Cl3} {cs : List Cl3} {E : XK} (mc : c.Mono) (mcs : ∀ c ∈ cs, c.Mono) (he : Mono3 te) (ih : InOk K π F L te cs) {ρ2 : Rho} {H2 H' : Hp} {σ : L2.St} {δ2 : Sl} {acc : List D} {accV : List V} {x : D} {v : V} (rel2 : Rel K π (FD F L) ρ2 H2 σ δ2) (hH2 : H2 L = some (.lst accV)) (ra : RpAll K (Ox (FD F L) ρ2) H2 accV acc) (sm : Same H2 H') (rp : Rp K (Ox (FD F L) ρ2) H' v x)
    {Pn : List D → Sl → Prop} (q : c.g x (wipeS δ2 c.vs) fun δ3 => c.tt nox δ3 fun b δ4 => br b (tIn3 te cs δ4 acc fun acc' δ5 => Pn acc' (backS δ2 δ5 c.vs)) (Pn acc (backS δ2 δ4 c.vs)))
    (Nx1 : Hp → Prop) (hN : ∀ H'' ρ' δ' acc' accV', ExL L ρ2 H2 ρ' H'' → Rel K π (FD F L) ρ' H'' σ δ' → H'' L = some (.lst accV') → RpAll K (Ox (FD F L) ρ') H'' accV' acc' → Pn acc' δ' → Nx1 H'') :
    (c.r K E).g v (wipe σ (c.r K E).vs) H' fun σ3 H5 => wipe σ3 (c.r K E).vs = wipe σ (c.r K E).vs ∧ (c.r K E).tt σ3 H5 fun b H6 => if b = true then tIn L (lift K XF (Rp K) te) (cs.map (Cl3.r K XF)) σ3 H6 Nx1 else Nx1 H6 := by
  show liftG K c.vs c.g v (wipe σ c.vs) H' fun σ3 H5 => wipe σ3 c.vs = wipe σ c.vs ∧ lift K XF RBl c.tt σ3 H5 fun b H6 => if b = true then tIn L (lift K XF (Rp K) te) (cs.map (Cl3.r K XF)) σ3 H6 Nx1 else Nx1 H6
  have rel2' := rel2.same sm
  obtain ⟨ρw, relw, lew⟩ := rel2'.wipe c.vs
  have lewx : ∀ b, Ox (FD F L) ρw b → Ox (FD F L) ρ2 b := fun b z => z.imp (lew b) id
  have e2w : Ex (FD F L) ρ2 H2 ρw H' := ⟨fun b u h _ _ => sm b u h, fun b z => .inl (lew b z), fun b u h => ⟨u, sm b u h⟩, Tb.same sm⟩
  refine ⟨π, FD F L, ρw, _, _, relw, rp.mono lewx, mc.g _ _ _ _ (fun δ3 q σ3 H3 ρ3 e3 rel3 w3 s3 => ?_) q⟩
  rw [wipe_wipe] at w3
  refine ⟨w3, π, FD F L, ρ3, δ3, rel3, mc.tt _ _ _ _ _ (fun _ z => z.elim) (fun b δ4 q b' H4 ρ4 e4 rel4 eb => ?_) q⟩
  subst eb
  have e24 : Ex (FD F L) ρ2 H2 ρ4 H4 := (e2w.trans e3).trans e4
  have hLo : ¬ Ow ρ2 L := rel2.dis L (.inr rfl)
  have hH4 : H4 L = some (.lst accV) := e24.fr L _ hH2 hLo rfl
  have ra4 := ra.ext (e24.frn) fun _ => .inl
  refine (q.imp (fun q => ?_) (fun q => ?_)).ite
  · refine ih _ _ _ _ _ _ _ rel4 hH4 ra4 q Nx1 fun H'' ρ' δ' acc' accV' e' rel' hL' ra' pn => ?_
    have e2' : ExL L ρ2 H2 ρ' H'' := (ExL.of e24).trans e'
    obtain ⟨ρ6, rel6, le6⟩ := rel'.backG rel2 (fun _ _ h => h.ext (e2'.frn (F := F)) poL) w3
    have le6x : ∀ b, Ox (FD F L) ρ6 b → Ox (FD F L) ρ' b := fun b z => z.imp (le6 b) id
    exact hN H'' ρ6 _ acc' accV' ⟨e2'.fr, fun b z => e2'.ow b (le6 b z), e2'.tk, e2'.tb⟩ rel6 hL' (ra'.mono le6x) pn
  · obtain ⟨ρ6, rel6, le6⟩ := rel4.back rel2 e24 w3
    have le6x : ∀ b, Ox (FD F L) ρ6 b → Ox (FD F L) ρ4 b := fun b z => z.imp (le6 b) id
    have e2' : ExL L ρ2 H2 ρ4 H4 := ExL.of e24
    exact hN H4 ρ6 _ acc accV ⟨e2'.fr, fun b z => e2'.ow b (le6 b z), e2'.tk, e2'.tb⟩ rel6 hH4 (ra4.mono le6x) q
theorem lift_in {te : T3} (he : Mono3 te) : ∀ (cs : List Cl3), (∀ c ∈ cs, c.Mono) → InOk K π F L te cs
  | [], _ => by
    intro ρ H σ δ acc accV k rel hL ra q Nx hN
    refine ⟨π, FD F L, ρ, δ, rel, he _ _ _ _ _ (fun _ z => z.elim) (fun y δ' q u H5 ρ5 e5 rel5 r5 => ?_) q⟩
    obtain ⟨q1, q2⟩ := q
    have hLo : ¬ Ow ρ L := rel.dis L (.inr rfl)
    have hH5 : H5 L = some (.lst accV) := e5.fr L _ hL hLo rfl
    have ra5 := ra.ext (e5.frn) fun _ => .inl
    refine ⟨accV, hH5, by rw [ra5.length]; exact q1, ?_⟩
    obtain ⟨rel7, ex7⟩ := rel5.updF (d := L) (o := .lst (accV ++ [u])) (.inr rfl) hH5 ⟨rfl, rfl⟩
    have po : ∀ b, b = L → Ox (FD F L) ρ5 b := fun b z => by rw [z]; exact .inr (.inr rfl)
    refine hN _ ρ5 δ' _ (accV ++ [u]) ((ExL.of e5).trans ⟨fun b o hb n _ => ?_, fun _ z => .inl z, ex7.tk, ex7.tb⟩) rel7 upd_same ((ra5.append (.cons r5 .nil)).ext ex7 po) q2
    rw [upd_ne fun z => n (.inr z)]; exact hb
  | c :: cs, mcs => by
    intro ρ H σ δ acc accV k rel hL ra q Nx hN
    have mc := mcs c List.mem_cons_self
    have ih : InOk K π F L te cs := lift_in he cs fun c hc => mcs c (List.mem_cons_of_mem _ hc)
    have hLo : ¬ Ow ρ L := rel.dis L (.inr rfl)
    refine ⟨π, FD F L, ρ, δ, rel, mc.ti _ _ _ _ _ (fun _ z => z.elim) (fun ds δ1 ⟨Pv, h0, hs, hd⟩ J H1 ρ1 e1 rel1 jok => ?_) q⟩
    have hH1 : H1 L = some (.lst accV) := e1.fr L _ hL hLo rfl
    refine ⟨fun i m H2 => m = ds.length - i ∧ i ≤ ds.length ∧ ∃ acc accV ρ2 δ2, ExL L ρ1 H1 ρ2 H2 ∧ Rel K π (FD F L) ρ2 H2 σ δ2 ∧ H2 L = some (.lst accV) ∧ RpAll K (Ox (FD F L) ρ2) H2 accV acc ∧ Pv i acc δ2, ⟨ds.length, by simp, Nat.zero_le _, acc, accV, ρ1, δ1, ExL.of Ext.refl, rel1, hH1, ra.ext (e1.frn) fun _ => .inl, h0⟩, ?_⟩
    rintro i m H2 ⟨rfl, hil, acc, accV, ρ2, δ2, e2, rel2, hH2, ra, p⟩
    obtain ⟨j1, j2⟩ := jok i (FD F L) ρ2 H2 _ poL (e2.frn (F := F)) rel2.trk
    by_cases hlt : i < ds.length
    · obtain ⟨go, y⟩ := j1 ds[i] (by simp [hlt])
      refine .inr ⟨go, fun H' => i + 1 ≤ ds.length ∧ ∃ acc accV ρ2 δ2, ExL L ρ1 H1 ρ2 H' ∧ Rel K π (FD F L) ρ2 H' σ δ2 ∧ H' L = some (.lst accV) ∧ RpAll K (Ox (FD F L) ρ2) H' accV acc ∧ Pv (i + 1) acc δ2, fun H' ⟨hl, z⟩ => ⟨ds.length - (i + 1), by omega, rfl, hl, z⟩, fun v H' yl => ?_⟩
      obtain ⟨sm, rp⟩ := y v H' yl
      exact turn3 (E := XF) mc (fun c hc => mcs c (List.mem_cons_of_mem _ hc)) he ih rel2 hH2 ra sm rp (Pn := Pv (i + 1)) (hs i _ acc δ2 (by simp [hlt]) p) _ fun H'' ρ' δ' acc' accV' e' r' h' a' pn => ⟨hlt, acc', accV', ρ', δ', e2.trans e', r', h', a', pn⟩
    · have e : i = ds.length := by omega
      subst e
      exact .inl ⟨j2 (Nat.le_refl _), hN H2 ρ2 δ2 acc accV ((ExL.of e1).trans e2) rel2 hH2 ra (hd acc δ2 p)⟩
end
/-- [e for .. in .. if .. for .. in ..] -/
def tLc3N (c0 : Cl3) (cs : List Cl3) (te : T3) : G3 (List D) := fun E δ Q => c0.ti E δ fun ds δ1 => ∃ Pv : Nat → List D → Sl → Prop, Pv 0 [] δ1 ∧
  (∀ i x acc δ2, ds[i]? = some x → Pv i acc δ2 → c0.g x (wipeS δ2 c0.vs) fun δ3 => c0.tt nox δ3 fun b δ4 => br b (tIn3 te cs δ4 acc fun acc' δ5 => Pv (i + 1) acc' (backS δ2 δ5 c0.vs)) (Pv (i + 1) acc (backS δ2 δ4 c0.vs))) ∧
  ∀ acc δ2, Pv ds.length acc δ2 → Q acc δ2
theorem mono_tLc3N {c0 : Cl3} {cs : List Cl3} {te : T3} (h : Mono3 c0.ti) : Mono3 (tLc3N c0 cs te) := fun _ _ _ _ _ hx hq q => h _ _ _ _ _ hx (fun ds δ1 ⟨Pv, h2, h3, h4⟩ => ⟨Pv, h2, h3, fun acc δ2 p => hq _ _ (h4 acc δ2 p)⟩) q
section
variable {X : Cx} {E : XK} {c0 : Cl3} {cs : List Cl3} {te : T3}
/-- both ends: as data, as an owned list -/
theorem lift_lcN (m0 : c0.Mono) (mcs : ∀ c ∈ cs, c.Mono) (he : Mono3 te) {σ : L2.St} {H : Hp} {Q : VK} {π : Rho} {F : Addr → Prop} {ρ : Rho} {δ : Sl} (rel : Rel X.K π F ρ H σ δ) (QQ : List D → Sl → Prop) (q : tLc3N c0 cs te (liftX X.K E F ρ H) δ QQ)
    (fin : ∀ L acc accV ρ2 δ2 H2, (∀ p, π p ≠ some L) → ¬ F L → Ex F ρ H (own1 ρ2 δ2.length L) H2 → Ex F ρ H ρ2 H2 → Rel X.K π (FD F L) ρ2 H2 σ δ2 → H2 L = some (.lst accV) → RpAll X.K (Ox (FD F L) ρ2) H2 accV acc → QQ acc δ2 → Q (.ref L) H2) :
    tLcN (c0.r X.K E) (cs.map (Cl3.r X.K XF)) (lift X.K XF (Rp X.K) te) σ H Q := by
  refine ⟨π, F, ρ, δ, rel, m0.ti _ _ _ _ _ (fun _ z => z) (fun ds δ1 ⟨Pv, h0, hs, hd⟩ J H1 ρ1 e1 rel1 jok => ?_) q⟩
  intro L hL
  have nL : ¬ Ox F ρ1 L := rel1.fresh hL
  have exJ : ∀ {ρ2 : Rho} {H2 : Hp}, Ex F ρ1 H1 ρ2 H2 → Ext (Ow ρ1) (Ox F ρ1) H1 (Ox (FD F L) ρ2) H2 := fun {ρ2 H2} e => ⟨e.fr, fun b z => by
    rcases z with z | z | z
    · exact (e.ow b z).imp .inl id
    · exact .inl (.inr z)
    · exact .inr (by rw [z]; exact hL), e.tk, e.tb⟩
  have offL : ∀ {ρ2 ρ3 : Rho} {H2 H3 : Hp}, Ex F ρ1 H1 ρ2 H2 → ExL L ρ2 H2 ρ3 H3 → Ex F ρ1 H1 ρ3 H3 := fun {ρ2 ρ3 H2 H3} a b => ⟨fun c o h n t => b.fr c o (a.fr c o h n t) (fun z => z.elim (fun z => (a.ow c z).elim n fun q => by rw [q] at h; cases h) fun z => by rw [z, hL] at h; cases h) t, fun c z => by
    rcases b.ow c z with q | q
    · exact a.ow c q
    · cases h : H1 c with
      | none => exact .inr rfl
      | some o =>
        obtain ⟨o', z⟩ := a.tk c o h
        (rw [z] at q; cases q), fun c o h => let ⟨o1, h1⟩ := a.tk c o h; b.tk c o1 h1, a.tb.trans b.tb⟩
  refine ⟨fun i m H2 => m = ds.length - i ∧ i ≤ ds.length ∧ ∃ acc accV ρ2 δ2, Ex F ρ1 H1 ρ2 H2 ∧ Rel X.K π (FD F L) ρ2 H2 σ δ2 ∧ H2 L = some (.lst accV) ∧ RpAll X.K (Ox (FD F L) ρ2) H2 accV acc ∧ Pv i acc δ2, ⟨ds.length, by simp, Nat.zero_le _, [], [], ρ1, δ1, Ext.same (same_upd hL), rel1.addF hL, upd_same, .nil, h0⟩, ?_⟩
  rintro i m H2 ⟨rfl, hil, acc, accV, ρ2, δ2, e2, rel2, hH2, ra, p⟩
  obtain ⟨j1, j2⟩ := jok i (FD F L) ρ2 H2 _ (fun _ => .inl) (exJ e2) rel2.trk
  by_cases hlt : i < ds.length
  · obtain ⟨go, y⟩ := j1 ds[i] (by simp [hlt])
    refine .inr ⟨go, fun H' => i + 1 ≤ ds.length ∧ ∃ acc accV ρ2 δ2, Ex F ρ1 H1 ρ2 H' ∧ Rel X.K π (FD F L) ρ2 H' σ δ2 ∧ H' L = some (.lst accV) ∧ RpAll X.K (Ox (FD F L) ρ2) H' accV acc ∧ Pv (i + 1) acc δ2, fun H' ⟨hl, z⟩ => ⟨ds.length - (i + 1), by omega, rfl, hl, z⟩, fun v H' yl => ?_⟩
    obtain ⟨sm, rp⟩ := y v H' yl
    exact turn3 (E := E) m0 mcs he (lift_in he cs mcs) rel2 hH2 ra sm rp (Pn := Pv (i + 1)) (hs i _ acc δ2 (by simp [hlt]) p) _ fun H'' ρ' δ' acc' accV' e' r' h' a' pn => ⟨hlt, acc', accV', ρ', δ', offL e2 e', r', h', a', pn⟩
  · have e : i = ds.length := by omega
    subst e
    refine .inl ⟨j2 (Nat.le_refl _), fin L acc accV ρ2 δ2 H2 (fun p z => ?_) (fun z => nL (.inr z)) (e1.trans ⟨e2.fr, fun b z => ?_, e2.tk, e2.tb⟩) (e1.trans e2) rel2 hH2 ra (hd acc δ2 p)⟩
    · obtain ⟨u, q⟩ := rel1.pit p L z
      rw [hL] at q; cases q
    · rcases own1_le b z with z | z
      · exact e2.ow b z
      · exact .inr (by rw [z]; exact hL)
end
/-! ### nothing else changes: the parts by clauses -/
def tInQ (te : T3) : List Cl3 → Sl → (List D → Sl → Prop) → Prop
  | [], δ, k => te nox δ fun y δ' => k [y] δ'
  | c :: cs, δ, k => c.ti nox δ fun ds δ1 => Ask (∃ yss : List (List D), yss.length = ds.length ∧
      (∀ (i : Nat) (x : D), ds[i]? = some x → c.g x (wipeS δ1 c.vs) fun δ3 => normK δ3 fun δ3 => c.tt nox δ3 fun b δ4 => br b (tInQ te cs δ4 fun ys δ5 => backS δ1 δ5 c.vs = δ1 ∧ yss[i]? = some ys) (backS δ1 δ4 c.vs = δ1 ∧ yss[i]? = some [])) ∧ k yss.flatten δ1)
def tLcQ (c0 : Cl3) (cs : List Cl3) (te : T3) : G3 (List D) := fun E δ Q => c0.ti E δ fun ds δ1 => Ask (∃ yss : List (List D), yss.length = ds.length ∧
  (∀ (i : Nat) (x : D), ds[i]? = some x → c0.g x (wipeS δ1 c0.vs) fun δ3 => normK δ3 fun δ3 => c0.tt nox δ3 fun b δ4 => br b (tInQ te cs δ4 fun ys δ5 => backS δ1 δ5 c0.vs = δ1 ∧ yss[i]? = some ys) (backS δ1 δ4 c0.vs = δ1 ∧ yss[i]? = some [])) ∧ yss.flatten.length ≤ sizeLine ∧ Q yss.flatten δ1)
theorem mono_tLcQ {c0 : Cl3} {cs : List Cl3} {te : T3} (h : Mono3 c0.ti) : Mono3 (tLcQ c0 cs te) := fun _ _ _ _ _ hx hq q => h _ _ _ _ _ hx (fun ds δ1 ⟨⟨ys, h2, h3, h4, h5⟩⟩ => ⟨⟨ys, h2, h3, h4, hq _ _ h5⟩⟩) q
theorem flat_take {α : Type} {yss : List (List α)} {i : Nat} {ys : List α} (h : yss[i]? = some ys) : (yss.take (i + 1)).flatten = (yss.take i).flatten ++ ys := by
  rw [List.take_add_one, h]; simp
theorem flat_le {α : Type} {yss : List (List α)} (i : Nat) : (yss.take i).flatten.length ≤ yss.flatten.length := by
  conv => rhs; rw [← List.take_append_drop i yss, List.flatten_append, List.length_append]
  omega
theorem inQ_le {te : T3} (he : Mono3 te) : ∀ (cs : List Cl3), (∀ c ∈ cs, c.Mono) → ∀ (δ : Sl) (acc : List D) (k : List D → Sl → Prop), (∀ ys δ', k ys δ' → acc.length + ys.length ≤ sizeLine) → tInQ te cs δ k → tIn3 te cs δ acc fun acc' δ' => ∃ ys, acc' = acc ++ ys ∧ k ys δ'
  | [], _, δ, acc, k, hk, q => he _ _ _ _ _ (fun _ z => z) (fun y δ' z => ⟨by have := hk _ _ z; simp at this; omega, [y], rfl, z⟩) q
  | c :: cs, mcs, δ, acc, k, hk, q => by
    have mc := mcs c List.mem_cons_self
    refine mc.ti _ _ _ _ _ (fun _ z => z) (fun ds δ1 ⟨⟨yss, h1, h2, h3⟩⟩ => ?_) q
    have hl := hk _ _ h3
    refine ⟨fun i acc' δ2 => δ2 = δ1 ∧ acc' = acc ++ (yss.take i).flatten, ⟨rfl, by simp⟩, ?_, ?_⟩
    · rintro i x acc' δ2 hx ⟨rfl, rfl⟩
      refine mc.g _ _ _ _ (fun δ3 q => ?_) (h2 i x hx)
      rw [normK_eq] at q
      refine mc.tt _ _ _ _ _ (fun _ z => z) (fun b δ4 z => z.imp (fun q => ?_) fun ⟨q1, q2⟩ => ⟨q1, by rw [flat_take q2, List.append_nil]⟩) q
      refine tIn3_mono he cs (fun c hc => mcs c (List.mem_cons_of_mem _ hc)) _ _ _ _ (fun a' δ5 ⟨ys, e1, e2, e3⟩ => ⟨e2, by rw [e1, flat_take e3, List.append_assoc]⟩) (inQ_le he cs (fun c hc => mcs c (List.mem_cons_of_mem _ hc)) δ4 (acc ++ (yss.take i).flatten) _ (fun ys δ' ⟨_, z⟩ => ?_) q)
      have e1 := flat_take z
      have e2 := flat_le (yss := yss) (i + 1)
      rw [e1, List.length_append] at e2
      rw [List.length_append]; omega
    · rintro acc' δ2 ⟨rfl, rfl⟩
      rw [← h1, List.take_length]
      exact ⟨_, rfl, h3⟩
theorem lcQ_le {c0 : Cl3} {cs : List Cl3} {te : T3} (m0 : c0.Mono) (mcs : ∀ c ∈ cs, c.Mono) (he : Mono3 te) {E : Ex3 → Prop} {δ : Sl} {Q : List D → Sl → Prop} (h : tLcQ c0 cs te E δ Q) : tLc3N c0 cs te E δ Q := by
  refine m0.ti _ _ _ _ _ (fun _ z => z) (fun ds δ1 ⟨⟨yss, h1, h2, h3, h4⟩⟩ => ?_) h
  refine ⟨fun i acc' δ2 => δ2 = δ1 ∧ acc' = (yss.take i).flatten, ⟨rfl, by simp⟩, ?_, ?_⟩
  · rintro i x acc' δ2 hx ⟨rfl, rfl⟩
    refine m0.g _ _ _ _ (fun δ3 q => ?_) (h2 i x hx)
    rw [normK_eq] at q
    refine m0.tt _ _ _ _ _ (fun _ z => z) (fun b δ4 z => z.imp (fun q => ?_) fun ⟨q1, q2⟩ => ⟨q1, by rw [flat_take q2, List.append_nil]⟩) q
    refine tIn3_mono he cs mcs _ _ _ _ (fun a' δ5 ⟨ys, e1, e2, e3⟩ => ⟨e2, by rw [e1, flat_take e3]⟩) (inQ_le he cs mcs δ4 (yss.take i).flatten _ (fun ys δ' ⟨_, z⟩ => ?_) q)
    have e1 := flat_take z
    have e2 := flat_le (yss := yss) (i + 1)
    rw [e1, List.length_append] at e2
    omega
  · rintro acc' δ2 ⟨rfl, rfl⟩
    rw [← h1, List.take_length]
    exact h4
/-! ### the rules -/
structure Cl3In (Y : Cx) (c : Cl3) : Prop where
  i : PI3 Y XF c.tg c.iter c.ti
  g : PG3 Y c.vs c.tg c.g
  t : PTs3 Y XF c.ifs c.tt
def Cl3.c (c : Cl3) : Comprehension := ⟨c.tg, c.iter, c.ifs, 0⟩
def BlkIn (X : Cx) (scope : Scope) (c0 : Cl3) (cs : List Cl3) (elt : Expr) (te : T3) : Prop := ∀ (s : Shared) (H : Hp) (C : Addr) (cl : List (Str × Addr)) (fp : List Addr), PG3 (X.blk s H scope (compEnvC scope cl C X.env) fp) c0.vs c0.tg c0.g ∧ PTs3 (X.blk s H scope (compEnvC scope cl C X.env) fp) XF c0.ifs c0.tt ∧ PE3 (X.blk s H scope (compEnvC scope cl C X.env) fp) XF elt te ∧ ∀ c ∈ cs, Cl3In (X.blk s H scope (compEnvC scope cl C X.env) fp) c
section
variable {X : Cx} {E : XK} {c0 : Cl3} {cs : List Cl3} {te : T3} {elt : Expr} {scope : Scope} {own : List (Str × Nat)} {pos : Pos}
theorem map_c {K : PySem.W.Frag} (cs : List Cl3) : (cs.map (Cl3.r K XF)).map ClR.c = cs.map Cl3.c := by rw [List.map_map]; rfl
theorem blk_in (hg : BlkIn X scope c0 cs elt te) : ∀ (s : Shared) (H : Hp) (C : Addr) (cl : List (Str × Addr)) (fp : List Addr), PG (X.blk s H scope (compEnvC scope cl C X.env) fp) (c0.r X.K E).tg (c0.r X.K E).g ∧ PTs (X.blk s H scope (compEnvC scope cl C X.env) fp) (c0.r X.K E).ifs (c0.r X.K E).tt ∧ PE (X.blk s H scope (compEnvC scope cl C X.env) fp) elt (lift X.K XF (Rp X.K) te) ∧ ∀ c ∈ cs.map (Cl3.r X.K XF), ClIn (X.blk s H scope (compEnvC scope cl C X.env) fp) c := fun s H C cl fp => by
  obtain ⟨h1, h2, h3, h4⟩ := hg s H C cl fp
  refine ⟨h1.pg, h2.pts, h3.pe, fun c hc => ?_⟩
  obtain ⟨c', hc', rfl⟩ := List.mem_map.mp hc
  exact ⟨(h4 c' hc').i.pi, (h4 c' hc').g.pg, (h4 c' hc').t.pts⟩
theorem blk_mono (hi : PI3 X E c0.tg c0.iter c0.ti) (hg : BlkIn X scope c0 cs elt te) (s0 : Shared) : c0.Mono ∧ (∀ c ∈ cs, c.Mono) ∧ Mono3 te := by
  obtain ⟨h1, h2, h3, h4⟩ := hg s0 (fun _ => none) 0 [] []
  exact ⟨⟨hi.mono, h1.mono, h2.mono⟩, fun c hc => ⟨(h4 c hc).i.mono, (h4 c hc).g.mono, (h4 c hc).t.mono⟩, h3.mono⟩
theorem hs1_r {K : PySem.W.Frag} (hs1 : ∀ c ∈ cs, ∀ env x, foldedSetIterable c.iter env x = pure x) : ∀ c ∈ cs.map (Cl3.r K XF), ∀ env x, foldedSetIterable c.iter env x = pure x := fun c hc => by
  obtain ⟨c', hc', rfl⟩ := List.mem_map.mp hc
  exact hs1 c' hc'
variable (hc : X.calm = true) (hN : X.N.Nodup) (hi : PI3 X E c0.tg c0.iter c0.ti) (hvs : c0.vs = own.map (·.2)) (hnv : NestV (c0.r X.K E :: cs.map (Cl3.r X.K XF))) (ok : BlkOk X.N X.env.scope scope own) (hg : BlkIn X scope c0 cs elt te) (s0 : Shared)
  (hs : ∀ x, foldedSetIterable c0.iter X.env x = pure x) (hs1 : ∀ c ∈ cs, ∀ env x, foldedSetIterable c.iter env x = pure x)
include hc hN hi hvs hnv ok hg s0 hs hs1
theorem lcQ : PE3 X E (.ListComp elt (c0.c :: cs.map Cl3.c) scope pos) (fun E δ Q => tLcQ c0 cs te E δ fun ys δ1 => Q (.list ys) δ1) := by
  obtain ⟨m0, mcs, me⟩ := blk_mono hi hg s0
  have pe := pe_lcN (pos := pos) (c0 := c0.r X.K E) hc hN hi.pi hvs hnv ok (blk_in hg) hs (hs1_r hs1)
  rw [map_c] at pe
  refine ⟨fun _ _ _ _ _ hx hq q => mono_tLcQ hi.mono _ _ _ _ _ hx (fun ys δ1 => hq _ _) q, pe.imp fun σ H Q h => ?_⟩
  obtain ⟨π, F, ρ, δ, rel, q⟩ := h
  refine lift_lcN m0 mcs me rel _ (lcQ_le m0 mcs me q) fun L acc accV ρ2 δ2 H2 np nF _ ex rel2 hH2 ra q => ?_
  have hLo : ¬ Ow ρ2 L := rel2.dis L (.inr rfl)
  have lex : ∀ b, Ox F ρ2 b → Ox (FD F L) ρ2 b := fun b z => z.imp id .inl
  exact q _ H2 ρ2 ex (rel2.lessF fun _ => .inl) (.lst ⟨hH2, fun z => z.elim hLo nF⟩ (ra.mono lex))
theorem olcQ : POw X E (.ListComp elt (c0.c :: cs.map Cl3.c) scope pos) (fun E δ Q => tLcQ c0 cs te E δ fun ys δ1 => Q (.lst ys) δ1) := by
  obtain ⟨m0, mcs, me⟩ := blk_mono hi hg s0
  have pe := pe_lcN (pos := pos) (c0 := c0.r X.K E) hc hN hi.pi hvs hnv ok (blk_in hg) hs (hs1_r hs1)
  rw [map_c] at pe
  refine ⟨fun _ _ _ _ _ hx hq q => mono_tLcQ hi.mono _ _ _ _ _ hx (fun ys δ1 => hq _ _) q, pe.imp fun σ H Q h => ?_⟩
  obtain ⟨π, F, ρ, δ, rel, q⟩ := h
  refine lift_lcN m0 mcs me rel _ (lcQ_le m0 mcs me q) fun L acc accV ρ2 δ2 H2 np nF ex _ rel2 hH2 ra q => ?_
  have lex : ∀ b, Ox F (own1 ρ2 δ2.length L) b → Ox (FD F L) ρ2 b := fun b z => by
    rcases z with z | z
    · rcases own1_le b z with z | z
      · exact .inl z
      · exact .inr (.inr z)
    · exact .inr (.inl z)
  exact q L H2 (own1 ρ2 δ2.length L) δ2.length ex (rel2.adopt (Nat.le_refl _) nF np) (Nat.le_refl _) (by unfold own1; rw [if_pos rfl]) np ⟨accV, hH2, ra.mono lex⟩
variable (i : Nat) {y : Str} {py spos : Pos} (hsw : swapsWith (.ListComp elt (c0.c :: cs.map Cl3.c) scope pos) (some (.Name y py)) spos.line X.env = pure true) (hy : X.N[i]? = some y) (hyl : X.env.scope.names.lookup y = some .local)
include hsw hy hyl
theorem setLcQ : PS3 X E (.Assign [.Name y py] (.ListComp elt (c0.c :: cs.map Cl3.c) scope pos) spos) (fun E D δ => tLcQ c0 cs te E δ fun ys δ1 => D.nx (δ1.set i (some (.d (.list ys))))) := by
  obtain ⟨m0, mcs, me⟩ := blk_mono hi hg s0
  have pe := ps_setLcN (i := i) (y := y) (py := py) (spos := spos) (pos := pos) (elt := elt) (scope := scope) (cs := cs.map (Cl3.r X.K XF)) (c0 := c0.r X.K E) hc hN hy hyl (by rw [map_c]; exact hsw) hi.pi hvs hnv ok (blk_in hg) hs (hs1_r hs1)
  rw [map_c] at pe
  refine ⟨fun _ _ _ _ _ hx hd q => mono_tLcQ hi.mono _ _ _ _ _ hx (fun ys δ1 => hd.nx _) q, pe.imp fun D σ H h => ?_⟩
  obtain ⟨π, F, ρ, δ, rel, q⟩ := h
  refine lift_lcN m0 mcs me rel _ (lcQ_le m0 mcs me q) fun L acc accV ρ2 δ2 H2 np nF _ ex rel2 hH2 ra q => ?_
  have hLo : ¬ Ow ρ2 L := rel2.dis L (.inr rfl)
  have lex : ∀ b, Ox F ρ2 b → Ox (FD F L) ρ2 b := fun b z => z.imp id .inl
  exact q _ H2 _ (ex.trans Ext.drop) ((rel2.lessF fun _ => .inl).setD (.lst ⟨hH2, fun z => z.elim hLo nF⟩ (ra.mono lex)))
theorem setOLcQ : PS3 X E (.Assign [.Name y py] (.ListComp elt (c0.c :: cs.map Cl3.c) scope pos) spos) (fun E D δ => tLcQ c0 cs te E δ fun ys δ1 => D.nx (δ1.set i (some (.own 0 (.lst ys))))) := by
  obtain ⟨m0, mcs, me⟩ := blk_mono hi hg s0
  have pe := ps_setLcN (i := i) (y := y) (py := py) (spos := spos) (pos := pos) (elt := elt) (scope := scope) (cs := cs.map (Cl3.r X.K XF)) (c0 := c0.r X.K E) hc hN hy hyl (by rw [map_c]; exact hsw) hi.pi hvs hnv ok (blk_in hg) hs (hs1_r hs1)
  rw [map_c] at pe
  refine ⟨fun _ _ _ _ _ hx hd q => mono_tLcQ hi.mono _ _ _ _ _ hx (fun ys δ1 => hd.nx _) q, pe.imp fun D σ H h => ?_⟩
  obtain ⟨π, F, ρ, δ, rel, q⟩ := h
  refine lift_lcN m0 mcs me rel _ (lcQ_le m0 mcs me q) fun L acc accV ρ2 δ2 H2 np nF ex _ rel2 hH2 ra q => ?_
  have lex : ∀ b, Ox F (own1 ρ2 δ2.length L) b → Ox (FD F L) ρ2 b := fun b z => by
    rcases z with z | z
    · rcases own1_le b z with z | z
      · exact .inl z
      · exact .inr (.inr z)
    · exact .inr (.inl z)
  obtain ⟨ρ', r', e'⟩ := (rel2.adopt (k := δ2.length) (Nat.le_refl _) nF np).move (i := i) (o := .lst acc) (Nat.le_refl _) (by unfold own1; rw [if_pos rfl]) ⟨accV, hH2, ra.mono lex⟩ np
  exact q _ H2 ρ' (ex.trans e') r'
end
section
variable {X : Cx} {E : XK} {te : T3} {elt : Expr} {scope : Scope} {own : List (Str × Nat)} {pos : Pos}
theorem lcQ2 (vs1 : List Nat) {tg0 iter0 : Expr} {ifs0 : List Expr} {ti0 : TA3} {g0 : TG3} {tt0 : TB3} {tg1 iter1 : Expr} {ifs1 : List Expr} {ti1 : TA3} {g1 : TG3} {tt1 : TB3}
    (hc : X.calm = true) (hN : X.N.Nodup) (hi : PI3 X E tg0 iter0 ti0) (ok : BlkOk X.N X.env.scope scope own)
    (hg0 : ∀ (s : Shared) (H : Hp) (C : Addr) (cl : List (Str × Addr)) (fp : List Addr), PG3 (X.blk s H scope (compEnvC scope cl C X.env) fp) (own.map fun p : Str × Nat => p.2) tg0 g0) (ht0 : ∀ (s : Shared) (H : Hp) (C : Addr) (cl : List (Str × Addr)) (fp : List Addr), PTs3 (X.blk s H scope (compEnvC scope cl C X.env) fp) XF ifs0 tt0)
    (hi1 : ∀ (s : Shared) (H : Hp) (C : Addr) (cl : List (Str × Addr)) (fp : List Addr), PI3 (X.blk s H scope (compEnvC scope cl C X.env) fp) XF tg1 iter1 ti1)
    (hg1 : ∀ (s : Shared) (H : Hp) (C : Addr) (cl : List (Str × Addr)) (fp : List Addr), PG3 (X.blk s H scope (compEnvC scope cl C X.env) fp) vs1 tg1 g1) (ht1 : ∀ (s : Shared) (H : Hp) (C : Addr) (cl : List (Str × Addr)) (fp : List Addr), PTs3 (X.blk s H scope (compEnvC scope cl C X.env) fp) XF ifs1 tt1)
    (he : ∀ (s : Shared) (H : Hp) (C : Addr) (cl : List (Str × Addr)) (fp : List Addr), PE3 (X.blk s H scope (compEnvC scope cl C X.env) fp) XF elt te) (s0 : Shared) (hv1 : ∀ i ∈ vs1, i ∈ own.map (fun p : Str × Nat => p.2) := by decide) (hs : ∀ x, foldedSetIterable iter0 X.env x = pure x := by intro _; rfl) (hs1 : ∀ env x, foldedSetIterable iter1 env x = pure x := by intro _ _; rfl) :
    PE3 X E (.ListComp elt [⟨tg0, iter0, ifs0, 0⟩, ⟨tg1, iter1, ifs1, 0⟩] scope pos) (fun E δ Q => tLcQ ⟨tg0, iter0, ifs0, ti0, g0, tt0, own.map (fun p : Str × Nat => p.2)⟩ [⟨tg1, iter1, ifs1, ti1, g1, tt1, vs1⟩] te E δ fun ys δ1 => Q (.list ys) δ1) :=
  lcQ (c0 := ⟨tg0, iter0, ifs0, ti0, g0, tt0, own.map (fun p : Str × Nat => p.2)⟩) (cs := [⟨tg1, iter1, ifs1, ti1, g1, tt1, vs1⟩]) hc hN hi rfl ⟨hv1, (fun _ z => by cases z), trivial⟩ ok (fun s H C cl fp => ⟨hg0 s H C cl fp, ht0 s H C cl fp, he s H C cl fp, fun c hc => by
    simp only [List.mem_cons, List.not_mem_nil, or_false] at hc
    rcases hc with rfl
    · exact ⟨hi1 s H C cl fp, hg1 s H C cl fp, ht1 s H C cl fp⟩⟩) s0 hs (fun c hc => by
    simp only [List.mem_cons, List.not_mem_nil, or_false] at hc
    rcases hc with rfl
    · exact hs1)
theorem olcQ2 (vs1 : List Nat) {tg0 iter0 : Expr} {ifs0 : List Expr} {ti0 : TA3} {g0 : TG3} {tt0 : TB3} {tg1 iter1 : Expr} {ifs1 : List Expr} {ti1 : TA3} {g1 : TG3} {tt1 : TB3}
    (hc : X.calm = true) (hN : X.N.Nodup) (hi : PI3 X E tg0 iter0 ti0) (ok : BlkOk X.N X.env.scope scope own)
    (hg0 : ∀ (s : Shared) (H : Hp) (C : Addr) (cl : List (Str × Addr)) (fp : List Addr), PG3 (X.blk s H scope (compEnvC scope cl C X.env) fp) (own.map fun p : Str × Nat => p.2) tg0 g0) (ht0 : ∀ (s : Shared) (H : Hp) (C : Addr) (cl : List (Str × Addr)) (fp : List Addr), PTs3 (X.blk s H scope (compEnvC scope cl C X.env) fp) XF ifs0 tt0)
    (hi1 : ∀ (s : Shared) (H : Hp) (C : Addr) (cl : List (Str × Addr)) (fp : List Addr), PI3 (X.blk s H scope (compEnvC scope cl C X.env) fp) XF tg1 iter1 ti1)
    (hg1 : ∀ (s : Shared) (H : Hp) (C : Addr) (cl : List (Str × Addr)) (fp : List Addr), PG3 (X.blk s H scope (compEnvC scope cl C X.env) fp) vs1 tg1 g1) (ht1 : ∀ (s : Shared) (H : Hp) (C : Addr) (cl : List (Str × Addr)) (fp : List Addr), PTs3 (X.blk s H scope (compEnvC scope cl C X.env) fp) XF ifs1 tt1)
    (he : ∀ (s : Shared) (H : Hp) (C : Addr) (cl : List (Str × Addr)) (fp : List Addr), PE3 (X.blk s H scope (compEnvC scope cl C X.env) fp) XF elt te) (s0 : Shared) (hv1 : ∀ i ∈ vs1, i ∈ own.map (fun p : Str × Nat => p.2) := by decide) (hs : ∀ x, foldedSetIterable iter0 X.env x = pure x := by intro _; rfl) (hs1 : ∀ env x, foldedSetIterable iter1 env x = pure x := by intro _ _; rfl) :
    POw X E (.ListComp elt [⟨tg0, iter0, ifs0, 0⟩, ⟨tg1, iter1, ifs1, 0⟩] scope pos) (fun E δ Q => tLcQ ⟨tg0, iter0, ifs0, ti0, g0, tt0, own.map (fun p : Str × Nat => p.2)⟩ [⟨tg1, iter1, ifs1, ti1, g1, tt1, vs1⟩] te E δ fun ys δ1 => Q (.lst ys) δ1) :=
  olcQ (c0 := ⟨tg0, iter0, ifs0, ti0, g0, tt0, own.map (fun p : Str × Nat => p.2)⟩) (cs := [⟨tg1, iter1, ifs1, ti1, g1, tt1, vs1⟩]) hc hN hi rfl ⟨hv1, (fun _ z => by cases z), trivial⟩ ok (fun s H C cl fp => ⟨hg0 s H C cl fp, ht0 s H C cl fp, he s H C cl fp, fun c hc => by
    simp only [List.mem_cons, List.not_mem_nil, or_false] at hc
    rcases hc with rfl
    · exact ⟨hi1 s H C cl fp, hg1 s H C cl fp, ht1 s H C cl fp⟩⟩) s0 hs (fun c hc => by
    simp only [List.mem_cons, List.not_mem_nil, or_false] at hc
    rcases hc with rfl
    · exact hs1)
theorem setLcQ2 (i : Nat) {y : Str} {py spos : Pos} (vs1 : List Nat) {tg0 iter0 : Expr} {ifs0 : List Expr} {ti0 : TA3} {g0 : TG3} {tt0 : TB3} {tg1 iter1 : Expr} {ifs1 : List Expr} {ti1 : TA3} {g1 : TG3} {tt1 : TB3}
    (hc : X.calm = true) (hN : X.N.Nodup) (hi : PI3 X E tg0 iter0 ti0) (ok : BlkOk X.N X.env.scope scope own)
    (hg0 : ∀ (s : Shared) (H : Hp) (C : Addr) (cl : List (Str × Addr)) (fp : List Addr), PG3 (X.blk s H scope (compEnvC scope cl C X.env) fp) (own.map fun p : Str × Nat => p.2) tg0 g0) (ht0 : ∀ (s : Shared) (H : Hp) (C : Addr) (cl : List (Str × Addr)) (fp : List Addr), PTs3 (X.blk s H scope (compEnvC scope cl C X.env) fp) XF ifs0 tt0)
    (hi1 : ∀ (s : Shared) (H : Hp) (C : Addr) (cl : List (Str × Addr)) (fp : List Addr), PI3 (X.blk s H scope (compEnvC scope cl C X.env) fp) XF tg1 iter1 ti1)
    (hg1 : ∀ (s : Shared) (H : Hp) (C : Addr) (cl : List (Str × Addr)) (fp : List Addr), PG3 (X.blk s H scope (compEnvC scope cl C X.env) fp) vs1 tg1 g1) (ht1 : ∀ (s : Shared) (H : Hp) (C : Addr) (cl : List (Str × Addr)) (fp : List Addr), PTs3 (X.blk s H scope (compEnvC scope cl C X.env) fp) XF ifs1 tt1)
    (he : ∀ (s : Shared) (H : Hp) (C : Addr) (cl : List (Str × Addr)) (fp : List Addr), PE3 (X.blk s H scope (compEnvC scope cl C X.env) fp) XF elt te) (s0 : Shared) (hsw : swapsWith (.ListComp elt [⟨tg0, iter0, ifs0, 0⟩, ⟨tg1, iter1, ifs1, 0⟩] scope pos) (some (.Name y py)) spos.line X.env = pure true) (hv1 : ∀ i ∈ vs1, i ∈ own.map (fun p : Str × Nat => p.2) := by decide) (hs : ∀ x, foldedSetIterable iter0 X.env x = pure x := by intro _; rfl) (hs1 : ∀ env x, foldedSetIterable iter1 env x = pure x := by intro _ _; rfl) (hy : X.N[i]? = some y := by rfl) (hyl : X.env.scope.names.lookup y = some .local := by rfl) :
    PS3 X E (.Assign [.Name y py] (.ListComp elt [⟨tg0, iter0, ifs0, 0⟩, ⟨tg1, iter1, ifs1, 0⟩] scope pos) spos) (fun E D δ => tLcQ ⟨tg0, iter0, ifs0, ti0, g0, tt0, own.map (fun p : Str × Nat => p.2)⟩ [⟨tg1, iter1, ifs1, ti1, g1, tt1, vs1⟩] te E δ fun ys δ1 => D.nx (δ1.set i (some (.d (.list ys))))) :=
  setLcQ (c0 := ⟨tg0, iter0, ifs0, ti0, g0, tt0, own.map (fun p : Str × Nat => p.2)⟩) (cs := [⟨tg1, iter1, ifs1, ti1, g1, tt1, vs1⟩]) hc hN hi rfl ⟨hv1, (fun _ z => by cases z), trivial⟩ ok (fun s H C cl fp => ⟨hg0 s H C cl fp, ht0 s H C cl fp, he s H C cl fp, fun c hc => by
    simp only [List.mem_cons, List.not_mem_nil, or_false] at hc
    rcases hc with rfl
    · exact ⟨hi1 s H C cl fp, hg1 s H C cl fp, ht1 s H C cl fp⟩⟩) s0 hs (fun c hc => by
    simp only [List.mem_cons, List.not_mem_nil, or_false] at hc
    rcases hc with rfl
    · exact hs1) i hsw hy hyl
theorem setOLcQ2 (i : Nat) {y : Str} {py spos : Pos} (vs1 : List Nat) {tg0 iter0 : Expr} {ifs0 : List Expr} {ti0 : TA3} {g0 : TG3} {tt0 : TB3} {tg1 iter1 : Expr} {ifs1 : List Expr} {ti1 : TA3} {g1 : TG3} {tt1 : TB3}
    (hc : X.calm = true) (hN : X.N.Nodup) (hi : PI3 X E tg0 iter0 ti0) (ok : BlkOk X.N X.env.scope scope own)
    (hg0 : ∀ (s : Shared) (H : Hp) (C : Addr) (cl : List (Str × Addr)) (fp : List Addr), PG3 (X.blk s H scope (compEnvC scope cl C X.env) fp) (own.map fun p : Str × Nat => p.2) tg0 g0) (ht0 : ∀ (s : Shared) (H : Hp) (C : Addr) (cl : List (Str × Addr)) (fp : List Addr), PTs3 (X.blk s H scope (compEnvC scope cl C X.env) fp) XF ifs0 tt0)
    (hi1 : ∀ (s : Shared) (H : Hp) (C : Addr) (cl : List (Str × Addr)) (fp : List Addr), PI3 (X.blk s H scope (compEnvC scope cl C X.env) fp) XF tg1 iter1 ti1)
    (hg1 : ∀ (s : Shared) (H : Hp) (C : Addr) (cl : List (Str × Addr)) (fp : List Addr), PG3 (X.blk s H scope (compEnvC scope cl C X.env) fp) vs1 tg1 g1) (ht1 : ∀ (s : Shared) (H : Hp) (C : Addr) (cl : List (Str × Addr)) (fp : List Addr), PTs3 (X.blk s H scope (compEnvC scope cl C X.env) fp) XF ifs1 tt1)
    (he : ∀ (s : Shared) (H : Hp) (C : Addr) (cl : List (Str × Addr)) (fp : List Addr), PE3 (X.blk s H scope (compEnvC scope cl C X.env) fp) XF elt te) (s0 : Shared) (hsw : swapsWith (.ListComp elt [⟨tg0, iter0, ifs0, 0⟩, ⟨tg1, iter1, ifs1, 0⟩] scope pos) (some (.Name y py)) spos.line X.env = pure true) (hv1 : ∀ i ∈ vs1, i ∈ own.map (fun p : Str × Nat => p.2) := by decide) (hs : ∀ x, foldedSetIterable iter0 X.env x = pure x := by intro _; rfl) (hs1 : ∀ env x, foldedSetIterable iter1 env x = pure x := by intro _ _; rfl) (hy : X.N[i]? = some y := by rfl) (hyl : X.env.scope.names.lookup y = some .local := by rfl) :
    PS3 X E (.Assign [.Name y py] (.ListComp elt [⟨tg0, iter0, ifs0, 0⟩, ⟨tg1, iter1, ifs1, 0⟩] scope pos) spos) (fun E D δ => tLcQ ⟨tg0, iter0, ifs0, ti0, g0, tt0, own.map (fun p : Str × Nat => p.2)⟩ [⟨tg1, iter1, ifs1, ti1, g1, tt1, vs1⟩] te E δ fun ys δ1 => D.nx (δ1.set i (some (.own 0 (.lst ys))))) :=
  setOLcQ (c0 := ⟨tg0, iter0, ifs0, ti0, g0, tt0, own.map (fun p : Str × Nat => p.2)⟩) (cs := [⟨tg1, iter1, ifs1, ti1, g1, tt1, vs1⟩]) hc hN hi rfl ⟨hv1, (fun _ z => by cases z), trivial⟩ ok (fun s H C cl fp => ⟨hg0 s H C cl fp, ht0 s H C cl fp, he s H C cl fp, fun c hc => by
    simp only [List.mem_cons, List.not_mem_nil, or_false] at hc
    rcases hc with rfl
    · exact ⟨hi1 s H C cl fp, hg1 s H C cl fp, ht1 s H C cl fp⟩⟩) s0 hs (fun c hc => by
    simp only [List.mem_cons, List.not_mem_nil, or_false] at hc
    rcases hc with rfl
    · exact hs1) i hsw hy hyl
theorem lcQ3 (vs1 : List Nat) (vs2 : List Nat) {tg0 iter0 : Expr} {ifs0 : List Expr} {ti0 : TA3} {g0 : TG3} {tt0 : TB3} {tg1 iter1 : Expr} {ifs1 : List Expr} {ti1 : TA3} {g1 : TG3} {tt1 : TB3} {tg2 iter2 : Expr} {ifs2 : List Expr} {ti2 : TA3} {g2 : TG3} {tt2 : TB3}
    (hc : X.calm = true) (hN : X.N.Nodup) (hi : PI3 X E tg0 iter0 ti0) (ok : BlkOk X.N X.env.scope scope own)
    (hg0 : ∀ (s : Shared) (H : Hp) (C : Addr) (cl : List (Str × Addr)) (fp : List Addr), PG3 (X.blk s H scope (compEnvC scope cl C X.env) fp) (own.map fun p : Str × Nat => p.2) tg0 g0) (ht0 : ∀ (s : Shared) (H : Hp) (C : Addr) (cl : List (Str × Addr)) (fp : List Addr), PTs3 (X.blk s H scope (compEnvC scope cl C X.env) fp) XF ifs0 tt0)
    (hi1 : ∀ (s : Shared) (H : Hp) (C : Addr) (cl : List (Str × Addr)) (fp : List Addr), PI3 (X.blk s H scope (compEnvC scope cl C X.env) fp) XF tg1 iter1 ti1)
    (hg1 : ∀ (s : Shared) (H : Hp) (C : Addr) (cl : List (Str × Addr)) (fp : List Addr), PG3 (X.blk s H scope (compEnvC scope cl C X.env) fp) vs1 tg1 g1) (ht1 : ∀ (s : Shared) (H : Hp) (C : Addr) (cl : List (Str × Addr)) (fp : List Addr), PTs3 (X.blk s H scope (compEnvC scope cl C X.env) fp) XF ifs1 tt1)
    (hi2 : ∀ (s : Shared) (H : Hp) (C : Addr) (cl : List (Str × Addr)) (fp : List Addr), PI3 (X.blk s H scope (compEnvC scope cl C X.env) fp) XF tg2 iter2 ti2)
    (hg2 : ∀ (s : Shared) (H : Hp) (C : Addr) (cl : List (Str × Addr)) (fp : List Addr), PG3 (X.blk s H scope (compEnvC scope cl C X.env) fp) vs2 tg2 g2) (ht2 : ∀ (s : Shared) (H : Hp) (C : Addr) (cl : List (Str × Addr)) (fp : List Addr), PTs3 (X.blk s H scope (compEnvC scope cl C X.env) fp) XF ifs2 tt2)
    (he : ∀ (s : Shared) (H : Hp) (C : Addr) (cl : List (Str × Addr)) (fp : List Addr), PE3 (X.blk s H scope (compEnvC scope cl C X.env) fp) XF elt te) (s0 : Shared) (hv1 : ∀ i ∈ vs1, i ∈ own.map (fun p : Str × Nat => p.2) := by decide) (hv2 : ∀ i ∈ vs2, i ∈ vs1 := by decide) (hs : ∀ x, foldedSetIterable iter0 X.env x = pure x := by intro _; rfl) (hs1 : ∀ env x, foldedSetIterable iter1 env x = pure x := by intro _ _; rfl) (hs2 : ∀ env x, foldedSetIterable iter2 env x = pure x := by intro _ _; rfl) :
    PE3 X E (.ListComp elt [⟨tg0, iter0, ifs0, 0⟩, ⟨tg1, iter1, ifs1, 0⟩, ⟨tg2, iter2, ifs2, 0⟩] scope pos) (fun E δ Q => tLcQ ⟨tg0, iter0, ifs0, ti0, g0, tt0, own.map (fun p : Str × Nat => p.2)⟩ [⟨tg1, iter1, ifs1, ti1, g1, tt1, vs1⟩, ⟨tg2, iter2, ifs2, ti2, g2, tt2, vs2⟩] te E δ fun ys δ1 => Q (.list ys) δ1) :=
  lcQ (c0 := ⟨tg0, iter0, ifs0, ti0, g0, tt0, own.map (fun p : Str × Nat => p.2)⟩) (cs := [⟨tg1, iter1, ifs1, ti1, g1, tt1, vs1⟩, ⟨tg2, iter2, ifs2, ti2, g2, tt2, vs2⟩]) hc hN hi rfl ⟨hv1, hv2, (fun _ z => by cases z), trivial⟩ ok (fun s H C cl fp => ⟨hg0 s H C cl fp, ht0 s H C cl fp, he s H C cl fp, fun c hc => by
    simp only [List.mem_cons, List.not_mem_nil, or_false] at hc
    rcases hc with rfl | rfl
    · exact ⟨hi1 s H C cl fp, hg1 s H C cl fp, ht1 s H C cl fp⟩
    · exact ⟨hi2 s H C cl fp, hg2 s H C cl fp, ht2 s H C cl fp⟩⟩) s0 hs (fun c hc => by
    simp only [List.mem_cons, List.not_mem_nil, or_false] at hc
    rcases hc with rfl | rfl
    · exact hs1
    · exact hs2)
theorem olcQ3 (vs1 : List Nat) (vs2 : List Nat) {tg0 iter0 : Expr} {ifs0 : List Expr} {ti0 : TA3} {g0 : TG3} {tt0 : TB3} {tg1 iter1 : Expr} {ifs1 : List Expr} {ti1 : TA3} {g1 : TG3} {tt1 : TB3} {tg2 iter2 : Expr} {ifs2 : List Expr} {ti2 : TA3} {g2 : TG3} {tt2 : TB3}
    (hc : X.calm = true) (hN : X.N.Nodup) (hi : PI3 X E tg0 iter0 ti0) (ok : BlkOk X.N X.env.scope scope own)
    (hg0 : ∀ (s : Shared) (H : Hp) (C : Addr) (cl : List (Str × Addr)) (fp : List Addr), PG3 (X.blk s H scope (compEnvC scope cl C X.env) fp) (own.map fun p : Str × Nat => p.2) tg0 g0) (ht0 : ∀ (s : Shared) (H : Hp) (C : Addr) (cl : List (Str × Addr)) (fp : List Addr), PTs3 (X.blk s H scope (compEnvC scope cl C X.env) fp) XF ifs0 tt0)
    (hi1 : ∀ (s : Shared) (H : Hp) (C : Addr) (cl : List (Str × Addr)) (fp : List Addr), PI3 (X.blk s H scope (compEnvC scope cl C X.env) fp) XF tg1 iter1 ti1)
    (hg1 : ∀ (s : Shared) (H : Hp) (C : Addr) (cl : List (Str × Addr)) (fp : List Addr), PG3 (X.blk s H scope (compEnvC scope cl C X.env) fp) vs1 tg1 g1) (ht1 : ∀ (s : Shared) (H : Hp) (C : Addr) (cl : List (Str × Addr)) (fp : List Addr), PTs3 (X.blk s H scope (compEnvC scope cl C X.env) fp) XF ifs1 tt1)
    (hi2 : ∀ (s : Shared) (H : Hp) (C : Addr) (cl : List (Str × Addr)) (fp : List Addr), PI3 (X.blk s H scope (compEnvC scope cl C X.env) fp) XF tg2 iter2 ti2)
    (hg2 : ∀ (s : Shared) (H : Hp) (C : Addr) (cl : List (Str × Addr)) (fp : List Addr), PG3 (X.blk s H scope (compEnvC scope cl C X.env) fp) vs2 tg2 g2) (ht2 : ∀ (s : Shared) (H : Hp) (C : Addr) (cl : List (Str × Addr)) (fp : List Addr), PTs3 (X.blk s H scope (compEnvC scope cl C X.env) fp) XF ifs2 tt2)
    (he : ∀ (s : Shared) (H : Hp) (C : Addr) (cl : List (Str × Addr)) (fp : List Addr), PE3 (X.blk s H scope (compEnvC scope cl C X.env) fp) XF elt te) (s0 : Shared) (hv1 : ∀ i ∈ vs1, i ∈ own.map (fun p : Str × Nat => p.2) := by decide) (hv2 : ∀ i ∈ vs2, i ∈ vs1 := by decide) (hs : ∀ x, foldedSetIterable iter0 X.env x = pure x := by intro _; rfl) (hs1 : ∀ env x, foldedSetIterable iter1 env x = pure x := by intro _ _; rfl) (hs2 : ∀ env x, foldedSetIterable iter2 env x = pure x := by intro _ _; rfl) :
    POw X E (.ListComp elt [⟨tg0, iter0, ifs0, 0⟩, ⟨tg1, iter1, ifs1, 0⟩, ⟨tg2, iter2, ifs2, 0⟩] scope pos) (fun E δ Q => tLcQ ⟨tg0, iter0, ifs0, ti0, g0, tt0, own.map (fun p : Str × Nat => p.2)⟩ [⟨tg1, iter1, ifs1, ti1, g1, tt1, vs1⟩, ⟨tg2, iter2, ifs2, ti2, g2, tt2, vs2⟩] te E δ fun ys δ1 => Q (.lst ys) δ1) :=
  olcQ (c0 := ⟨tg0, iter0, ifs0, ti0, g0, tt0, own.map (fun p : Str × Nat => p.2)⟩) (cs := [⟨tg1, iter1, ifs1, ti1, g1, tt1, vs1⟩, ⟨tg2, iter2, ifs2, ti2, g2, tt2, vs2⟩]) hc hN hi rfl ⟨hv1, hv2, (fun _ z => by cases z), trivial⟩ ok (fun s H C cl fp => ⟨hg0 s H C cl fp, ht0 s H C cl fp, he s H C cl fp, fun c hc => by
    simp only [List.mem_cons, List.not_mem_nil, or_false] at hc
    rcases hc with rfl | rfl
    · exact ⟨hi1 s H C cl fp, hg1 s H C cl fp, ht1 s H C cl fp⟩
    · exact ⟨hi2 s H C cl fp, hg2 s H C cl fp, ht2 s H C cl fp⟩⟩) s0 hs (fun c hc => by
    simp only [List.mem_cons, List.not_mem_nil, or_false] at hc
    rcases hc with rfl | rfl
    · exact hs1
    · exact hs2)
theorem setLcQ3 (i : Nat) {y : Str} {py spos : Pos} (vs1 : List Nat) (vs2 : List Nat) {tg0 iter0 : Expr} {ifs0 : List Expr} {ti0 : TA3} {g0 : TG3} {tt0 : TB3} {tg1 iter1 : Expr} {ifs1 : List Expr} {ti1 : TA3} {g1 : TG3} {tt1 : TB3} {tg2 iter2 : Expr} {ifs2 : List Expr} {ti2 : TA3} {g2 : TG3} {tt2 : TB3}
    (hc : X.calm = true) (hN : X.N.Nodup) (hi : PI3 X E tg0 iter0 ti0) (ok : BlkOk X.N X.env.scope scope own)
    (hg0 : ∀ (s : Shared) (H : Hp) (C : Addr) (cl : List (Str × Addr)) (fp : List Addr), PG3 (X.blk s H scope (compEnvC scope cl C X.env) fp) (own.map fun p : Str × Nat => p.2) tg0 g0) (ht0 : ∀ (s : Shared) (H : Hp) (C : Addr) (cl : List (Str × Addr)) (fp : List Addr), PTs3 (X.blk s H scope (compEnvC scope cl C X.env) fp) XF ifs0 tt0)
    (hi1 : ∀ (s : Shared) (H : Hp) (C : Addr) (cl : List (Str × Addr)) (fp : List Addr), PI3 (X.blk s H scope (compEnvC scope cl C X.env) fp) XF tg1 iter1 ti1)
    (hg1 : ∀ (s : Shared) (H : Hp) (C : Addr) (cl : List (Str × Addr)) (fp : List Addr), PG3 (X.blk s H scope (compEnvC scope cl C X.env) fp) vs1 tg1 g1) (ht1 : ∀ (s : Shared) (H : Hp) (C : Addr) (cl : List (Str × Addr)) (fp : List Addr), PTs3 (X.blk s H scope (compEnvC scope cl C X.env) fp) XF ifs1 tt1)
    (hi2 : ∀ (s : Shared) (H : Hp) (C : Addr) (cl : List (Str × Addr)) (fp : List Addr), PI3 (X.blk s H scope (compEnvC scope cl C X.env) fp) XF tg2 iter2 ti2)
    (hg2 : ∀ (s : Shared) (H : Hp) (C : Addr) (cl : List (Str × Addr)) (fp : List Addr), PG3 (X.blk s H scope (compEnvC scope cl C X.env) fp) vs2 tg2 g2) (ht2 : ∀ (s : Shared) (H : Hp) (C : Addr) (cl : List (Str × Addr)) (fp : List Addr), PTs3 (X.blk s H scope (compEnvC scope cl C X.env) fp) XF ifs2 tt2)
    (he : ∀ (s : Shared) (H : Hp) (C : Addr) (cl : List (Str × Addr)) (fp : List Addr), PE3 (X.blk s H scope (compEnvC scope cl C X.env) fp) XF elt te) (s0 : Shared) (hsw : swapsWith (.ListComp elt [⟨tg0, iter0, ifs0, 0⟩, ⟨tg1, iter1, ifs1, 0⟩, ⟨tg2, iter2, ifs2, 0⟩] scope pos) (some (.Name y py)) spos.line X.env = pure true) (hv1 : ∀ i ∈ vs1, i ∈ own.map (fun p : Str × Nat => p.2) := by decide) (hv2 : ∀ i ∈ vs2, i ∈ vs1 := by decide) (hs : ∀ x, foldedSetIterable iter0 X.env x = pure x := by intro _; rfl) (hs1 : ∀ env x, foldedSetIterable iter1 env x = pure x := by intro _ _; rfl) (hs2 : ∀ env x, foldedSetIterable iter2 env x = pure x := by intro _ _; rfl) (hy : X.N[i]? = some y := by rfl) (hyl : X.env.scope.names.lookup y = some .local := by rfl) :
    PS3 X E (.Assign [.Name y py] (.ListComp elt [⟨tg0, iter0, ifs0, 0⟩, ⟨tg1, iter1, ifs1, 0⟩, ⟨tg2, iter2, ifs2, 0⟩] scope pos) spos) (fun E D δ => tLcQ ⟨tg0, iter0, ifs0, ti0, g0, tt0, own.map (fun p : Str × Nat => p.2)⟩ [⟨tg1, iter1, ifs1, ti1, g1, tt1, vs1⟩, ⟨tg2, iter2, ifs2, ti2, g2, tt2, vs2⟩] te E δ fun ys δ1 => D.nx (δ1.set i (some (.d (.list ys))))) :=
  setLcQ (c0 := ⟨tg0, iter0, ifs0, ti0, g0, tt0, own.map (fun p : Str × Nat => p.2)⟩) (cs := [⟨tg1, iter1, ifs1, ti1, g1, tt1, vs1⟩, ⟨tg2, iter2, ifs2, ti2, g2, tt2, vs2⟩]) hc hN hi rfl ⟨hv1, hv2, (fun _ z => by cases z), trivial⟩ ok (fun s H C cl fp => ⟨hg0 s H C cl fp, ht0 s H C cl fp, he s H C cl fp, fun c hc => by
    simp only [List.mem_cons, List.not_mem_nil, or_false] at hc
    rcases hc with rfl | rfl
    · exact ⟨hi1 s H C cl fp, hg1 s H C cl fp, ht1 s H C cl fp⟩
    · exact ⟨hi2 s H C cl fp, hg2 s H C cl fp, ht2 s H C cl fp⟩⟩) s0 hs (fun c hc => by
    simp only [List.mem_cons, List.not_mem_nil, or_false] at hc
    rcases hc with rfl | rfl
    · exact hs1
    · exact hs2) i hsw hy hyl
theorem setOLcQ3 (i : Nat) {y : Str} {py spos : Pos} (vs1 : List Nat) (vs2 : List Nat) {tg0 iter0 : Expr} {ifs0 : List Expr} {ti0 : TA3} {g0 : TG3} {tt0 : TB3} {tg1 iter1 : Expr} {ifs1 : List Expr} {ti1 : TA3} {g1 : TG3} {tt1 : TB3} {tg2 iter2 : Expr} {ifs2 : List Expr} {ti2 : TA3} {g2 : TG3} {tt2 : TB3}
    (hc : X.calm = true) (hN : X.N.Nodup) (hi : PI3 X E tg0 iter0 ti0) (ok : BlkOk X.N X.env.scope scope own)
    (hg0 : ∀ (s : Shared) (H : Hp) (C : Addr) (cl : List (Str × Addr)) (fp : List Addr), PG3 (X.blk s H scope (compEnvC scope cl C X.env) fp) (own.map fun p : Str × Nat => p.2) tg0 g0) (ht0 : ∀ (s : Shared) (H : Hp) (C : Addr) (cl : List (Str × Addr)) (fp : List Addr), PTs3 (X.blk s H scope (compEnvC scope cl C X.env) fp) XF ifs0 tt0)
    (hi1 : ∀ (s : Shared) (H : Hp) (C : Addr) (cl : List (Str × Addr)) (fp : List Addr), PI3 (X.blk s H scope (compEnvC scope cl C X.env) fp) XF tg1 iter1 ti1)
    (hg1 : ∀ (s : Shared) (H : Hp) (C : Addr) (cl : List (Str × Addr)) (fp : List Addr), PG3 (X.blk s H scope (compEnvC scope cl C X.env) fp) vs1 tg1 g1) (ht1 : ∀ (s : Shared) (H : Hp) (C : Addr) (cl : List (Str × Addr)) (fp : List Addr), PTs3 (X.blk s H scope (compEnvC scope cl C X.env) fp) XF ifs1 tt1)
    (hi2 : ∀ (s : Shared) (H : Hp) (C : Addr) (cl : List (Str × Addr)) (fp : List Addr), PI3 (X.blk s H scope (compEnvC scope cl C X.env) fp) XF tg2 iter2 ti2)
    (hg2 : ∀ (s : Shared) (H : Hp) (C : Addr) (cl : List (Str × Addr)) (fp : List Addr), PG3 (X.blk s H scope (compEnvC scope cl C X.env) fp) vs2 tg2 g2) (ht2 : ∀ (s : Shared) (H : Hp) (C : Addr) (cl : List (Str × Addr)) (fp : List Addr), PTs3 (X.blk s H scope (compEnvC scope cl C X.env) fp) XF ifs2 tt2)
    (he : ∀ (s : Shared) (H : Hp) (C : Addr) (cl : List (Str × Addr)) (fp : List Addr), PE3 (X.blk s H scope (compEnvC scope cl C X.env) fp) XF elt te) (s0 : Shared) (hsw : swapsWith (.ListComp elt [⟨tg0, iter0, ifs0, 0⟩, ⟨tg1, iter1, ifs1, 0⟩, ⟨tg2, iter2, ifs2, 0⟩] scope pos) (some (.Name y py)) spos.line X.env = pure true) (hv1 : ∀ i ∈ vs1, i ∈ own.map (fun p : Str × Nat => p.2) := by decide) (hv2 : ∀ i ∈ vs2, i ∈ vs1 := by decide) (hs : ∀ x, foldedSetIterable iter0 X.env x = pure x := by intro _; rfl) (hs1 : ∀ env x, foldedSetIterable iter1 env x = pure x := by intro _ _; rfl) (hs2 : ∀ env x, foldedSetIterable iter2 env x = pure x := by intro _ _; rfl) (hy : X.N[i]? = some y := by rfl) (hyl : X.env.scope.names.lookup y = some .local := by rfl) :
    PS3 X E (.Assign [.Name y py] (.ListComp elt [⟨tg0, iter0, ifs0, 0⟩, ⟨tg1, iter1, ifs1, 0⟩, ⟨tg2, iter2, ifs2, 0⟩] scope pos) spos) (fun E D δ => tLcQ ⟨tg0, iter0, ifs0, ti0, g0, tt0, own.map (fun p : Str × Nat => p.2)⟩ [⟨tg1, iter1, ifs1, ti1, g1, tt1, vs1⟩, ⟨tg2, iter2, ifs2, ti2, g2, tt2, vs2⟩] te E δ fun ys δ1 => D.nx (δ1.set i (some (.own 0 (.lst ys))))) :=
  setOLcQ (c0 := ⟨tg0, iter0, ifs0, ti0, g0, tt0, own.map (fun p : Str × Nat => p.2)⟩) (cs := [⟨tg1, iter1, ifs1, ti1, g1, tt1, vs1⟩, ⟨tg2, iter2, ifs2, ti2, g2, tt2, vs2⟩]) hc hN hi rfl ⟨hv1, hv2, (fun _ z => by cases z), trivial⟩ ok (fun s H C cl fp => ⟨hg0 s H C cl fp, ht0 s H C cl fp, he s H C cl fp, fun c hc => by
    simp only [List.mem_cons, List.not_mem_nil, or_false] at hc
    rcases hc with rfl | rfl
    · exact ⟨hi1 s H C cl fp, hg1 s H C cl fp, ht1 s H C cl fp⟩
    · exact ⟨hi2 s H C cl fp, hg2 s H C cl fp, ht2 s H C cl fp⟩⟩) s0 hs (fun c hc => by
    simp only [List.mem_cons, List.not_mem_nil, or_false] at hc
    rcases hc with rfl | rfl
    · exact hs1
    · exact hs2) i hsw hy hyl
end
end M3

set_option Elab.async false
set_option linter.all false
set_option maxRecDepth 100000
set_option maxHeartbeats 4000000
namespace M3
open PySem L2 NdefX LamX
variable [TabsC]
/-! ## a def within a def -/
section
variable {X : Cx} {pins : List (Addr × Obj)} {σ : L2.St} {H : Hp} {s : Shared}
/-- what has been made is locked, twice -/
theorem Inv.lock2 {d : Addr} {u : HO} (I : Inv X pins σ H s) (h : H d = some u) (hx : ∃ φ, u = .ext φ) : ∃ od, Inv X pins σ (upd H d (.frz od (.frz od u))) s := by
  obtain ⟨φ, rfl⟩ := hx
  have x := I.hok d _ h
  obtain ⟨od, e⟩ : ∃ od, s.heap.get? d = some od := by obtain ⟨_, ⟨o, e⟩, _⟩ := x; exact ⟨o, e⟩
  have y : ObjOk X.prog X.w (upd H d (.frz od (.frz od (.ext φ)))) s.heap d (.ext φ) := x
  exact ⟨od, I.write (x := d) (e := d) (t' := s.toks) (h' := s.heap) (by rw [h]; exact True.intro) (.inl rfl) (fun b v _ q => q) ⟨od, e⟩ ⟨e, e, y⟩⟩
theorem codeM {P : Program} {w : World} {H : Hp} {h : Heap} {c : Addr} {q : Str} {o : Obj} (hok : HOk P w H h) (e : H c = some (.frz o (.frz o (CodeO c q)))) : h.CodeRec (.ref c) q := by
  obtain ⟨_, _, ⟨oc, vs, t, h1, h2, h3⟩, _, _⟩ := hok c _ e
  exact ⟨c, oc, vs, t, rfl, h1, h2, h3⟩
/-- the function object is made; its code object is new, or the table tells it -/
theorem ndef3_make {nm : Nat → Nat → Str} {c P : Addr} {name : Str} {params : Arguments} {body : List Stmt} {scope : Scope} {pos : Pos} {E : Value → Shared → Prop} {Q : Value → Shared → Prop} (I : Inv X pins σ H s) (TB : TabB X.base X.mg c P) (hcode : X.env.code = .ref c)
    (hm : (P, nm) ∈ TabsC.T) (hn : nm pos.line pos.col = X.env.qual ++ name) (hu : ∀ p ∈ TabsC.T, p.1 = P → p.2 = nm) (hT : TabsM H) (hfree : ∀ y ∈ scope.names, y.2 = .free → ∃ c, X.env.cells.lookup y.1 = some c)
    (h : ∀ (f c' : Addr) (H1 : Hp) (s' : Shared), Inv X pins σ H1 s' → (∀ b o, H b = some o → isTbl o = false → H1 b = some o) → (∀ b o, H b = some o → ∃ o', H1 b = some o') → Tb H H1 → H f = none → (∃ o, H1 f = some (.frz o (FnO f ⟨name, X.env.qual ++ name, params, body, scope, cloFrom X.env.cells scope.names [], c'⟩))) → (∃ o, H1 c' = some (.frz o (.frz o (CodeO c' (X.env.qual ++ name))))) → Q (.ref f) s') :
    wpAny (model X.prog X.w) X.A (makeFunction name (X.env.qual ++ name) params (.stmts body) scope X.env [] [] [] pos pos.line) Q E s := by
  obtain ⟨ps, hP, ht, ha⟩ := (show TabM H P nm from hT _ hm)
  have bP : s.heap.BuiltinsAt X.mg P := TB.bm.keeps I.bk
  have hP' : s.heap.get? P = some { cls := .none, data := .fields ps } := I.hok P _ hP
  cases hc : codeAmong pos ps.toList with
  | none =>
    refine PySem.W.makeFunction_K (mg := X.mg) (c := c) (P := P) (ps := ps) (closure_ok hfree) I.ok.glob (I.mod.glob.keeps I.bk) hcode (TB.code.keeps I.bk) hP' ht hc TB.gP bP fun c' ctv doc h' tk hx hge hlt hrec htb => ?_
    obtain ⟨c2, oc, vs, t, e2, hoc, hd, hv⟩ := hrec
    cases e2
    have nC : H c' = none := I.hok.fresh hge
    have I0 := inv_table (t' := tk) (more := #[rawInt pos.line, rawInt pos.col, .ref c']) (h' := h') I hP (fun b o hb z => hx b o hb z) htb hge ⟨oc, vs, t, hoc, hd, hv⟩
    obtain ⟨ok, I1⟩ := Inv.lock2 (d := c') I0 upd_same ⟨_, rfl⟩
    rw [upd_upd] at I1
    generalize hH1 : upd (upd H P (.tbl (ps ++ #[rawInt pos.line, rawInt pos.col, .ref c']))) c' (.frz ok (.frz ok (CodeO c' (X.env.qual ++ name)))) = H1 at I1
    have at1 : ∀ b, b ≠ P → b ≠ c' → H1 b = H b := fun b h1 h2 => by rw [← hH1, upd_ne h2, upd_ne h1]
    have atc : H1 c' = some (.frz ok (.frz ok (CodeO c' (X.env.qual ++ name)))) := by rw [← hH1]; exact upd_same
    have atP : H1 P = some (.tbl (ps ++ #[rawInt pos.line, rawInt pos.col, .ref c'])) := by rw [← hH1, upd_ne (ne_of_none hP nC), upd_same]
    have fr1 : ∀ b o, H b = some o → isTbl o = false → H1 b = some o := fun b o z n => by
      rw [at1 b (fun y => by rw [y, hP] at z; cases z; cases n) (ne_of_none z nC)]; exact z
    have eL : (ps ++ #[rawInt pos.line, rawInt pos.col, .ref c']).toList = ps.toList ++ [rawInt pos.line, rawInt pos.col, .ref c'] := by simp
    have T1 : TabsM H1 := fun p hp => by
      by_cases hb : p.1 = P
      · rw [hu p hp hb, hb]
        refine ⟨_, atP, by rw [eL]; exact PySem.TriplesOk_snoc _ _ _ _ ht, fun p' cv hcv => ?_⟩
        rw [eL] at hcv
        rcases among_app2 _ ht hcv with z | ⟨z, z1, z2⟩
        · obtain ⟨c0, o0, e1, e2⟩ := ha p' cv z
          exact ⟨c0, o0, e1, fr1 _ _ e2 rfl⟩
        · refine ⟨c', ok, z, ?_⟩
          rw [← z1, ← z2, hn]
          exact atc
      · obtain ⟨ps', a1, a2, a3⟩ := hT p hp
        refine ⟨ps', by rw [at1 _ hb (ne_of_none a1 nC)]; exact a1, a2, fun p' cv hcv => ?_⟩
        obtain ⟨c0, o0, e1, e2⟩ := a3 p' cv hcv
        exact ⟨c0, o0, e1, fr1 _ _ e2 rfl⟩
    have nF : H1 h'.objs.size = none := I1.hok.fresh (Nat.le_refl _)
    have I2 := inv_fn (F := ⟨name, X.env.qual ++ name, params, body, scope, cloFrom X.env.cells scope.names [], c'⟩) (t' := tk) (doc := doc) (pm := (X.mg "__name__").getD .none) (ctv := ctv) I1 rfl
    obtain ⟨of, I3⟩ := I2.lock (d := h'.objs.size) upd_same True.intro
    rw [upd_upd] at I3
    have tkP : ∀ b o, H b = some o → ∃ o', H1 b = some o' := fun b o z => by
      by_cases y : b = P
      · rw [y]; exact ⟨_, atP⟩
      · exact ⟨o, by rw [at1 b y (ne_of_none z nC)]; exact z⟩
    refine h h'.objs.size c' _ _ I3 (fun b o z n => ?_) (fun b o z => ?_) ((Tb.mk (fun _ => T1) (fun b o z n => fr1 b o z (by cases o <;> first | rfl | cases n))).trans (Tb.fresh nF)) (I.hok.fresh (Nat.le_trans hge (Nat.le_of_lt hlt))) ⟨of, upd_same⟩ ⟨ok, ?_⟩
    · exact (upd_ne (ne_of_none (fr1 b o z n) nF)).trans (fr1 b o z n)
    · obtain ⟨o', y⟩ := tkP b o z
      exact ⟨o', (upd_ne (ne_of_none y nF)).trans y⟩
    · exact (upd_ne (ne_of_none atc nF)).trans atc
  | some cv =>
    obtain ⟨c', o0, e, hco⟩ := ha pos cv hc
    subst e
    rw [hn] at hco
    refine PySem.W.makeFunction_hit (mg := X.mg) (c := c) (P := P) (ps := ps) (closure_ok hfree) I.ok.glob (I.mod.glob.keeps I.bk) hcode (TB.code.keeps I.bk) hP' ht hc bP fun ctv doc h' tk hx hsz => ?_
    have I1 : Inv X pins σ H { s with heap := h', toks := tk } := I.kept hx
    have nF : H h'.objs.size = none := I1.hok.fresh (Nat.le_refl _)
    have I2 := inv_fn (F := ⟨name, X.env.qual ++ name, params, body, scope, cloFrom X.env.cells scope.names [], c'⟩) (t' := tk) (doc := doc) (pm := (X.mg "__name__").getD .none) (ctv := ctv) I1 rfl
    obtain ⟨of, I3⟩ := I2.lock (d := h'.objs.size) upd_same True.intro
    rw [upd_upd] at I3
    refine h h'.objs.size c' _ _ I3 (fun b o z n => (upd_ne (ne_of_none z nF)).trans z) (fun b o z => ⟨o, (upd_ne (ne_of_none z nF)).trans z⟩) (Tb.fresh nF) nF ⟨of, upd_same⟩ ⟨o0, (upd_ne (ne_of_none hco nF)).trans hco⟩
end
/-- the reading of a def in a def's body, its function F by the code object's address -/
def tNd3 (i : Nat) (mk : Addr → NF) : TS3 := fun _ D δ => ∀ f c', D.nx (δ.set i (some (.cl f (mk c'))))
section
variable {X : Cx} {E : XK}
theorem ps_nd3 {st : Stmt} {nm : Nat → Nat → Str} {c P : Addr} {name : Str} {pos : Pos} (i : Nat) (hst : st = .FunctionDef name (C8.fnArgs st) (C8.fnBody st) [] none [] (C8.fnScope st) none name pos) (TB : TabB X.base X.mg c P) (hcode : X.env.code = .ref c) (hm : (P, nm) ∈ TabsC.T) (hn : nm pos.line pos.col = X.env.qual ++ name)
    (hu : ∀ p ∈ TabsC.T, p.1 = P → p.2 = nm) (hfree : ∀ y ∈ (C8.fnScope st).names, y.2 = .free → X.env.scope.names.lookup y.1 = some .cell ∨ X.env.scope.names.lookup y.1 = some .free) (hd0 : (C8.fnArgs st).defaults = []) (hk0 : (C8.fnArgs st).kw_defaults = []) (ha : annTrees (C8.fnArgs st) none X.env = [])
    (hN : X.N.Nodup) (hi : X.N[i]? = some name) (hx : Loc X.env.scope name) (hf : X.fn name = true ∨ X.env.scope.names.lookup name = some .local) :
    PS3 X E st (tNd3 i (NF.of st name (X.env.qual ++ name) (cloFrom X.env.cells (C8.fnScope st).names []))) := by
  refine ⟨fun _ _ _ _ _ _ hd q f c' => hd.nx _ (q f c'), ⟨fun pins s σ H D I h => ?_⟩⟩
  obtain ⟨π, Fo, ρ, δ, rel, q⟩ := h
  rw [hst]
  have hq : qualnameIn X.env name name = X.env.qual ++ name := by
    have hk : X.env.kindOf name = some .local ∨ X.env.kindOf name = some .cell := hx
    unfold qualnameIn
    rcases hk with k | k <;> rw [k] <;> first | rfl | exact if_neg (by decide)
  refine PySem.W.nestDef_K hd0 hk0 ha ?_
  rw [hq]
  have hfr : ∀ y ∈ (C8.fnScope st).names, y.2 = .free → ∃ c, X.env.cells.lookup y.1 = some c := fun y hy e => (hfree y hy e).elim (fun z => I.ok.has _ (.inl z)) fun z => I.ok.has _ (.inr z)
  refine ndef3_make I TB hcode hm hn hu rel.tab hfr fun f c' H1 s' I1 fr tk T1 f0 f1 c1 => ?_
  refine store_ok I1 hN hi hx (v := .ref f) rfl (fun s'' J => ⟨_, H1, J, ?_⟩) hf
  obtain ⟨r1, e1⟩ := rel.calm fr tk T1
  exact q f c' _ H1 _ (e1.trans Ext.drop) (r1.setV (x := .cl f _) ⟨rfl, f1, rel.fresh f0, c1⟩)
end
/-! ### captured cells, told to what is called -/
def CelV (c : Addr) (v : V) : HO := .ext fun h => ∃ u, RelV v u ∧ h.IsCell c (some u)
def celO (o : Obj) (c : Addr) (v : V) : HO := .frz o (.frz o (.frz o (CelV c v)))
open Classical in
noncomputable def off (dom : Addr → Prop) (H : Hp) : Hp := fun b => if dom b then none else H b
open Classical in
noncomputable def back (dom : Addr → Prop) (Ht H : Hp) : Hp := fun b => if dom b then Ht b else H b
theorem off_in {dom : Addr → Prop} {H : Hp} {b : Addr} (h : dom b) : off dom H b = none := by unfold off; rw [if_pos h]
theorem off_out {dom : Addr → Prop} {H : Hp} {b : Addr} (h : ¬ dom b) : off dom H b = H b := by unfold off; rw [if_neg h]
theorem back_in {dom : Addr → Prop} {H Ht : Hp} {b : Addr} (h : dom b) : back dom Ht H b = Ht b := by unfold back; rw [if_pos h]
theorem back_out {dom : Addr → Prop} {H Ht : Hp} {b : Addr} (h : ¬ dom b) : back dom Ht H b = H b := by unfold back; rw [if_neg h]
/-- what stands at b is known as a cell -/
def IsCel (H : Hp) (b : Addr) : Prop := ∃ o v, H b = some (celO o b v)
theorem IsCel.ne {H : Hp} {b : Addr} {u : HO} (h : IsCel H b) (e : H b = some u) : ∃ o v, u = celO o b v := by
  obtain ⟨o, v, h⟩ := h
  rw [h] at e; cases e
  exact ⟨o, v, rfl⟩
section
variable {P : Program} {w : World} {dom : Addr → Prop} {H Ht H2 : Hp} {h h' : Heap} {fs : List Addr}
/-- Ht: H with the cells of dom -/
structure Tracks (dom : Addr → Prop) (H Ht : Hp) (h : Heap) : Prop where
  out : ∀ b, ¬ dom b → Ht b = H b
  no : ∀ b, dom b → H b = none
  cel : ∀ b, dom b → ∃ o v u, Ht b = some (celO o b v) ∧ h.get? b = some o ∧ RelV v u ∧ o.data = .cell (some u)
theorem Tracks.same (t : Tracks dom H Ht h) : Same H Ht := fun b o e => by
  rw [t.out b fun z => by rw [t.no b z] at e; cases e]; exact e
theorem cel_ok {o : Obj} {b : Addr} {v : V} {u : Value} (h1 : h.get? b = some o) (h2 : RelV v u) (h3 : o.data = .cell (some u)) : ObjOk P w H h b (celO o b v) :=
  ⟨h1, h1, h1, ⟨u, h2, o, h1, h3⟩, ⟨o, h1⟩, fun g1 g2 ⟨u, r, o', e, d⟩ st => ⟨u, r, o', st _ e, d⟩⟩
theorem hok_on (ok : HOk P w H h) (t : Tracks dom H Ht h) : HOk P w Ht h := fun a o e => by
  by_cases d : dom a
  · obtain ⟨ob, v, u, e1, e2, e3, e4⟩ := t.cel a d
    rw [e1] at e; cases e
    exact cel_ok e2 e3 e4
  · rw [t.out a d] at e
    exact (ok a o e).stay (fun _ _ _ q => q) (fun b q => t.same _ _ q) fun b xs q => t.same _ _ q
theorem hok_off (ok : HOk P w H2 h) (hc : ∀ b, dom b → IsCel H2 b) : HOk P w (off dom H2) h := fun a o e => by
  by_cases d : dom a
  · rw [off_in d] at e; cases e
  · rw [off_out d] at e
    refine (ok a o e).stay (fun _ _ _ q => q) (fun b q => ?_) fun b xs q => ?_
    · rw [off_out fun z => by obtain ⟨_, _, z⟩ := (hc b z).ne q; cases z]; exact q
    · rw [off_out fun z => by obtain ⟨_, _, z⟩ := (hc b z).ne q; cases z]; exact q
theorem cel_stays (u : Un fs [] Ht H2 h h') (t : Tracks dom H Ht h) : ∀ b, dom b → IsCel H2 b := fun b d => by
  obtain ⟨o, v, _, e, _⟩ := t.cel b d
  exact ⟨o, v, u.frzs b _ _ e⟩
theorem cel_obj {o : Obj} {b : Addr} {v : V} (ok : HOk P w H2 h) (e : H2 b = some (celO o b v)) : h.get? b = some o := (ok b _ e).1
theorem un_off (u : Un fs [] Ht H2 h h') (t : Tracks dom H Ht h) (ok : HOk P w H2 h') : Un fs [] H (off dom H2) h h' := by
  have same : ∀ b o, dom b → h.get? b = some o → h'.get? b = some o := fun b o d e => by
    obtain ⟨ob, v, _, e1, e2, _⟩ := t.cel b d
    rw [e2] at e; cases e
    exact cel_obj ok (u.frzs b _ _ e1)
  have nd : ∀ b o, H b = some o → ¬ dom b := fun b o e z => by rw [t.no b z] at e; cases e
  refine ⟨fun b o e n hb hx => ?_, fun b o e n hb hx => ?_, fun b o e n hx => ?_, u.there, fun b xs e => ?_, fun b o v e => ?_, fun b ps e => ?_⟩
  · by_cases d : dom b
    · exact same b o d e
    · exact u.keep b o e (by rw [t.out b d]; exact n) hb hx
  · by_cases d : dom b
    · exact ⟨o.slots, same b o d e⟩
    · exact u.slot b o e (by rw [t.out b d]; exact n) hb hx
  · by_cases d : dom b
    · exact off_in d
    · rw [off_out d]; exact u.free b o e (by rw [t.out b d]; exact n) hx
  · have d := nd b _ e; rw [off_out d]; exact u.tups b xs (by rw [t.out b d]; exact e)
  · have d := nd b _ e; rw [off_out d]; exact u.frzs b o v (by rw [t.out b d]; exact e)
  · have d := nd b _ e; rw [off_out d]; exact u.tbls b ps (by rw [t.out b d]; exact e)
theorem ub_off {B : Heap} (u : UB fs Ht H2 h B h') (t : Tracks dom H Ht h) (ok : HOk P w H2 B) (nf : ∀ b, dom b → b ∉ fs) : UB fs H (off dom H2) h B h' := by
  have nd : ∀ b o, H b = some o → ¬ dom b := fun b o e z => by rw [t.no b z] at e; cases e
  refine ⟨fun b o e n hb => ?_, u.slot, fun b o e n => ?_, u.there, fun b xs e => ?_, fun b o v e => ?_, fun b ps e => ?_⟩
  · by_cases d : dom b
    · obtain ⟨ob, v, _, e1, e2, _⟩ := t.cel b d
      rw [e2] at e; cases e
      exact cel_obj ok (u.frzs b _ _ e1)
    · exact u.keep b o e (by rw [t.out b d]; exact n) hb
  · by_cases d : dom b
    · exact off_in d
    · rw [off_out d]; exact u.free b o e (by rw [t.out b d]; exact n)
  · have d := nd b _ e; rw [off_out d]; exact u.tups b xs (by rw [t.out b d]; exact e)
  · have d := nd b _ e; rw [off_out d]; exact u.frzs b o v (by rw [t.out b d]; exact e)
  · have d := nd b _ e; rw [off_out d]; exact u.tbls b ps (by rw [t.out b d]; exact e)
end
/-- what a call let out, without the cells -/
def OffOk (P : Program) (w : World) (CX : CXT) : Prop := ∀ (outer : List Env) (H Ht : Hp) (s : Shared) (E : XK) (e : Value) (s' : Shared) (dom : Addr → Prop), Tracks dom H Ht s.heap → (∀ b, dom b → b ∉ frs outer) → CX outer Ht s (fun cls d H2 => E cls d (off dom H2)) e s' → CX outer H s E e s'
theorem offOk0 {P : Program} {w : World} : OffOk P w CX0 := fun _ _ _ _ _ _ _ _ _ _ z => z.elim
theorem offOkX {P : Program} {w : World} : OffOk P w (L2.CX P w) := fun outer H Ht s E e s' dom t nf ⟨a, B, H', cls, d, h1, h2, h3, h4, h5, h6, h7, h8⟩ => by
  have hc : ∀ b, dom b → IsCel H' b := fun b d => by
    obtain ⟨o, v, _, e, _⟩ := t.cel b d
    exact ⟨o, v, h4.frzs b _ _ e⟩
  refine ⟨a, B, off dom H', cls, d, h1, h2, hok_off h3 hc, ub_off h4 t h3 nf, ?_, h6, h7, h8⟩
  by_cases z : dom a
  · exact off_in z
  · rw [off_out z]; exact h5
theorem cr_off {P : Program} {w : World} {CX : CXT} (hO : OffOk P w CX) {outer : List Env} {H Ht : Hp} {s s' : Shared} {Q : VK} {E : XK} {r : Result} {dom : Addr → Prop} (t : Tracks dom H Ht s.heap) (nf : ∀ b, dom b → b ∉ frs outer) (h : CR CX outer P w Ht s (fun v H2 => Q v (off dom H2)) (fun cls d H2 => E cls d (off dom H2)) r s') : CR CX outer P w H s Q E r s' := by
  unfold CR at h ⊢
  split at h
  · obtain ⟨v, H', h1, h2, h3, h4, h5, h6⟩ := h
    exact ⟨v, off dom H', h1, h2, un_off h3 t h4, hok_off h4 (cel_stays h3 t), h5, h6⟩
  · exact h
  · exact hO _ _ _ _ _ _ _ _ t nf h
theorem env0_on {P : Program} {w : World} {K : PySem.W.Frag} {mg : Str → Option Value} {base : Heap} {A : Around} {outer : List Env} {s : Shared} {H Ht : Hp} {dom : Addr → Prop} (e : Env0 P w K mg base A outer s H) (t : Tracks dom H Ht s.heap) (nf : ∀ b, dom b → b ∉ frs outer) (nb : ∀ b, dom b → base.get? b = none) : Env0 P w K mg base A outer s Ht :=
  ⟨e.frames, e.mod, fun b o z => ⟨(e.bs b o z).1, by rw [t.out b fun d => by rw [nb b d] at z; cases z]; exact (e.bs b o z).2⟩, e.bsz, e.funs, fun b z => by rw [t.out b fun d => nf b d z]; exact e.frf b z, hok_on e.hok t, e.bare⟩
/-! ### a call that hands on such a function -/
structure CelsOk (dom : Addr → Prop) (H Ht : Hp) (cl : List (Str × Addr)) (fr : List Str) (js : List Nat) (σ : L2.St) : Prop where
  out : ∀ b, ¬ dom b → Ht b = H b
  no : ∀ b, dom b → H b = none
  cel : ∀ b, dom b → IsCel Ht b
  has : ∀ (i : Nat) (y : Str), fr[i]? = some y → ∃ c o v j, cl.lookup y = some c ∧ js[i]? = some j ∧ σ[j]? = some (some v) ∧ Ht c = some (celO o c v) ∧ dom c
  inj : ∀ x y c, cl.lookup x = some c → cl.lookup y = some c → x = y
  len : js.length = fr.length
  dm : ∀ y c, cl.lookup y = some c → y ∈ fr
section
variable {X : Cx} {E : XK} {CX : CXT} {k : Nat} {f : Addr} {fd : FuncData} {ps : List Str} {sp : Sp} {cl : List (Str × Addr)} {fr : List Str} {js : List Nat}
open Classical in
theorem run_fnC {pins : List (Addr × Obj)} {σ : L2.St} {H : Hp} {s : Shared} {Q : VK} {us : List Value} {vs : List V} (F : FnOk X.prog X.w X.K X.mg X.base CX k f fd ps sp) (hO : OffOk X.prog X.w CX) (hN : X.N.Nodup) (hr : Room k X.A) (hb : Binds X.K fd ps []) (hx : Passes CX X E)
    (I : Inv X pins σ H s) (cp : Caps X cl fr js) (hfn : ∀ y ∈ fr, X.fn y = true) (hcl : ∀ y c, cl.lookup y = some c → y ∈ fr) (hv : ∀ j ∈ js, ∃ v, σ[j]? = some (some v)) (r : Vals vs us)
    (h : ∀ dom Ht, CelsOk dom H Ht cl fr js σ → sp vs Ht (fun v H2 => Q v (off dom H2)) (fun cls d H2 => E cls d (off dom H2))) : wpAny (model X.prog X.w) X.A (call (.ref f) us) (EP X pins σ Q) X.xe s := by
  have ca := cells_of I cp
  have hlen : js.length = fr.length := by have := congrArg List.length cp.at_; simpa using this
  -- a cell, its object and its value
  have cell : ∀ (i : Nat) (y : Str), fr[i]? = some y → ∃ c o v u j, cl.lookup y = some c ∧ js[i]? = some j ∧ σ[j]? = some (some v) ∧ s.heap.get? c = some o ∧ RelV v u ∧ o.data = .cell (some u) := fun i y hi => by
    obtain ⟨c, h1, h2⟩ := ca.has i y hi
    obtain ⟨j, hj⟩ : ∃ j, js[i]? = some j := ⟨_, List.getElem?_eq_getElem (by rw [hlen]; exact (List.getElem?_eq_some_iff.mp hi).1)⟩
    obtain ⟨v, hv⟩ := hv j (List.mem_of_getElem? hj)
    obtain ⟨u, ru, o, ho, hd⟩ := h2 v (by rw [List.getElem?_map, hj]; exact congrArg some (slotAt_of hv))
    exact ⟨c, o, v, u, j, h1, hj, hv, ho, ru, hd⟩
  let dom : Addr → Prop := fun b => ∃ y, cl.lookup y = some b
  have ofd : ∀ b, dom b → ∃ i y, fr[i]? = some y ∧ cl.lookup y = some b := fun b ⟨y, z⟩ => by
    obtain ⟨i, hi⟩ := List.mem_iff_getElem?.mp (hcl y b z)
    exact ⟨i, y, hi, z⟩
  have vals : ∀ b, dom b → ∃ p : Obj × V, ∃ u i y j, fr[i]? = some y ∧ cl.lookup y = some b ∧ js[i]? = some j ∧ σ[j]? = some (some p.2) ∧ s.heap.get? b = some p.1 ∧ RelV p.2 u ∧ p.1.data = .cell (some u) := fun b d => by
    obtain ⟨i, y, hi, hy⟩ := ofd b d
    obtain ⟨c, o, v, u, j, h1, h2, h3, h4, h5, h6⟩ := cell i y hi
    rw [hy] at h1; cases h1
    exact ⟨(o, v), u, i, y, j, hi, hy, h2, h3, h4, h5, h6⟩
  let Ht : Hp := fun b => if d : dom b then some (celO (vals b d).choose.1 b (vals b d).choose.2) else H b
  have inD : ∀ b (d : dom b), Ht b = some (celO (vals b d).choose.1 b (vals b d).choose.2) := fun b d => by simp only [Ht]; rw [dif_pos d]
  have outD : ∀ b, ¬ dom b → Ht b = H b := fun b d => by simp only [Ht]; rw [dif_neg d]
  have noD : ∀ b, dom b → H b = none := fun b ⟨y, z⟩ => (ca.all y b z).1
  have tr : Tracks dom H Ht s.heap := ⟨outD, noD, fun b d => by
    obtain ⟨u, _, _, _, _, _, _, _, h4, h5, h6⟩ := (vals b d).choose_spec
    exact ⟨_, _, u, inD b d, h4, h5, h6⟩⟩
  have big : ∀ b, dom b → X.s_0.heap.objs.size ≤ b := fun b d => by
    obtain ⟨i, y, hi, hy⟩ := ofd b d
    exact I.ok.cab y b (hfn y (List.mem_of_getElem? hi)) (cp.sub y b hy)
  have nf : ∀ b, dom b → b ∉ frs X.stack := fun b d z => by
    rcases List.mem_cons.mp (I.stkSub b z) with e | hb
    · obtain ⟨i, y, hi, hy⟩ := ofd b d
      exact I.cne y b (cp.sub y b hy) e
    · obtain ⟨_, o, ho, _⟩ := I.ok.funs.mem hb
      exact absurd (Nat.lt_of_lt_of_le (Heap.lt_size ho) (big b d)) (Nat.lt_irrefl _)
  have nb : ∀ b, dom b → X.base.get? b = none := fun b d => Heap.get?_none_of_le (Nat.le_trans I.ok.bsz (big b d))
  have hs := h dom Ht ⟨outD, noD, fun b d => ⟨_, _, inD b d⟩, fun i y hi => by
    obtain ⟨c, o, v, u, j, h1, h2, h3, h4, h5, h6⟩ := cell i y hi
    have d : dom c := ⟨y, h1⟩
    obtain ⟨u', i', y', j', k1, k2, k3, k4, k5, _⟩ := (vals c d).choose_spec
    have ey : y' = y := ca.inj _ _ _ k2 h1
    subst ey
    have n1 : X.N[j]? = some y' := by
      have := congrArg (fun l => l[i]?) cp.at_
      simp only [List.getElem?_map, h2, hi, Option.map_some] at this
      exact Option.some.inj this
    have n2 : X.N[j']? = some y' := by
      have := congrArg (fun l => l[i']?) cp.at_
      simp only [List.getElem?_map, k3, k1, Option.map_some] at this
      exact Option.some.inj this
    have ej : j = j' := (List.getElem?_inj (List.getElem?_eq_some_iff.mp n1).1 hN).mp (n1.trans n2.symm)
    subst ej
    exact ⟨c, _, _, j, h1, h2, k4, inD c d, d⟩, ca.inj, hlen, hcl⟩
  have hl : us.length = ps.length := by rw [← r.length]; exact F.len _ _ _ _ hs
  have b := hb s us I.kIn (by rw [List.append_nil]; exact hl)
  rw [List.append_nil] at b
  refine wpAny_call (codeAny_mono (F.run X.A X.stack s Ht ⟨us, []⟩ us vs _ _ hr (env0_on I.env0 tr nf nb) b r hs) fun r s' hq => ?_)
  have hq := cr_off hO tr nf hq
  cases r with
  | error e => exact hx pins σ H s e s' I hq
  | ok fl =>
    cases fl with
    | ret u => exact I.after hq
    | next => exact False.elim hq
    | brk => exact False.elim hq
    | cont => exact False.elim hq
end
/-! ### over slots: a call that hands on a function -/
theorem Tb.off {dom : Addr → Prop} {H : Hp} (hc : ∀ b, dom b → IsCel H b) : Tb H (M3.off dom H) := by
  have k : ∀ b o, H b = some o → isTbl o = true ∨ isFrz o = true → M3.off dom H b = some o := fun b o e n => by
    rw [off_out fun z => ?_]; exact e
    obtain ⟨o', v, rfl⟩ := (hc b z).ne e
    rcases n with n | n <;> cases n
  exact ⟨fun t => t.ext k, fun b o e n => k b o e (.inr n)⟩
section
variable {K : PySem.W.Frag} {O : Addr → Prop} {H : Hp} {dom : Addr → Prop}
theorem TL.off (hc : ∀ b, dom b → IsCel H b) {a : Addr} {xs : List V} (h : TL K O H a xs) : TL K O (M3.off dom H) a xs := by
  obtain ⟨h, n⟩ := h
  exact ⟨by rw [off_out fun z => by obtain ⟨_, _, z⟩ := (hc a z).ne h; cases z]; exact h, n⟩
theorem TT.off (hc : ∀ b, dom b → IsCel H b) {a : Addr} {xs : List V} (h : TT K O H a xs) : TT K O (M3.off dom H) a xs := by
  rcases h with ⟨h, n⟩ | h
  · refine .inl ⟨?_, n⟩
    rcases h with h | ⟨o, h⟩
    · exact .inl (by rw [off_out fun z => by obtain ⟨_, _, z⟩ := (hc a z).ne h; cases z]; exact h)
    · exact .inr ⟨o, by rw [off_out fun z => by obtain ⟨_, _, z⟩ := (hc a z).ne h; cases z]; exact h⟩
  · exact .inr h
theorem TR.off (hc : ∀ b, dom b → IsCel H b) {a : Addr} {xs : List V} (h : TR K O H a xs) : TR K O (M3.off dom H) a xs := by
  rcases h with ⟨h, n⟩ | h
  · refine .inl ⟨?_, n⟩
    rcases h with h | ⟨o, h⟩
    · exact .inl (by rw [off_out fun z => by obtain ⟨_, _, z⟩ := (hc a z).ne h; cases z]; exact h)
    · exact .inr ⟨o, by rw [off_out fun z => by obtain ⟨_, _, z⟩ := (hc a z).ne h; cases z]; exact h⟩
  · exact .inr h
theorem frzOff (hc : ∀ b, dom b → IsCel H b) {a : Addr} {o : Obj} {kvs : List (Key × V)} (h : H a = some (.frz o (.dK kvs))) : M3.off dom H a = some (.frz o (.dK kvs)) := by
  rw [off_out fun z => by obtain ⟨_, _, z⟩ := (hc a z).ne h; cases z]; exact h
mutual
theorem Rp.off (hc : ∀ b, dom b → IsCel H b) : ∀ {v : V} {d : D}, Rp K O H v d → Rp K O (M3.off dom H) v d
  | _, _, .non => .non
  | _, _, .bl b => .bl b
  | _, _, .int i => .int i
  | _, _, .str x => .str x
  | _, _, .lst h r => .lst (h.off hc) (RpAll.off hc r)
  | _, _, .tup h r => .tup (h.off hc) (RpAll.off hc r)
  | _, _, .dic h n r => .dic (frzOff hc h) n (RpKV.off hc r)
theorem RpAll.off (hc : ∀ b, dom b → IsCel H b) : ∀ {v : List V} {d : List D}, RpAll K O H v d → RpAll K O (M3.off dom H) v d
  | _, _, .nil => .nil
  | _, _, .cons r t => .cons (Rp.off hc r) (RpAll.off hc t)
theorem RpKV.off (hc : ∀ b, dom b → IsCel H b) : ∀ {v : List (Key × V)} {d : List (D × D)}, RpKV K O H v d → RpKV K O (M3.off dom H) v d
  | _, _, .nil => .nil
  | _, _, .cons r t => .cons (Rp.off hc r) (RpKV.off hc t)
end
theorem RpTX.off (hc : ∀ b, dom b → IsCel H b) : ∀ {v : List (Row × Addr × V)} {d : List (D × D)}, RpTX K O H v d → RpTX K O (M3.off dom H) v d
  | _, _, .nil => .nil
  | _, _, .cons h r t => .cons (h.off hc) (r.off hc) (RpTX.off hc t)
theorem ObOk.off (hc : ∀ b, dom b → IsCel H b) {a : Addr} {o : Ob} (h : ObOk K O H a o) : ObOk K O (M3.off dom H) a o := by
  cases o with
  | lst xs => obtain ⟨vs, h, r⟩ := h; exact ⟨vs, by rw [off_out fun z => by obtain ⟨_, _, z⟩ := (hc a z).ne h; cases z]; exact h, r.off hc⟩
  | dct ds => obtain ⟨vs, h, r⟩ := h; exact ⟨vs, by rw [off_out fun z => by obtain ⟨_, _, z⟩ := (hc a z).ne h; cases z]; exact h, r.off hc⟩
  | dcT ds => obtain ⟨vs, h, r⟩ := h; exact ⟨vs, by rw [off_out fun z => by obtain ⟨_, _, z⟩ := (hc a z).ne h; cases z]; exact h, r.off hc⟩
theorem ClH.off (hc : ∀ b, dom b → IsCel H b) {f : Addr} {F : NF} (h : ClH f F O H) : ClH f F O (M3.off dom H) := by
  obtain ⟨⟨o, h1⟩, h2, ⟨oc, h3⟩⟩ := h
  exact ⟨⟨o, by rw [off_out fun z => by obtain ⟨_, _, z⟩ := (hc f z).ne h1; cases z]; exact h1⟩, h2, ⟨oc, by rw [off_out fun z => by obtain ⟨_, _, z⟩ := (hc _ z).ne h3; cases z]; exact h3⟩⟩
def notFv : DV → Prop
  | .fv _ _ => False
  | _ => True
theorem RpV.off (hc : ∀ b, dom b → IsCel H b) {v : V} {x : DV} (nx : notFv x) (h : RpV K O H v x) : RpV K O (M3.off dom H) v x := by
  cases x with
  | d x => exact Rp.off hc h
  | ro xs => obtain ⟨a, vs, h1, h2, h3⟩ := h; exact ⟨a, vs, h1, h2.off hc, h3.off hc⟩
  | ad a => exact h
  | lk a ds => obtain ⟨h1, o, kvs, h, n, r⟩ := h; exact ⟨h1, o, kvs, frzOff hc h, n, r.off hc⟩
  | cl f F => exact ⟨h.1, h.2.off hc⟩
  | fv a I => exact nx.elim
end
/-- no slot holds a function that was handed in -/
def noFv : Sl → Prop
  | [] => True
  | some (.fv _ _) :: _ => False
  | _ :: r => noFv r
theorem noFv_at : ∀ {δ : Sl} {i : Nat} {a : Addr} {I}, noFv δ → δ[i]? ≠ some (some (.fv a I))
  | [], i, a, I, _ => by simp
  | x :: r, 0, a, I, h => fun z => by
    simp at z
    subst z
    exact h
  | x :: r, i + 1, a, I, h => fun z => by
    have h' : noFv r := by
      cases x with
      | none => exact h
      | some x => cases x <;> first | exact h | exact h.elim
    exact noFv_at h' (by simpa using z)
theorem Rel.off {K : PySem.W.Frag} {π : Rho} {F : Addr → Prop} {ρ : Rho} {H : Hp} {σ : St} {δ : Sl} {dom : Addr → Prop} (r : Rel K π F ρ H σ δ) (hc : ∀ b, dom b → IsCel H b) (nx : noFv δ) (no : ∀ b, dom b → ¬ Ox F ρ b) (np : ∀ p a, π p = some a → ¬ dom a) : Rel K π F ρ (M3.off dom H) σ δ where
  len := r.len
  dat := fun i x e => by
    obtain ⟨v, h1, h2⟩ := r.dat i x e
    refine ⟨v, h1, h2.off hc ?_⟩
    cases x <;> first | exact trivial | exact absurd e (noFv_at nx)
  own := fun i t o e => by
    obtain ⟨a, h1, h2, h3, h4⟩ := r.own i t o e
    exact ⟨a, h1, h2, h3.off hc, h4⟩
  inj := r.inj
  trk := fun a z => by
    obtain ⟨o, h⟩ := r.trk a z
    exact ⟨o, by rw [off_out fun d => no a d z]; exact h⟩
  dis := r.dis
  pit := fun p a z => by
    obtain ⟨o, h⟩ := r.pit p a z
    exact ⟨o, by rw [off_out (np p a z)]; exact h⟩
  ln := r.ln
  tab := (Tb.off hc).t r.tab
theorem Ext.off {ρ ρ' : Rho} {H Ht H2 : Hp} {dom : Addr → Prop} (e : Ext (Ow ρ) (Ow ρ) Ht (Ow ρ') H2) (out : ∀ b, ¬ dom b → Ht b = H b) (no : ∀ b, dom b → H b = none) (hc : ∀ b, dom b → IsCel H2 b) : Ext (Ow ρ) (Ow ρ) H (Ow ρ') (M3.off dom H2) := by
  have nd : ∀ b o, H b = some o → ¬ dom b := fun b o e z => by rw [no b z] at e; cases e
  have sm : Same H Ht := fun b o z => by rw [out b (nd b o z)]; exact z
  refine ⟨fun b o z n t => ?_, fun b z => ?_, fun b o z => ?_, ((Tb.same sm).trans e.tb).trans (Tb.off hc)⟩
  · rw [off_out (nd b o z)]; exact e.fr b o (sm b o z) n t
  · refine (e.ow b z).imp id fun q => ?_
    by_cases d : dom b
    · exact no b d
    · rw [← out b d]; exact q
  · obtain ⟨o', q⟩ := e.tk b o (sm b o z)
    exact ⟨o', by rw [off_out (nd b o z)]; exact q⟩
/-! ### such a function, its captured data known -/
def CloH (K : PySem.W.Frag) (f : Addr) (F : NF) (fr : List Str) (xs : List D) (O : Addr → Prop) (H : Hp) : Prop := ClH f F O H ∧ (∀ x y c, F.cl.lookup x = some c → F.cl.lookup y = some c → x = y) ∧ (∀ y c, F.cl.lookup y = some c → y ∈ fr) ∧ xs.length = fr.length ∧
  ∀ (i : Nat) (y : Str), fr[i]? = some y → ∃ c o v d, F.cl.lookup y = some c ∧ H c = some (celO o c v) ∧ ¬ O c ∧ xs[i]? = some d ∧ Rp K O H v d
theorem CloH.stable {K : PySem.W.Frag} {f : Addr} {F : NF} {fr : List Str} {xs : List D} : Stable (CloH K f F fr xs) := by
  refine ⟨fun P O H O' H' e po ⟨h1, h2, h3, h4, h5⟩ => ⟨h1.ext e po, h2, h3, h4, fun i y hi => ?_⟩, fun O O' H le ⟨h1, h2, h3, h4, h5⟩ => ⟨⟨h1.1, fun z => h1.2.1 (le _ z), h1.2.2⟩, h2, h3, h4, fun i y hi => ?_⟩⟩
  · obtain ⟨c, o, v, d, k1, k2, k3, k4, k5⟩ := h5 i y hi
    refine ⟨c, o, v, d, k1, e.fr _ _ k2 (fun z => k3 (po _ z)) rfl, fun z => ?_, k4, k5.ext e po⟩
    rcases e.ow _ z with q | q
    · exact k3 q
    · rw [q] at k2; cases k2
  · obtain ⟨c, o, v, d, k1, k2, k3, k4, k5⟩ := h5 i y hi
    exact ⟨c, o, v, d, k1, k2, fun z => k3 (le _ z), k4, k5.mono le⟩
/-- data in slots -/
def datsK (δ : Sl) : List Nat → (List D → Prop) → Prop
  | [], k => k []
  | j :: js, k => match δ[j]? with
    | some (some (.d x)) => datsK δ js fun xs => k (x :: xs)
    | _ => False
theorem datsK.to {δ : Sl} : ∀ {js : List Nat} {k : List D → Prop}, datsK δ js k → ∃ xs, xs.length = js.length ∧ (∀ (i j : Nat), js[i]? = some j → ∃ x, xs[i]? = some x ∧ δ[j]? = some (some (.d x))) ∧ k xs
  | [], k, h => ⟨[], rfl, fun i j e => by simp at e, h⟩
  | j :: js, k, h => by
    unfold datsK at h
    split at h
    · rename_i x e
      obtain ⟨xs, h1, h2, h3⟩ := datsK.to h
      refine ⟨x :: xs, by simp [h1], fun i j' q => ?_, h3⟩
      cases i with
      | zero => simp at q; subst q; exact ⟨x, rfl, e⟩
      | succ i => exact h2 i j' (by simpa using q)
    · exact h.elim
theorem datsK.mono {δ : Sl} : ∀ {js : List Nat} {k k' : List D → Prop}, (∀ xs, k xs → k' xs) → datsK δ js k → datsK δ js k'
  | [], _, _, hk, h => hk _ h
  | j :: js, k, k', hk, h => by
    unfold datsK at h ⊢
    split at h
    · exact datsK.mono (fun xs => hk _) h
    · exact h.elim
def cvtK (K : PySem.W.Frag) (cl : List (Str × Addr)) (fr : List Str) (xs : List D) : List DV → (List DV → Prop) → Prop
  | [], k => k []
  | .cl f F :: r, k => F.cl = cl ∧ cvtK K cl fr xs r fun ds => k (.fv f (CloH K f F fr xs) :: ds)
  | .d x :: r, k => cvtK K cl fr xs r fun ds => k (.d x :: ds)
  | .ro x :: r, k => cvtK K cl fr xs r fun ds => k (.ro x :: ds)
  | .ad x :: r, k => cvtK K cl fr xs r fun ds => k (.ad x :: ds)
  | .lk x y :: r, k => cvtK K cl fr xs r fun ds => k (.lk x y :: ds)
  | .fv _ _ :: _, _ => False
theorem cvtK.mono {K : PySem.W.Frag} {cl : List (Str × Addr)} {fr : List Str} {xs : List D} : ∀ {ds : List DV} {k k' : List DV → Prop}, (∀ ds, k ds → k' ds) → cvtK K cl fr xs ds k → cvtK K cl fr xs ds k'
  | [], _, _, hk, h => hk _ h
  | .cl f F :: r, _, _, hk, h => ⟨h.1, cvtK.mono (fun _ => hk _) h.2⟩
  | .d x :: r, _, _, hk, h => cvtK.mono (ds := r) (fun _ => hk _) h
  | .ro x :: r, _, _, hk, h => cvtK.mono (ds := r) (fun _ => hk _) h
  | .ad x :: r, _, _, hk, h => cvtK.mono (ds := r) (fun _ => hk _) h
  | .lk x y :: r, _, _, hk, h => cvtK.mono (ds := r) (fun _ => hk _) h
  | .fv _ _ :: _, _, _, hk, h => h.elim
/-- the arguments, with the cells known -/
theorem cvt_ok {K : PySem.W.Frag} {O : Addr → Prop} {H Ht : Hp} {σ : St} {cl : List (Str × Addr)} {fr : List Str} {xs : List D} (sm : Same H Ht) (hcl : ∀ y c, cl.lookup y = some c → y ∈ fr) (inj : ∀ x y c, cl.lookup x = some c → cl.lookup y = some c → x = y) (hl : xs.length = fr.length)
    (cells : ∀ (i : Nat) (y : Str), fr[i]? = some y → ∃ c o v d, cl.lookup y = some c ∧ Ht c = some (celO o c v) ∧ ¬ O c ∧ xs[i]? = some d ∧ Rp K O Ht v d) : ∀ {pat : List (Option Nat)} {vs : List V} {ds : List DV} {k : List DV → Prop}, ArgOk K O H σ pat vs ds → cvtK K cl fr xs ds k → ∃ ds', ArgOk K O Ht σ pat vs ds' ∧ k ds' := by
  intro pat vs ds k h
  have e : Ext O O H O Ht := Ext.same sm
  induction h generalizing k with
  | nil => exact fun q => ⟨[], .nil, q⟩
  | @d v x pat vs ds hx _ ih =>
    intro q
    cases x with
    | cl f F =>
      obtain ⟨q1, q2⟩ := q
      obtain ⟨ds', a, q⟩ := ih q2
      have hx : v = .ref f ∧ ClH f F O H := hx
      refine ⟨_, .d (x := .fv f (CloH K f F fr xs)) ⟨hx.1, ⟨hx.2.ext e (fun _ z => z), ?_, ?_, hl, ?_⟩, CloH.stable⟩ a, q⟩
      · rw [q1]; exact inj
      · rw [q1]; exact hcl
      · rw [q1]; exact cells
    | fv a I => exact q.elim
    | d x => obtain ⟨ds', a, q⟩ := ih q; exact ⟨_, .d (hx.ext e fun _ z => z) a, q⟩
    | ro x => obtain ⟨ds', a, q⟩ := ih q; exact ⟨_, .d (hx.ext e fun _ z => z) a, q⟩
    | ad x => obtain ⟨ds', a, q⟩ := ih q; exact ⟨_, .d (hx.ext e fun _ z => z) a, q⟩
    | lk x y => obtain ⟨ds', a, q⟩ := ih q; exact ⟨_, .d (hx.ext e fun _ z => z) a, q⟩
  | @r v i pat vs ds hi _ ih =>
    intro q
    obtain ⟨ds', a, q⟩ := ih q
    exact ⟨_, .r hi a, q⟩
def tCallC3 (K : PySem.W.Frag) (cl : List (Str × Addr)) (fr : List Str) (js : List Nat) (sp : Sp3) (pat : List (Option Nat)) (t : TV3) : T3 := fun E δ Q => t E δ fun ds δ1 => noFv δ1 ∧ datsK δ1 js fun xs => cvtK K cl fr xs ds fun ds' => mkW pat ds' δ1 0 fun ws => sp ws (fun r os => retD r fun x => Q x (putB pat δ1 os)) E
theorem noFv_set : ∀ (δ : Sl) (i : Nat) (t : Nat) (o : Ob), noFv δ → noFv (δ.set i (some (.own t o)))
  | [], _, _, _, h => h
  | none :: r, 0, t, o, h => h
  | none :: r, i + 1, t, o, h => noFv_set r i t o h
  | some x :: r, 0, t, o, h => by cases x <;> first | exact h | exact False.elim h
  | some x :: r, i + 1, t, o, h => by cases x <;> first | exact noFv_set r i t o h | exact False.elim h
theorem noFv_putO {δ : Sl} (i : Nat) (o : Ob) (h : noFv δ) : noFv (putO δ i o) := by
  rw [putO_eq]
  split
  · exact noFv_set _ _ _ _ h
  · exact h
theorem noFv_putB : ∀ (pat : List (Option Nat)) (os : List Ob) {δ : Sl}, noFv δ → noFv (putB pat δ os)
  | [], os, δ, h => by unfold putB; exact h
  | none :: pat, os, δ, h => by unfold putB; exact noFv_putB pat os h
  | some i :: pat, [], δ, h => by unfold putB; exact h
  | some i :: pat, o :: os, δ, h => by unfold putB; exact noFv_putB pat os (noFv_putO i o h)
section
variable {X : Cx} {E : XK} {CX : CXT} {k : Nat} {f : Addr} {fd : FuncData} {ps : List Str} {sp : Sp3} {e : Expr} {es : List Expr} {x : Str} {p pos : Pos} {pat : List (Option Nat)} {t : TV3} {cl : List (Str × Addr)} {fr : List Str} {js : List Nat}
theorem pe_callC {sp : Sp} {t : TA} (F : FnOk X.prog X.w X.K X.mg X.base CX k f fd ps sp) (hO : OffOk X.prog X.w CX) (hN : X.N.Nodup) (hr : Room k X.A) (hg : Gl X x) (hm : X.mg x = some (.ref f)) (hk : PySem.W.keepIn X.K (.ref f) = true) (hb : Binds X.K fd ps []) (hx : Passes CX X E) (cp : X.Ok → Caps X cl fr js) (hfn : ∀ y ∈ fr, X.fn y = true) (hcl : X.Ok → ∀ y c, cl.lookup y = some c → y ∈ fr)
    (ha : PA X (e :: es) t) (hdb : (x == ("__debug__" : Str)) = false := by decide) (he : starEach (e :: es) X.env = (false, eval e X.env) :: starEach es X.env := by rfl) (hpl : (backTo pos (starEach es X.env)).any (·.1) = false := by rfl) :
    PE X (.Call (.Name x p) (e :: es) [] pos) (fun σ H Q => t σ H fun vs H1 => (∀ j ∈ js, ∃ v, σ[j]? = some (some v)) ∧ ∀ dom Ht, CelsOk dom H1 Ht cl fr js σ → sp vs Ht (fun v H2 => Q v (off dom H2)) (fun cls d H2 => E cls d (off dom H2))) := by
  refine ⟨fun pins s σ H Q I h => ?_⟩
  refine wpAny_Call_Name_kw (ld_glob I hg hm ?_ hdb)
  refine PySem.W.callWith_K (h₀ := X.base) I.ok.mod.kin hk (thn (ha.run pos pins s σ H _ I h) fun us s2 ⟨vs, H2, I2, r, q1, q2⟩ => ⟨I2.kIn, ?_⟩) he hpl
  exact run_fnC F hO hN hr hb hx I2 (cp I2.ok) hfn (hcl I2.ok) q1 r q2
theorem callC3 (F : FnOk X.prog X.w X.K X.mg X.base CX k f fd ps (liftF X.K sp)) (mp : MonoP sp) (hO : OffOk X.prog X.w CX) (hN : X.N.Nodup) (hr : Room k X.A) (hg : Gl X x) (hm : X.mg x = some (.ref f)) (hk : PySem.W.keepIn X.K (.ref f) = true) (hb : Binds X.K fd ps []) (hx : Passes CX X E) (cp : X.Ok → Caps X cl fr js) (hfn : ∀ y ∈ fr, X.fn y = true) (hcl : X.Ok → ∀ y c, cl.lookup y = some c → y ∈ fr)
    (ha : PAr X E (e :: es) pat t) (nd : (pat.filterMap id).Nodup := by decide) (hdb : (x == ("__debug__" : Str)) = false := by decide) (he : starEach (e :: es) X.env = (false, eval e X.env) :: starEach es X.env := by rfl) (hpl : (backTo pos (starEach es X.env)).any (·.1) = false := by rfl) :
    PE3 X E (.Call (.Name x p) (e :: es) [] pos) (tCallC3 X.K cl fr js sp pat t) := by
  refine ⟨fun _ _ _ _ _ he hq q => ha.mono _ _ _ _ _ he (fun ds δ1 z => ⟨z.1, datsK.mono (fun xs => cvtK.mono fun ds' => mkW_mono (fun ws => mp _ _ _ _ _ (fun r os => retD_mono fun x => hq _ _) he) _ _ _ _) z.2⟩) q, (pe_callC F hO hN hr hg hm hk hb hx cp hfn hcl ha.pa hdb he hpl).imp fun σ H Q h => ?_⟩
  obtain ⟨π, Fo, ρ, δ, rel, q⟩ := h
  refine ⟨π, Fo, ρ, δ, rel, ha.mono _ _ _ _ _ (fun _ z => z) (fun ds δ1 q vs H1 ρ1 e1 rel1 ao => ?_) q⟩
  obtain ⟨nfv, q⟩ := q
  obtain ⟨xs, hxl, hxs, q⟩ := datsK.to q
  refine ⟨fun j hj => ?_, fun dom Ht ck => ?_⟩
  · obtain ⟨i, hi⟩ := List.mem_iff_getElem?.mp hj
    obtain ⟨x, _, h2⟩ := hxs i j hi
    obtain ⟨v, h3, _⟩ := rel1.dat j (.d x) h2
    exact ⟨v, h3⟩
  have sm : Same H1 Ht := fun b o z => by rw [ck.out b fun d => by rw [ck.no b d] at z; cases z]; exact z
  have relt := rel1.same sm
  have nO : ∀ b, dom b → ¬ Ox Fo ρ1 b := fun b d => rel1.fresh (ck.no b d)
  have nP : ∀ p a, π p = some a → ¬ dom a := fun p a z d => by
    obtain ⟨o, h⟩ := rel1.pit p a z
    rw [ck.no a d] at h; cases h
  obtain ⟨ds', ao', q⟩ := cvt_ok (O := Ox Fo ρ1) sm ck.dm ck.inj (hxl.trans ck.len) (fun i y hi => by
    obtain ⟨c, o, v, j, k1, k2, k3, k4, k5⟩ := ck.has i y hi
    obtain ⟨x, h1, h2⟩ := hxs i j k2
    obtain ⟨v', h3, h4⟩ := rel1.dat j (.d x) h2
    rw [k3] at h3; cases h3
    exact ⟨c, o, v, x, k1, k4, nO c k5, h1, Rp.same sm h4⟩) ao q
  obtain ⟨ws, q, ar⟩ := args_of ao' 0 _ q
  have relc := ar.rel relt nd
  have cstay : ∀ {ρ' : Rho} {H' : Hp}, Ex (FC Fo ρ1 pat) (piC pat ρ1) Ht ρ' H' → ∀ b, dom b → IsCel H' b := fun {ρ' H'} e' b d => by
    obtain ⟨o, v, h⟩ := ck.cel b d
    exact ⟨o, v, e'.fr b _ h (fun z => nO b d (.inl (piC_le b z))) rfl⟩
  refine ⟨piC pat ρ1, FC Fo ρ1 pat, piC pat ρ1, ws, relc, ar.tagged, fun j hj => ?_, mp _ _ _ _ _ (fun r os q v H' ρ' e' oo tk ds rr => ?_) (fun ex z d H' ρ' e' xo => ?_) q⟩
  · unfold piC
    rw [List.getElem?_eq_none (by rw [ar.len.2]; exact hj)]; rfl
  · obtain ⟨r2, ex2, lex⟩ := ar.after relt e' oo (fun _ _ => rfl) relt.inj (fun _ z => .inl z) (fun b z => tk b (.inl z))
    have hc := cstay e'
    have r3 := r2.off hc (noFv_putB pat os nfv) nO nP
    have e3 : Ext (Ow ρ1) (Ow ρ1) H1 (Ow ρ1) (off dom H') := Ext.off ex2 ck.out ck.no hc
    unfold retD at q
    split at q
    · exact q v _ ρ1 (e1.trans e3) r3 ((Rp.mono lex rr).off hc)
    · obtain ⟨a, rfl, oa, na, vs', h1, h2⟩ := rr
      refine q _ _ ρ1 (e1.trans e3) r3 (Rp.off hc (.lst ⟨h1, fun z => ?_⟩ (h2.mono lex)))
      have : Ht a = none := by
        rcases e'.ow a oa with w | w
        · obtain ⟨j, w⟩ := w; exact absurd w (na j)
        · exact w
      obtain ⟨u, hu⟩ := relt.trk a z
      rw [this] at hu; cases hu
    · exact q.elim
  · have hc := cstay e'
    refine (liftX.mono e1 ex z) d _ ρ1 (Ext.off ⟨fun b o hb n t => e'.fr b o hb (fun z => n (piC_le b z)) t, fun _ z => .inl z, e'.tk, e'.tb⟩ ck.out ck.no hc) ?_
    unfold XOk at xo ⊢
    cases hx : ex.arg with
    | none => rw [hx] at xo; exact xo
    | some i =>
      rw [hx] at xo
      obtain ⟨a, h1, h2⟩ := xo
      exact ⟨a, h1, by rw [off_out fun d => by obtain ⟨_, _, z⟩ := (hc a d).ne h2; cases z]; exact h2⟩
end
/-! ### calling what was handed in -/
structure Callv (P : Program) (w : World) (K : PySem.W.Frag) (mg : Str → Option Value) (base : Heap) (k : Nat) (a : Addr) (I : (Addr → Prop) → Hp → Prop) (S : PrmC) : Prop where
  fn : ∀ O H h, HOk P w H h → I O H → PySem.W.FnAt a h
  run : ∀ (A : Around) (outer : List Env) (s : Shared) (H : Hp) (us : List Value) (vs : List V) (xs : List D) (O : Addr → Prop) (Q : VK), Room k A → Env0 P w K mg base A outer s H → Vals vs us → Trk O H → TabsM H → I O H → RpAll K O H vs xs →
    S.sp (xs.map .d) (fun r _ => retD r fun x => ∀ v H', (∀ b o, H b = some o → isTbl o = false → H' b = some o) → (∀ b o, H b = some o → ∃ o', H' b = some o') → Tb H H' → Rp K O H' v x → Q v H') → codeAny (model P w) A (.call (.ref a) ⟨us, []⟩) (CR CX0 outer P w H s Q E0) s
theorem pick {α β : Type} : ∀ (l : List α) {R : Nat → α → β → Prop}, (∀ (i : Nat) y, l[i]? = some y → ∃ v, R i y v) → ∃ vs : List β, vs.length = l.length ∧ ∀ (i : Nat) y, l[i]? = some y → ∃ v, vs[i]? = some v ∧ R i y v
  | [], R, h => ⟨[], rfl, fun i y e => by simp at e⟩
  | a :: l, R, h => by
    obtain ⟨v, hv⟩ := h 0 a rfl
    obtain ⟨vs, h1, h2⟩ := pick l (R := fun i => R (i + 1)) fun i y e => h (i + 1) y (by simpa using e)
    refine ⟨v :: vs, by simp [h1], fun i y e => ?_⟩
    cases i with
    | zero => simp at e; subst e; exact ⟨v, rfl, hv⟩
    | succ i => exact h2 i y (by simpa using e)
theorem RpAll.of_get {K : PySem.W.Frag} {O : Addr → Prop} {H : Hp} : ∀ {vs : List V} {xs : List D}, vs.length = xs.length → (∀ (i : Nat) v d, vs[i]? = some v → xs[i]? = some d → Rp K O H v d) → RpAll K O H vs xs
  | [], [], _, _ => .nil
  | v :: vs, x :: xs, h, k => .cons (k 0 v x rfl rfl) (RpAll.of_get (by simpa using h) fun i v d e1 e2 => k (i + 1) v d (by simpa using e1) (by simpa using e2))
  | [], _ :: _, h, _ => by simp at h
  | _ :: _, [], h, _ => by simp at h
theorem ox0 {O : Addr → Prop} : ∀ b, Ox O (fun _ => none) b → O b := fun b z => z.elim (fun ⟨_, z⟩ => nomatch z) id
theorem Rel.ofData {K : PySem.W.Frag} {O : Addr → Prop} {H : Hp} {vs : List V} {xs : List D} (t : Trk O H) (tb : TabsM H) (r : RpAll K O H vs xs) : Rel K (fun _ => none) O (fun _ => none) H (vs.map some) ((xs.map W.d).map some) where
  len := by simp [r.length]
  dat := fun i x e => by
    rw [List.map_map, List.getElem?_map] at e
    cases h : xs[i]? with
    | none => rw [h] at e; cases e
    | some d =>
      rw [h] at e
      obtain ⟨v, hv, rv⟩ := r.get h
      have : x = .d d := by cases x <;> cases e; rfl
      subst this
      exact ⟨v, by simp [hv], Rp.mono ox0 rv⟩
  own := fun i t o e => by
    rw [List.map_map, List.getElem?_map] at e
    cases h : xs[i]? <;> rw [h] at e <;> cases e
  inj := fun _ _ _ h => nomatch h
  trk := fun a z => t a (ox0 a z)
  dis := fun _ _ ⟨_, z⟩ => nomatch z
  pit := fun _ _ z => nomatch z
  ln := fun i p e => by
    rw [List.map_map, List.getElem?_map] at e
    cases h : xs[i]? <;> rw [h] at e <;> cases e
  tab := tb
theorem callv_of {P : Program} {w : World} {K : PySem.W.Frag} {mg : Str → Option Value} {base : Heap} {N ps fr : List Str} {F : NF} {f : Addr} {k : Nat} {S : PrmC} {cs : List D} (Sc : NScope N ps fr F.scope) (hb : ∀ (doc pm ctv : Value) (us : List Value), us.length = ps.length → bindArgs (F.fd doc pm ctv) ⟨us, []⟩ = pure (ps.zip us)) (len : ∀ ws Q, S.sp ws Q → ws.length = ps.length)
    (hbody : ∀ (A : Around) (outer : List Env) (s : Shared) (H : Hp), Room k (A.deeper (envF F f s.heap.objs.size)) → ∃ t, PSs3 (ncx CX0 P w K mg base N F f A outer s H E0).nox XF F.body t ∧ ∀ (ws : List W) (Q : R3 → List Ob → Prop), S.sp ws Q → normK (start3 N (ws ++ cs.map .d)) fun δ => t (fun _ => False) (ends ws Q) δ) :
    Callv P w K mg base (k + 1) f (CloH K f F fr cs) S := by
  refine ⟨fun O H h hok ⟨⟨⟨o, hf⟩, _⟩, _⟩ => ?_, fun A outer s H us vs xs O Q hr e0 r trk tb hI ra hsp => ?_⟩
  · obtain ⟨_, ⟨od, sl, doc, pm, ctv, ho⟩, _, _⟩ := hok f _ hf
    exact ⟨_, od, _, sl, ho⟩
  obtain ⟨⟨⟨of, hf⟩, nof, ⟨oc, hcd⟩⟩, inj, dm, cl, cells⟩ := hI
  let dom : Addr → Prop := fun b => ∃ y, F.cl.lookup y = some b
  have ofd : ∀ b, dom b → ∃ i y, fr[i]? = some y ∧ F.cl.lookup y = some b := fun b ⟨y, z⟩ => by
    obtain ⟨i, hi⟩ := List.mem_iff_getElem?.mp (dm y b z)
    exact ⟨i, y, hi, z⟩
  have hc : ∀ b, dom b → IsCel H b := fun b d => by
    obtain ⟨i, y, hi, hy⟩ := ofd b d
    obtain ⟨c, o, v, _, k1, k2, _⟩ := cells i y hi
    rw [hy] at k1; cases k1
    exact ⟨o, v, k2⟩
  have celH : ∀ {b : Addr} {o : Obj} {v : V}, H b = some (celO o b v) → s.heap.get? b = some o ∧ ∃ u, RelV v u ∧ o.data = .cell (some u) := fun {b o v} e => by
    obtain ⟨h1, _, _, ⟨u, r, o', e', d⟩, _⟩ := e0.hok b _ e
    rw [h1] at e'; cases e'
    exact ⟨h1, u, r, d⟩
  have trO : ∀ b, O b → ∃ o, off dom H b = some o := fun b z => by
    obtain ⟨o, h⟩ := trk b z
    refine ⟨o, ?_⟩
    rw [off_out fun d => ?_]
    · exact h
    · obtain ⟨i, y, hi, hy⟩ := ofd b d
      obtain ⟨c, _, _, _, k1, _, k3, _⟩ := cells i y hi
      rw [hy] at k1; cases k1
      exact k3 z
  have e1 : Env0 P w K mg base A outer s (off dom H) := ⟨e0.frames, e0.mod, fun b o z => ⟨(e0.bs b o z).1, by unfold off; split; rfl; exact (e0.bs b o z).2⟩, e0.bsz, e0.funs, fun b z => by unfold off; split; rfl; exact e0.frf b z, hok_off e0.hok hc, e0.bare⟩
  obtain ⟨wv, wl, wh⟩ := pick fr (R := fun i y v => ∃ c o d, F.cl.lookup y = some c ∧ H c = some (celO o c v) ∧ cs[i]? = some d ∧ Rp K O H v d) fun i y hi => by
    obtain ⟨c, o, v, d, k1, k2, k3, k4, k5⟩ := cells i y hi
    exact ⟨v, c, o, d, k1, k2, k4, k5⟩
  have rw' : RpAll K O (off dom H) wv cs := RpAll.of_get (wl.trans cl.symm) fun i v d h1 h2 => by
    obtain ⟨y, hy⟩ : ∃ y, fr[i]? = some y := ⟨_, List.getElem?_eq_getElem (by rw [← wl]; exact (List.getElem?_eq_some_iff.mp h1).1)⟩
    obtain ⟨v', k1, c, o, d', _, _, k4, k5⟩ := wh i y hy
    rw [h1] at k1; cases k1
    rw [h2] at k4; cases k4
    exact k5.off hc
  have C : CellsAt F.cl fr (wv.map some) s.heap (off dom H) := ⟨by simp [wl], fun y c z => ⟨off_in ⟨y, z⟩, by
      obtain ⟨o, v, h⟩ := hc c ⟨y, z⟩
      obtain ⟨h1, u, _, h2⟩ := celH h
      exact ⟨some u, o, h1, h2⟩⟩, inj, fun i y hi => by
      obtain ⟨v, k1, c, o, d, k2, k3, _, _⟩ := wh i y hi
      refine ⟨c, k2, fun v' e => ?_⟩
      rw [List.getElem?_map, k1] at e; cases e
      obtain ⟨h1, u, h2, h3⟩ := celH k3
      exact ⟨u, h2, o, h1, h3⟩⟩
  have lim : s.heap.NoLimit := e0.mod.nolimit.keeps fun b o e => (e0.bs b o e).1
  have hl : vs.length = ps.length := by rw [← len _ _ hsp, List.length_map]; exact ra.length
  obtain ⟨_, ⟨od, sl, doc, pm, ctv, ho⟩, _, _⟩ := e0.hok f _ hf
  have un : ∀ {H' : Hp} {h' : Heap}, Un (frs outer) [] (off dom H) H' s.heap h' → ∀ b, dom b → H' b = none := fun {H' h'} u b d => by
    obtain ⟨o, v, h⟩ := hc b d
    exact u.free b o (celH h).1 (off_in d) (by simp)
  have fin : ∀ {s' : Shared} {u : Value}, CE outer P w (off dom H) s (fun v H' => (∀ b, dom b → H' b = none) → Q v (back dom H H')) u s' → CE outer P w H s Q u s' := fun {s' u} ⟨v, H', h1, h2, h3, h4, h5, h6⟩ => by
    have nn := un h3
    have nd : ∀ b, H b = none → ¬ dom b := fun b e d => by obtain ⟨o, v, h⟩ := hc b d; rw [h] at e; cases e
    have ne : ∀ {b : Addr} {x : HO}, H b = some x → (∀ o v, x ≠ celO o b v) → ¬ dom b := fun {b x} e n d => by
      obtain ⟨o, v, h⟩ := (hc b d).ne e
      exact n o v h
    refine ⟨v, back dom H H', h1, h2, ⟨fun b o e n hb hx => ?_, fun b o e n hb hx => ?_, fun b o e n hx => ?_, h3.there, fun b xs e => ?_, fun b o x e => ?_, fun b ps e => ?_⟩, fun a o e => ?_, h5, h6 nn⟩
    · exact h3.keep b o e (by rw [off_out (nd b n)]; exact n) hb hx
    · exact h3.slot b o e (by rw [off_out (nd b n)]; exact n) hb hx
    · rw [back_out (nd b n)]; exact h3.free b o e (by rw [off_out (nd b n)]; exact n) hx
    · have d := ne e (fun o v z => by cases z); rw [back_out d]; exact h3.tups b xs (by rw [off_out d]; exact e)
    · by_cases d : dom b
      · rw [back_in d]; exact e
      · rw [back_out d]; exact h3.frzs b o x (by rw [off_out d]; exact e)
    · have d := ne e (fun o v z => by cases z); rw [back_out d]; exact h3.tbls b ps (by rw [off_out d]; exact e)
    · by_cases d : dom a
      · rw [back_in d] at e
        obtain ⟨ob, v', rfl⟩ := (hc a d).ne e
        obtain ⟨k1, u', k2, k3⟩ := celH e
        have nfr : a ∉ frs outer := fun z => by rw [e0.frf a z] at e; cases e
        exact cel_ok (h3.keep a ob k1 (off_in d) nfr (by simp)) k2 k3
      · rw [back_out d] at e
        refine (h4 a o e).stay (fun _ _ _ q => q) (fun b q => ?_) fun b xs q => ?_
        · rw [back_out fun d => by rw [nn b d] at q; cases q]; exact q
        · rw [back_out fun d => by rw [nn b d] at q; cases q]; exact q
  have core : codeAny (model P w) A (.call (.ref f) ⟨us, []⟩) (CR CX0 outer P w (off dom H) s (fun v H' => (∀ b, dom b → H' b = none) → Q v (back dom H H')) E0) s := by
    refine codeAny_call_function hr.depth ho rfl Sc.co Sc.gen rfl (codeM e0.hok hcd) ?_
    rw [hb doc pm ctv us (by rw [← r.length]; exact hl)]
    refine wpAny_pure (wpAny_newFunctionEnv Sc.nocell (fun ⟨n, _⟩ hy => Sc.par n (List.of_mem_zip hy).1) (fun h₁ hns hsb => ⟨lim.fresh _ hsb, ?_⟩) Sc.kind)
    show codeAny _ _ (.func F.body (envF F f s.heap.objs.size)) _ _
    refine codeAny_func ?_
    have kp : ∀ b o, s.heap.get? b = some o → h₁.get? b = some o := fun b o z => hsb.extBut b o (Nat.ne_of_lt (Heap.lt_size z)) (Heap.get?_push_of_some _ z)
    obtain ⟨t, ht, hq⟩ := hbody A outer s (off dom H) (hr.deeper _)
    have J : Inv (ncx CX0 P w K mg base N F f A outer s (off dom H) E0) [] (startF N vs (wv.map some)) (off dom H) { s with heap := h₁, toks := s.toks + (ps.zip us).length } := inv_startN Sc hr.hd e1 hl r C hns kp
    have est : startF N vs (wv.map some) = L2.start N (vs ++ wv) := by
      unfold startF L2.start
      rw [List.map_append, List.append_assoc, List.length_append, List.length_map, Nat.sub_sub]
    have relD : Rel K (fun _ => none) O (fun _ => none) (off dom H) (L2.start N (vs ++ wv)) (start3 N (xs.map W.d ++ cs.map W.d)) := by
      have := (Rel.ofData (K := K) (vs := vs ++ wv) (xs := xs ++ cs) trO ((Tb.off hc).t tb) ((ra.off hc).append rw')).start N
      rw [List.map_append] at this
      exact this
    have h3 := hq _ _ hsp
    rw [normK_eq] at h3
    rw [est] at J
    have post : ∀ {r : R3} {os : List Ob} {v : V} {H' : Hp} {ρ' : Rho}, Ex O (fun _ => none) (off dom H) ρ' H' → RpR K (fun _ => none) O ρ' H' v r → (retD r fun x => ∀ v H', (∀ b o, H b = some o → isTbl o = false → H' b = some o) → (∀ b o, H b = some o → ∃ o', H' b = some o') → Tb H H' → Rp K O H' v x → Q v H') → (∀ b, dom b → H' b = none) → Q v (back dom H H') := fun {r os v H' ρ'} e' rr q nn => by
      have le : ∀ b, O b → Ox O ρ' b := fun b z => .inr z
      have up : Same H' (back dom H H') := fun b o z => by rw [back_out fun d => by rw [nn b d] at z; cases z]; exact z
      have now : ∀ b, ¬ Ow (fun _ => (none : Option Addr)) b := fun b ⟨_, z⟩ => nomatch z
      have k1 : ∀ b o, H b = some o → isTbl o = false → back dom H H' b = some o := fun b o z t => by
        by_cases d : dom b
        · rw [back_in d]; exact z
        · rw [back_out d]; exact e'.fr b o (by rw [off_out d]; exact z) (now b) t
      have k2 : ∀ b o, H b = some o → ∃ o', back dom H H' b = some o' := fun b o z => by
        by_cases d : dom b
        · exact ⟨o, by rw [back_in d]; exact z⟩
        · obtain ⟨o', q⟩ := e'.tk b o (by rw [off_out d]; exact z); exact ⟨o', by rw [back_out d]; exact q⟩
      have k3 : Tb H (back dom H H') := ((Tb.off hc).trans e'.tb).trans (Tb.same up)
      unfold retD at q
      split at q
      · exact q v _ k1 k2 k3 (Rp.same up (Rp.mono le rr))
      · obtain ⟨a, rfl, oa, na, vs', h1, h2⟩ := rr
        refine q _ _ k1 k2 k3 (Rp.same up (.lst ⟨h1, fun z => ?_⟩ (h2.mono le)))
        rcases e'.ow a oa with y | y
        · exact now a y
        · obtain ⟨o, h⟩ := trO a z
          rw [y] at h; cases h
      · exact q.elim
    refine wpAny_mono ((ht.ps.nox).run [] _ _ (off dom H) { nx := fun _ H' => (∀ b, dom b → H' b = none) → Q .non (back dom H H'), rt := fun v H' => (∀ b, dom b → H' b = none) → Q v (back dom H H') } J ⟨fun _ => none, O, fun _ => none, _, relD, ht.mono _ _ _ _ _ (fun _ z => z.elim) ⟨fun δ q σ' H' ρ' e' rel' => ?_, fun r δ q v σ' H' ρ' e' rel' rr => ?_, fun _ (z : False) => z.elim, fun _ (z : False) => z.elim⟩ h3⟩) (fun fl s' hs => ?_) fun e s' hs => hs
    · obtain ⟨os, q1, q2⟩ := outs_ok rel' (xs.map .d) 0 _ q
      exact post (os := os) e' (r := .d .none) (v := .non) .non q1
    · obtain ⟨os, q1, q2⟩ := outs_ok rel' (xs.map .d) 0 _ q
      exact post (os := os) e' rr q1
    · cases fl with
      | ret u =>
        obtain ⟨v, σ', H', J', rv, q⟩ := hs
        exact ⟨v, H', J'.os, J'.bare, J'.base, J'.hok, rv, q⟩
      | next =>
        obtain ⟨σ', H', J', q⟩ := hs
        exact ⟨V.non, H', J'.os, J'.bare, J'.base, J'.hok, rfl, q⟩
      | brk =>
        obtain ⟨_, _, _, q⟩ := hs
        exact False.elim q
      | cont =>
        obtain ⟨_, _, _, q⟩ := hs
        exact False.elim q
  refine codeAny_mono core fun r s' h => ?_
  unfold CR at h ⊢
  split at h
  · exact fin h
  · exact h
  · exact h
def onFv (δ : Sl) (i : Nat) (k : Addr → ((Addr → Prop) → Hp → Prop) → Prop) : Prop := match δ[i]? with | some (some (.fv a I)) => k a I | _ => False
theorem onFv.to {δ : Sl} {i : Nat} {k} (h : onFv δ i k) : ∃ a I, δ[i]? = some (some (.fv a I)) ∧ k a I := by
  unfold onFv at h
  split at h
  · exact ⟨_, _, by assumption, h⟩
  · exact h.elim
theorem onFv.of {δ : Sl} {i : Nat} {a I} {k : Addr → ((Addr → Prop) → Hp → Prop) → Prop} (e : δ[i]? = some (some (.fv a I))) (h : k a I) : onFv δ i k := by
  unfold onFv
  rw [e]
  exact h
/-- arguments that are data -/
def asDs : List DV → (List D → Prop) → Prop
  | [], k => k []
  | .d x :: r, k => asDs r fun xs => k (x :: xs)
  | _ :: _, _ => False
theorem asDs.to : ∀ {ds : List DV} {k : List D → Prop}, asDs ds k → ∃ xs, ds = xs.map .d ∧ k xs
  | [], k, h => ⟨[], rfl, h⟩
  | .d x :: r, k, h => by
    obtain ⟨xs, h1, h2⟩ := asDs.to (ds := r) h
    exact ⟨x :: xs, by rw [h1]; rfl, h2⟩
  | .ro _ :: _, k, h => h.elim
  | .ad _ :: _, k, h => h.elim
  | .lk _ _ :: _, k, h => h.elim
  | .cl _ _ :: _, k, h => h.elim
  | .fv _ _ :: _, k, h => h.elim
theorem asDs.of : ∀ {xs : List D} {k : List D → Prop}, k xs → asDs (xs.map .d) k
  | [], k, h => h
  | x :: xs, k, h => asDs.of (xs := xs) h
theorem argOk_ds {K : PySem.W.Frag} {O : Addr → Prop} {H : Hp} {σ : St} : ∀ {n : Nat} {vs : List V} {xs : List D}, ArgOk K O H σ (List.replicate n none) vs (xs.map .d) → RpAll K O H vs xs := by
  intro n vs xs h
  generalize hp : List.replicate n (none : Option Nat) = pat at h
  generalize hd : xs.map DV.d = ds at h
  induction h generalizing n xs with
  | nil => cases xs <;> simp at hd; exact .nil
  | @d v x pat vs ds hx _ ih =>
    cases xs with
    | nil => simp at hd
    | cons y ys =>
      simp only [List.map_cons, List.cons.injEq] at hd
      obtain ⟨rfl, rfl⟩ := hd
      cases n with
      | zero => simp at hp
      | succ n =>
        rw [List.replicate_succ, List.cons.injEq] at hp
        exact .cons hx (ih hp.2 rfl)
  | @r v i pat vs ds hi _ ih =>
    cases n with
    | zero => simp at hp
    | succ n =>
      rw [List.replicate_succ, List.cons.injEq] at hp
      cases hp.1
def tCallV (P : Program) (w : World) (K : PySem.W.Frag) (mg : Str → Option Value) (base : Heap) (i j : Nat) (t : TV3) : T3 := fun E δ Q => onFv δ i fun a I => ∃ (k : Nat) (S : PrmC), (Callv P w K mg base k a I S ∧ k ≤ j) ∧ t E δ fun ds δ1 => asDs ds fun xs => S.sp (xs.map .d) fun r _ => retD r fun x => Q x δ1
section
variable {X : Cx} {E : XK} {j n : Nat} {e : Expr} {es : List Expr} {y : Str} {p pos : Pos} {t : TV3}
theorem clV {P : Program} {w : World} {K : PySem.W.Frag} {mg : Str → Option Value} {base : Heap} (i : Nat) (hX : X.prog = P ∧ X.w = w ∧ X.K = K ∧ X.mg = mg ∧ X.base = base) (hr : Room j X.A) (ha : PAr X E (e :: es) (List.replicate n none) t) (hN : X.N[i]? = some y := by rfl) (hv : Vis X.env.scope y := by first | exact Or.inl rfl | exact Or.inr (Or.inl rfl) | exact Or.inr (Or.inr rfl)) (hd : (y == ("__debug__" : Str)) = false := by decide)
    (hcd : (y == ("__classdict__" : Str)) = false := by decide) (he : starEach (e :: es) X.env = (false, eval e X.env) :: starEach es X.env := by rfl) (hpl : (backTo pos (starEach es X.env)).any (·.1) = false := by rfl) : PE3 X E (.Call (.Name y p) (e :: es) [] pos) (tCallV P w K mg base i j t) := by
  obtain ⟨rfl, rfl, rfl, rfl, rfl⟩ := hX
  refine ⟨fun _ _ _ _ _ he hq q => ?_, ⟨fun pins s σ H Q I h => ?_⟩⟩
  · obtain ⟨a, J, e, k, S, h1, h2⟩ := onFv.to q
    refine onFv.of e ⟨k, S, h1, ha.mono _ _ _ _ _ he (fun ds δ1 z => ?_) h2⟩
    obtain ⟨xs, hxs, z2⟩ := asDs.to z
    rw [hxs]
    exact asDs.of (S.mono _ _ _ (fun r os => retD_mono fun x => hq _ _) z2)
  obtain ⟨π, Fo, ρ, δ, rel, q⟩ := h
  obtain ⟨a, J, ea, k, S, ⟨C, hk⟩, q⟩ := onFv.to q
  obtain ⟨v, k1, rfl, hJ, st⟩ := rel.dat i (.fv a J) ea
  refine wpAny_Call_Name_kw (thn ((pe_var (pos := p) hN hv hd hcd).run pins s σ H (fun v H1 => v = .ref a ∧ H1 = H) I ⟨.ref a, k1, rfl, rfl⟩) fun u s1 ⟨v, H1, I1, r1, q1⟩ => ?_)
  obtain ⟨ev, eH⟩ := q1
  subst ev
  rw [eH] at I1
  obtain rfl : u = Value.ref a := r1
  have hq : liftA X.K E (List.replicate n none) t σ H (fun vs H2 => ∃ xs O, Trk O H2 ∧ TabsM H2 ∧ J O H2 ∧ RpAll X.K O H2 vs xs ∧ S.sp (xs.map .d) (fun r _ => retD r fun x => ∀ v H', (∀ b o, H2 b = some o → isTbl o = false → H' b = some o) → (∀ b o, H2 b = some o → ∃ o', H' b = some o') → Tb H2 H' → Rp X.K O H' v x → Q v H')) := by
    refine ⟨π, Fo, ρ, δ, rel, ha.mono _ _ _ _ _ (fun _ z => z) (fun ds δ1 q vs H2 ρ2 e2 rel2 ao => ?_) q⟩
    obtain ⟨xs, hxs, q2⟩ := asDs.to q
    rw [hxs] at ao
    refine ⟨xs, Ox Fo ρ2, rel2.trk, rel2.tab, st.1 _ _ _ _ _ e2.frn (fun _ => .inl) hJ, argOk_ds ao, S.mono _ _ _ (fun r os => retD_mono fun x q v H' fr tk tb rp => ?_) q2⟩
    obtain ⟨r3, e3⟩ := rel2.calm fr tk tb
    exact q v H' ρ2 (e2.trans e3) r3 rp
  refine PySem.W.callWith_F (first := []) (C.fn _ _ _ I1.hok hJ) (thn (ha.pa.run pos pins s1 σ H _ I1 hq) fun us s2 ⟨vs, H2, I2, r, xs, O, g1, g2, g3, g4, g5⟩ => ⟨C.fn _ _ _ I2.hok g3, ?_⟩) he hpl
  show wpAny _ _ (call (.ref a) us) _ _ _
  refine wpAny_call (codeAny_mono (C.run X.A X.stack s2 H2 us vs xs O Q (hr.mono hk) I2.env0 r g1 g2 g3 g4 g5) fun r s' hq => ?_)
  cases r with
  | error e => exact False.elim hq
  | ok fl =>
    cases fl with
    | ret u => exact I2.after hq
    | next => exact False.elim hq
    | brk => exact False.elim hq
    | cont => exact False.elim hq
end
end M3

set_option Elab.async false
set_option linter.all false
set_option maxRecDepth 100000
set_option maxHeartbeats 4000000
namespace M3
open PySem L2 NdefX LamX
variable [TabsC]
/-! ## defs that make functions -/
theorem okK {CX : CXT} {P : Program} {w : World} {K : PySem.W.Frag} {mg : Str → Option Value} {base : Heap} {x qual : Str} {st : Stmt} {f c : Addr} {fd : FuncData} {N ps : List Str} {k : Nat} {sp : Sp} (F : Fun K x qual st f fd) (hc : fd.code = .ref c) (S : FnScope N ps (defScope st)) (len : ∀ vs H Q E, sp vs H Q E → vs.length = ps.length)
    (hbody : ∀ (A : Around) (outer : List Env) (s : Shared) (H : Hp) (vs : List V) (Q : VK) (E : XK), Room k (A.deeper (PyProof.Rows.envOfC qual (defScope st) s.heap.objs.size f (.ref c))) → sp vs H Q E →
      ∃ t, PSs (cxOf CX P w K mg base N qual (defScope st) f (.ref c) A outer s H E) (defBody st) t ∧ t { nx := fun _ H' => Q .non H', rt := Q } (start N vs) H) : FnOk P w K mg base CX (k + 1) f fd ps sp := by
  obtain ⟨oc, od, kV, doc, pm, an, cdv, ct, osl, rfl, lk, hcd⟩ := F.ex
  obtain rfl : cdv = .ref c := hc
  exact fn_of lk hcd S len hbody
theorem fnNK {P : Program} {w : World} {K : PySem.W.Frag} {mg : Str → Option Value} {base : Heap} {x qual : Str} {st : Stmt} {f c : Addr} {fd : FuncData} {N ps : List Str} {k : Nat} {S : PrmC} (F : Fun K x qual st f fd) (hc : fd.code = .ref c) (Sc : FnScope N ps (defScope st)) (len : ∀ ws Q, S.sp ws Q → ws.length = ps.length)
    (hbody : ∀ (A : Around) (outer : List Env) (s : Shared) (H : Hp) (E : XK), Room k (A.deeper (PyProof.Rows.envOfC qual (defScope st) s.heap.objs.size f (.ref c))) →
      ∃ t, PSs3 (cxOf CX0 P w K mg base N qual (defScope st) f (.ref c) A outer s H E).nox XF (defBody st) t ∧ ∀ (ws : List W) (Q : R3 → List Ob → Prop), S.sp ws Q → normK (start3 N ws) fun δ => t (fun _ => False) (ends ws Q) δ) :
    FnOk P w K mg base CX0 (k + 1) f fd ps (liftF K S.p) := by
  refine okK F hc Sc (fun vs H Q E h => ?_) (fun A outer s H vs Q E hr h => ?_)
  · obtain ⟨π, Fo, ρ, ws, rel, _, _, h⟩ := h
    rw [← len ws _ h]
    simpa using rel.len
  · obtain ⟨π, Fo, ρ, ws, rel, tg, hk, h⟩ := h
    obtain ⟨t, h1, h2⟩ := hbody A outer s H E hr
    have h3 := h2 ws _ h
    rw [normK_eq] at h3
    refine ⟨_, h1.ps.nox, π, Fo, ρ, _, rel.start N, h1.mono _ _ _ _ _ (fun _ z => z.elim) ⟨fun δ q σ' H' ρ' e' rel' => ?_, fun r δ q v σ' H' ρ' e' rel' rr => ?_, fun _ (z : False) => z.elim, fun _ (z : False) => z.elim⟩ h3⟩
    · obtain ⟨os, q1, q2⟩ := outs_ok rel' ws 0 _ q
      exact q1 .non H' ρ' e' q2 rel'.trk rel'.dis .non
    · obtain ⟨os, q1, q2⟩ := outs_ok rel' ws 0 _ q
      exact q1 v H' ρ' e' q2 rel'.trk rel'.dis rr
theorem fnXK {P : Program} {w : World} {K : PySem.W.Frag} {mg : Str → Option Value} {base : Heap} {x qual : Str} {st : Stmt} {f c : Addr} {fd : FuncData} {N ps : List Str} {k : Nat} {S : PrmX} (F : Fun K x qual st f fd) (hc : fd.code = .ref c) (Sc : FnScope N ps (defScope st)) (len : ∀ ws Q E, S.p ws Q E → ws.length = ps.length)
    (hbody : ∀ (A : Around) (outer : List Env) (s : Shared) (H : Hp) (E : XK), Room k (A.deeper (PyProof.Rows.envOfC qual (defScope st) s.heap.objs.size f (.ref c))) →
      TakesE (cxOf (L2.CX P w) P w K mg base N qual (defScope st) f (.ref c) A outer s H E) E → PassesOwn (model P w) (cxOf (L2.CX P w) P w K mg base N qual (defScope st) f (.ref c) A outer s H E).A (cxOf (L2.CX P w) P w K mg base N qual (defScope st) f (.ref c) A outer s H E).env (cxOf (L2.CX P w) P w K mg base N qual (defScope st) f (.ref c) A outer s H E).xe →
      ∃ t, PSs3 (cxOf (L2.CX P w) P w K mg base N qual (defScope st) f (.ref c) A outer s H E) E (defBody st) t ∧ ∀ (ws : List W) (Q : R3 → List Ob → Prop) (Ex : Ex3 → Prop), S.p ws Q Ex → normK (start3 N ws) fun δ => t Ex (ends ws Q) δ) :
    FnOk P w K mg base (L2.CX P w) (k + 1) f fd ps (liftF K S.p) := by
  refine okK F hc Sc (fun vs H Q E h => ?_) (fun A outer s H vs Q E hr h => ?_)
  · obtain ⟨π, Fo, ρ, ws, rel, _, _, h⟩ := h
    rw [← len ws _ _ h]
    simpa using rel.len
  · obtain ⟨π, Fo, ρ, ws, rel, tg, hk, h⟩ := h
    obtain ⟨t, h1, h2⟩ := hbody A outer s H E hr (takes_of rfl rfl rfl rfl) (passes_of rfl)
    have h3 := h2 ws _ _ h
    rw [normK_eq] at h3
    refine ⟨_, h1.ps, π, Fo, ρ, _, rel.start N, h1.mono _ _ _ _ _ (fun _ z => z) ⟨fun δ q σ' H' ρ' e' rel' => ?_, fun r δ q v σ' H' ρ' e' rel' rr => ?_, fun _ (z : False) => z.elim, fun _ (z : False) => z.elim⟩ h3⟩
    · obtain ⟨os, q1, q2⟩ := outs_ok rel' ws 0 _ q
      exact q1 .non H' ρ' e' q2 rel'.trk rel'.dis .non
    · obtain ⟨os, q1, q2⟩ := outs_ok rel' ws 0 _ q
      exact q1 v H' ρ' e' q2 rel'.trk rel'.dis rr
/-! ## handing it on -/
def onCl (δ : Sl) (i : Nat) (k : Addr → NF → Prop) : Prop := match δ[i]? with | some (some (.cl f F)) => k f F | _ => False
theorem onCl.to {δ : Sl} {i : Nat} {k} (h : onCl δ i k) : ∃ f F, δ[i]? = some (some (.cl f F)) ∧ k f F := by
  unfold onCl at h
  split at h
  · exact ⟨_, _, by assumption, h⟩
  · exact h.elim
theorem onCl.of {δ : Sl} {i : Nat} {f F} {k : Addr → NF → Prop} (e : δ[i]? = some (some (.cl f F))) (h : k f F) : onCl δ i k := by
  unfold onCl
  rw [e]
  exact h
section
variable {X : Cx} {E : XK} {es : List Expr} {pat : List (Option Nat)} {t : TV3}
theorem rcl3 (i : Nat) {x : Str} {pos' : Pos} (hr : PAr X E es pat t) (hN : X.N[i]? = some x := by rfl) (hv : Vis X.env.scope x := by first | exact Or.inl rfl | exact Or.inr (Or.inl rfl) | exact Or.inr (Or.inr rfl)) (hd : (x == ("__debug__" : Str)) = false := by decide)
    (hcd : (x == ("__classdict__" : Str)) = false := by decide) (hs : starEach (.Name x pos' :: es) X.env = (false, eval (.Name x pos') X.env) :: starEach es X.env := by rfl) :
    PAr X E (.Name x pos' :: es) (none :: pat) (fun E δ Q => onCl δ i fun f F => t E δ fun ys δ1 => Q (.cl f F :: ys) δ1) := by
  refine ⟨fun _ _ _ _ _ he hq q => ?_, (pa_cons (pe_var hN hv hd hcd) hr.pa hs).imp fun σ H Q h => ?_⟩
  · obtain ⟨f, F, e, q⟩ := onCl.to q
    exact onCl.of e (hr.mono _ _ _ _ _ he (fun ys δ1 => hq _ _) q)
  · obtain ⟨π, Fo, ρ, δ, rel, q⟩ := h
    obtain ⟨f, F, e, q⟩ := onCl.to q
    obtain ⟨v, h1, h2⟩ := rel.dat i (.cl f F) e
    refine ⟨v, h1, π, Fo, ρ, δ, rel, hr.mono _ _ _ _ _ (fun _ z => z) (fun y δ2 q us H2 ρ2 e2 rel2 r2 => ?_) q⟩
    exact q (v :: us) H2 ρ2 e2 rel2 (.d (x := .cl f F) (h2.ext e2.frn fun _ => .inl) r2)
end
theorem clo_dom {X : Cx} {scope : Scope} {fr : List Str} (hfr : ∀ y ∈ scope.names, y.2 = .free → y.1 ∈ fr) : ∀ y c, (cloFrom X.env.cells scope.names []).lookup y = some c → y ∈ fr := fun y c h => by
  rcases cloFrom_mem (PySem.mem_of_lookup h) with z | ⟨z, _⟩
  · cases z
  · exact hfr _ z rfl
def freeB (sc scope : Scope) : Bool := scope.names.all fun y => !decide (y.2 = .free) || (decide (sc.names.lookup y.1 = some .cell) || decide (sc.names.lookup y.1 = some .free))
theorem freeB_to {sc scope : Scope} (h : freeB sc scope = true) : ∀ y ∈ scope.names, y.2 = .free → sc.names.lookup y.1 = some .cell ∨ sc.names.lookup y.1 = some .free := fun y hy e => by
  have := List.all_eq_true.mp h y hy
  simp only [Bool.or_eq_true, Bool.not_eq_true', decide_eq_true_eq, decide_eq_false_iff_not] at this
  exact this.elim (fun z => absurd e z) id
def frB (scope : Scope) (fr : List Str) : Bool := (scope.names.all fun y => !decide (y.2 = .free) || decide (y.1 ∈ fr)) && fr.all fun y => decide ((y, NameKind.free) ∈ scope.names)
theorem frB_to {scope : Scope} {fr : List Str} (h : frB scope fr = true) : (∀ y ∈ scope.names, y.2 = .free → y.1 ∈ fr) ∧ ∀ y ∈ fr, (y, NameKind.free) ∈ scope.names := by
  unfold frB at h
  rw [Bool.and_eq_true] at h
  refine ⟨fun y hy e => ?_, fun y hy => of_decide_eq_true (List.all_eq_true.mp h.2 y hy)⟩
  have := List.all_eq_true.mp h.1 y hy
  simp only [Bool.or_eq_true, Bool.not_eq_true', decide_eq_true_eq, decide_eq_false_iff_not] at this
  exact this.elim (fun z => absurd e z) id
section
variable {X : Cx} {E : XK} {k j : Nat} {ps : List Str} {e : Expr} {es : List Expr} {x : Str} {p pos : Pos} {pat : List (Option Nat)} {t : TV3}
/-- a call of a def that may raise, a function made here handed on -/
theorem clXC {S : PrmX} (C : CalX X.prog X.w X.K X.mg X.base k x ps S) (tk : TakesE X E) (scope : Scope) (fr : List Str) (js : List Nat) (hN : X.N.Nodup) (h1 : freeB X.env.scope scope = true) (h2 : frB scope fr = true) (hfn : (fr.all fun y => X.fn y) = true) (hr : Room j X.A) (ha : PAr X E (e :: es) pat t) (hjs : js.map (fun j => X.N[j]?) = fr.map some := by rfl) (hk : k ≤ j := by first | decide | omega) (hg : Gl X x := by rfl) (nd : (pat.filterMap id).Nodup := by decide) (hdb : (x == ("__debug__" : Str)) = false := by decide)
    (he : starEach (e :: es) X.env = (false, eval e X.env) :: starEach es X.env := by rfl) (hpl : (backTo pos (starEach es X.env)).any (·.1) = false := by rfl) : PE3 X E (.Call (.Name x p) (e :: es) [] pos) (tCallC3 X.K (cloFrom X.env.cells scope.names []) fr js S.p pat t) := by
  obtain ⟨f, fd, F, hm, hk', hb⟩ := C.ex
  exact callC3 F S.mono offOkX hN (hr.mono hk) hg hm hk' hb (passes_call tk fun _ _ _ _ h => h) (fun ok => Caps.made ok (freeB_to h1) (frB_to h2).2 hjs) (fun y hy => List.all_eq_true.mp hfn y hy) (fun _ => clo_dom (frB_to h2).1) ha nd hdb he hpl
theorem clCC {S : PrmC} (C : CalC X.prog X.w X.K X.mg X.base k x ps S) (scope : Scope) (fr : List Str) (js : List Nat) (hN : X.N.Nodup) (h1 : freeB X.env.scope scope = true) (h2 : frB scope fr = true) (hfn : (fr.all fun y => X.fn y) = true) (hr : Room j X.A) (ha : PAr X E (e :: es) pat t) (hjs : js.map (fun j => X.N[j]?) = fr.map some := by rfl) (hk : k ≤ j := by first | decide | omega) (hg : Gl X x := by rfl) (nd : (pat.filterMap id).Nodup := by decide) (hdb : (x == ("__debug__" : Str)) = false := by decide)
    (he : starEach (e :: es) X.env = (false, eval e X.env) :: starEach es X.env := by rfl) (hpl : (backTo pos (starEach es X.env)).any (·.1) = false := by rfl) : PE3 X E (.Call (.Name x p) (e :: es) [] pos) (tCallC3 X.K (cloFrom X.env.cells scope.names []) fr js S.p pat t) := by
  obtain ⟨f, fd, F, hm, hk', hb⟩ := C.ex
  exact callC3 F S.monoP offOk0 hN (hr.mono hk) hg hm hk' hb pass0 (fun ok => Caps.made ok (freeB_to h1) (frB_to h2).2 hjs) (fun y hy => List.all_eq_true.mp hfn y hy) (fun _ => clo_dom (frB_to h2).1) ha nd hdb he hpl
end
/-- a function as an argument, in a promise -/
def sF (f : Addr → ((Addr → Prop) → Hp → Prop) → Spec) : Spec := fun ws Q => match ws with | .fv x I :: r => f x I r Q | _ => False
theorem sF.inv {f ws Q} (h : sF f ws Q) : ∃ x I r, ws = .fv x I :: r ∧ f x I r Q := by
  unfold sF at h; split at h
  · exact ⟨_, _, _, rfl, h⟩
  · exact h.elim
section
variable {X : Cx} {E : XK} {a b c : Expr} {ta tb tc : T3} {pos : Pos}
theorem chLtLe3 (ha : PE3 X E a ta) (hb : PE3 X E b tb) (hc : PE3 X E c tc) (hm : lastMarks [.Lt, .LtE] [b, c] = false := by with_unfolding_all rfl) : PE3 X E (.Compare a [.Lt, .LtE] [b, c] pos) (tCh (fun i j => decide (i < j)) (fun i j => decide (i ≤ j)) ta tb tc) :=
  ⟨mono_tCh ha.mono hb.mono hc.mono, (pe_chain op_lt op_le ha.pe hb.pe hc.pe hm).imp fun _ _ _ h => lift_ch ha.mono hb.mono hc.mono h⟩
theorem chLtLe3T (ha : PE3 X E a ta) (hb : PE3 X E b tb) (hc : PE3 X E c tc) (hm : lastMarks [.Lt, .LtE] [b, c] = false := by with_unfolding_all rfl) : PT3 X E (.Compare a [.Lt, .LtE] [b, c] pos) (tBool (tCh (fun i j => decide (i < j)) (fun i j => decide (i ≤ j)) ta tb tc)) :=
  ⟨mono_tBool (mono_tCh ha.mono hb.mono hc.mono), (pt_chain op_lt op_le ha.pe hb.pe hc.pe hm).imp fun _ _ _ h => lift_ch ha.mono hb.mono hc.mono (lift_bool (mono_tCh ha.mono hb.mono hc.mono) h)⟩
theorem chLtLt3 (ha : PE3 X E a ta) (hb : PE3 X E b tb) (hc : PE3 X E c tc) (hm : lastMarks [.Lt, .Lt] [b, c] = false := by with_unfolding_all rfl) : PE3 X E (.Compare a [.Lt, .Lt] [b, c] pos) (tCh (fun i j => decide (i < j)) (fun i j => decide (i < j)) ta tb tc) :=
  ⟨mono_tCh ha.mono hb.mono hc.mono, (pe_chain op_lt op_lt ha.pe hb.pe hc.pe hm).imp fun _ _ _ h => lift_ch ha.mono hb.mono hc.mono h⟩
theorem chLtLt3T (ha : PE3 X E a ta) (hb : PE3 X E b tb) (hc : PE3 X E c tc) (hm : lastMarks [.Lt, .Lt] [b, c] = false := by with_unfolding_all rfl) : PT3 X E (.Compare a [.Lt, .Lt] [b, c] pos) (tBool (tCh (fun i j => decide (i < j)) (fun i j => decide (i < j)) ta tb tc)) :=
  ⟨mono_tBool (mono_tCh ha.mono hb.mono hc.mono), (pt_chain op_lt op_lt ha.pe hb.pe hc.pe hm).imp fun _ _ _ h => lift_ch ha.mono hb.mono hc.mono (lift_bool (mono_tCh ha.mono hb.mono hc.mono) h)⟩
end
/-! ## the end -/
theorem walkT {l : PySem.W.OpenLaw} {k : Nat} {q : Program} {loose : List Str} {XP : (Str → Option Value) → Heap → Prop} {YP : World → Heap → Prop} {d : DefRec} {K : Params → PySem.W.Frag} (hn : l.most = some 63) (hdf : d.params.defaults = []) (hr : Room k callerA)
    (hY : ∀ (w : World) (h : Heap), YP w h → (K w.params).In h)
    (F : ∀ (w : World) (mg : Str → Option Value) (fa : Addr) (h : Heap), YP w h → (K w.params).In h → h.Ns mainGlobals mg → mg d.name = some (.ref fa) →
      ∃ (fd : FuncData) (cs : List (Addr × Addr)) (T : TabsC), (∀ p ∈ cs, h.get? p.2 = some { cls := .none, data := .fields #[] }) ∧ (∀ p ∈ cs, (K w.params).lookup p.2 = none) ∧ (∀ p ∈ cs, PySem.W.CodeHd h p.1 p.2) ∧ (∀ p ∈ T.T, ∃ c, (c, p.1) ∈ cs) ∧ (∀ (s : Shared) (u : Value), BindsTo s fd ⟨[u], []⟩ [("script", u)]) ∧
        ∀ base : Heap, (K w.params).In base → base.Ns mainGlobals mg → (∀ p ∈ cs, TabB base mg p.1 p.2) → FnOk l.prog w (K w.params) mg base CX0 k fa fd ["script"] (@liftF T (K w.params) S_lawC.p)) :
    PySem.W.WalkO q loose XP YP l.row.toRowW d [] (fun f vs => PySem.call f vs) := by
  refine walk_ofTs (n := 63) (k := k) (x := "script") (CX := fun _ => CX0) hn (by decide) hdf hr hY (fun w mg fa h Y KX G hmg => ?_) fun _ _ _ _ _ z => z
  obtain ⟨fd, cs, T, h1, h2, h3, h4, h5, h6⟩ := F w mg fa h Y KX G hmg
  refine ⟨fd, cs, @liftF T (K w.params) S_lawC.p, h1, h2, h3, h5, fun H a ns hl _ hT hS => ?_, h6⟩
  refine @law_hsp T _ _ _ _ hl (fun p hp => ?_) hS
  obtain ⟨c, hc⟩ := h4 p hp
  refine ⟨#[], hT _ hc, True.intro, fun pos cv z => ?_⟩
  simp [codeAmong] at z
end M3

set_option Elab.async false
set_option linter.all false
set_option maxRecDepth 100000
set_option maxHeartbeats 4000000
namespace M3
open PySem PySem.Spec PyProof.Rows L2 NdefX LamX
variable [TabsC]
/-! ## texts of nested rows -/
/-- rows of rows of small numbers: at most so deep, of at most so many nodes -/
inductive Sh : Nat → Nat → D → Prop
  | non {k n : Nat} : 1 ≤ n → Sh k n .none
  | bl {k n : Nat} {b : Bool} : 1 ≤ n → Sh k n (.bool b)
  | int {k n : Nat} {i : Int} : 1 ≤ n → i.natAbs < 10 ^ 20 → Sh k n (.int i)
  | tup {k n m : Nat} {xs : List D} : (∀ x ∈ xs, Sh k n x) → 1 + xs.length * n ≤ m → Sh (k + 1) m (.tuple xs)
theorem log_small {i : Int} (h : i.natAbs < 10 ^ 20) : i.natAbs.log2 < 1920 := by
  by_cases h0 : i.natAbs = 0
  · rw [h0]; decide
  · exact (Nat.log2_lt h0).mpr (Nat.lt_of_lt_of_le h (Nat.le_trans (show 10 ^ 20 ≤ 2 ^ 100 by decide) (Nat.pow_le_pow_right (by decide) (by decide))))
structure ShOk (k n : Nat) (d : D) : Prop where
  shw : d.showable = true
  nod : d.hasDict = false
  dep : d.depth ≤ k
  len : d.shown.length + 2 ≤ 30 * n
theorem piled_all {n : Nat} : ∀ xs : List D, (∀ x ∈ xs, (x.shown.length + 2 ≤ 30 * n)) → piled (PyData.shownAll xs) ≤ xs.length * (30 * n)
  | [], _ => by simp [PyData.shownAll, piled]
  | x :: xs, h => by
    have h1 := h x List.mem_cons_self
    have h2 := piled_all xs fun y hy => h y (List.mem_cons_of_mem _ hy)
    rw [PyData.shownAll, piled_cons, List.length_cons, Nat.succ_mul]
    omega
theorem sh_show : ∀ xs : List D, (∀ x ∈ xs, x.showable = true) → PyData.showableAll xs = true
  | [], _ => rfl
  | x :: xs, h => by
    rw [PyData.showableAll, h x List.mem_cons_self, sh_show xs fun y hy => h y (List.mem_cons_of_mem _ hy)]; rfl
theorem sh_nodict : ∀ xs : List D, (∀ x ∈ xs, x.hasDict = false) → PyData.hasDictAll xs = false
  | [], _ => rfl
  | x :: xs, h => by
    rw [PyData.hasDictAll, h x List.mem_cons_self, sh_nodict xs fun y hy => h y (List.mem_cons_of_mem _ hy)]; rfl
theorem sh_depth {k : Nat} : ∀ xs : List D, (∀ x ∈ xs, x.depth ≤ k) → PyData.depthAll xs ≤ k
  | [], _ => by simp [PyData.depthAll]
  | x :: xs, h => by
    have h1 := h x List.mem_cons_self
    have h2 := sh_depth xs fun y hy => h y (List.mem_cons_of_mem _ hy)
    rw [PyData.depthAll]
    omega
theorem Sh.ok {k n : Nat} {d : D} (h : Sh k n d) : ShOk k n d := by
  induction h with
  | non h => exact ⟨rfl, rfl, by simp [PyData.depth], by rw [show (PyData.shown .none).length = 4 by decide +kernel]; omega⟩
  | bl h =>
    rename_i b
    refine ⟨rfl, rfl, by simp [PyData.depth], ?_⟩
    have : (PyData.shown (.bool b)).length ≤ 5 := by cases b <;> decide +kernel
    omega
  | int h hi =>
    rename_i i
    refine ⟨by simp only [PyData.showable]; exact decide_eq_true (log_small hi), rfl, by simp [PyData.depth], ?_⟩
    have h1 := PySem.int_text_length_le10 (a := i) (k := 20) (by decide) hi
    have h2 : (PyData.shown (.int i)).length = (toString i).length := PySem.ofString_length _
    omega
  | tup h hm ih =>
    rename_i k n m xs
    have t1 : (tupleText (PyData.shownAll xs)).length ≤ piled (PyData.shownAll xs) + 2 := fmt_text _
    have t2 := piled_all xs fun x hx => (ih x hx).len
    refine ⟨?_, ?_, ?_, ?_⟩
    · simp only [PyData.showable]; exact sh_show xs fun x hx => (ih x hx).shw
    · simp only [PyData.hasDict]; exact sh_nodict xs fun x hx => (ih x hx).nod
    · have := sh_depth xs fun x hx => (ih x hx).dep
      simp only [PyData.depth]; omega
    · simp only [PyData.shown]
      have : xs.length * (30 * n) = 30 * (xs.length * n) := by rw [Nat.mul_left_comm]
      omega
theorem Sh.mono {k n k' n' : Nat} {d : D} (h : Sh k n d) (hk : k ≤ k') (hn : n ≤ n') : Sh k' n' d := by
  induction h generalizing k' n' with
  | non h => exact .non (by omega)
  | bl h => exact .bl (by omega)
  | int h hi => exact .int (by omega) hi
  | tup h hm ih =>
    obtain ⟨k', rfl⟩ : ∃ j, k' = j + 1 := ⟨k' - 1, by omega⟩
    exact .tup (fun x hx => ih x hx (by omega) (Nat.le_refl _)) (by omega)
section
variable {X : Cx} {pins : List (Addr × Obj)} {σ : L2.St} {H : Hp} {s : Shared} {O : Addr → Prop}
theorem readsAll_of (I : Inv X pins σ H s) : ∀ {ds : List D}, (∀ d ∈ ds, ∀ (v : V) (u : Value), Rp X.K O H v d → RelV v u → ∃ as, Reads s.heap u d as) → ∀ {vs : List V} {us : List Value}, RpAll X.K O H vs ds → Vals vs us → ∃ as, ReadsAll s.heap us ds as
  | [], _, _, _, r, q => by
    cases r; cases q; exact ⟨_, .nil⟩
  | d :: ds, h, _, _, r, q => by
    cases r with
    | cons r1 r2 =>
      cases q with
      | cons q1 q2 =>
        obtain ⟨as, h1⟩ := h d List.mem_cons_self _ _ r1 q1
        obtain ⟨bs, h2⟩ := readsAll_of I (fun y hy => h y (List.mem_cons_of_mem _ hy)) r2 q2
        exact ⟨_, .cons h1 h2⟩
theorem reads_of (I : Inv X pins σ H s) {k n : Nat} {d : D} (h : Sh k n d) : ∀ (v : V) (u : Value), Rp X.K O H v d → RelV v u → ∃ as, Reads s.heap u d as := by
  induction h with
  | non _ =>
    intro v u r q
    cases r
    cases (show u = Value.none from q); exact ⟨_, .none⟩
  | bl _ =>
    intro v u r q
    cases r
    cases (show u = Value.bool _ from q); exact ⟨_, .bool _⟩
  | int _ _ =>
    intro v u r q
    cases r
    obtain ⟨t, rfl⟩ := q; exact ⟨_, .int _ _⟩
  | tup h hm ih =>
    intro v u r q
    cases r with
    | tup ht ha =>
      cases (show u = Value.ref _ from q)
      obtain ⟨its, rv, ⟨o, ho, hcl, m, hd⟩, _⟩ := I.tuple ht.sq
      obtain ⟨as, h2⟩ := readsAll_of I ih ha rv
      exact ⟨_, .tuple ho hcl hd (by simpa using h2)⟩
end
section
variable {X : Cx} {E : XK} {a : Expr} {ta : T3} {pos : Pos}
/-- what repr tells of a row -/
def rReprR (x : D) (k : D → Prop) : Prop := (∃ xs, x = .tuple xs) ∧ Ask (∃ d n, Sh d n x ∧ d ≤ 60 ∧ n ≤ 500000) ∧ k (.str x.shown)
theorem call_repr_row {j : Nat} (hgd : X.A.guards = some []) (hr : Room j X.A) : CallR X (.builtin "repr") (fun xs H Q => ∃ (a : Addr) (x : D) (O : Addr → Prop), xs = [.ref a] ∧ Rp X.K O H (.ref a) x ∧ (∃ d n, Sh d n x ∧ d ≤ 60 ∧ n ≤ 500000) ∧ Q (.str x.shown) H) := by
  intro pins s σ H xs us Q I r h
  obtain ⟨a, x, O, rfl, rx, ⟨d, n, sh, hd, hn⟩, q⟩ := h
  cases r with
  | cons r rr =>
    cases rr
    cases (show _ = Value.ref a from r)
    have ok := sh.ok
    obtain ⟨as, h1⟩ := reads_of I sh _ _ rx rfl
    have hu := hr.units65
    have h2 := ok.dep
    have h3 := ok.len
    refine repr_of_reads' h1 ok.shw (PyData.noDict_hsm ok.nod) hgd (by omega) (fun _ _ e => e) (fun h' u tk hk => ⟨.str _, H, I.kept hk, ⟨_, rfl⟩, q⟩) (by rw [show sizeLine = 16777216 from rfl]; omega)
theorem reprR3 {p : Pos} {j : Nat} (hgd : X.A.guards = some []) (hr : Room j X.A) (hg : Gl X "repr") (hm : X.mg "repr" = none) (ha : PE3 X E a ta) (he : starEach [a] X.env = (false, eval a X.env) :: starEach [] X.env := by rfl) : PE3 X E (.Call (.Name "repr" p) [a] [] pos) (tU3 rReprR ta) :=
  un3 (fun _ h => mkB (call_repr_row hgd hr) hg hm (by decide +kernel) h (by decide) (by decide) he) (fun O H v x k Q tr rx h hq => by
    obtain ⟨⟨xs, rfl⟩, ⟨hs⟩, h⟩ := h
    cases rx with
    | tup h1 h2 => exact ⟨_, _, O, rfl, .tup h1 h2, hs, hq _ _ H (Same.refl H) (.str _) h⟩) (fun x k k' hk h => ⟨h.1, h.2.1, hk _ h.2.2⟩) ha
end
/-! ## the law's own call: nothing is being shown -/
structure FnG (P : Program) (w : World) (K : PySem.W.Frag) (mg : Str → Option Value) (base : Heap) (CX : CXT) (k : Nat) (f : Addr) (fd : FuncData) (ps : List Str) (sp : Sp) : Prop where
  run : ∀ (A : Around) (outer : List Env) (s : Shared) (H : Hp) (args : PySem.Args) (us : List Value) (vs : List V) (Q : VK) (E : XK), A.guards = some [] → Room k A → Env0 P w K mg base A outer s H → BindsTo s fd args (ps.zip us) → Vals vs us → sp vs H Q E →
    codeAny (model P w) A (.call (.ref f) args) (CR CX outer P w H s Q E) s
theorem fnG_of {CX : CXT} {P : Program} {w : World} {K : PySem.W.Frag} {mg : Str → Option Value} {base : Heap} {x qual : Str} {st : Stmt} {f : Addr} {fd : FuncData} {N ps : List Str} {k : Nat} {sp : Sp} (F : Fun K x qual st f fd) (S : FnScope N ps (defScope st)) (len : ∀ vs H Q E, sp vs H Q E → vs.length = ps.length)
    (hbody : ∀ (cdv : Value) (A : Around) (outer : List Env) (s : Shared) (H : Hp) (vs : List V) (Q : VK) (E : XK), A.guards = some [] → Room k (A.deeper (PyProof.Rows.envOfC qual (defScope st) s.heap.objs.size f cdv)) → sp vs H Q E →
      ∃ t, PSs (cxOf CX P w K mg base N qual (defScope st) f cdv A outer s H E) (defBody st) t ∧ t { nx := fun _ H' => Q .non H', rt := Q } (start N vs) H) : FnG P w K mg base CX (k + 1) f fd ps sp := by
  obtain ⟨oc, od, kV, doc, pm, an, cdv, ct, osl, rfl, lk, hcd⟩ := F.ex
  refine ⟨fun A outer s H args us vs Q E hgd hr e0 hb r hsp => ?_⟩
  have hl := len _ _ _ _ hsp
  have kp : ∀ b o, base.get? b = some o → s.heap.get? b = some o := fun b o e => (e0.bs b o e).1
  have KX : K.In s.heap := e0.mod.kin.keeps kp
  refine codeAny_call_function hr.depth (KX _ _ lk) rfl S.co S.gen rfl (PySem.W.codeRec_of KX hcd) (hb _ _ _ _ ?_)
  refine wpAny_newFunctionEnv_cells S.kind (fun y hy => ?_) fun env he s1 x => ?_
  · rcases S.par y.1 (List.of_mem_zip hy).1 with q | q
    · exact .inl q
    · exact .inr ⟨q, PySem.W.cellsFrom_some _ _ _ (.inl q)⟩
  subst he
  obtain ⟨t, ht, hq⟩ := hbody cdv A outer s H vs Q E hgd (hr.deeper _) hsp
  have I := inv_start (CX := CX) (E := E) S hr.hd e0 hl r x
  refine ⟨(e0.mod.nolimit.keeps kp).keeps x.toInCall.keep, codeAny_func (wpAny_mono (ht.run [] s1 (start N vs) H _ I hq) (fun fl s' hs => ?_) fun e s' hs => hs)⟩
  cases fl with
  | ret u =>
    obtain ⟨v, σ', H', J, rv, q⟩ := hs
    exact ⟨v, H', J.os, J.bare, J.base, J.hok, rv, q⟩
  | next =>
    obtain ⟨σ', H', J, q⟩ := hs
    exact ⟨V.non, H', J.os, J.bare, J.base, J.hok, rfl, q⟩
  | brk =>
    obtain ⟨_, _, _, q⟩ := hs
    exact False.elim q
  | cont =>
    obtain ⟨_, _, _, q⟩ := hs
    exact False.elim q
theorem fnG {P : Program} {w : World} {K : PySem.W.Frag} {mg : Str → Option Value} {base : Heap} {x qual : Str} {st : Stmt} {f : Addr} {fd : FuncData} {N ps : List Str} {k : Nat} {S : PrmC} (F : Fun K x qual st f fd) (Sc : FnScope N ps (defScope st)) (len : ∀ ws Q, S.sp ws Q → ws.length = ps.length)
    (hbody : ∀ (cdv : Value) (A : Around) (outer : List Env) (s : Shared) (H : Hp) (E : XK), A.guards = some [] → Room k (A.deeper (PyProof.Rows.envOfC qual (defScope st) s.heap.objs.size f cdv)) →
      ∃ t, PSs3 (cxOf CX0 P w K mg base N qual (defScope st) f cdv A outer s H E).nox XF (defBody st) t ∧ ∀ (ws : List W) (Q : R3 → List Ob → Prop), S.sp ws Q → normK (start3 N ws) fun δ => t (fun _ => False) (ends ws Q) δ) :
    FnG P w K mg base CX0 (k + 1) f fd ps (liftF K S.p) := by
  refine fnG_of F Sc (fun vs H Q E h => ?_) (fun cdv A outer s H vs Q E hgd hr h => ?_)
  · obtain ⟨π, Fo, ρ, ws, rel, _, _, h⟩ := h
    rw [← len ws _ h]
    simpa using rel.len
  · obtain ⟨π, Fo, ρ, ws, rel, tg, hk, h⟩ := h
    obtain ⟨t, h1, h2⟩ := hbody cdv A outer s H E hgd hr
    have h3 := h2 ws _ h
    rw [normK_eq] at h3
    refine ⟨_, h1.ps.nox, π, Fo, ρ, _, rel.start N, h1.mono _ _ _ _ _ (fun _ z => z.elim) ⟨fun δ q σ' H' ρ' e' rel' => ?_, fun r δ q v σ' H' ρ' e' rel' rr => ?_, fun _ (z : False) => z.elim, fun _ (z : False) => z.elim⟩ h3⟩
    · obtain ⟨os, q1, q2⟩ := outs_ok rel' ws 0 _ q
      exact q1 .non H' ρ' e' q2 rel'.trk rel'.dis .non
    · obtain ⟨os, q1, q2⟩ := outs_ok rel' ws 0 _ q
      exact q1 v H' ρ' e' q2 rel'.trk rel'.dis rr
/-! ## the end, nothing being shown -/
/-- the script and the tables, tracked -/
def H0 (K : PySem.W.Frag) (a : Addr) (T : List Addr) (vs : List Value) (ns : List Int) : Hp := fun b =>
  if b = a ∧ K.lookup a = none then some (.frz { cls := .type "list", data := .seq vs.toArray } (.lst (ns.map V.int))) else if b ∈ T then some (.tbl #[]) else none
section
variable {P : Program} {w : World} {K : PySem.W.Frag} {a : Addr} {T : List Addr} {vs : List Value} {ns : List Int} {h : Heap}
theorem H0.cases {b : Addr} {u : HO} (e : H0 K a T vs ns b = some u) : (b = a ∧ K.lookup a = none ∧ u = .frz { cls := .type "list", data := .seq vs.toArray } (.lst (ns.map V.int))) ∨ (b ∈ T ∧ u = .tbl #[]) := by
  unfold H0 at e
  split at e
  · rename_i z; exact .inl ⟨z.1, z.2, (Option.some.inj e).symm⟩
  · split at e
    · rename_i z; exact .inr ⟨z, (Option.some.inj e).symm⟩
    · cases e
theorem H0.tab {b : Addr} (hb : b ∈ T) (ha : a ∉ T) : H0 K a T vs ns b = some (.tbl #[]) := by
  unfold H0
  rw [if_neg (fun z : b = a ∧ _ => ha (z.1 ▸ hb)), if_pos hb]
theorem H0.sq (KX : K.In h) (ha : h.get? a = some { cls := .type "list", data := .seq vs.toArray }) (hi : IntsAre vs ns) (hl : ns.length ≤ sizeLine) : SqL K (H0 K a T vs ns) a (ns.map V.int) := by
  cases hk : K.lookup a with
  | none => exact .inl (.inr ⟨_, by unfold H0; rw [if_pos ⟨rfl, hk⟩]⟩)
  | some o =>
    have e := KX a o hk
    rw [ha] at e; cases e
    exact .inr ⟨_, vs.toArray, _, hk, rfl, rfl, rfl, by rw [List.size_toArray, hi.length]; exact hl, by simpa using vals_ints hi⟩
theorem H0.ok (ha : h.get? a = some { cls := .type "list", data := .seq vs.toArray }) (hT : ∀ b ∈ T, h.get? b = some { cls := .none, data := .fields #[] }) (hi : IntsAre vs ns) (hl : ns.length ≤ sizeLine) : HOk P w (H0 K a T vs ns) h := by
  intro b u e
  rcases H0.cases e with ⟨rfl, _, rfl⟩ | ⟨hb, rfl⟩
  · exact ⟨ha, by rw [List.length_map]; exact hl, vs, _, vals_ints hi, ha⟩
  · exact hT b hb
/-- objects of other kinds are not tracked -/
theorem H0.off {b : Addr} {o : Obj} (ha : h.get? a = some { cls := .type "list", data := .seq vs.toArray }) (hT : ∀ b ∈ T, h.get? b = some { cls := .none, data := .fields #[] }) (e : h.get? b = some o) (h1 : ∀ us n, o.data ≠ .seq us n) (h2 : o.data ≠ .fields #[]) : H0 K a T vs ns b = none := by
  cases q : H0 K a T vs ns b with
  | none => rfl
  | some u =>
    rcases H0.cases q with ⟨rfl, _, _⟩ | ⟨hb, _⟩
    · rw [ha] at e; cases e; exact absurd rfl (h1 _ _)
    · rw [hT b hb] at e; cases e; exact absurd rfl h2
end
theorem callG {P : Program} {w : World} {K : PySem.W.Frag} {mg mb : Str → Option Value} {k : Nat} {fa a : Addr} {cs : List (Addr × Addr)} {fd : FuncData} {x : Str} {sp : Sp} {s₁ : Shared} {vs : List Value} {ns : List Int}
    (KX : K.In s₁.heap) (hns : s₁.heap.Ns mainGlobals mg) (hb : s₁.heap.Ns builtinsNs mb) (hbb : ∀ x : Str, x ≠ "__name__" → mb x = bootBuiltins x) (hlim : s₁.heap.NoLimit) (hg : s₁.gens = #[])
    (hT : ∀ p ∈ cs, s₁.heap.get? p.2 = some { cls := .none, data := .fields #[] }) (nT : ∀ p ∈ cs, K.lookup p.2 = none) (C : ∀ p ∈ cs, PySem.W.CodeHd s₁.heap p.1 p.2)
    (hbm : ∃ (bm : Addr) (ob : Obj), mg "__builtins__" = some (.ref bm) ∧ bm ≠ builtinsNs ∧ s₁.heap.get? bm = some ob ∧ ob.cls = .type "module" ∧ ob.dict = some builtinsNs ∧ ob.data = .plain)
    (ha : s₁.heap.get? a = some { cls := .type "list", data := .seq vs.toArray }) (hi : IntsAre vs ns) (hl : ns.length ≤ sizeLine) (hr : Room k callerA)
    (F : ∀ base : Heap, K.In base → base.Ns mainGlobals mg → (∀ p ∈ cs, TabB base mg p.1 p.2) → FnG P w K mg base CX0 k fa fd [x] sp) (hbind : ∀ (s : Shared) (u : Value), BindsTo s fd ⟨[u], []⟩ [(x, u)])
    (hsp : ∀ H : Hp, (∀ p ∈ cs, H p.2 = some (.tbl #[])) → SqL K H a (ns.map V.int) → sp [.ref a] H (fun v _ => v = .bl true) fun _ _ _ => False) :
    codeAny (model P w) callerA (.call (.ref fa) ⟨[.ref a], []⟩) (fun r s' => r = .ok (.ret (.bool true)) ∧ OldK s₁.heap s'.heap ∧ s'.os = s₁.os ∧ AllBare s'.gens) s₁ := by
  generalize eT : cs.map (·.2) = T
  have inT : ∀ p ∈ cs, p.2 ∈ T := fun p hp => eT ▸ List.mem_map.mpr ⟨p, hp, rfl⟩
  have ofT : ∀ b ∈ T, ∃ p ∈ cs, p.2 = b := fun b hb => by rw [← eT] at hb; exact List.mem_map.mp hb
  have isT : ∀ b ∈ T, s₁.heap.get? b = some { cls := .none, data := .fields #[] } := fun b hb => by obtain ⟨p, hp, rfl⟩ := ofT b hb; exact hT p hp
  have aT : a ∉ T := fun z => by
    have q := isT a z
    rw [ha] at q
    cases q
  have off := fun {b : Addr} {o : Obj} => H0.off (K := K) (a := a) (T := T) (vs := vs) (ns := ns) (h := s₁.heap) (b := b) (o := o) ha isT
  generalize eH : H0 K a T vs ns = H
  rw [eH] at off
  have hok : HOk P w H s₁.heap := eH ▸ H0.ok ha isT hi hl
  have hS : SqL K H a (ns.map V.int) := eH ▸ H0.sq KX ha hi hl
  have hH : ∀ p ∈ cs, H p.2 = some (.tbl #[]) := fun p hp => eH ▸ H0.tab (inT p hp) aT
  have csH : ∀ {b : Addr} {u : HO}, H b = some u → _ := fun {b u} e => H0.cases (K := K) (a := a) (T := T) (vs := vs) (ns := ns) (b := b) (u := u) (eH ▸ e)
  have dic : ∀ {b : Addr} {o : Obj} {es : Array DictEntry} {ep : Nat}, s₁.heap.get? b = some o → o.data = .dict es ep → H b = none := fun e d => off e (fun us n z => by rw [d] at z; cases z) (fun z => by rw [d] at z; cases z)
  have nsK : ∀ {b : Addr} {m : Str → Option Value}, s₁.heap.Ns b m → (hidT s₁.heap H).Ns b m := fun ⟨o, es, ep, e, d, r⟩ => ⟨o, es, ep, hidT_get e (dic e d), d, r⟩
  have hKb : K.In (hidT s₁.heap H) := fun b o e => hidT_get (KX b o e) (by
    cases q : H b with
    | none => rfl
    | some u =>
      rcases csH q with ⟨rfl, z, _⟩ | ⟨hb, _⟩
      · rw [z] at e; cases e
      · obtain ⟨p, hp, rfl⟩ := ofT b hb
        rw [nT p hp] at e; cases e)
  have hM : L2.Mod K mg (hidT s₁.heap H) := ⟨hKb, nsK hns, ⟨mb, nsK hb, hbb⟩, let ⟨mc, h1, h2⟩ := hlim; ⟨mc, nsK h1, h2⟩⟩
  have TB : ∀ p ∈ cs, TabB (hidT s₁.heap H) mg p.1 p.2 := fun p hp => by
    have hTp := hT p hp
    refine ⟨?_, ?_, fun z => ?_⟩
    · obtain ⟨o, us, file, tf, flags, tg, inF, text, tt, e1, r1, r2, r3, rest⟩ := C p hp
      refine ⟨o, us, file, tf, flags, tg, inF, text, tt, hidT_get e1 (off e1 (fun vs n z => ?_) fun z => ?_), r1, r2, r3, rest⟩
      · rw [r2] at z; cases z
      · rw [r2] at z; cases z; simp at r3
    · obtain ⟨bm, ob, b1, b2, b3, b4, b5, b6⟩ := hbm
      refine ⟨bm, ob, b1, b2, fun q => ?_, fun q => ?_, hidT_get b3 (off b3 (fun vs n z => ?_) fun z => ?_), b4, b5, b6⟩
      · obtain ⟨o, es, ep, e, hd, _⟩ := hns
        rw [q, e] at b3; cases b3
        rw [hd] at b6; cases b6
      · rw [q, hTp] at b3; cases b3; cases b6
      · rw [b6] at z; cases z
      · rw [b6] at z; cases z
    · obtain ⟨o, es, ep, e, hd, _⟩ := hns
      rw [z, hTp] at e; cases e; cases hd
  have e0 : Env0 P w K mg (hidT s₁.heap H) callerA [] s₁ H := ⟨rfl, hM, fun b o e => of_hidT e, Nat.le_of_eq (hidT_size _ _), trivial, fun b hb => absurd (show b ∈ ([] : List Addr) from hb) (by simp), hok, .of_eq hg⟩
  refine codeAny_mono ((F _ hKb (nsK hns) TB).run callerA [] s₁ H ⟨[.ref a], []⟩ [.ref a] [.ref a] _ _ rfl hr e0 (hbind s₁ (.ref a)) (.cons rfl .nil) (hsp H hH hS)) fun r s' h => ?_
  rcases r with e | fl
  · exact False.elim h
  rcases fl with _ | _ | _ | u <;> first | exact False.elim h | skip
  obtain ⟨v, H', os, bare, un, hok', r', q⟩ := h
  obtain rfl : v = .bl true := q
  obtain rfl : u = Value.bool true := r'
  have key : ∀ b o, b ∉ T → s₁.heap.get? b = some o → s'.heap.get? b = some o := fun b o nb e => by
    cases q : H b with
    | none => exact un.keep b o e q (by intro z; exact absurd (show b ∈ ([] : List Addr) from z) (by simp)) (by simp)
    | some u =>
      rcases csH q with ⟨rfl, _, rfl⟩ | ⟨hb, _⟩
      · have e1 := (hok b _ q).1
        have e2 := (hok' b _ (un.frzs b _ _ q)).1
        rw [e] at e1; cases e1; exact e2
      · exact absurd hb nb
  have tab : ∀ b ∈ T, ∃ p ∈ cs, p.2 = b ∧ ∃ more : Array Value, s'.heap.get? b = some { cls := .none, data := .fields more } := fun b hb => by
    obtain ⟨p, hp, rfl⟩ := ofT b hb
    obtain ⟨more, z⟩ := un.tbls p.2 #[] (hH p hp)
    exact ⟨p, hp, rfl, _, hok' p.2 _ z⟩
  refine ⟨rfl, ⟨fun b o e => ?_, fun b o e => ?_⟩, os, bare⟩
  · by_cases hb : b ∈ T
    · obtain ⟨p, hp, rfl, more, hm⟩ := tab b hb
      rw [hT p hp] at e; cases e
      exact .inr (.inl ⟨((C p hp).tab (hT p hp)).isCodeTable, rfl, #[], more, rfl, by rw [Array.empty_append]; exact hm⟩)
    · exact .inl (key b o hb e)
  · by_cases hb : b ∈ T
    · obtain ⟨_, _, _, more, hm⟩ := tab b hb; exact ⟨_, hm⟩
    · exact ⟨o, key b o hb e⟩
theorem walkG {l : PySem.W.OpenLaw} {k : Nat} {q : Program} {loose : List Str} {XP : (Str → Option Value) → Heap → Prop} {YP : World → Heap → Prop} {d : DefRec} {K : Params → PySem.W.Frag} (hn : l.most = some 63) (hdf : d.params.defaults = []) (hr : Room k callerA)
    (hY : ∀ (w : World) (h : Heap), YP w h → (K w.params).In h)
    (F : ∀ (w : World) (mg : Str → Option Value) (fa : Addr) (h : Heap), YP w h → (K w.params).In h → h.Ns mainGlobals mg → mg d.name = some (.ref fa) →
      ∃ (fd : FuncData) (cs : List (Addr × Addr)) (T : TabsC), (∀ p ∈ cs, h.get? p.2 = some { cls := .none, data := .fields #[] }) ∧ (∀ p ∈ cs, (K w.params).lookup p.2 = none) ∧ (∀ p ∈ cs, PySem.W.CodeHd h p.1 p.2) ∧ (∀ p ∈ T.T, ∃ c, (c, p.1) ∈ cs) ∧ (∀ (s : Shared) (u : Value), BindsTo s fd ⟨[u], []⟩ [("script", u)]) ∧
        ∀ base : Heap, (K w.params).In base → base.Ns mainGlobals mg → (∀ p ∈ cs, TabB base mg p.1 p.2) → FnG l.prog w (K w.params) mg base CX0 k fa fd ["script"] (@liftF T (K w.params) S_lawC.p)) :
    PySem.W.WalkO q loose XP YP l.row.toRowW d [] (fun f vs => PySem.call f vs) := by
  refine Att.attach_callB hn hdf fun w s₀ s₁ mg mb fa o pm cd doc a vs ns G Y ho hd hcd hmg hobj hints hlen hbits hg => ?_
  have KX := hY w _ Y
  obtain ⟨fd, cs, T, hT, nT, C, hTT, hb, hF⟩ := F w mg fa _ Y KX G.T.g hmg
  refine callG KX G.T.g G.T.b G.T.builtins G.T.nolimit hg hT nT C G.T.bmain hobj hints (Nat.le_trans hlen (by decide)) hr hF hb (fun H hH hS => ?_)
  refine @law_hsp T _ _ _ _ hlen (fun p hp => ?_) hS
  obtain ⟨c, hc⟩ := hTT p hp
  refine ⟨#[], hH _ hc, True.intro, fun pos cv z => ?_⟩
  simp [codeAmong] at z
end M3

set_option Elab.async false
set_option linter.all false
set_option maxRecDepth 100000
namespace M3
open PySem L2
variable [TabsC]
theorem nt {b : Bool} (h : b = false) : (!b) = true := by rw [h]; rfl
theorem nf {b : Bool} (h : b = true) : (!b) = false := by rw [h]; rfl
/-! ### the plain functions -/
def isW (d : D) : Bool := match d with | .int _ => true | _ => false
def isB (d : D) (m : Int) : Bool := match d with | .int i => decide (0 ≤ i) && decide (i < m) | _ => false
def isC (d : D) : Bool := match d with | .int i => decide (1 ≤ i) && decide (i ≤ 9) | _ => false
def isRw (d : D) (n : Int) : Bool := match d with | .tuple xs => decide ((xs.length : Int) = n) | _ => false
def cellB (m : Int) (c : D) : Bool := isNone c || isB c m
def rowB (n m : Int) (d : D) : Bool := match d with | .tuple cs => decide ((cs.length : Int) = n) && cs.all (cellB m) | _ => false
def roomB (s n m : Int) (d : D) : Bool := match d with | .tuple rs => decide ((rs.length : Int) = s) && rs.all (rowB n m) | _ => false
def intOf (d : D) : Int := match d with | .int i => i | _ => 0
def sayB (d : D) : Bool := match d with
  | .tuple [x, y, .tuple rooms] => isC x && isC y && (decide (1 ≤ (rooms.length : Int)) && decide ((rooms.length : Int) ≤ 100)) && rooms.all (roomB (intOf x) (intOf y) rooms.length)
  | _ => false
theorem three {d : D} (h : isRw d 3 = true) : ∃ x y z, d = .tuple [x, y, z] := by
  cases d <;> try exact Bool.noConfusion (show false = true from h)
  rename_i xs
  have h' : ((xs.length : Nat) : Int) = 3 := of_decide_eq_true h
  match xs, h' with
  | [x, y, z], _ => exact ⟨x, y, z, rfl⟩
  | [], h' => simp at h'
  | [_], h' => simp at h'
  | [_, _], h' => simp at h'
  | _ :: _ :: _ :: _ :: r, h' => simp at h'; omega
theorem two {d : D} (h : isRw d 2 = true) : ∃ x y, d = .tuple [x, y] := by
  cases d <;> try exact Bool.noConfusion (show false = true from h)
  rename_i xs
  have h' : ((xs.length : Nat) : Int) = 2 := of_decide_eq_true h
  match xs, h' with
  | [x, y], _ => exact ⟨x, y, rfl⟩
  | [], h' => simp at h'
  | [_], h' => simp at h'
  | _ :: _ :: _ :: r, h' => simp at h'; omega
theorem not_three {d : D} (h : isRw d 3 = false) : sayB d = false := by
  unfold sayB
  split
  · exact Bool.noConfusion (show true = false from h)
  · rfl
theorem isC_int {d : D} (h : isC d = true) : ∃ i, d = .int i ∧ 1 ≤ i ∧ i ≤ 9 := by
  cases d <;> try exact Bool.noConfusion (show false = true from h)
  rename_i i
  have h' : (decide (1 ≤ i) && decide (i ≤ 9)) = true := h
  simp at h'
  exact ⟨i, rfl, h'.1, h'.2⟩
theorem isW_int {d : D} (h : isW d = true) : ∃ i, d = .int i := by cases d <;> first | exact ⟨_, rfl⟩ | exact Bool.noConfusion (show false = true from h)
theorem tup_or (d : D) : (∃ xs, d = .tuple xs) ∨ isTup d = false := by cases d <;> simp [isTup]
theorem all_take_succ {α : Type} {p : α → Bool} {xs : List α} {i : Nat} {x : α} (h : xs[i]? = some x) (h1 : (xs.take i).all p = true) (h2 : p x = true) : (xs.take (i + 1)).all p = true := by
  rw [List.take_succ, h, List.all_append, h1]
  simp [h2]
theorem all_false {α : Type} {p : α → Bool} {xs : List α} {i : Nat} {x : α} (h : xs[i]? = some x) (h2 : p x = false) : xs.all p = false := by
  rw [Bool.eq_false_iff]
  intro z
  rw [List.all_eq_true.mp z x (List.mem_of_getElem? h)] at h2
  cases h2
theorem qb {Q : R3 → List Ob → Prop} {b c : Bool} (h : Q (.d (.bool b)) []) (e : b = c) : Q (.d (.bool c)) [] := by rw [← e]; exact h
theorem atI_nat {α : Type} {xs : List α} {i : Int} {x : α} (h0 : 0 ≤ i) (h : xs[i.toNat]? = some x) : atI xs i = some x := by
  have hl : i.toNat < xs.length := by
    rcases Nat.lt_or_ge i.toNat xs.length with z | z
    · exact z
    · rw [List.getElem?_eq_none z] at h; cases h
  unfold atI ixN
  rw [if_pos h0, if_pos (by omega)]
  exact h
theorem at_lt {α : Type} {xs : List α} {i : Int} (h0 : 0 ≤ i) (h : i < (xs.length : Int)) : ∃ x, atI xs i = some x ∧ xs[i.toNat]? = some x := by
  have hl : i.toNat < xs.length := by omega
  exact ⟨xs[i.toNat], atI_nat h0 (List.getElem?_eq_getElem hl), List.getElem?_eq_getElem hl⟩
theorem at_ints {ns : List Int} {k : Int} (h0 : 0 ≤ k) (h : k < ((ns.map PyData.int).length : Int)) : ∃ m, atI (ns.map PyData.int) k = some (.int m) := by
  obtain ⟨x, h1, h2⟩ := at_lt h0 h
  rw [List.getElem?_map] at h2
  cases e : ns[k.toNat]? with
  | none => rw [e] at h2; cases h2
  | some m => rw [e] at h2; cases h2; exact ⟨m, h1⟩
theorem cmul_if {i : Int} {b : Bool} : CMul i (if b = true then 1 else 0) := .inr (by split <;> decide)
theorem cmul_r {i j : Int} (h1 : -(2 ^ 64) < j) (h2 : j < 2 ^ 64) : CMul i j := .inr ⟨h1, h2⟩
theorem cmul_l {i j : Int} (h1 : -(2 ^ 64) < i) (h2 : i < 2 ^ 64) : CMul i j := .inl ⟨h1, h2⟩
theorem rng_len {a : Int} {n : Nat} : (rngD a n).length = n := by unfold rngD; simp
theorem rng_at {a : Int} {n k : Nat} {x : D} (h : (rngD a n)[k]? = some x) : x = .int (a + k) ∧ k < n := by
  unfold rngD at h
  rw [List.getElem?_map] at h
  have hk : k < n := by
    rcases Nat.lt_or_ge k n with z | z
    · exact z
    · rw [List.getElem?_eq_none (by simpa using z)] at h; cases h
  rw [List.getElem?_range hk] at h
  exact ⟨(Option.some.inj h).symm, hk⟩
theorem all_snoc {α : Type} {p : α → Bool} {xs : List α} {x : α} (h1 : xs.all p = true) (h2 : p x = true) : (xs ++ [x]).all p = true := by
  rw [List.all_append, h1]; simp [h2]
theorem ix_mem {xs : List D} {j : Int} {k : D → Prop} (h0 : 0 ≤ j) (h1 : j < (xs.length : Int)) (h : ∀ x ∈ xs, k x) : ∃ d, atI xs j = some d ∧ k d := by
  obtain ⟨x, h2, h3⟩ := at_lt h0 h1
  exact ⟨x, h2, h x (List.mem_of_getElem? h3)⟩
theorem sIx_nat {n d : Nat} {j : Int} (h : 0 ≤ j) : HT.sIx n d (some j) = min j.toNat n := by
  unfold HT.sIx
  simp
  omega
theorem cut_hi {xs : List D} {j : Int} (h : 0 ≤ j) : cutG xs none (some j) = xs.take j.toNat := by
  unfold cutG
  rw [sIx_nat h]
  simp [HT.sIx]
theorem cut_lo {xs : List D} {j : Int} (h : 0 ≤ j) : cutG xs (some j) none = xs.drop j.toNat := by
  unfold cutG
  rw [sIx_nat h]
  simp only [HT.sIx]
  rw [List.take_of_length_le (by simp)]
  rcases Nat.le_total j.toNat xs.length with z | z
  · rw [Nat.min_eq_left z]
  · rw [Nat.min_eq_right z, List.drop_of_length_le (Nat.le_refl _), List.drop_of_length_le z]
theorem cut_len {xs : List D} {a b : Option Int} : (cutG xs a b).length ≤ xs.length := by
  unfold cutG; simp; omega
theorem cut_mem {xs : List D} {a b : Option Int} {x : D} (h : x ∈ cutG xs a b) : x ∈ xs := by
  unfold cutG at h
  exact List.mem_of_mem_drop (List.mem_of_mem_take h)
theorem cut_one {xs : List D} : (cutG xs none (some 1)).length ≤ 1 := by
  rw [cut_hi (by decide), List.length_take]
  exact Nat.min_le_left _ _
/-! ### pots -/
/-- a pot: at most c numbers were taken -/
def IsPot (c : Nat) (o : Ob) : Prop := ∃ x y z : Int, o = .lst [.int x, .int y, .int z] ∧ 0 ≤ x ∧ 0 ≤ y ∧ y < 2 ^ 61 ∧ 0 ≤ z ∧ z ≤ c
theorem IsPot.mono {c c' : Nat} {o : Ob} (h : IsPot c o) (hc : c ≤ c') : IsPot c' o := by
  obtain ⟨x, y, z, e, h1, h2, h3, h4, h5⟩ := h
  exact ⟨x, y, z, e, h1, h2, h3, h4, Int.le_trans h5 (Int.ofNat_le.mpr hc)⟩

theorem sizeLine24 : sizeLine = 16777216 := rfl
/-! ### sayings, typed -/
def cellD : Option Nat → D
  | none => .none
  | some n => .int (n : Int)
def rowD (r : List (Option Nat)) : D := .tuple (r.map cellD)
def roomD (r : List (List (Option Nat))) : D := .tuple (r.map rowD)
structure Say where
  signs : Int
  deeds : Int
  rooms : List (List (List (Option Nat)))
def Say.d (S : Say) : D := .tuple [.int S.signs, .int S.deeds, .tuple (S.rooms.map roomD)]
/-- the table fits -/
def Say.Wf (S : Say) : Prop := ∀ room ∈ S.rooms, (room.length : Int) = S.signs ∧ ∀ row ∈ room, (row.length : Int) = S.deeds ∧ ∀ n, some n ∈ row → n < S.rooms.length
structure Say.Ok (S : Say) : Prop where
  wf : S.Wf
  s1 : 1 ≤ S.signs
  s9 : S.signs ≤ 9
  d1 : 1 ≤ S.deeds
  d9 : S.deeds ≤ 9
  r1 : 1 ≤ S.rooms.length
  r100 : S.rooms.length ≤ 100
/-- where a step leads -/
def Say.go (S : Say) (r s d : Nat) : Option Nat := ((((S.rooms[r]?).getD [])[s]?).getD [])[d]?.getD none
theorem cellB_cell {m : Int} {c : Option Nat} : cellB m (cellD c) = true ↔ ∀ n, c = some n → (n : Int) < m := by
  cases c with
  | none => simp [cellB, cellD, isNone]
  | some n => simp [cellB, cellD, isNone, isB]
theorem cell_of {m : Int} {x : D} (h : cellB m x = true) : ∃ c, x = cellD c := by
  cases x with
  | none => exact ⟨none, rfl⟩
  | int i =>
    have h' : (decide (0 ≤ i) && decide (i < m)) = true := by simpa [cellB, isNone, isB] using h
    simp at h'
    exact ⟨some i.toNat, by simp only [cellD]; congr 1; omega⟩
  | _ => exact Bool.noConfusion (show false = true from h)
theorem all_typed {α : Type} {f : α → D} {p : D → Bool} (h : ∀ x, p x = true → ∃ a, x = f a) : ∀ xs : List D, xs.all p = true → ∃ as : List α, xs = as.map f
  | [], _ => ⟨[], rfl⟩
  | x :: r, hx => by
    simp only [List.all_cons, Bool.and_eq_true] at hx
    obtain ⟨a, rfl⟩ := h x hx.1
    obtain ⟨as, rfl⟩ := all_typed h r hx.2
    exact ⟨a :: as, rfl⟩
theorem row_of {n m : Int} {x : D} (h : rowB n m x = true) : ∃ r, x = rowD r := by
  cases x with
  | tuple cs =>
    simp only [rowB, Bool.and_eq_true] at h
    obtain ⟨as, rfl⟩ := all_typed (fun x => cell_of) cs h.2
    exact ⟨as, rfl⟩
  | _ => exact Bool.noConfusion (show false = true from h)
theorem room_of {s n m : Int} {x : D} (h : roomB s n m x = true) : ∃ r, x = roomD r := by
  cases x with
  | tuple cs =>
    simp only [roomB, Bool.and_eq_true] at h
    obtain ⟨as, rfl⟩ := all_typed (fun x => row_of) cs h.2
    exact ⟨as, rfl⟩
  | _ => exact Bool.noConfusion (show false = true from h)
theorem rowB_row {n m : Int} {r : List (Option Nat)} : rowB n m (rowD r) = true ↔ (r.length : Int) = n ∧ ∀ k, some k ∈ r → (k : Int) < m := by
  simp only [rowB, rowD, Bool.and_eq_true, decide_eq_true_eq, List.length_map, List.all_map, List.all_eq_true]
  refine and_congr Iff.rfl ⟨fun h k hk => ?_, fun h c hc => ?_⟩
  · exact cellB_cell.mp (h _ hk) k rfl
  · exact cellB_cell.mpr fun k hk => h k (hk ▸ hc)
theorem roomB_room {s n m : Int} {r : List (List (Option Nat))} : roomB s n m (roomD r) = true ↔ (r.length : Int) = s ∧ ∀ row ∈ r, (row.length : Int) = n ∧ ∀ k, some k ∈ row → (k : Int) < m := by
  simp only [roomB, roomD, Bool.and_eq_true, decide_eq_true_eq, List.length_map, List.all_map, List.all_eq_true]
  exact and_congr Iff.rfl ⟨fun h row hr => rowB_row.mp (h row hr), fun h row hr => rowB_row.mpr (h row hr)⟩
theorem Say.sayB {S : Say} (h : S.Ok) : M3.sayB S.d = true := by
  simp only [M3.sayB, Say.d, isC, intOf, Bool.and_eq_true, decide_eq_true_eq, List.length_map, List.all_map, List.all_eq_true]
  refine ⟨⟨⟨⟨h.s1, h.s9⟩, h.d1, h.d9⟩, by have := h.r1; omega, by have := h.r100; omega⟩, fun room hr => roomB_room.mpr ?_⟩
  obtain ⟨h1, h2⟩ := h.wf room hr
  exact ⟨h1, fun row hrow => ⟨(h2 row hrow).1, fun k hk => by have := (h2 row hrow).2 k hk; omega⟩⟩
theorem say_of {x : D} (h : sayB x = true) : ∃ S : Say, S.Ok ∧ x = S.d := by
  unfold sayB at h
  split at h
  · rename_i x y rooms
    simp only [Bool.and_eq_true, decide_eq_true_eq] at h
    obtain ⟨⟨⟨h1, h2⟩, h3, h4⟩, h5⟩ := h
    obtain ⟨i, rfl, hi1, hi2⟩ := isC_int h1
    obtain ⟨j, rfl, hj1, hj2⟩ := isC_int h2
    obtain ⟨rs, rfl⟩ := all_typed (fun x => room_of) rooms h5
    simp only [intOf, List.all_map, List.all_eq_true, List.length_map] at h3 h4 h5
    refine ⟨⟨i, j, rs⟩, ⟨fun room hr => ?_, hi1, hi2, hj1, hj2, (show 1 ≤ rs.length by omega), (show rs.length ≤ 100 by omega)⟩, rfl⟩
    obtain ⟨k1, k2⟩ := roomB_room.mp (h5 room hr)
    exact ⟨k1, fun row hrow => ⟨(k2 row hrow).1, fun k hk => by have := (k2 row hrow).2 k hk; exact Int.ofNat_lt.mp this⟩⟩
  · cases h
/-! ### steps and runs -/
def stepD (p : Nat × Nat) : D := .tuple [.int (p.1 : Int), .int (p.2 : Int)]
def runD (r : List (Nat × Nat)) : D := .tuple (r.map stepD)
def stepB (s d : Int) (x : D) : Bool := match x with | .tuple [a, b] => isB a s && isB b d | _ => false
def runB (s d : Int) (x : D) : Bool := match x with | .tuple xs => xs.all (stepB s d) | _ => false
def RunOk (s d : Int) (r : List (Nat × Nat)) : Prop := ∀ p ∈ r, (p.1 : Int) < s ∧ (p.2 : Int) < d
theorem isB_nat {x : D} {m : Int} (h : isB x m = true) : ∃ n : Nat, x = .int (n : Int) ∧ (n : Int) < m := by
  cases x with
  | int i =>
    have h' : (decide (0 ≤ i) && decide (i < m)) = true := h
    simp at h'
    exact ⟨i.toNat, by congr 1; omega, by omega⟩
  | _ => exact Bool.noConfusion (show false = true from h)
theorem isB_of {n : Nat} {m : Int} : isB (.int (n : Int)) m = decide ((n : Int) < m) := by simp [isB]
theorem step_of {s d : Int} {x : D} (h : stepB s d x = true) : ∃ p, x = stepD p := by
  unfold stepB at h
  split at h
  · simp only [Bool.and_eq_true] at h
    obtain ⟨n, rfl, _⟩ := isB_nat h.1
    obtain ⟨m, rfl, _⟩ := isB_nat h.2
    exact ⟨(n, m), rfl⟩
  · cases h
theorem stepB_step {s d : Int} {p : Nat × Nat} : stepB s d (stepD p) = true ↔ (p.1 : Int) < s ∧ (p.2 : Int) < d := by
  simp [stepB, stepD, isB_of]
theorem runB_run {s d : Int} {r : List (Nat × Nat)} : runB s d (runD r) = true ↔ RunOk s d r := by
  simp only [runB, runD, List.all_map, List.all_eq_true, RunOk]
  exact ⟨fun h p hp => stepB_step.mp (h p hp), fun h p hp => stepB_step.mpr (h p hp)⟩
theorem run_of {s d : Int} {x : D} (h : runB s d x = true) : ∃ r, x = runD r ∧ RunOk s d r := by
  have h0 := h
  unfold runB at h
  split at h
  · obtain ⟨as, rfl⟩ := all_typed (fun x => step_of) _ h
    exact ⟨as, rfl, runB_run.mp h0⟩
  · cases h
theorem atI_map {α : Type} {f : α → D} {xs : List α} {i : Int} (h0 : 0 ≤ i) (h : i < (xs.length : Int)) : ∃ a, atI (xs.map f) i = some (f a) ∧ xs[i.toNat]? = some a := by
  obtain ⟨x, h1, h2⟩ := at_lt (xs := xs.map f) h0 (by simpa using h)
  rw [List.getElem?_map] at h2
  cases e : xs[i.toNat]? with
  | none => rw [e] at h2; cases h2
  | some a => rw [e] at h2; exact ⟨a, by rw [h1]; exact h2.symm, rfl⟩
theorem atN_mem {xs : List D} {n : Nat} {k : D → Prop} (h : n < xs.length) (q : ∀ x ∈ xs, k x) : atN xs n k := atN_of (List.getElem?_eq_getElem h) (q _ (List.getElem_mem h))
/-! ### promises -/
def S_is_whole : PrmC where
  sp := sD fun (d : D) => sEnd fun Q => (True) ∧ Q (.d (.bool (isW d))) []
  mono := sD.mono fun _ => sEnd.mono fun Q Q' hq ⟨pre, q⟩ => ⟨pre, hq _ _ q⟩
def S_is_below : PrmC where
  sp := sD fun (d : D) => sI fun (m : Int) => sEnd fun Q => (True) ∧ Q (.d (.bool (isB d m))) []
  mono := sD.mono fun _ => sI.mono fun _ => sEnd.mono fun Q Q' hq ⟨pre, q⟩ => ⟨pre, hq _ _ q⟩
def S_is_count : PrmC where
  sp := sD fun (d : D) => sEnd fun Q => (True) ∧ Q (.d (.bool (isC d))) []
  mono := sD.mono fun _ => sEnd.mono fun Q Q' hq ⟨pre, q⟩ => ⟨pre, hq _ _ q⟩
def S_is_row : PrmC where
  sp := sD fun (d : D) => sI fun (m : Int) => sEnd fun Q => (True) ∧ Q (.d (.bool (isRw d m))) []
  mono := sD.mono fun _ => sI.mono fun _ => sEnd.mono fun Q Q' hq ⟨pre, q⟩ => ⟨pre, hq _ _ q⟩
def S_is_room : PrmC where
  sp := sD fun (d : D) => sI fun (s1 : Int) => sI fun (n1 : Int) => sI fun (m1 : Int) => sEnd fun Q => (True) ∧ Q (.d (.bool (roomB s1 n1 m1 d))) []
  mono := sD.mono fun _ => sI.mono fun _ => sI.mono fun _ => sI.mono fun _ => sEnd.mono fun Q Q' hq ⟨pre, q⟩ => ⟨pre, hq _ _ q⟩
def S_is_saying : PrmC where
  sp := sD fun (d : D) => sEnd fun Q => (True) ∧ Q (.d (.bool (sayB d))) []
  mono := sD.mono fun _ => sEnd.mono fun Q Q' hq ⟨pre, q⟩ => ⟨pre, hq _ _ q⟩
def S_are_steps : PrmC where
  sp := sD fun (d : D) => sI fun (s1 : Int) => sI fun (n1 : Int) => sEnd fun Q => (True) ∧ Q (.d (.bool (runB s1 n1 d))) []
  mono := sD.mono fun _ => sI.mono fun _ => sI.mono fun _ => sEnd.mono fun Q Q' hq ⟨pre, q⟩ => ⟨pre, hq _ _ q⟩
def S_need_saying : PrmC where
  sp := sD fun (d : D) => sEnd fun Q => (sayB d = true) ∧ Q (.d .none) []
  mono := sD.mono fun _ => sEnd.mono fun Q Q' hq ⟨pre, q⟩ => ⟨pre, hq _ _ q⟩
def S_need_run : PrmC where
  sp := sD fun (d : D) => sI fun (s1 : Int) => sI fun (n1 : Int) => sEnd fun Q => (runB s1 n1 d = true) ∧ Q (.d .none) []
  mono := sD.mono fun _ => sI.mono fun _ => sI.mono fun _ => sEnd.mono fun Q Q' hq ⟨pre, q⟩ => ⟨pre, hq _ _ q⟩
def S_need_counts : PrmC where
  sp := sI fun (i : Int) => sI fun (j : Int) => sEnd fun Q => ((1 ≤ i ∧ i ≤ 9) ∧ (1 ≤ j ∧ j ≤ 9)) ∧ Q (.d .none) []
  mono := sI.mono fun _ => sI.mono fun _ => sEnd.mono fun Q Q' hq ⟨pre, q⟩ => ⟨pre, hq _ _ q⟩
def S_take : PrmC where
  sp := sO 1 fun (ob : Ob) => sI fun (many : Int) => sEnd fun Q => ∃ (c : Nat), (IsPot c ob ∧ c ≤ 10 ^ 12 ∧ 0 < many ∧ many < 2 ^ 29) ∧ ∀ (r : Nat) (o : Ob), ((r : Int) < many ∧ IsPot (c + 1) o) → Q (.d (.int (r : Int))) [o]
  mono := sO.mono fun _ => sI.mono fun _ => sEnd.mono fun Q Q' hq ⟨c, pre, q⟩ => ⟨c, pre, fun r o h => hq _ _ (q r o h)⟩
def S_pot : PrmC where
  sp := sR fun (v0 : List D) => sI fun (k : Int) => sEnd fun Q => ∃ (ns : List Int), v0 = (ns.map .int) ∧ (0 ≤ k ∧ k ≤ 10 ^ 12) ∧ ∀ (o : Ob), IsPot 0 o → Q (.own o) []
  mono := sR.mono fun _ => sI.mono fun _ => sEnd.mono fun Q Q' hq ⟨ns, e0, pre, q⟩ => ⟨ns, e0, pre, fun o h => hq _ _ (q o h)⟩
def S_room : PrmC where
  sp := sO 1 fun (ob : Ob) => sI fun (rooms : Int) => sI fun (rate : Int) => sEnd fun Q => ∃ (c : Nat), (IsPot c ob ∧ c ≤ 10 ^ 11 ∧ (0 < rooms ∧ rooms < 2 ^ 29) ∧ (0 < rate ∧ rate < 2 ^ 29)) ∧ ∀ (x : Option Nat) (o : Ob), ((∀ n, x = some n → (n : Int) < rooms) ∧ IsPot (c + 2) o) → Q (.d (cellD x)) [o]
  mono := sO.mono fun _ => sI.mono fun _ => sI.mono fun _ => sEnd.mono fun Q Q' hq ⟨c, pre, q⟩ => ⟨c, pre, fun x o h => hq _ _ (q x o h)⟩
def S_sayg : PrmC where
  sp := sO 1 fun (ob : Ob) => sI fun (signs : Int) => sI fun (deeds : Int) => sI fun (rooms : Int) => sI fun (rate : Int) => sEnd fun Q => ∃ (c : Nat), (IsPot c ob ∧ c ≤ 10 ^ 10 ∧ (0 ≤ signs ∧ signs ≤ 200) ∧ (0 ≤ deeds ∧ deeds ≤ 200) ∧ (0 < rooms ∧ rooms ≤ 200) ∧ (0 < rate ∧ rate < 2 ^ 29)) ∧ ∀ (rs : List (List (List (Option Nat)))) (o : Ob), ((rs.length : Int) = rooms ∧ Say.Wf ⟨signs, deeds, rs⟩ ∧ IsPot (c + 20000000) o) → Q (.d (Say.d ⟨signs, deeds, rs⟩)) [o]
  mono := sO.mono fun _ => sI.mono fun _ => sI.mono fun _ => sI.mono fun _ => sI.mono fun _ => sEnd.mono fun Q Q' hq ⟨c, pre, q⟩ => ⟨c, pre, fun rs o h => hq _ _ (q rs o h)⟩
/-! the walk of a run -/
def Say.trail (S : Say) : Nat → List (Nat × Nat) → List Nat
  | _, [] => []
  | r, p :: ps => match S.go r p.1 p.2 with | none => [] | some r' => r' :: Say.trail S r' ps
def Say.brk (S : Say) : Nat → List (Nat × Nat) → Option Nat
  | _, [] => none
  | r, p :: ps => match S.go r p.1 p.2 with | none => some 0 | some r' => (Say.brk S r' ps).map (· + 1)
def intsD (xs : List Nat) : List D := xs.map fun (n : Nat) => .int (n : Int)
def endD : Option Nat → List D
  | none => []
  | some _ => [.none]
def freeS (i j : Int) : Say := ⟨i, j, [List.replicate i.toNat (List.replicate j.toNat (some 0))]⟩
def S_is_run : PrmC where
  sp := sD fun (v0 : D) => sD fun (x : D) => sEnd fun Q => ∃ (S : Say), v0 = S.d ∧ (S.Ok) ∧ Q (.d (.bool (runB S.signs S.deeds x))) []
  mono := sD.mono fun _ => sD.mono fun _ => sEnd.mono fun Q Q' hq ⟨S, e0, pre, q⟩ => ⟨S, e0, pre, hq _ _ q⟩
def S_walked : PrmC where
  sp := sD fun (v0 : D) => sD fun (v1 : D) => sEnd fun Q => ∃ (S : Say) (R : List (Nat × Nat)), v0 = S.d ∧ v1 = (runD R) ∧ (S.Ok ∧ RunOk S.signs S.deeds R ∧ R.length ≤ 2000) ∧ Q (.d (.tuple [.tuple (intsD (0 :: Say.trail S 0 R)), cellD (Say.brk S 0 R)])) []
  mono := sD.mono fun _ => sD.mono fun _ => sEnd.mono fun Q Q' hq ⟨S, R, e0, e1, pre, q⟩ => ⟨S, R, e0, e1, pre, hq _ _ q⟩
def S_rooms_of : PrmC where
  sp := sD fun (v0 : D) => sD fun (v1 : D) => sEnd fun Q => ∃ (S : Say) (R : List (Nat × Nat)), v0 = S.d ∧ v1 = (runD R) ∧ (S.Ok ∧ RunOk S.signs S.deeds R ∧ R.length ≤ 2000) ∧ Q (.d (.tuple (intsD (0 :: Say.trail S 0 R)))) []
  mono := sD.mono fun _ => sD.mono fun _ => sEnd.mono fun Q Q' hq ⟨S, R, e0, e1, pre, q⟩ => ⟨S, R, e0, e1, pre, hq _ _ q⟩
def S_broken_at : PrmC where
  sp := sD fun (v0 : D) => sD fun (v1 : D) => sEnd fun Q => ∃ (S : Say) (R : List (Nat × Nat)), v0 = S.d ∧ v1 = (runD R) ∧ (S.Ok ∧ RunOk S.signs S.deeds R ∧ R.length ≤ 2000) ∧ Q (.d (cellD (Say.brk S 0 R))) []
  mono := sD.mono fun _ => sD.mono fun _ => sEnd.mono fun Q Q' hq ⟨S, R, e0, e1, pre, q⟩ => ⟨S, R, e0, e1, pre, hq _ _ q⟩
def S_free : PrmC where
  sp := sI fun (i : Int) => sI fun (j : Int) => sEnd fun Q => ((1 ≤ i ∧ i ≤ 9) ∧ (1 ≤ j ∧ j ≤ 9)) ∧ Q (.d (freeS i j).d) []
  mono := sI.mono fun _ => sI.mono fun _ => sEnd.mono fun Q Q' hq ⟨pre, q⟩ => ⟨pre, hq _ _ q⟩
def S_lrun : PrmC where
  sp := sO 1 fun (ob : Ob) => sI fun (signs : Int) => sI fun (deeds : Int) => sI fun (many : Int) => sEnd fun Q => ∃ (c : Nat), (IsPot c ob ∧ c ≤ 10 ^ 10 ∧ (0 < signs ∧ signs ≤ 200) ∧ (0 < deeds ∧ deeds ≤ 200) ∧ (0 ≤ many ∧ many ≤ 2000)) ∧ ∀ (R : List (Nat × Nat)) (o : Ob), ((R.length : Int) = many ∧ RunOk signs deeds R ∧ IsPot (c + 4000) o) → Q (.d (runD R)) [o]
  mono := sO.mono fun _ => sI.mono fun _ => sI.mono fun _ => sI.mono fun _ => sEnd.mono fun Q Q' hq ⟨c, pre, q⟩ => ⟨c, pre, fun R o h => hq _ _ (q R o h)⟩
def S_lwalk : PrmC where
  sp := sD fun (v0 : D) => sD fun (v1 : D) => sEnd fun Q => ∃ (S : Say) (R : List (Nat × Nat)), v0 = S.d ∧ v1 = (runD R) ∧ (S.Ok ∧ RunOk S.signs S.deeds R ∧ R.length ≤ 2000) ∧ Q (.own (.lst (intsD (0 :: Say.trail S 0 R) ++ endD (Say.brk S 0 R)))) []
  mono := sD.mono fun _ => sD.mono fun _ => sEnd.mono fun Q Q' hq ⟨S, R, e0, e1, pre, q⟩ => ⟨S, R, e0, e1, pre, hq _ _ q⟩
/-- things of at most n rows within one another -/
def nest : Nat → D → Prop
  | 0, d => (match d with | .none => True | .int _ => True | _ => False)
  | n + 1, d => (match d with | .none => True | .int _ => True | .tuple xs => xs.length ≤ 4000 ∧ ∀ x ∈ xs, nest n x | _ => False)
def S_same (n : Nat) : PrmC where
  sp := sD fun (x : D) => sD fun (y : D) => sEnd fun Q => (x = y ∧ nest n y) ∧ Q (.d (.bool true)) []
  mono := sD.mono fun _ => sD.mono fun _ => sEnd.mono fun Q Q' hq ⟨pre, q⟩ => ⟨pre, hq _ _ q⟩
theorem go_at {S : Say} (h : S.Ok) {r s d : Nat} (hr : r < S.rooms.length) (hs : (s : Int) < S.signs) (hd : (d : Int) < S.deeds) : ∃ room row, atI (S.rooms.map roomD) (r : Int) = some (roomD room) ∧ atI (room.map rowD) (s : Int) = some (rowD row) ∧ atI (row.map cellD) (d : Int) = some (cellD (S.go r s d)) ∧ ∀ n, S.go r s d = some n → n < S.rooms.length := by
  obtain ⟨room, h1, h2⟩ := atI_map (f := roomD) (xs := S.rooms) (i := (r : Int)) (by omega) (by omega)
  have h2' : S.rooms[r]? = some room := by simpa using h2
  obtain ⟨k1, k2⟩ := h.wf room (List.mem_of_getElem? h2')
  obtain ⟨row, h3, h4⟩ := atI_map (f := rowD) (xs := room) (i := (s : Int)) (by omega) (by omega)
  have h4' : room[s]? = some row := by simpa using h4
  obtain ⟨k3, k4⟩ := k2 row (List.mem_of_getElem? h4')
  obtain ⟨c, h5, h6⟩ := atI_map (f := cellD) (xs := row) (i := (d : Int)) (by omega) (by omega)
  have h6' : row[d]? = some c := by simpa using h6
  have e : S.go r s d = c := by simp [Say.go, h2', h4', h6']
  refine ⟨room, row, h1, h3, by rw [e]; exact h5, fun n hn => k4 n ?_⟩
  rw [← hn, e]; exact List.mem_of_getElem? h6'
theorem last_at {xs : List D} {x : D} (h : xs.getLast? = some x) : atI xs (-1) = some x := by
  unfold atI ixN
  cases xs with
  | nil => cases h
  | cons y r =>
    rw [if_neg (by decide), if_pos (by simp; omega)]
    have e : (-1 + (((y :: r).length : Nat) : Int)).toNat = (y :: r).length - 1 := by simp; omega
    show (y :: r)[(-1 + (((y :: r).length : Nat) : Int)).toNat]? = some x
    rw [e, ← List.getLast?_eq_getElem?]; exact h
theorem trail_lt {S : Say} : ∀ (R : List (Nat × Nat)) (r : Nat), (Say.trail S r R).length ≤ R.length
  | [], _ => Nat.le_refl _
  | p :: ps, r => by
    unfold Say.trail
    split
    · simp
    · simp; exact trail_lt ps _
theorem brk_len {S : Say} : ∀ (R : List (Nat × Nat)) (r n : Nat), Say.brk S r R = some n → (Say.trail S r R).length = n
  | [], r, n, h => by cases h
  | p :: ps, r, n, h => by
    unfold Say.brk at h
    unfold Say.trail
    split at h
    · simpa using h
    · rename_i r' e
      cases hb : Say.brk S r' ps with
      | none => rw [hb] at h; cases h
      | some m => rw [hb] at h; simp only [Option.map_some, Option.some.injEq] at h; simp only [List.length_cons, brk_len ps r' m hb]; exact h
theorem free_ok {i j : Int} (hi : 1 ≤ i ∧ i ≤ 9) (hj : 1 ≤ j ∧ j ≤ 9) : (freeS i j).Ok := by
  refine ⟨fun room hr => ?_, hi.1, hi.2, hj.1, hj.2, Nat.le_refl 1, by simp [freeS]⟩
  simp only [freeS, List.mem_singleton] at hr
  subst hr
  refine ⟨by simp [freeS]; omega, fun row hrow => ?_⟩
  obtain ⟨_, rfl⟩ := List.mem_replicate.mp hrow
  refine ⟨by simp [freeS]; omega, fun n hn => ?_⟩
  obtain ⟨_, e⟩ := List.mem_replicate.mp hn
  cases e
  exact Nat.zero_lt_one
theorem free_brk {i j : Int} : ∀ R : List (Nat × Nat), RunOk i j R → Say.brk (freeS i j) 0 R = none
  | [], _ => rfl
  | p :: ps, h => by
    obtain ⟨h1, h2⟩ := h p List.mem_cons_self
    have e : (freeS i j).go 0 p.1 p.2 = some 0 := by
      have a1 : p.1 < i.toNat := by omega
      have a2 : p.2 < j.toNat := by omega
      simp [Say.go, freeS, List.getElem?_replicate, a1, a2]
    unfold Say.brk
    rw [e]
    simp only []
    rw [free_brk ps fun q hq => h q (List.mem_cons_of_mem _ hq)]
    rfl
theorem cut_last {xs : List D} {x : D} : cutG (xs ++ [x]) none (some (-1)) = xs := by
  unfold cutG HT.sIx
  simp
  rw [show (-1 + ((xs.length : Int) + 1)).toNat = xs.length by omega]
  simp
theorem nest_int {n : Nat} {i : Int} : nest n (.int i) := by cases n <;> exact trivial
theorem nest_cell {n : Nat} {c : Option Nat} : nest n (cellD c) := by cases c <;> cases n <;> exact trivial
theorem nest_tup {n : Nat} {xs : List D} (h1 : xs.length ≤ 4000) (h2 : ∀ x ∈ xs, nest n x) : nest (n + 1) (.tuple xs) := ⟨h1, h2⟩
/-! ### games -/
def posD (p : List (List (Nat × Nat))) : D := .tuple (p.map runD)
def gameD (g : List (List (List (Nat × Nat)))) : D := .tuple (g.map posD)
def isBt (d : D) (a b : Int) : Bool := match d with | .int i => decide (a ≤ i) && decide (i ≤ b) | _ => false
def ansB (m : Int) (d : D) : Bool := match d with | .tuple [p, t] => isBt p 0 99 && isB t m | _ => false
def askB (m : Int) (d : D) : Bool := match d with | .tuple xs => (decide (1 ≤ (xs.length : Int)) && decide ((xs.length : Int) ≤ 9)) && xs.all (ansB m) | _ => false
def posB (m : Int) (d : D) : Bool := match d with | .tuple xs => (decide (1 ≤ (xs.length : Int)) && decide ((xs.length : Int) ≤ 81)) && xs.all (askB m) | _ => false
def gameB (d : D) : Bool := match d with | .tuple xs => (decide (1 ≤ (xs.length : Int)) && decide ((xs.length : Int) ≤ 100)) && xs.all (posB xs.length) | _ => false
abbrev Game := List (List (List (Nat × Nat)))
def AskOk (m : Nat) (ask : List (Nat × Nat)) : Prop := 1 ≤ ask.length ∧ ask.length ≤ 9 ∧ ∀ a ∈ ask, a.1 ≤ 99 ∧ a.2 < m
def PosOk (m : Nat) (p : List (List (Nat × Nat))) : Prop := 1 ≤ p.length ∧ p.length ≤ 81 ∧ ∀ ask ∈ p, AskOk m ask
def GameOk (g : Game) : Prop := 1 ≤ g.length ∧ g.length ≤ 100 ∧ ∀ p ∈ g, PosOk g.length p
theorem ansB_ans {m : Nat} {a : Nat × Nat} : ansB (m : Int) (stepD a) = true ↔ a.1 ≤ 99 ∧ a.2 < m := by
  simp only [ansB, stepD, isBt, isB, Bool.and_eq_true, decide_eq_true_eq]
  omega
theorem ans_of {m : Int} {x : D} (h : ansB m x = true) : ∃ a, x = stepD a := by
  unfold ansB at h
  split at h
  · rename_i p t
    simp only [Bool.and_eq_true] at h
    obtain ⟨n, rfl, _⟩ := isB_nat h.2
    cases p with
    | int i =>
      have h1 : (decide (0 ≤ i) && decide (i ≤ 99)) = true := h.1
      simp at h1
      exact ⟨(i.toNat, n), by simp only [stepD]; congr 3; omega⟩
    | _ => exact Bool.noConfusion (show false = true from h.1)
  · cases h
theorem askB_ask {m : Nat} {a : List (Nat × Nat)} : askB (m : Int) (runD a) = true ↔ AskOk m a := by
  simp only [askB, runD, Bool.and_eq_true, decide_eq_true_eq, List.length_map, List.all_map, List.all_eq_true, AskOk]
  constructor
  · rintro ⟨⟨h1, h2⟩, h3⟩; exact ⟨by omega, by omega, fun x hx => ansB_ans.mp (h3 x hx)⟩
  · rintro ⟨h1, h2, h3⟩; exact ⟨⟨by omega, by omega⟩, fun x hx => ansB_ans.mpr (h3 x hx)⟩
theorem ask_of {m : Int} {x : D} (h : askB m x = true) : ∃ a, x = runD a := by
  cases x with
  | tuple cs =>
    simp only [askB, Bool.and_eq_true] at h
    obtain ⟨as, rfl⟩ := all_typed (fun x => ans_of) cs h.2
    exact ⟨as, rfl⟩
  | _ => exact Bool.noConfusion (show false = true from h)
theorem posB_pos {m : Nat} {a : List (List (Nat × Nat))} : posB (m : Int) (posD a) = true ↔ PosOk m a := by
  simp only [posB, posD, Bool.and_eq_true, decide_eq_true_eq, List.length_map, List.all_map, List.all_eq_true, PosOk]
  constructor
  · rintro ⟨⟨h1, h2⟩, h3⟩; exact ⟨by omega, by omega, fun x hx => askB_ask.mp (h3 x hx)⟩
  · rintro ⟨h1, h2, h3⟩; exact ⟨⟨by omega, by omega⟩, fun x hx => askB_ask.mpr (h3 x hx)⟩
theorem pos_of {m : Int} {x : D} (h : posB m x = true) : ∃ a, x = posD a := by
  cases x with
  | tuple cs =>
    simp only [posB, Bool.and_eq_true] at h
    obtain ⟨as, rfl⟩ := all_typed (fun x => ask_of) cs h.2
    exact ⟨as, rfl⟩
  | _ => exact Bool.noConfusion (show false = true from h)
theorem gameB_game {g : Game} : gameB (gameD g) = true ↔ GameOk g := by
  simp only [gameB, gameD, Bool.and_eq_true, decide_eq_true_eq, List.length_map, List.all_map, List.all_eq_true, GameOk]
  constructor
  · rintro ⟨⟨h1, h2⟩, h3⟩; exact ⟨by omega, by omega, fun x hx => posB_pos.mp (h3 x hx)⟩
  · rintro ⟨h1, h2, h3⟩; exact ⟨⟨by omega, by omega⟩, fun x hx => posB_pos.mpr (h3 x hx)⟩
theorem game_of {x : D} (h : gameB x = true) : ∃ g, x = gameD g ∧ GameOk g := by
  have h0 := h
  cases x with
  | tuple cs =>
    simp only [gameB, Bool.and_eq_true] at h
    obtain ⟨as, rfl⟩ := all_typed (fun x => pos_of) cs h.2
    exact ⟨as, rfl, gameB_game.mp h0⟩
  | _ => exact Bool.noConfusion (show false = true from h)
/-! least and greatest -/
def minI : List Int → Int
  | [] => 0
  | [x] => x
  | x :: y :: r => min x (minI (y :: r))
def maxI : List Int → Int
  | [] => 0
  | [x] => x
  | x :: y :: r => max x (maxI (y :: r))
theorem minI_spec : ∀ {xs : List Int}, xs ≠ [] → minI xs ∈ xs ∧ ∀ y ∈ xs, minI xs ≤ y
  | [], h => absurd rfl h
  | [x], _ => by simp [minI]
  | x :: y :: r, _ => by
    obtain ⟨h1, h2⟩ := minI_spec (xs := y :: r) (by simp)
    unfold minI
    refine ⟨?_, fun z hz => ?_⟩
    · rcases Int.le_total x (minI (y :: r)) with h | h
      · rw [Int.min_eq_left h]; exact List.mem_cons_self
      · rw [Int.min_eq_right h]; exact List.mem_cons_of_mem _ h1
    · rcases List.mem_cons.mp hz with rfl | hz
      · exact Int.min_le_left _ _
      · exact Int.le_trans (Int.min_le_right _ _) (h2 z hz)
theorem maxI_spec : ∀ {xs : List Int}, xs ≠ [] → maxI xs ∈ xs ∧ ∀ y ∈ xs, y ≤ maxI xs
  | [], h => absurd rfl h
  | [x], _ => by simp [maxI]
  | x :: y :: r, _ => by
    obtain ⟨h1, h2⟩ := maxI_spec (xs := y :: r) (by simp)
    unfold maxI
    refine ⟨?_, fun z hz => ?_⟩
    · rcases Int.le_total x (maxI (y :: r)) with h | h
      · rw [Int.max_eq_right h]; exact List.mem_cons_of_mem _ h1
      · rw [Int.max_eq_left h]; exact List.mem_cons_self
    · rcases List.mem_cons.mp hz with rfl | hz
      · exact Int.le_max_left _ _
      · exact Int.le_trans (h2 z hz) (Int.le_max_right _ _)
theorem minI_eq {xs : List Int} {m : Int} (h1 : m ∈ xs) (h2 : ∀ y ∈ xs, m ≤ y) : m = minI xs := by
  obtain ⟨k1, k2⟩ := minI_spec (xs := xs) (by rintro rfl; cases h1)
  exact Int.le_antisymm (h2 _ k1) (k2 _ h1)
theorem maxI_eq {xs : List Int} {m : Int} (h1 : m ∈ xs) (h2 : ∀ y ∈ xs, y ≤ m) : m = maxI xs := by
  obtain ⟨k1, k2⟩ := maxI_spec (xs := xs) (by rintro rfl; cases h1)
  exact Int.le_antisymm (k2 _ h1) (h2 _ k1)
def intT (xs : List Int) : D := .tuple (xs.map .int)
def costs (ask : List (Nat × Nat)) (row : List Int) : List Int := ask.map fun a => (a.1 : Int) + (row[a.2]?.getD 0)
def leastI (ask : List (Nat × Nat)) (row : List Int) : Int := minI (costs ask row)
def behindI (g : Game) (row : List Int) : List Int := g.map fun asks => maxI (asks.map fun ask => leastI ask row)
def stepRow (g : Game) : Nat → List Int
  | 0 => List.replicate g.length 0
  | n + 1 => behindI g (stepRow g n)
def rowsI (g : Game) (n : Nat) : List D := (List.range (n + 1)).map fun k => intT (stepRow g k)
theorem stepRow_len {g : Game} : ∀ n, (stepRow g n).length = g.length
  | 0 => by simp [stepRow]
  | n + 1 => by simp [stepRow, behindI]
theorem at_int {row : List Int} {n : Nat} (h : n < row.length) : atI (row.map PyData.int) (n : Int) = some (.int (row[n]?.getD 0)) := by
  obtain ⟨a, h1, h2⟩ := atI_map (f := PyData.int) (xs := row) (i := (n : Int)) (by omega) (by omega)
  have e : row[n]? = some a := by simpa using h2
  rw [h1, e]; rfl
theorem rep1 (n : Nat) (x : D) : (List.replicate n [x]).flatten = List.replicate n x := by
  induction n with
  | zero => rfl
  | succ n ih => rw [List.replicate_succ, List.flatten_cons, ih]; rfl
theorem row0 {g : Game} : PyData.tuple (List.replicate (g.length : Int).toNat [PyData.int 0]).flatten = intT (stepRow g 0) := by
  rw [rep1]; simp [intT, stepRow]
theorem rowsI_succ {g : Game} {n : Nat} : rowsI g n ++ [intT (behindI g (stepRow g n))] = rowsI g (n + 1) := by
  unfold rowsI
  rw [List.range_succ (n := n + 1), List.map_append]; rfl
theorem rowsI_last {g : Game} {n : Nat} : atI (rowsI g n) (-1) = some (intT (stepRow g n)) := last_at (by unfold rowsI; rw [List.range_succ, List.map_append]; simp)
theorem rowsI_len {g : Game} {n : Nat} : (rowsI g n).length = n + 1 := by simp [rowsI]
theorem costs_len {ask : List (Nat × Nat)} {row : List Int} : (costs ask row).length = ask.length := by simp [costs]
theorem map_at {α : Type} {f : α → D} {xs : List α} {i : Nat} {x : D} (h : (xs.map f)[i]? = some x) : ∃ a, xs[i]? = some a ∧ x = f a ∧ a ∈ xs := by
  rw [List.getElem?_map] at h
  cases e : xs[i]? with
  | none => rw [e] at h; cases h
  | some a => rw [e] at h; exact ⟨a, rfl, (Option.some.inj h).symm, List.mem_of_getElem? e⟩
def S_is_between : PrmC where
  sp := sD fun (d : D) => sI fun (a : Int) => sI fun (b : Int) => sEnd fun Q => (True) ∧ Q (.d (.bool (isBt d a b))) []
  mono := sD.mono fun _ => sI.mono fun _ => sI.mono fun _ => sEnd.mono fun Q Q' hq ⟨pre, q⟩ => ⟨pre, hq _ _ q⟩
def S_is_answer : PrmC where
  sp := sD fun (d : D) => sI fun (m : Int) => sEnd fun Q => (True) ∧ Q (.d (.bool (ansB m d))) []
  mono := sD.mono fun _ => sI.mono fun _ => sEnd.mono fun Q Q' hq ⟨pre, q⟩ => ⟨pre, hq _ _ q⟩
def S_is_ask : PrmC where
  sp := sD fun (d : D) => sI fun (m : Int) => sEnd fun Q => (True) ∧ Q (.d (.bool (askB m d))) []
  mono := sD.mono fun _ => sI.mono fun _ => sEnd.mono fun Q Q' hq ⟨pre, q⟩ => ⟨pre, hq _ _ q⟩
def S_is_game : PrmC where
  sp := sD fun (d : D) => sEnd fun Q => (True) ∧ Q (.d (.bool (gameB d))) []
  mono := sD.mono fun _ => sEnd.mono fun Q Q' hq ⟨pre, q⟩ => ⟨pre, hq _ _ q⟩
def S_need_game : PrmC where
  sp := sD fun (d : D) => sEnd fun Q => (gameB d = true) ∧ Q (.d .none) []
  mono := sD.mono fun _ => sEnd.mono fun Q Q' hq ⟨pre, q⟩ => ⟨pre, hq _ _ q⟩
def S_need_many : PrmC where
  sp := sI fun (i : Int) => sEnd fun Q => (0 ≤ i ∧ i ≤ 60) ∧ Q (.d .none) []
  mono := sI.mono fun _ => sEnd.mono fun Q Q' hq ⟨pre, q⟩ => ⟨pre, hq _ _ q⟩
def S_least_of : PrmC where
  sp := sD fun (v0 : D) => sD fun (v1 : D) => sEnd fun Q => ∃ (ask : List (Nat × Nat)) (row : List Int), v0 = (runD ask) ∧ v1 = (intT row) ∧ (AskOk row.length ask) ∧ Q (.d (.int (leastI ask row))) []
  mono := sD.mono fun _ => sD.mono fun _ => sEnd.mono fun Q Q' hq ⟨ask, row, e0, e1, pre, q⟩ => ⟨ask, row, e0, e1, pre, hq _ _ q⟩
def S_row_behind : PrmC where
  sp := sD fun (v0 : D) => sD fun (v1 : D) => sEnd fun Q => ∃ (g : Game) (row : List Int), v0 = (gameD g) ∧ v1 = (intT row) ∧ (GameOk g ∧ row.length = g.length) ∧ Q (.d (intT (behindI g row))) []
  mono := sD.mono fun _ => sD.mono fun _ => sEnd.mono fun Q Q' hq ⟨g, row, e0, e1, pre, q⟩ => ⟨g, row, e0, e1, pre, hq _ _ q⟩
def S_prices_of : PrmC where
  sp := sD fun (v0 : D) => sI fun (i : Int) => sEnd fun Q => ∃ (g : Game), v0 = (gameD g) ∧ (GameOk g ∧ 0 ≤ i ∧ i ≤ 60) ∧ Q (.d (.tuple (rowsI g i.toNat))) []
  mono := sD.mono fun _ => sI.mono fun _ => sEnd.mono fun Q Q' hq ⟨g, e0, pre, q⟩ => ⟨g, e0, pre, hq _ _ q⟩
def S_lrows : PrmC where
  sp := sD fun (v0 : D) => sI fun (i : Int) => sEnd fun Q => ∃ (g : Game), v0 = (gameD g) ∧ (GameOk g ∧ 0 ≤ i ∧ i ≤ 60) ∧ Q (.d (.tuple (rowsI g i.toNat))) []
  mono := sD.mono fun _ => sI.mono fun _ => sEnd.mono fun Q Q' hq ⟨g, e0, pre, q⟩ => ⟨g, e0, pre, hq _ _ q⟩
def S_lanswer : PrmC where
  sp := sO 1 fun (ob : Ob) => sI fun (many : Int) => sI fun (top : Int) => sEnd fun Q => ∃ (c : Nat), (IsPot c ob ∧ c ≤ 10 ^ 11 ∧ (0 < many ∧ many ≤ 100) ∧ (0 ≤ top ∧ top ≤ 99)) ∧ ∀ (a : Nat × Nat) (o : Ob), (a.1 ≤ 99 ∧ (a.2 : Int) < many ∧ (a.1 : Int) ≤ top ∧ IsPot (c + 3) o) → Q (.d (stepD a)) [o]
  mono := sO.mono fun _ => sI.mono fun _ => sI.mono fun _ => sEnd.mono fun Q Q' hq ⟨c, pre, q⟩ => ⟨c, pre, fun a o h => hq _ _ (q a o h)⟩
def S_lgame : PrmC where
  sp := sO 1 fun (ob : Ob) => sI fun (many : Int) => sI fun (asks : Int) => sI fun (answers : Int) => sI fun (top : Int) => sEnd fun Q => ∃ (c : Nat), (IsPot c ob ∧ c ≤ 10 ^ 10 ∧ (0 < many ∧ many ≤ 100) ∧ (0 < asks ∧ asks ≤ 81) ∧ (0 < answers ∧ answers ≤ 9) ∧ (0 ≤ top ∧ top ≤ 99)) ∧ ∀ (g : Game) (o : Ob), ((g.length : Int) = many ∧ GameOk g ∧ IsPot (c + 1000000) o) → Q (.d (gameD g)) [o]
  mono := sO.mono fun _ => sI.mono fun _ => sI.mono fun _ => sI.mono fun _ => sI.mono fun _ => sEnd.mono fun Q Q' hq ⟨c, pre, q⟩ => ⟨c, pre, fun g o h => hq _ _ (q g o h)⟩
/-! ### plans -/
def firstMax (ns : List Int) : Int := (ns.idxOf (maxI ns) : Nat)
def firstMin (ns : List Int) : Int := (ns.idxOf (minI ns) : Nat)
def askOf (row : List Int) (asks : List (List (Nat × Nat))) : Int := firstMax (asks.map fun ask => leastI ask row)
def planA (g : Game) (n : Nat) : List D := (List.range n).map fun k => intT (g.map (askOf (stepRow g k)))
def ansOf (row : List Int) (asks : List (List (Nat × Nat))) : List Int := asks.map fun ask => firstMin (costs ask row)
def planB (g : Game) (n : Nat) : List D := (List.range n).map fun k => .tuple (g.map fun asks => intT (ansOf (stepRow g k) asks))
theorem rowsI_star {g : Game} {n : Nat} : starL 2 0 (rowsI g n) PyData.list = [.list ((List.range n).map fun k => intT (stepRow g k)), intT (stepRow g n)] := by
  unfold starL
  rw [rowsI_len]
  unfold rowsI
  rw [List.range_succ, List.map_append]
  simp
def S_first_ask : PrmC where
  sp := sD fun (v0 : D) => sD fun (v1 : D) => sEnd fun Q => ∃ (asks : List (List (Nat × Nat))) (row : List Int), v0 = (posD asks) ∧ v1 = (intT row) ∧ (PosOk row.length asks) ∧ Q (.d (.int (askOf row asks))) []
  mono := sD.mono fun _ => sD.mono fun _ => sEnd.mono fun Q Q' hq ⟨asks, row, e0, e1, pre, q⟩ => ⟨asks, row, e0, e1, pre, hq _ _ q⟩
def S_first_answer : PrmC where
  sp := sD fun (v0 : D) => sD fun (v1 : D) => sEnd fun Q => ∃ (ask : List (Nat × Nat)) (row : List Int), v0 = (runD ask) ∧ v1 = (intT row) ∧ (AskOk row.length ask) ∧ Q (.d (.int (firstMin (costs ask row)))) []
  mono := sD.mono fun _ => sD.mono fun _ => sEnd.mono fun Q Q' hq ⟨ask, row, e0, e1, pre, q⟩ => ⟨ask, row, e0, e1, pre, hq _ _ q⟩
def S_asks_plan : PrmC where
  sp := sD fun (v0 : D) => sI fun (i : Int) => sEnd fun Q => ∃ (g : Game), v0 = (gameD g) ∧ (GameOk g ∧ 0 ≤ i ∧ i ≤ 60) ∧ Q (.d (.tuple (planA g i.toNat))) []
  mono := sD.mono fun _ => sI.mono fun _ => sEnd.mono fun Q Q' hq ⟨g, e0, pre, q⟩ => ⟨g, e0, pre, hq _ _ q⟩
def S_answers_plan : PrmC where
  sp := sD fun (v0 : D) => sI fun (i : Int) => sEnd fun Q => ∃ (g : Game), v0 = (gameD g) ∧ (GameOk g ∧ 0 ≤ i ∧ i ≤ 60) ∧ Q (.d (.tuple (planB g i.toNat))) []
  mono := sD.mono fun _ => sI.mono fun _ => sEnd.mono fun Q Q' hq ⟨g, e0, pre, q⟩ => ⟨g, e0, pre, hq _ _ q⟩
def S_lfirsts : PrmC where
  sp := sD fun (v0 : D) => sD fun (v1 : D) => sEnd fun Q => ∃ (g : Game) (n : Nat), v0 = (gameD g) ∧ v1 = (.tuple (rowsI g n)) ∧ (GameOk g ∧ n ≤ 60) ∧ Q (.d (.tuple [.tuple (planA g n), .tuple (planB g n)])) []
  mono := sD.mono fun _ => sD.mono fun _ => sEnd.mono fun Q Q' hq ⟨g, n, e0, e1, pre, q⟩ => ⟨g, n, e0, e1, pre, hq _ _ q⟩
/-! ### games begun elsewhere, moves -/
def sw (p k : Nat) : Nat := if k = 0 then p else if k = p then 0 else k
theorem sw_sw (p k : Nat) : sw p (sw p k) = k := by unfold sw; split <;> (try split) <;> (try split) <;> omega
theorem sw_lt {p k n : Nat} (hp : p < n) (hk : k < n) : sw p k < n := by unfold sw; split <;> (try split) <;> omega
theorem sw_zero (k : Nat) : sw 0 k = k := by unfold sw; split <;> omega
def swAsk (p : Nat) (ask : List (Nat × Nat)) : List (Nat × Nat) := ask.map fun a => (a.1, sw p a.2)
def begG (g : Game) (p : Nat) : Game := (List.range g.length).map fun k => ((g[sw p k]?).getD []).map (swAsk p)
theorem begG_len {g : Game} {p : Nat} : (begG g p).length = g.length := by simp [begG]
theorem begG_get {g : Game} {p k : Nat} (hk : k < g.length) : (begG g p)[k]? = some (((g[sw p k]?).getD []).map (swAsk p)) := by
  simp [begG, List.getElem?_range hk]
theorem begG_ok {g : Game} {p : Nat} (h : GameOk g) (hp : p < g.length) : GameOk (begG g p) := by
  obtain ⟨h1, h2, h3⟩ := h
  refine ⟨by rw [begG_len]; exact h1, by rw [begG_len]; exact h2, fun q hq => ?_⟩
  rw [begG_len]
  simp only [begG, List.mem_map, List.mem_range] at hq
  obtain ⟨k, hk, rfl⟩ := hq
  have hs := sw_lt hp hk
  have hm : g[sw p k] ∈ g := List.getElem_mem hs
  obtain ⟨k1, k2, k3⟩ := h3 _ hm
  rw [List.getElem?_eq_getElem hs]
  refine ⟨by simpa using k1, by simpa using k2, fun ask ha => ?_⟩
  simp only [Option.getD_some, List.mem_map] at ha
  obtain ⟨ask, ha, rfl⟩ := ha
  obtain ⟨j1, j2, j3⟩ := k3 ask ha
  refine ⟨by simpa [swAsk] using j1, by simpa [swAsk] using j2, fun a hx => ?_⟩
  simp only [swAsk, List.mem_map] at hx
  obtain ⟨a, hx, rfl⟩ := hx
  exact ⟨(j3 a hx).1, sw_lt hp (j3 a hx).2⟩
def valR (g : Game) (n at_ : Nat) : Int := (stepRow g n)[at_]?.getD 0
def swRow (g : Game) (p : Nat) (row : List Int) : List Int := (List.range g.length).map fun k => row[sw p k]?.getD 0
theorem swRow_get {g : Game} {p k : Nat} {row : List Int} (hk : k < g.length) : (swRow g p row)[k]?.getD 0 = row[sw p k]?.getD 0 := by
  simp [swRow, List.getElem?_range hk]
theorem costs_sw {g : Game} {p : Nat} {ask : List (Nat × Nat)} {row : List Int} (hp : p < g.length) (h : ∀ a ∈ ask, a.2 < g.length) : costs (swAsk p ask) (swRow g p row) = costs ask row := by
  simp only [costs, swAsk, List.map_map]
  refine List.map_congr_left fun a ha => ?_
  simp only [Function.comp]
  rw [swRow_get (sw_lt hp (h a ha)), sw_sw]
theorem stepRow_beg {g : Game} {p : Nat} (h : GameOk g) (hp : p < g.length) : ∀ n, stepRow (begG g p) n = swRow g p (stepRow g n)
  | 0 => by
    simp only [stepRow, begG_len, swRow]
    refine List.ext_getElem? fun k => ?_
    by_cases hk : k < g.length
    · have := sw_lt hp hk
      simp [List.getElem?_replicate, hk, this]
    · simp [List.getElem?_replicate, hk]
  | n + 1 => by
    rw [stepRow, stepRow_beg h hp n, stepRow]
    simp only [behindI, begG, swRow, List.map_map]
    refine List.map_congr_left fun k hk => ?_
    have hk := List.mem_range.mp hk
    have hs := sw_lt hp hk
    obtain ⟨k1, k2, k3⟩ := h.2.2 _ (List.getElem_mem hs)
    simp only [Function.comp, List.getElem?_map, List.getElem?_eq_getElem hs, Option.getD_some, Option.map_some, List.map_map]
    congr 1
    refine List.map_congr_left fun ask ha => ?_
    simp only [Function.comp, leastI]
    have := costs_sw (g := g) (p := p) (ask := ask) (row := stepRow g n) hp fun a hx => ((k3 ask ha).2.2 a hx).2
    unfold swRow at this
    rw [this]
theorem valR_beg {g : Game} {p n : Nat} (h : GameOk g) (hp : p < g.length) : valR (begG g p) n 0 = valR g n p := by
  unfold valR
  rw [stepRow_beg h hp, swRow_get (by omega)]
  simp [sw]
theorem begG_twice {g : Game} {p : Nat} (h : GameOk g) (hp : p < g.length) : begG (begG g p) p = g := by
  refine List.ext_getElem? fun k => ?_
  by_cases hk : k < g.length
  · have hs := sw_lt hp hk
    rw [begG_get (by rw [begG_len]; exact hk), begG_get hs, sw_sw, List.getElem?_eq_getElem hk]
    simp only [Option.getD_some, Option.some.injEq, List.map_map]
    refine List.map_id'' (fun ask => ?_) _
    simp only [Function.comp, swAsk, List.map_map]
    exact List.map_id'' (fun a => by simp [sw_sw]) _
  · rw [List.getElem?_eq_none (by rw [begG_len, begG_len]; omega), List.getElem?_eq_none (by omega)]
theorem begG_zero {g : Game} : begG g 0 = g := by
  refine List.ext_getElem? fun k => ?_
  by_cases hk : k < g.length
  · rw [begG_get hk, sw_zero, List.getElem?_eq_getElem hk]
    simp only [Option.getD_some, Option.some.injEq]
    refine List.map_id'' (fun ask => ?_) _
    simp only [swAsk]
    exact List.map_id'' (fun a => by simp [sw_zero]) _
  · rw [List.getElem?_eq_none (by rw [begG_len]; omega), List.getElem?_eq_none (by omega)]
/-! the price of a game, played -/
theorem valR_zero {g : Game} {k : Nat} : valR g 0 k = 0 := by
  unfold valR stepRow
  by_cases hk : k < g.length
  · simp [List.getElem?_replicate, hk]
  · simp [List.getElem?_replicate, hk]
theorem valR_succ {g : Game} {n k : Nat} {asks : List (List (Nat × Nat))} (hk : g[k]? = some asks) : valR g (n + 1) k = maxI (asks.map fun ask => leastI ask (stepRow g n)) := by
  unfold valR
  rw [stepRow]
  simp [behindI, hk]
theorem idxOf_get {x : Int} : ∀ {xs : List Int}, x ∈ xs → xs[xs.idxOf x]? = some x
  | y :: r, h => by
    rw [List.idxOf_cons]
    by_cases e : y = x
    · subst e; simp
    · have : (y == x) = false := by simp [e]
      rw [this]
      simp only [cond_false, List.getElem?_cons_succ]
      exact idxOf_get ((List.mem_cons.mp h).resolve_left fun z => e z.symm)
theorem least_le {ask : List (Nat × Nat)} {row : List Int} {i : Nat} {a : Nat × Nat} (h : ask[i]? = some a) : leastI ask row ≤ (a.1 : Int) + (row[a.2]?.getD 0) := by
  have hm : ((a.1 : Int) + (row[a.2]?.getD 0)) ∈ costs ask row := List.mem_map.mpr ⟨a, List.mem_of_getElem? h, rfl⟩
  exact (minI_spec (by rintro e; rw [e] at hm; cases hm)).2 _ hm
theorem least_eq {ask : List (Nat × Nat)} {row : List Int} {i : Nat} {a : Nat × Nat} (h : ask[i]? = some a) (hi : (i : Int) = firstMin (costs ask row)) : leastI ask row = (a.1 : Int) + (row[a.2]?.getD 0) := by
  have hm : ((a.1 : Int) + (row[a.2]?.getD 0)) ∈ costs ask row := List.mem_map.mpr ⟨a, List.mem_of_getElem? h, rfl⟩
  have hne : costs ask row ≠ [] := by rintro e; rw [e] at hm; cases hm
  have h1 := (minI_spec hne).1
  have hi' : i = (costs ask row).idxOf (minI (costs ask row)) := by unfold firstMin at hi; omega
  have h2 := idxOf_get h1
  rw [← hi'] at h2
  simp only [costs, List.getElem?_map, h, Option.map_some, Option.some.injEq] at h2
  exact h2.symm
theorem val_ge {g : Game} {n k i : Nat} {asks : List (List (Nat × Nat))} {ask : List (Nat × Nat)} (hk : g[k]? = some asks) (hi : asks[i]? = some ask) : leastI ask (stepRow g n) ≤ valR g (n + 1) k := by
  rw [valR_succ hk]
  have hm : leastI ask (stepRow g n) ∈ asks.map fun ask => leastI ask (stepRow g n) := List.mem_map.mpr ⟨ask, List.mem_of_getElem? hi, rfl⟩
  exact (maxI_spec (by rintro e; rw [e] at hm; cases hm)).2 _ hm
theorem val_eq {g : Game} {n k i : Nat} {asks : List (List (Nat × Nat))} {ask : List (Nat × Nat)} (hk : g[k]? = some asks) (hi : asks[i]? = some ask) (he : (i : Int) = askOf (stepRow g n) asks) : valR g (n + 1) k = leastI ask (stepRow g n) := by
  rw [valR_succ hk]
  have hm : leastI ask (stepRow g n) ∈ asks.map fun ask => leastI ask (stepRow g n) := List.mem_map.mpr ⟨ask, List.mem_of_getElem? hi, rfl⟩
  have h1 := (maxI_spec (show asks.map (fun ask => leastI ask (stepRow g n)) ≠ [] by rintro e; rw [e] at hm; cases hm)).1
  have hi' : i = (asks.map fun ask => leastI ask (stepRow g n)).idxOf (maxI (asks.map fun ask => leastI ask (stepRow g n))) := by unfold askOf firstMax at he; omega
  have h2 := idxOf_get h1
  rw [← hi'] at h2
  simp only [List.getElem?_map, hi, Option.map_some, Option.some.injEq] at h2
  exact h2.symm
def gget (g : Game) (s k a : Nat) : Nat × Nat := ((((g[s]?).getD [])[k]?).getD [])[a]?.getD (0, 0)
/-- k, a: an ask and an answer that stand at s -/
def MvOk (g : Game) (s : Nat) (m : Nat × Nat) : Prop := m.1 < ((g[s]?).getD []).length ∧ m.2 < (((g[s]?).getD [])[m.1]?.getD []).length
theorem MvOk.parts {g : Game} {s : Nat} {m : Nat × Nat} (h : MvOk g s m) : ∃ asks ask, g[s]? = some asks ∧ asks[m.1]? = some ask ∧ ask[m.2]? = some (gget g s m.1 m.2) := by
  obtain ⟨h1, h2⟩ := h
  cases e1 : g[s]? with
  | none => rw [e1] at h1; simp at h1
  | some asks =>
    rw [e1] at h1 h2
    simp only [Option.getD_some] at h1 h2
    rw [List.getElem?_eq_getElem h1] at h2
    simp only [Option.getD_some] at h2
    exact ⟨asks, asks[m.1], rfl, List.getElem?_eq_getElem h1, by simp [gget, e1, List.getElem?_eq_getElem h1, List.getElem?_eq_getElem h2]⟩
theorem gget_ok {g : Game} (hg : GameOk g) {s : Nat} {m : Nat × Nat} (h : MvOk g s m) : (gget g s m.1 m.2).1 ≤ 99 ∧ (gget g s m.1 m.2).2 < g.length := by
  obtain ⟨asks, ask, e1, e2, e3⟩ := h.parts
  exact ((hg.2.2 _ (List.mem_of_getElem? e1)).2.2 _ (List.mem_of_getElem? e2)).2.2 _ (List.mem_of_getElem? e3)
def MovOk (g : Game) : Nat → List (Nat × Nat) → Prop
  | _, [] => True
  | s, m :: r => MvOk g s m ∧ MovOk g (gget g s m.1 m.2).2 r
def endM (g : Game) : Nat → List (Nat × Nat) → Nat
  | s, [] => s
  | s, m :: r => endM g (gget g s m.1 m.2).2 r
def posM (g : Game) : Nat → List (Nat × Nat) → List Nat
  | s, [] => [s]
  | s, m :: r => s :: posM g (gget g s m.1 m.2).2 r
def payM (g : Game) : Nat → List (Nat × Nat) → List Nat
  | _, [] => []
  | s, m :: r => (gget g s m.1 m.2).1 :: payM g (gget g s m.1 m.2).2 r
theorem endM_snoc {g : Game} : ∀ (M : List (Nat × Nat)) (s : Nat) (m : Nat × Nat), endM g s (M ++ [m]) = (gget g (endM g s M) m.1 m.2).2
  | [], _, _ => rfl
  | x :: r, s, m => endM_snoc r _ m
theorem posM_snoc {g : Game} : ∀ (M : List (Nat × Nat)) (s : Nat) (m : Nat × Nat), posM g s (M ++ [m]) = posM g s M ++ [(gget g (endM g s M) m.1 m.2).2]
  | [], _, _ => rfl
  | x :: r, s, m => by simp only [List.cons_append, posM, endM, posM_snoc r]
theorem payM_snoc {g : Game} : ∀ (M : List (Nat × Nat)) (s : Nat) (m : Nat × Nat), payM g s (M ++ [m]) = payM g s M ++ [(gget g (endM g s M) m.1 m.2).1]
  | [], _, _ => rfl
  | x :: r, s, m => by simp only [List.cons_append, payM, endM, payM_snoc r]
theorem movOk_snoc {g : Game} : ∀ (M : List (Nat × Nat)) (s : Nat) (m : Nat × Nat), MovOk g s (M ++ [m]) ↔ MovOk g s M ∧ MvOk g (endM g s M) m
  | [], s, m => by simp [MovOk, endM]
  | x :: r, s, m => by simp only [List.cons_append, MovOk, endM, movOk_snoc r, and_assoc]
theorem movOk_take {g : Game} : ∀ {M : List (Nat × Nat)} {s : Nat} (_ : MovOk g s M) (k : Nat), MovOk g s (M.take k)
  | [], _, _, k => by rw [List.take_nil]; trivial
  | x :: r, s, _, 0 => trivial
  | x :: r, s, h, k + 1 => ⟨h.1, movOk_take h.2 k⟩
theorem posM_last {g : Game} : ∀ (M : List (Nat × Nat)) (s : Nat), ∃ r, posM g s M = r ++ [endM g s M]
  | [], s => ⟨[], rfl⟩
  | x :: r, s => by obtain ⟨t, e⟩ := posM_last (g := g) r (gget g s x.1 x.2).2; exact ⟨s :: t, by simp only [posM, endM, e, List.cons_append]⟩
theorem posM_len {g : Game} : ∀ (M : List (Nat × Nat)) (s : Nat), (posM g s M).length = M.length + 1
  | [], _ => rfl
  | x :: r, s => by simp [posM, posM_len r]
theorem payM_len {g : Game} : ∀ (M : List (Nat × Nat)) (s : Nat), (payM g s M).length = M.length
  | [], _ => rfl
  | x :: r, s => by simp [payM, payM_len r]
theorem endM_lt {g : Game} (hg : GameOk g) : ∀ (M : List (Nat × Nat)) (s : Nat), s < g.length → MovOk g s M → endM g s M < g.length
  | [], _, h, _ => h
  | x :: r, s, _, h => endM_lt hg r _ (gget_ok hg h.1).2 h.2
theorem sw_list {n p : Nat} (hp : p < n) : ((rngD 0 n).set 0 (.int (p : Int))).set p (.int 0) = (List.range n).map fun k => PyData.int (sw p k : Nat) := by
  refine List.ext_getElem? fun k => ?_
  by_cases hk : k < n
  · rw [List.getElem?_map, List.getElem?_range hk, List.getElem?_set, List.getElem?_set]
    simp only [rngD, List.length_set, List.length_map, List.length_range, hp, List.getElem?_map, List.getElem?_range hk, Option.map_some, sw]
    by_cases h1 : p = k
    · subst h1
      by_cases h0 : p = 0
      · simp [h0]
      · simp [h0]
    · by_cases h0 : k = 0
      · subst h0
        have : 0 < n := by omega
        simp [h1, this]
      · have h0' : ¬ 0 = k := fun z => h0 z.symm
        have h1' : ¬ k = p := fun z => h1 z.symm
        simp [h1, h0, h0', h1']
  · rw [List.getElem?_eq_none (by simp [rngD]; omega), List.getElem?_eq_none (by simp; omega)]
/-! ### games compared -/
def bF (g : Game) (f : Nat → Int) (s : Nat) : Int := maxI (((g[s]?).getD []).map fun ask => minI (ask.map fun a => (a.1 : Int) + f a.2))
theorem valR_bF {g : Game} {n s : Nat} : valR g (n + 1) s = bF g (valR g n) s := by
  unfold valR bF
  rw [stepRow]
  simp only [behindI, List.getElem?_map]
  cases e : g[s]? with
  | none => rfl
  | some asks => simp [leastI, costs, valR]
theorem maxI_le {xs ys : List Int} {c : Int} (hx : xs ≠ []) (h : ∀ x ∈ xs, ∃ y ∈ ys, x ≤ y + c) : maxI xs ≤ maxI ys + c := by
  obtain ⟨y, hy, hl⟩ := h _ (maxI_spec hx).1
  have := (maxI_spec (xs := ys) (by rintro rfl; cases hy)).2 y hy
  omega
theorem minI_le {xs ys : List Int} {c : Int} (hy : ys ≠ []) (h : ∀ y ∈ ys, ∃ x ∈ xs, x ≤ y + c) : minI xs ≤ minI ys + c := by
  obtain ⟨x, hx, hl⟩ := h _ (minI_spec hy).1
  have := (minI_spec (xs := xs) (by rintro rfl; cases hx)).2 x hx
  omega
/-- each ask of g is met by one of g' whose answers are no cheaper, but by d -/
def Dom (d : Int) (g g' : Game) : Prop := ∀ s < g.length, ∀ ask ∈ (g[s]?).getD [], ∃ ask' ∈ (g'[s]?).getD [], ∀ a' ∈ ask', ∃ a ∈ ask, a.2 = a'.2 ∧ (a.1 : Int) ≤ a'.1 + d
theorem mem_getD {g : Game} {s : Nat} (hs : s < g.length) : (g[s]?).getD [] ∈ g := by
  rw [List.getElem?_eq_getElem hs]; exact List.getElem_mem hs
theorem bF_le {g g' : Game} {f f' : Nat → Int} {c d : Int} (hg : GameOk g) (hg' : GameOk g') (hl : g'.length = g.length) (h : Dom d g g') (hf : ∀ t < g.length, f t ≤ f' t + c) {s : Nat} (hs : s < g.length) : bF g f s ≤ bF g' f' s + (c + d) := by
  unfold bF
  have hp := hg.2.2 _ (mem_getD hs)
  have hp' := hg'.2.2 _ (mem_getD (by omega : s < g'.length))
  refine maxI_le (fun e => ?_) fun x hx => ?_
  · have := congrArg List.length e
    simp at this
    have h1 := hp.1
    rw [this] at h1; simp at h1
  · obtain ⟨ask, ha, rfl⟩ := List.mem_map.mp hx
    obtain ⟨ask', ha', hd⟩ := h s hs ask ha
    refine ⟨_, List.mem_map.mpr ⟨ask', ha', rfl⟩, minI_le (fun e => ?_) fun y hy => ?_⟩
    · have := congrArg List.length e
      simp at this
      have h1 := (hp'.2.2 ask' ha').1
      rw [this] at h1; simp at h1
    · obtain ⟨a', hm, rfl⟩ := List.mem_map.mp hy
      obtain ⟨a, hm2, e1, e2⟩ := hd a' hm
      refine ⟨_, List.mem_map.mpr ⟨a, hm2, rfl⟩, ?_⟩
      have := hf a.2 ((hp.2.2 ask ha).2.2 a hm2).2
      rw [e1] at this
      show (a.1 : Int) + f a.2 ≤ (a'.1 : Int) + f' a'.2 + (c + d)
      rw [e1]
      omega
theorem Dom.refl {g : Game} : Dom 0 g g := fun s _ ask ha => ⟨ask, ha, fun a h => ⟨a, h, rfl, by omega⟩⟩
theorem val_dom {g g' : Game} {d : Int} (hg : GameOk g) (hg' : GameOk g') (hl : g'.length = g.length) (h : Dom d g g') : ∀ n, ∀ s < g.length, valR g n s ≤ valR g' n s + n * d
  | 0, s, hs => by simp [valR_zero]
  | n + 1, s, hs => by
    rw [valR_bF, valR_bF]
    have := bF_le (c := n * d) hg hg' hl h (val_dom hg hg' hl h n) hs
    have e : (((n + 1 : Nat) : Int)) * d = n * d + d := by rw [Int.natCast_add, Int.add_mul]; simp
    rw [e]
    exact this
theorem val_nonneg {g : Game} (hg : GameOk g) : ∀ n, ∀ s < g.length, 0 ≤ valR g n s
  | 0, s, hs => by simp [valR_zero]
  | n + 1, s, hs => by
    rw [valR_bF]
    unfold bF
    have hp := hg.2.2 _ (mem_getD hs)
    have hne : (g[s]?).getD [] ≠ [] := fun e => by have h1 := hp.1; rw [e] at h1; simp at h1
    obtain ⟨ask, ha⟩ := List.exists_mem_of_ne_nil _ hne
    have hk := hp.2.2 ask ha
    have h1 : minI (ask.map fun a => (a.1 : Int) + valR g n a.2) ∈ ask.map fun a => (a.1 : Int) + valR g n a.2 := (minI_spec (fun e => by have h1 := hk.1; have := congrArg List.length e; simp at this; rw [this] at h1; simp at h1)).1
    obtain ⟨a, hm, e⟩ := List.mem_map.mp h1
    have h2 := val_nonneg hg n a.2 (hk.2.2 a hm).2
    have hm2 := List.mem_map_of_mem (f := fun ask : List (Nat × Nat) => minI (ask.map fun a => (a.1 : Int) + valR g n a.2)) ha
    have h3 := (maxI_spec (xs := ((g[s]?).getD []).map fun ask => minI (ask.map fun a => (a.1 : Int) + valR g n a.2)) (by intro e; rw [e] at hm2; cases hm2)).2 _ hm2
    omega
/-- a price at most t: a turn costs at most t -/
theorem bF_top {g : Game} {f : Nat → Int} {t c : Int} (hg : GameOk g) (ht : ∀ p ∈ g, ∀ ask ∈ p, ∀ a ∈ ask, (a.1 : Int) ≤ t) (hf : ∀ s < g.length, f s ≤ c) {s : Nat} (hs : s < g.length) : bF g f s ≤ c + t := by
  unfold bF
  have hp := hg.2.2 _ (mem_getD hs)
  have hx : ((g[s]?).getD []).map (fun ask => minI (ask.map fun a => (a.1 : Int) + f a.2)) ≠ [] := fun e => by
    have := congrArg List.length e
    simp at this
    have h1 := hp.1
    rw [this] at h1; simp at h1
  obtain ⟨ask, ha, e⟩ := List.mem_map.mp (maxI_spec hx).1
  rw [← e]
  have hk := hp.2.2 ask ha
  have hne : ask ≠ [] := fun e => by have h1 := hk.1; rw [e] at h1; simp at h1
  obtain ⟨a, hm⟩ := List.exists_mem_of_ne_nil _ hne
  have hm2 := List.mem_map_of_mem (f := fun a : Nat × Nat => (a.1 : Int) + f a.2) hm
  have h3 := (minI_spec (xs := ask.map fun a => (a.1 : Int) + f a.2) (by intro e; rw [e] at hm2; cases hm2)).2 _ hm2
  have h4 := ht _ (mem_getD hs) ask ha a hm
  have h5 := hf a.2 (hk.2.2 a hm).2
  omega
theorem val_top {g : Game} {t : Int} (hg : GameOk g) (ht : ∀ p ∈ g, ∀ ask ∈ p, ∀ a ∈ ask, (a.1 : Int) ≤ t) : ∀ n, ∀ s < g.length, valR g n s ≤ n * t
  | 0, s, hs => by simp [valR_zero]
  | n + 1, s, hs => by
    rw [valR_bF]
    have e : (((n + 1 : Nat) : Int)) * t = n * t + t := by rw [Int.natCast_add, Int.add_mul]; simp
    rw [e]
    exact bF_top hg ht (val_top hg ht n) hs
theorem val_99 {g : Game} (hg : GameOk g) (n s : Nat) (hs : s < g.length) : valR g n s ≤ n * 99 :=
  val_top hg (fun p hp ask ha a hm => by have := (((hg.2.2 p hp).2.2 ask ha).2.2 a hm).1; omega) n s hs
/-- many turns, then more -/
theorem val_add {g : Game} (hg : GameOk g) {n : Nat} {c C : Int} (h : ∀ t < g.length, c ≤ valR g n t ∧ valR g n t ≤ C) : ∀ m, ∀ s < g.length, valR g m s + c ≤ valR g (m + n) s ∧ valR g (m + n) s ≤ valR g m s + C
  | 0, s, hs => by simp [valR_zero, h s hs]
  | m + 1, s, hs => by
    have e : m + 1 + n = (m + n) + 1 := by omega
    rw [e, valR_bF, valR_bF]
    have h1 := bF_le (c := -c) hg hg rfl Dom.refl (f := valR g m) (f' := valR g (m + n)) (fun t ht => by have := (val_add hg h m t ht).1; omega) hs
    have h2 := bF_le (c := C) hg hg rfl Dom.refl (f := valR g (m + n)) (f' := valR g m) (fun t ht => (val_add hg h m t ht).2) hs
    omega
/-- twice the prices -/
def twiG (g : Game) : Game := g.map fun asks => asks.map fun ask => ask.map fun a => (2 * a.1, a.2)
theorem maxI_two : ∀ {xs : List Int}, maxI (xs.map fun x => 2 * x) = 2 * maxI xs
  | [] => rfl
  | [x] => rfl
  | x :: y :: r => by
    have := maxI_two (xs := y :: r)
    simp only [List.map_cons, maxI] at this ⊢
    rw [this]; omega
theorem minI_two : ∀ {xs : List Int}, minI (xs.map fun x => 2 * x) = 2 * minI xs
  | [] => rfl
  | [x] => rfl
  | x :: y :: r => by
    have := minI_two (xs := y :: r)
    simp only [List.map_cons, minI] at this ⊢
    rw [this]; omega
theorem val_twice {g : Game} : ∀ n s, valR (twiG g) n s = 2 * valR g n s
  | 0, s => by simp [valR_zero]
  | n + 1, s => by
    rw [valR_bF, valR_bF]
    unfold bF
    rw [← maxI_two]
    congr 1
    rw [show (twiG g)[s]? = (g[s]?).map fun asks => asks.map fun ask => ask.map fun a => (2 * a.1, a.2) from List.getElem?_map]
    cases e : g[s]? with
    | none => rfl
    | some asks =>
      simp only [Option.map_some, Option.getD_some, List.map_map]
      refine List.map_congr_left fun ask ha => ?_
      simp only [Function.comp, List.map_map]
      rw [← minI_two]
      congr 1
      rw [List.map_map]
      refine List.map_congr_left fun a ha => ?_
      simp only [Function.comp]
      rw [val_twice n]
      omega
/-! two games beside each other -/
def besAsk (m : Nat) (one two : List (Nat × Nat)) : List (Nat × Nat) := one.flatMap fun a => two.map fun b => (a.1 + b.1, a.2 * m + b.2)
def besPos (m : Nat) (p q : List (List (Nat × Nat))) : List (List (Nat × Nat)) := p.flatMap fun ask => q.map fun sec => besAsk m ask sec
def besG (g h : Game) : Game := g.flatMap fun p => h.map fun q => besPos h.length p q
theorem flat_get {α β γ : Type} {f : α → β → γ} {ys : List β} : ∀ {xs : List α} {s t : Nat} {x : α} {y : β}, xs[s]? = some x → ys[t]? = some y → (xs.flatMap fun x => ys.map fun y => f x y)[s * ys.length + t]? = some (f x y)
  | [], s, t, x, y, h, _ => by cases s <;> cases h
  | z :: r, 0, t, x, y, h, h2 => by
    have hz : z = x := by simpa using h
    subst hz
    have ht := (List.getElem?_eq_some_iff.mp h2).1
    rw [List.flatMap_cons, List.getElem?_append_left (by simp; exact ht)]
    simp [h2]
  | z :: r, s + 1, t, x, y, h, h2 => by
    have e : (s + 1) * ys.length + t = ys.length + (s * ys.length + t) := by rw [Nat.add_mul]; omega
    rw [e, List.flatMap_cons, List.getElem?_append_right (by simp)]
    have : ys.length + (s * ys.length + t) - (List.map (fun y => f z y) ys).length = s * ys.length + t := by simp
    rw [this]
    exact flat_get (by simpa using h) h2
theorem flat_len {α β γ : Type} {f : α → β → γ} {ys : List β} : ∀ {xs : List α}, (xs.flatMap fun x => ys.map fun y => f x y).length = xs.length * ys.length
  | [] => by simp
  | z :: r => by rw [List.flatMap_cons, List.length_append, flat_len (xs := r), List.length_map, List.length_cons, Nat.add_mul]; omega
theorem maxI_sum {xs ys : List Int} (hx : xs ≠ []) (hy : ys ≠ []) : maxI (xs.flatMap fun x => ys.map fun y => x + y) = maxI xs + maxI ys := by
  obtain ⟨a1, a2⟩ := maxI_spec hx
  obtain ⟨b1, b2⟩ := maxI_spec hy
  refine (maxI_eq (List.mem_flatMap.mpr ⟨_, a1, List.mem_map.mpr ⟨_, b1, rfl⟩⟩) fun z hz => ?_).symm
  obtain ⟨x, h1, h2⟩ := List.mem_flatMap.mp hz
  obtain ⟨y, h3, rfl⟩ := List.mem_map.mp h2
  have := a2 x h1
  have := b2 y h3
  omega
theorem minI_sum {xs ys : List Int} (hx : xs ≠ []) (hy : ys ≠ []) : minI (xs.flatMap fun x => ys.map fun y => x + y) = minI xs + minI ys := by
  obtain ⟨a1, a2⟩ := minI_spec hx
  obtain ⟨b1, b2⟩ := minI_spec hy
  refine (minI_eq (List.mem_flatMap.mpr ⟨_, a1, List.mem_map.mpr ⟨_, b1, rfl⟩⟩) fun z hz => ?_).symm
  obtain ⟨x, h1, h2⟩ := List.mem_flatMap.mp hz
  obtain ⟨y, h3, rfl⟩ := List.mem_map.mp h2
  have := a2 x h1
  have := b2 y h3
  omega
theorem ne_of_len {α : Type} {xs : List α} (h : 1 ≤ xs.length) : xs ≠ [] := fun e => by rw [e] at h; simp at h
theorem map_ne {α β : Type} {xs : List α} {f : α → β} (h : xs ≠ []) : xs.map f ≠ [] := fun e => h (List.map_eq_nil_iff.mp e)
theorem flatMap_congr' {α β : Type} {f f' : α → List β} : ∀ {xs : List α}, (∀ x ∈ xs, f x = f' x) → xs.flatMap f = xs.flatMap f'
  | [], _ => rfl
  | x :: r, h => by rw [List.flatMap_cons, List.flatMap_cons, h x List.mem_cons_self, flatMap_congr' fun y hy => h y (List.mem_cons_of_mem _ hy)]
theorem val_bes {g h : Game} (hg : GameOk g) (hh : GameOk h) : ∀ n s t, s < g.length → t < h.length → valR (besG g h) n (s * h.length + t) = valR g n s + valR h n t
  | 0, s, t, _, _ => by simp [valR_zero]
  | n + 1, s, t, hs, ht => by
    obtain ⟨p, hp⟩ : ∃ p, g[s]? = some p := ⟨_, List.getElem?_eq_getElem hs⟩
    obtain ⟨q, hq⟩ : ∃ q, h[t]? = some q := ⟨_, List.getElem?_eq_getElem ht⟩
    have kp := hg.2.2 p (List.mem_of_getElem? hp)
    have kq := hh.2.2 q (List.mem_of_getElem? hq)
    have hb : (besG g h)[s * h.length + t]? = some (besPos h.length p q) := flat_get hp hq
    rw [valR_bF, valR_bF, valR_bF]
    unfold bF
    rw [hb, hp, hq]
    simp only [Option.getD_some]
    rw [← maxI_sum (map_ne (ne_of_len kp.1)) (map_ne (ne_of_len kq.1))]
    congr 1
    unfold besPos
    rw [List.map_flatMap, List.flatMap_map]
    refine flatMap_congr' fun ask ha => ?_
    rw [List.map_map, List.map_map]
    refine List.map_congr_left fun sec hb => ?_
    simp only [Function.comp]
    have ka := kp.2.2 ask ha
    have kb := kq.2.2 sec hb
    rw [← minI_sum (map_ne (ne_of_len ka.1)) (map_ne (ne_of_len kb.1))]
    congr 1
    unfold besAsk
    rw [List.map_flatMap, List.flatMap_map]
    refine flatMap_congr' fun a hx => ?_
    rw [List.map_map, List.map_map]
    refine List.map_congr_left fun b hy => ?_
    simp only [Function.comp]
    rw [val_bes hg hh n _ _ (ka.2.2 a hx).2 (kb.2.2 b hy).2]
    omega
/-! how wide a game is -/
def GameIn (m n t : Nat) (g : Game) : Prop := ∀ p ∈ g, p.length ≤ m ∧ ∀ ask ∈ p, ask.length ≤ n ∧ ∀ a ∈ ask, a.1 ≤ t
theorem bes_ok {g h : Game} (hg : GameOk g) (hh : GameOk h) (ig : GameIn 3 3 40 g) (ih : GameIn 2 2 40 h) (h1 : g.length ≤ 5) (h2 : h.length ≤ 3) : GameOk (besG g h) := by
  have hl : (besG g h).length = g.length * h.length := flat_len
  have e1 := hg.1
  have e2 := hh.1
  refine ⟨by rw [hl]; exact Nat.mul_pos e1 e2, by rw [hl]; exact Nat.le_trans (Nat.mul_le_mul h1 h2) (by omega), fun x hx => ?_⟩
  rw [hl]
  obtain ⟨p, hp, hx⟩ := List.mem_flatMap.mp hx
  obtain ⟨q, hq, rfl⟩ := List.mem_map.mp hx
  have kp := hg.2.2 p hp
  have kq := hh.2.2 q hq
  obtain ⟨ip, ip2⟩ := ig p hp
  obtain ⟨iq, iq2⟩ := ih q hq
  have hl2 : (besPos h.length p q).length = p.length * q.length := flat_len
  refine ⟨by rw [hl2]; exact Nat.mul_pos kp.1 kq.1, by rw [hl2]; exact Nat.le_trans (Nat.mul_le_mul ip iq) (by omega), fun x hx => ?_⟩
  obtain ⟨ask, ha, hx⟩ := List.mem_flatMap.mp hx
  obtain ⟨sec, hb, rfl⟩ := List.mem_map.mp hx
  have ka := kp.2.2 ask ha
  have kb := kq.2.2 sec hb
  obtain ⟨ia, ia2⟩ := ip2 ask ha
  obtain ⟨ib, ib2⟩ := iq2 sec hb
  have hl3 : (besAsk h.length ask sec).length = ask.length * sec.length := flat_len
  refine ⟨by rw [hl3]; exact Nat.mul_pos ka.1 kb.1, by rw [hl3]; exact Nat.le_trans (Nat.mul_le_mul ia ib) (by omega), fun x hx => ?_⟩
  obtain ⟨a, hxa, hy⟩ := List.mem_flatMap.mp hx
  obtain ⟨b, hb, rfl⟩ := List.mem_map.mp hy
  have := ia2 a hxa
  have := ib2 b hb
  have a1 := (ka.2.2 a hxa).2
  have b1 := (kb.2.2 b hb).2
  refine ⟨by simp only []; omega, ?_⟩
  simp only []
  calc a.2 * h.length + b.2 < a.2 * h.length + h.length := by omega
    _ = (a.2 + 1) * h.length := by rw [Nat.add_mul]; omega
    _ ≤ g.length * h.length := Nat.mul_le_mul_right _ a1
theorem twi_ok {g : Game} (hg : GameOk g) (ig : GameIn 3 3 40 g) : GameOk (twiG g) := by
  refine ⟨by simpa [twiG] using hg.1, by simpa [twiG] using hg.2.1, fun x hx => ?_⟩
  have hl : (twiG g).length = g.length := by simp [twiG]
  rw [hl]
  obtain ⟨p, hp, rfl⟩ := List.mem_map.mp hx
  have kp := hg.2.2 p hp
  refine ⟨by simpa using kp.1, by simpa using kp.2.1, fun x hx => ?_⟩
  obtain ⟨ask, ha, rfl⟩ := List.mem_map.mp hx
  have ka := kp.2.2 ask ha
  refine ⟨by simpa using ka.1, by simpa using ka.2.1, fun x hx => ?_⟩
  obtain ⟨a, hb, rfl⟩ := List.mem_map.mp hx
  have := ((ig p hp).2 ask ha).2 a hb
  exact ⟨by simp only []; omega, (ka.2.2 a hb).2⟩
/-! one thing put in -/
theorem game_set {g : Game} {s : Nat} {p : List (List (Nat × Nat))} (hg : GameOk g) (hp : PosOk g.length p) : GameOk (g.set s p) := by
  refine ⟨by simpa using hg.1, by simpa using hg.2.1, fun x hx => ?_⟩
  rw [List.length_set]
  rcases List.mem_or_eq_of_mem_set hx with h | h
  · exact hg.2.2 x h
  · rw [h]; exact hp
theorem set_get {g : Game} {s t : Nat} {p : List (List (Nat × Nat))} (hs : s < g.length) : ((g.set s p)[t]?).getD [] = if s = t then p else (g[t]?).getD [] := by
  rw [List.getElem?_set]
  split
  · next h => subst h; simp [hs]
  · rfl
theorem dom_up {g : Game} {s : Nat} {p p' : List (List (Nat × Nat))} {d : Int} (hd : 0 ≤ d) (hs : g[s]? = some p) (h : ∀ ask ∈ p, ∃ ask' ∈ p', ∀ a' ∈ ask', ∃ a ∈ ask, a.2 = a'.2 ∧ (a.1 : Int) ≤ a'.1 + d) : Dom d g (g.set s p') := by
  intro t ht ask ha
  rw [set_get (List.getElem?_eq_some_iff.mp hs).1]
  split
  · next e => subst e; rw [hs] at ha; exact h ask ha
  · exact ⟨ask, ha, fun a h => ⟨a, h, rfl, by omega⟩⟩
theorem dom_down {g : Game} {s : Nat} {p p' : List (List (Nat × Nat))} {d : Int} (hd : 0 ≤ d) (hs : g[s]? = some p) (h : ∀ ask ∈ p', ∃ ask' ∈ p, ∀ a' ∈ ask', ∃ a ∈ ask, a.2 = a'.2 ∧ (a.1 : Int) ≤ a'.1 + d) : Dom d (g.set s p') g := by
  intro t ht ask ha
  rw [set_get (List.getElem?_eq_some_iff.mp hs).1] at ha
  split at ha
  · next e => subst e; rw [hs]; exact h ask ha
  · exact ⟨ask, ha, fun a h => ⟨a, h, rfl, by omega⟩⟩
theorem endM_app {g : Game} : ∀ (M M' : List (Nat × Nat)) (s : Nat), endM g s (M ++ M') = endM g (endM g s M) M'
  | [], _, _ => rfl
  | m :: r, M', s => endM_app r M' _
theorem movOk_app {g : Game} : ∀ {M M' : List (Nat × Nat)} {s : Nat}, MovOk g s M → MovOk g (endM g s M) M' → MovOk g s (M ++ M')
  | [], _, _, _, h => h
  | m :: r, M', s, h, h' => ⟨h.1, movOk_app h.2 h'⟩
theorem payM_app {g : Game} : ∀ (M M' : List (Nat × Nat)) (s : Nat), payM g s (M ++ M') = payM g s M ++ payM g (endM g s M) M'
  | [], _, _ => rfl
  | m :: r, M', s => by simp only [List.cons_append, payM, endM, payM_app r]
theorem posM_app {g : Game} : ∀ (M M' : List (Nat × Nat)) (s : Nat), posM g s (M ++ M') = posM g s M ++ (posM g (endM g s M) M').drop 1
  | [], M', s => by cases M' <;> rfl
  | m :: r, M', s => by simp only [List.cons_append, posM, endM, posM_app r]
theorem gget_beg {g : Game} {p s : Nat} {m : Nat × Nat} (hp : p < g.length) (h : MvOk g s m) : MvOk (begG g p) (sw p s) m ∧ gget (begG g p) (sw p s) m.1 m.2 = ((gget g s m.1 m.2).1, sw p (gget g s m.1 m.2).2) := by
  obtain ⟨asks, ask, e1, e2, e3⟩ := h.parts
  have hs : s < g.length := (List.getElem?_eq_some_iff.mp e1).1
  have hb : (begG g p)[sw p s]? = some (asks.map (swAsk p)) := by rw [begG_get (sw_lt hp hs), sw_sw, e1]; rfl
  have h1 := (List.getElem?_eq_some_iff.mp e2).1
  have h2 := (List.getElem?_eq_some_iff.mp e3).1
  constructor
  · refine ⟨?_, ?_⟩
    · rw [hb]; simpa using h1
    · rw [hb]; simp only [Option.getD_some, List.getElem?_map, e2, Option.map_some, swAsk, List.length_map]; exact h2
  · conv => lhs; unfold gget
    rw [hb]
    simp only [Option.getD_some, List.getElem?_map, e2, Option.map_some, swAsk, e3]
theorem beg_moves {g : Game} {p : Nat} (hp : p < g.length) : ∀ (M : List (Nat × Nat)) (s : Nat), MovOk g s M → MovOk (begG g p) (sw p s) M ∧ posM (begG g p) (sw p s) M = (posM g s M).map (sw p) ∧ payM (begG g p) (sw p s) M = payM g s M
  | [], s, _ => ⟨trivial, rfl, rfl⟩
  | m :: r, s, h => by
    obtain ⟨h1, h2⟩ := gget_beg hp h.1
    obtain ⟨k1, k2, k3⟩ := beg_moves hp r _ h.2
    refine ⟨⟨h1, by rw [h2]; exact k1⟩, ?_, ?_⟩
    · simp only [posM, List.map_cons, h2, k2]
    · simp only [payM, h2, k3]
theorem posM_lt {g : Game} (hg : GameOk g) : ∀ (M : List (Nat × Nat)) (s : Nat), s < g.length → MovOk g s M → ∀ x ∈ posM g s M, x < g.length
  | [], s, hs, _, x, hx => by rw [List.mem_singleton.mp hx]; exact hs
  | m :: r, s, hs, h, x, hx => by
    rcases List.mem_cons.mp hx with rfl | hx
    · exact hs
    · exact posM_lt hg r _ (gget_ok hg h.1).2 h.2 x hx
theorem nest_game {g : Game} (hg : GameOk g) : nest 6 (gameD g) := by
  obtain ⟨h1, h2, h3⟩ := hg
  refine nest_tup (by rw [List.length_map]; omega) fun x hx => ?_
  obtain ⟨p, hp, rfl⟩ := List.mem_map.mp hx
  obtain ⟨k1, k2, k3⟩ := h3 p hp
  refine nest_tup (by rw [List.length_map]; omega) fun x hx => ?_
  obtain ⟨ask, ha, rfl⟩ := List.mem_map.mp hx
  obtain ⟨j1, j2, j3⟩ := k3 ask ha
  refine nest_tup (by rw [List.length_map]; omega) fun x hx => ?_
  obtain ⟨a, hb, rfl⟩ := List.mem_map.mp hx
  refine nest_tup (by simp) fun x hx => ?_
  simp only [List.mem_cons, List.not_mem_nil, or_false] at hx
  rcases hx with rfl | rfl <;> exact nest_int
theorem nest_told {xs : List Nat} {n : Int} (h : xs.length ≤ 4000) : nest 6 (.tuple [.tuple (intsD xs), .int n]) := by
  refine nest_tup (by simp) fun x hx => ?_
  simp only [List.mem_cons, List.not_mem_nil, or_false] at hx
  rcases hx with rfl | rfl
  · refine nest_tup (by rw [intsD, List.length_map]; exact h) fun x hx => ?_
    obtain ⟨a, _, rfl⟩ := List.mem_map.mp hx
    exact nest_int
  · exact nest_int
def ansBy (p : List (List (Nat × Nat))) (d : D) : D := match d with
  | .tuple [k, a] => bif isB k (p.length : Int) && isB a ((((p[(intOf k).toNat]?).getD []).length : Nat) : Int) then stepD ((((p[(intOf k).toNat]?).getD [])[(intOf a).toNat]?).getD (0, 0)) else .none
  | _ => .none
theorem at_map_nat {α : Type} {f : α → D} {xs : List α} {n : Nat} {a : α} (h : xs[n]? = some a) : atI (xs.map f) (n : Int) = some (f a) :=
  atI_nat (by omega) (by rw [Int.toNat_natCast, List.getElem?_map, h]; rfl)
theorem sum_cast : ∀ xs : List Nat, (xs.map fun (n : Nat) => (n : Int)).sum = ((xs.sum : Nat) : Int)
  | [] => rfl
  | x :: r => by simp [sum_cast r]
theorem ansBy_ok {g : Game} {s : Nat} {m : Nat × Nat} {asks : List (List (Nat × Nat))} (h : MvOk g s m) (e : g[s]? = some asks) : ansBy asks (stepD m) = stepD (gget g s m.1 m.2) := by
  obtain ⟨h1, h2⟩ := h
  rw [e] at h1 h2
  simp only [Option.getD_some] at h1 h2
  have e1 : isB (.int (m.1 : Int)) (asks.length : Int) = true := by simp [isB]; omega
  have e2 : isB (.int (m.2 : Int)) (((asks[m.1]?).getD []).length : Int) = true := by simp [isB]; omega
  simp only [ansBy, stepD, intOf, Int.toNat_natCast, e1, e2, Bool.and_self, cond_true, gget, e, Option.getD_some]
theorem plainAll_of : ∀ {xs : List D}, (∀ x ∈ xs, x.plain = true) → PyData.plainAll xs = true
  | [], _ => rfl
  | x :: r, h => Bool.and_eq_true_iff.mpr ⟨h x List.mem_cons_self, plainAll_of fun y hy => h y (List.mem_cons_of_mem _ hy)⟩
theorem depthAll_of {m : Nat} : ∀ {xs : List D}, (∀ x ∈ xs, x.depth ≤ m) → PyData.depthAll xs ≤ m
  | [], _ => by simp [PyData.depthAll]
  | x :: r, h => by
    have h1 := h x List.mem_cons_self
    have h2 := depthAll_of fun y hy => h y (List.mem_cons_of_mem _ hy)
    simp only [PyData.depthAll]; omega
theorem nest_plain : ∀ (n : Nat) (d : D), nest n d → d.plain = true ∧ d.depth ≤ n + 1
  | n, .none, _ => ⟨rfl, by simp [PyData.depth]⟩
  | n, .int i, _ => ⟨rfl, by simp [PyData.depth]⟩
  | n + 1, .tuple xs, h => by
    refine ⟨plainAll_of fun x hx => (nest_plain n x (h.2 x hx)).1, ?_⟩
    have := depthAll_of (m := n + 1) fun x hx => (nest_plain n x (h.2 x hx)).2
    simp only [PyData.depth]; omega
  | 0, .tuple xs, h => h.elim
  | 0, .bool _, h => h.elim
  | 0, .str _, h => h.elim
  | 0, .list _, h => h.elim
  | 0, .dict _, h => h.elim
  | n + 1, .bool _, h => h.elim
  | n + 1, .str _, h => h.elim
  | n + 1, .list _, h => h.elim
  | n + 1, .dict _, h => h.elim
theorem ints_plain {ns : List Int} : (PyData.list (ns.map PyData.int)).plain = true ∧ (PyData.list (ns.map PyData.int)).depth ≤ 3 := by
  refine ⟨plainAll_of fun x hx => ?_, ?_⟩
  · obtain ⟨_, _, rfl⟩ := List.mem_map.mp hx; rfl
  · have := ints_depth ns
    simp only [PyData.depth]; omega
theorem nest_rows {g : Game} {n : Nat} (hg : g.length ≤ 100) (hn : n ≤ 60) : nest 2 (.tuple (rowsI g n)) := by
  refine nest_tup (by rw [rowsI_len]; omega) fun x hx => ?_
  obtain ⟨k, _, rfl⟩ := List.mem_map.mp hx
  refine nest_tup (by rw [List.length_map, stepRow_len]; omega) fun x hx => ?_
  obtain ⟨_, _, rfl⟩ := List.mem_map.mp hx
  exact nest_int
theorem step_bes {g h : Game} (hg : GameOk g) (hh : GameOk h) (n : Nat) : stepRow (besG g h) n = (stepRow g n).flatMap fun x => (stepRow h n).map fun y => x + y := by
  have hl : (besG g h).length = g.length * h.length := flat_len
  have hl2 : ((stepRow g n).flatMap fun x => (stepRow h n).map fun y => x + y).length = g.length * h.length := by rw [flat_len, stepRow_len, stepRow_len]
  have hm := hh.1
  refine List.ext_getElem? fun i => ?_
  by_cases hi : i < g.length * h.length
  · have hs : i / h.length < g.length := (Nat.div_lt_iff_lt_mul (by omega)).mpr hi
    have ht : i % h.length < h.length := Nat.mod_lt _ (by omega)
    have e : i = i / h.length * h.length + i % h.length := by rw [Nat.mul_comm]; exact (Nat.div_add_mod _ _).symm
    obtain ⟨s, hs0⟩ : ∃ s, s = i / h.length := ⟨_, rfl⟩
    obtain ⟨t, ht0⟩ : ∃ t, t = i % h.length := ⟨_, rfl⟩
    rw [← hs0] at hs e
    rw [← ht0] at ht e
    rw [e]
    have hi1 : s * h.length + t < (stepRow (besG g h) n).length := by rw [stepRow_len, hl, ← e]; exact hi
    have e1 : (stepRow g n)[s]? = some (valR g n s) := by unfold valR; rw [List.getElem?_eq_getElem (by rw [stepRow_len]; exact hs)]; rfl
    have e2 : (stepRow h n)[t]? = some (valR h n t) := by unfold valR; rw [List.getElem?_eq_getElem (by rw [stepRow_len]; exact ht)]; rfl
    have e3 := flat_get (f := fun x y : Int => x + y) e1 e2
    rw [stepRow_len] at e3
    rw [e3, ← val_bes hg hh n s t hs ht]
    unfold valR; rw [List.getElem?_eq_getElem hi1]; rfl
  · rw [List.getElem?_eq_none (by rw [stepRow_len, hl]; omega), List.getElem?_eq_none (by rw [hl2]; omega)]
theorem mem_set_or {α : Type} {xs : List α} {k : Nat} {z a : α} (h : a ∈ xs) : a ∈ xs.set k z ∨ xs[k]? = some a := by
  obtain ⟨j, hj⟩ := List.mem_iff_getElem?.mp h
  by_cases e : k = j
  · subst e; exact .inr hj
  · exact .inl (List.mem_iff_getElem?.mpr ⟨j, by rw [List.getElem?_set_ne e]; exact hj⟩)
theorem mem_set_at {α : Type} {xs : List α} {k : Nat} {z : α} (h : k < xs.length) : z ∈ xs.set k z := List.mem_iff_getElem?.mpr ⟨k, by simp [h]⟩
def dearA (ask : List (Nat × Nat)) : Int := maxI (ask.map fun a => (a.1 : Int))
def dearP (p : List (List (Nat × Nat))) : Int := maxI (p.map dearA)
def dearG (g : Game) : Int := maxI (g.map dearP)
theorem dearG_le {g : Game} : ∀ p ∈ g, ∀ ask ∈ p, ∀ a ∈ ask, (a.1 : Int) ≤ dearG g := fun p hp ask ha a hm => by
  have h1 := List.mem_map_of_mem (f := dearP) hp
  have h2 := List.mem_map_of_mem (f := dearA) ha
  have h3 := List.mem_map_of_mem (f := fun a : Nat × Nat => (a.1 : Int)) hm
  have k1 := (maxI_spec (xs := g.map dearP) (by intro e; rw [e] at h1; cases h1)).2 _ h1
  have k2 := (maxI_spec (xs := p.map dearA) (by intro e; rw [e] at h2; cases h2)).2 _ h2
  have k3 := (maxI_spec (xs := ask.map fun a : Nat × Nat => (a.1 : Int)) (by intro e; rw [e] at h3; cases h3)).2 _ h3
  exact Int.le_trans k3 (Int.le_trans k2 k1)
theorem val_next {g : Game} (hg : GameOk g) (n s : Nat) (hs : s < g.length) : valR g n s ≤ valR g (n + 1) s ∧ valR g (n + 1) s ≤ valR g n s + dearG g := by
  have h := val_add hg (n := 1) (c := 0) (C := dearG g) (fun t ht => ⟨val_nonneg hg 1 t ht, by have := val_top hg dearG_le 1 t ht; simpa using this⟩) n s hs
  rw [Int.add_zero] at h
  exact h
theorem rowsI_cut {g : Game} {n m : Nat} (h : m ≤ n) : cutG (rowsI g n) none (some ((m : Int) + 1)) = rowsI g m := by
  rw [cut_hi (by omega), show ((m : Int) + 1).toNat = m + 1 by omega]
  unfold rowsI
  rw [← List.map_take, List.take_range, Nat.min_eq_left (by omega)]
theorem row_at {g : Game} {n s : Nat} {v : Int} (h : (stepRow g n)[s]? = some v) : s < g.length ∧ v = valR g n s := by
  refine ⟨by rw [← stepRow_len (g := g) n]; exact (List.getElem?_eq_some_iff.mp h).1, by unfold valR; rw [h]; rfl⟩
theorem at_rows {g : Game} {n k : Nat} (h : k ≤ n) : (rowsI g n)[k]? = some (intT (stepRow g k)) := by
  unfold rowsI; rw [List.getElem?_map, List.getElem?_range (by omega)]; rfl
theorem rows_at {g : Game} {n k : Nat} {x : D} (h : (rowsI g n)[k]? = some x) : k ≤ n ∧ x = intT (stepRow g k) := by
  obtain ⟨k', hk, rfl, _⟩ := map_at (f := fun k => intT (stepRow g k)) h
  obtain ⟨h1, h2⟩ := List.getElem?_eq_some_iff.mp hk
  simp at h1 h2
  subst h2
  exact ⟨by omega, rfl⟩
theorem rEq3_tup {f : Bool → Bool} {xs ys : List D} {k : D → Prop} (hy : ys ≠ []) (h : ((PyData.tuple xs).plain = true ∧ (PyData.tuple ys).plain = true ∧ min (PyData.tuple xs).depth (PyData.tuple ys).depth ≤ 64) ∧ k (.bool (f (PyData.eqv (.tuple xs) (.tuple ys))))) : rEq3 f (.tuple xs) (.tuple ys) k := by
  cases ys with
  | nil => exact absurd rfl hy
  | cons y r => exact ⟨h.1.1, h.1.2.1, h.1.2.2, h.2⟩
def DN (x : Option M3.W) : Prop := x = none ∨ ∃ d, x = some (.d d)
def S_lgame2 : PrmC where
  sp := sO 1 fun (ob : Ob) => sI fun (many : Int) => sI fun (asks : Int) => sI fun (answers : Int) => sI fun (top : Int) => sEnd fun Q => ∃ (c : Nat), (IsPot c ob ∧ c ≤ 10 ^ 10 ∧ (0 < many ∧ many ≤ 100) ∧ (0 < asks ∧ asks ≤ 81) ∧ (0 < answers ∧ answers ≤ 9) ∧ (0 ≤ top ∧ top ≤ 99)) ∧ ∀ (g : Game) (o : Ob), ((g.length : Int) = many ∧ GameOk g ∧ GameIn asks.toNat answers.toNat top.toNat g ∧ IsPot (c + 1000000) o) → Q (.d (gameD g)) [o]
  mono := sO.mono fun _ => sI.mono fun _ => sI.mono fun _ => sI.mono fun _ => sI.mono fun _ => sEnd.mono fun Q Q' hq ⟨c, pre, q⟩ => ⟨c, pre, fun g o h => hq _ _ (q g o h)⟩
def S_begun_at : PrmC where
  sp := sD fun (v0 : D) => sD fun (v1 : D) => sEnd fun Q => ∃ (g : Game) (p : Nat), v0 = (gameD g) ∧ v1 = (.int (p : Int)) ∧ (GameOk g ∧ p < g.length) ∧ Q (.d (gameD (begG g p))) []
  mono := sD.mono fun _ => sD.mono fun _ => sEnd.mono fun Q Q' hq ⟨g, p, e0, e1, pre, q⟩ => ⟨g, p, e0, e1, pre, hq _ _ q⟩
def S_answer_by : PrmC where
  sp := sD fun (v0 : D) => sD fun (d : D) => sEnd fun Q => ∃ (p : List (List (Nat × Nat))), v0 = (posD p) ∧ (True) ∧ ∀ (r : D), (r = ansBy p d) → Q (.d r) []
  mono := sD.mono fun _ => sD.mono fun _ => sEnd.mono fun Q Q' hq ⟨p, e0, pre, q⟩ => ⟨p, e0, pre, fun r h => hq _ _ (q r h)⟩
def S_moved : PrmC where
  sp := sD fun (v0 : D) => sD fun (v1 : D) => sEnd fun Q => ∃ (g : Game) (M : List (Nat × Nat)), v0 = (gameD g) ∧ v1 = (runD M) ∧ (GameOk g ∧ MovOk g 0 M ∧ M.length ≤ 10000) ∧ Q (.d (.tuple [.tuple (intsD (posM g 0 M)), .int ((payM g 0 M).sum : Nat)])) []
  mono := sD.mono fun _ => sD.mono fun _ => sEnd.mono fun Q Q' hq ⟨g, M, e0, e1, pre, q⟩ => ⟨g, M, e0, e1, pre, hq _ _ q⟩
/-! ### lawful runs counted -/
def optN (f : Nat → Nat) : Option Nat → Nat
  | none => 0
  | some t => f t
def rowSum (f : Nat → Nat) (row : List (Option Nat)) : Nat := (row.map (optN f)).sum
def roomSum (f : Nat → Nat) (room : List (List (Option Nat))) : Nat := (room.map (rowSum f)).sum
def cnt (S : Say) : Nat → Nat → Nat
  | 0, _ => 1
  | n + 1, r => roomSum (cnt S n) ((S.rooms[r]?).getD [])
/-! tables of numbers -/
def wgt (f : Nat → Nat) (ds : List (Nat × Nat)) : Nat := (ds.map fun p => p.2 * f p.1).sum
def tget (ds : List (Nat × Nat)) (k : Nat) : Nat := ((ds.find? fun p => decide (p.1 = k)).map (·.2)).getD 0
def tput (ds : List (Nat × Nat)) (k v : Nat) : List (Nat × Nat) := if (ds.any fun p => decide (p.1 = k)) = true then ds.map (fun p => if p.1 = k then (p.1, v) else p) else ds ++ [(k, v)]
theorem wgt_repl {f : Nat → Nat} {k v : Nat} : ∀ {ds : List (Nat × Nat)}, (∀ p ∈ ds, p.1 ≠ k) → wgt f (ds.map fun p => if p.1 = k then (p.1, v) else p) = wgt f ds
  | [], _ => rfl
  | p :: r, h => by
    have hp := h p List.mem_cons_self
    have := wgt_repl (f := f) (v := v) fun q hq => h q (List.mem_cons_of_mem _ hq)
    simp only [wgt, List.map_cons, List.sum_cons, if_neg hp] at this ⊢
    rw [this]
theorem wgt_put {f : Nat → Nat} {k w : Nat} : ∀ {ds : List (Nat × Nat)}, (ds.map (·.1)).Nodup → wgt f (tput ds k (tget ds k + w)) = wgt f ds + w * f k
  | [], _ => by simp [tput, tget, wgt]
  | p :: r, h => by
    rw [List.map_cons, List.nodup_cons] at h
    obtain ⟨h1, h2⟩ := h
    by_cases e : p.1 = k
    · have hn : ∀ q ∈ r, q.1 ≠ k := fun q hq z => h1 (List.mem_map.mpr ⟨q, hq, by rw [z, e]⟩)
      have e1 : tget (p :: r) k = p.2 := by simp [tget, List.find?_cons, e]
      have e2 := wgt_repl (f := f) (v := p.2 + w) hn
      rw [e1]
      unfold tput
      rw [if_pos (by simp [e])]
      simp only [wgt, List.map_cons, List.sum_cons, if_pos e] at e2 ⊢
      rw [e2, e, Nat.add_mul]
      omega
    · have e1 : tget (p :: r) k = tget r k := by simp [tget, List.find?_cons, e]
      have ih := wgt_put (f := f) (k := k) (w := w) h2
      rw [e1]
      unfold tput at ih ⊢
      by_cases ha : (r.any fun p => decide (p.1 = k)) = true
      · rw [if_pos ha] at ih
        rw [if_pos (by simp only [List.any_cons, ha, Bool.or_true])]
        simp only [wgt, List.map_cons, List.sum_cons, if_neg e] at ih ⊢
        rw [ih]; omega
      · rw [if_neg ha] at ih
        rw [if_neg (by simp only [List.any_cons, e, decide_false, Bool.false_or]; exact ha)]
        simp only [wgt, List.cons_append, List.map_cons, List.sum_cons] at ih ⊢
        rw [ih]; omega
theorem put_keys {k v : Nat} {ds : List (Nat × Nat)} : (tput ds k v).map (·.1) = if (ds.any fun p => decide (p.1 = k)) = true then ds.map (·.1) else ds.map (·.1) ++ [k] := by
  unfold tput
  split
  · rw [List.map_map]
    refine List.map_congr_left fun p _ => ?_
    simp only [Function.comp]
    split <;> rfl
  · simp
theorem put_nodup {k v : Nat} {ds : List (Nat × Nat)} (h : (ds.map (·.1)).Nodup) : ((tput ds k v).map (·.1)).Nodup := by
  rw [put_keys]
  split
  · exact h
  · next hn =>
    refine List.nodup_append.mpr ⟨h, by simp, fun a ha b hb e => ?_⟩
    rw [List.mem_singleton] at hb
    subst hb; subst e
    obtain ⟨p, hp, hk⟩ := List.mem_map.mp ha
    exact hn (List.any_eq_true.mpr ⟨p, hp, by simpa using hk⟩)
theorem put_lt {k v L : Nat} {ds : List (Nat × Nat)} (h : ∀ x ∈ ds.map (·.1), x < L) (hk : k < L) : ∀ x ∈ (tput ds k v).map (·.1), x < L := by
  rw [put_keys]
  split
  · exact h
  · intro x hx
    rcases List.mem_append.mp hx with z | z
    · exact h x z
    · rw [List.mem_singleton.mp z]; exact hk
theorem filt_len {L : Nat} : ∀ {xs : List Nat}, xs.Nodup → xs.length ≤ (xs.filter fun x => decide (x ≠ L)).length + 1
  | [], _ => by simp
  | x :: r, h => by
    rw [List.nodup_cons] at h
    by_cases e : x = L
    · have : r.filter (fun x => decide (x ≠ L)) = r := List.filter_eq_self.mpr fun y hy => by
        simp only [ne_eq, decide_eq_true_eq]
        intro z; rw [z, ← e] at hy; exact h.1 hy
      rw [List.filter_cons_of_neg (by simp [e]), this]; simp
    · rw [List.filter_cons_of_pos (by simp [e])]
      have := filt_len (L := L) h.2
      simp only [List.length_cons]; omega
theorem nodup_bound : ∀ (L : Nat) (xs : List Nat), xs.Nodup → (∀ x ∈ xs, x < L) → xs.length ≤ L
  | 0, [], _, _ => Nat.le_refl _
  | 0, x :: r, _, h => absurd (h x List.mem_cons_self) (by omega)
  | L + 1, xs, h, hl => by
    have h1 := filt_len (L := L) h
    have h2 := nodup_bound L (xs.filter fun x => decide (x ≠ L)) (h.filter _) fun x hx => by
      obtain ⟨a, b⟩ := List.mem_filter.mp hx
      have := hl x a
      simp at b; omega
    omega
/-! rooms named anew -/
def begS (S : Say) (g : Nat) : Say := ⟨S.signs, S.deeds, (List.range S.rooms.length).map fun k => ((S.rooms[sw g k]?).getD []).map fun row => row.map (Option.map (sw g))⟩
theorem begS_len {S : Say} {g : Nat} : (begS S g).rooms.length = S.rooms.length := by simp [begS]
theorem begS_get {S : Say} {g k : Nat} (hk : k < S.rooms.length) : (begS S g).rooms[k]? = some (((S.rooms[sw g k]?).getD []).map fun row => row.map (Option.map (sw g))) := by
  simp [begS, hk]
theorem begS_ok {S : Say} {g : Nat} (h : S.Ok) (hg : g < S.rooms.length) : (begS S g).Ok := by
  refine ⟨fun room hr => ?_, h.s1, h.s9, h.d1, h.d9, by rw [begS_len]; exact h.r1, by rw [begS_len]; exact h.r100⟩
  rw [begS_len]
  simp only [begS, List.mem_map, List.mem_range] at hr
  obtain ⟨k, hk, rfl⟩ := hr
  have hs := sw_lt hg hk
  obtain ⟨h1, h2⟩ := h.wf _ (List.getElem_mem hs)
  rw [List.getElem?_eq_getElem hs]
  refine ⟨by simpa [begS] using h1, fun row hrow => ?_⟩
  simp only [Option.getD_some, List.mem_map] at hrow
  obtain ⟨row, hrow, rfl⟩ := hrow
  obtain ⟨h3, h4⟩ := h2 row hrow
  refine ⟨by simpa [begS] using h3, fun n hn => ?_⟩
  obtain ⟨c, hc, e⟩ := List.mem_map.mp hn
  cases c with
  | none => cases e
  | some m =>
    have e' : sw g m = n := by simpa using e
    rw [← e']; exact sw_lt hg (h4 m hc)
theorem cnt_beg {S : Say} {g : Nat} (h : S.Ok) (hg : g < S.rooms.length) : ∀ n r, r < S.rooms.length → cnt (begS S g) n r = cnt S n (sw g r)
  | 0, _, _ => rfl
  | n + 1, r, hr => by
    have hs := sw_lt hg hr
    obtain ⟨h1, h2⟩ := h.wf _ (List.getElem_mem hs)
    rw [cnt, cnt, begS_get hr, List.getElem?_eq_getElem hs]
    simp only [Option.getD_some, roomSum, List.map_map]
    congr 1
    refine List.map_congr_left fun row hrow => ?_
    obtain ⟨h3, h4⟩ := h2 row hrow
    simp only [Function.comp, rowSum, List.map_map]
    congr 1
    refine List.map_congr_left fun c hc => ?_
    cases c with
    | none => rfl
    | some m =>
      simp only [Function.comp, Option.map_some, optN]
      rw [cnt_beg h hg n _ (sw_lt hg (h4 m hc)), sw_sw]
/-! all steps -/
def stepsN (s d : Nat) : List (Nat × Nat) := (List.range (s * d)).map fun a => (a / d, a % d)
theorem stepsN_flat {s d : Nat} (hd : 0 < d) : stepsN s d = (List.range s).flatMap fun i => (List.range d).map fun j => (i, j) := by
  refine List.ext_getElem? fun a => ?_
  by_cases ha : a < s * d
  · have h1 : a / d < s := (Nat.div_lt_iff_lt_mul hd).mpr ha
    have h2 : a % d < d := Nat.mod_lt _ hd
    have e : a = a / d * d + a % d := by rw [Nat.mul_comm]; exact (Nat.div_add_mod _ _).symm
    have := flat_get (f := fun i j : Nat => (i, j)) (xs := List.range s) (ys := List.range d) (s := a / d) (t := a % d) (List.getElem?_range h1) (List.getElem?_range h2)
    rw [List.length_range, ← e] at this
    rw [this]
    simp [stepsN, ha]
  · rw [List.getElem?_eq_none (by simp [stepsN]; omega), List.getElem?_eq_none (by rw [flat_len]; simp; omega)]
theorem sum_range {α : Type} {f : α → Nat} {z : α} : ∀ {xs : List α}, ((List.range xs.length).map fun i => f (xs[i]?.getD z)).sum = (xs.map f).sum
  | [] => rfl
  | x :: r => by
    rw [List.length_cons, List.range_succ_eq_map, List.map_cons, List.sum_cons, List.map_map, List.map_cons, List.sum_cons, ← sum_range (xs := r)]
    rfl
theorem sum_flat {α : Type} {f : α → Nat} {g : Nat → List α} : ∀ {xs : List Nat}, ((xs.flatMap g).map f).sum = (xs.map fun i => ((g i).map f).sum).sum
  | [] => rfl
  | x :: r => by rw [List.flatMap_cons, List.map_append, List.sum_append, sum_flat, List.map_cons, List.sum_cons]
theorem sum_steps {S : Say} (h : S.Ok) {f : Nat → Nat} {r : Nat} (hr : r < S.rooms.length) : ((stepsN S.signs.toNat S.deeds.toNat).map fun p => optN f (S.go r p.1 p.2)).sum = roomSum f ((S.rooms[r]?).getD []) := by
  obtain ⟨h1, h2⟩ := h.wf _ (List.getElem_mem hr)
  have hd1 := h.d1
  rw [stepsN_flat (by omega), sum_flat]
  unfold roomSum
  rw [List.getElem?_eq_getElem hr, Option.getD_some, ← sum_range (z := [])]
  rw [show S.signs.toNat = (S.rooms[r]).length by omega]
  congr 1
  refine List.map_congr_left fun i hi => ?_
  have hi := List.mem_range.mp hi
  obtain ⟨h3, _⟩ := h2 _ (List.getElem_mem hi)
  rw [List.getElem?_eq_getElem hi, Option.getD_some]
  unfold rowSum
  rw [← sum_range (z := none), List.map_map]
  rw [show S.deeds.toNat = ((S.rooms[r])[i]).length by omega]
  congr 1
  refine List.map_congr_left fun j hj => ?_
  simp [Function.comp, Say.go, List.getElem?_eq_getElem hr, List.getElem?_eq_getElem hi]
/-! all runs -/
def allR (st : List (Nat × Nat)) : Nat → List (List (Nat × Nat))
  | 0 => [[]]
  | n + 1 => (allR st n).flatMap fun run => st.map fun p => run ++ [p]
def endR (S : Say) : Nat → List (Nat × Nat) → Option Nat
  | r, [] => some r
  | r, p :: ps => match S.go r p.1 p.2 with | none => none | some r' => endR S r' ps
theorem brk_endR {S : Say} : ∀ (R : List (Nat × Nat)) (r : Nat), (Say.brk S r R).isNone = (endR S r R).isSome
  | [], _ => rfl
  | p :: ps, r => by
    unfold Say.brk endR
    cases S.go r p.1 p.2 with
    | none => rfl
    | some r' => simp only; rw [← brk_endR ps r']; cases Say.brk S r' ps <;> rfl
theorem endR_snoc {S : Say} : ∀ (R : List (Nat × Nat)) (r : Nat) (p : Nat × Nat), endR S r (R ++ [p]) = (endR S r R).bind fun r' => S.go r' p.1 p.2
  | [], r, p => by simp only [List.nil_append, endR, Option.bind_some]; cases S.go r p.1 p.2 <;> rfl
  | q :: ps, r, p => by
    simp only [List.cons_append, endR]
    cases S.go r q.1 q.2 with
    | none => rfl
    | some r' => exact endR_snoc ps r' p
theorem go_lt {S : Say} (h : S.Ok) {r s d n : Nat} (e : S.go r s d = some n) : n < S.rooms.length := by
  unfold Say.go at e
  cases e1 : S.rooms[r]? with
  | none => rw [e1] at e; simp at e
  | some room =>
    rw [e1] at e
    simp only [Option.getD_some] at e
    cases e2 : room[s]? with
    | none => rw [e2] at e; simp at e
    | some row =>
      rw [e2] at e
      simp only [Option.getD_some] at e
      cases e3 : row[d]? with
      | none => rw [e3] at e; simp at e
      | some c =>
        rw [e3] at e
        simp only [Option.getD_some] at e
        subst e
        exact ((h.wf _ (List.mem_of_getElem? e1)).2 _ (List.mem_of_getElem? e2)).2 n (List.mem_of_getElem? e3)
theorem endR_lt {S : Say} (h : S.Ok) : ∀ (R : List (Nat × Nat)) (r n : Nat), r < S.rooms.length → endR S r R = some n → n < S.rooms.length
  | [], r, n, hr, e => by cases e; exact hr
  | p :: ps, r, n, hr, e => by
    unfold endR at e
    cases e1 : S.go r p.1 p.2 with
    | none => rw [e1] at e; cases e
    | some r' => rw [e1] at e; exact endR_lt h ps r' n (go_lt h e1) e
theorem sum_flat' {α β : Type} {f : β → Nat} {g : α → List β} : ∀ {xs : List α}, ((xs.flatMap g).map f).sum = (xs.map fun i => ((g i).map f).sum).sum
  | [] => rfl
  | x :: r => by rw [List.flatMap_cons, List.map_append, List.sum_append, sum_flat', List.map_cons, List.sum_cons]
theorem cnt_all {S : Say} (h : S.Ok) : ∀ n m, ((allR (stepsN S.signs.toNat S.deeds.toNat) n).map fun R => optN (cnt S m) (endR S 0 R)).sum = cnt S (n + m) 0
  | 0, m => by simp [allR, endR, optN]
  | n + 1, m => by
    rw [show n + 1 + m = n + (m + 1) by omega, ← cnt_all h n (m + 1), allR, sum_flat']
    congr 1
    refine List.map_congr_left fun R _ => ?_
    rw [List.map_map]
    cases e : endR S 0 R with
    | none =>
      have : (List.map ((fun R => optN (cnt S m) (endR S 0 R)) ∘ fun p => R ++ [p]) (stepsN S.signs.toNat S.deeds.toNat)) = (stepsN S.signs.toNat S.deeds.toNat).map fun _ => 0 := List.map_congr_left fun p _ => by
        simp only [Function.comp]; rw [endR_snoc, e]; rfl
      rw [this]
      generalize stepsN S.signs.toNat S.deeds.toNat = xs
      induction xs with
      | nil => rfl
      | cons x r ih => simp only [List.map_cons, List.sum_cons, optN] at ih ⊢; omega
    | some r =>
      have hr := endR_lt h R 0 r (by have := h.r1; omega) e
      have : (List.map ((fun R => optN (cnt S m) (endR S 0 R)) ∘ fun p => R ++ [p]) (stepsN S.signs.toNat S.deeds.toNat)) = (stepsN S.signs.toNat S.deeds.toNat).map fun p => optN (cnt S m) (S.go r p.1 p.2) := List.map_congr_left fun p _ => by
        simp only [Function.comp]; rw [endR_snoc, e]; rfl
      rw [this, sum_steps h hr]
      rfl
theorem filter_len {α : Type} {p : α → Bool} : ∀ {xs : List α}, (xs.filter p).length = (xs.map fun x => if p x = true then 1 else 0).sum
  | [] => rfl
  | x :: r => by
    rw [List.map_cons, List.sum_cons, ← filter_len (xs := r)]
    cases e : p x with
    | true => rw [List.filter_cons_of_pos e]; simp; omega
    | false => rw [List.filter_cons_of_neg (by simp [e])]; simp
theorem cnt_whole {S : Say} (h : S.Ok) (n : Nat) : ((allR (stepsN S.signs.toNat S.deeds.toNat) n).filter fun R => (Say.brk S 0 R).isNone).length = cnt S n 0 := by
  rw [filter_len, ← Nat.add_zero n, ← cnt_all h n 0, Nat.add_zero]
  congr 1
  refine List.map_congr_left fun R _ => ?_
  rw [brk_endR]
  cases endR S 0 R with
  | none => rfl
  | some r => rfl
theorem allR_len {st : List (Nat × Nat)} : ∀ n, (allR st n).length = st.length ^ n
  | 0 => rfl
  | n + 1 => by rw [allR, flat_len, allR_len n, Nat.pow_succ]
theorem allR_mem {st : List (Nat × Nat)} : ∀ n, ∀ R ∈ allR st n, R.length = n ∧ ∀ p ∈ R, p ∈ st
  | 0, R, h => by rw [List.mem_singleton.mp h]; exact ⟨rfl, by simp⟩
  | n + 1, R, h => by
    obtain ⟨R', h1, h2⟩ := List.mem_flatMap.mp h
    obtain ⟨p, hp, rfl⟩ := List.mem_map.mp h2
    obtain ⟨k1, k2⟩ := allR_mem n R' h1
    refine ⟨by simp [k1], fun q hq => ?_⟩
    rcases List.mem_append.mp hq with z | z
    · exact k2 q z
    · rw [List.mem_singleton.mp z]; exact hp
theorem stepsN_mem {s d : Nat} (hd : 0 < d) {p : Nat × Nat} (h : p ∈ stepsN s d) : p.1 < s ∧ p.2 < d := by
  obtain ⟨a, ha, rfl⟩ := List.mem_map.mp h
  exact ⟨(Nat.div_lt_iff_lt_mul hd).mpr (List.mem_range.mp ha), Nat.mod_lt _ hd⟩
def dctD (ds : List (Nat × Nat)) : List (D × D) := ds.map fun p => (PyData.int (p.1 : Int), PyData.int (p.2 : Int))
theorem dct_get {ds : List (Nat × Nat)} {k : Nat} : (dgetD (dctD ds) (.int (k : Int))).getD (.int 0) = .int ((tget ds k : Nat) : Int) := by
  unfold dgetD dctD tget
  induction ds with
  | nil => rfl
  | cons p r ih =>
    rw [List.map_cons, List.find?_cons, List.find?_cons]
    by_cases e : p.1 = k
    · simp [keyEq, e]
    · have e' : ¬ (p.1 : Int) = (k : Int) := by omega
      simp only [keyEq, e, e', decide_false]
      exact ih
theorem dct_put {ds : List (Nat × Nat)} {k v : Nat} : dputD (dctD ds) (.int (k : Int)) (.int (v : Int)) = dctD (tput ds k v) := by
  have e : ∀ p : Nat × Nat, keyEq (.int (p.1 : Int)) (.int (k : Int)) = decide (p.1 = k) := fun p => by simp only [keyEq]; congr 1; rw [Int.ofNat_inj]
  unfold dputD dctD tput
  rw [List.any_map]
  have ha : (ds.any ((fun kv : D × D => keyEq kv.1 (.int (k : Int))) ∘ fun p => (PyData.int (p.1 : Int), PyData.int (p.2 : Int)))) = ds.any fun p => decide (p.1 = k) := by
    congr 1; funext p; exact e p
  rw [ha]
  split
  · rw [List.map_map, List.map_map]
    refine List.map_congr_left fun p _ => ?_
    simp only [Function.comp, e, decide_eq_true_eq]
    split <;> rfl
  · simp
theorem dct_len {ds : List (Nat × Nat)} : (dctD ds).length = ds.length := by simp [dctD]
theorem dct_at {ds : List (Nat × Nat)} {i : Nat} {k v : D} (h : (dctD ds)[i]? = some (k, v)) : ∃ p, ds[i]? = some p ∧ k = .int (p.1 : Int) ∧ v = .int (p.2 : Int) ∧ p ∈ ds := by
  unfold dctD at h
  rw [List.getElem?_map] at h
  cases e : ds[i]? with
  | none => rw [e] at h; cases h
  | some p => rw [e] at h; cases h; exact ⟨p, rfl, rfl, rfl, List.mem_of_getElem? e⟩
theorem wgt_succ {f : Nat → Nat} {ds : List (Nat × Nat)} {i : Nat} {p : Nat × Nat} (h : ds[i]? = some p) : wgt f (ds.take (i + 1)) = wgt f (ds.take i) + p.2 * f p.1 := by
  unfold wgt
  rw [List.take_succ, h]; simp
theorem sum_succ {α : Type} {f : α → Nat} {xs : List α} {i : Nat} {x : α} (h : xs[i]? = some x) : ((xs.take (i + 1)).map f).sum = ((xs.take i).map f).sum + f x := by
  rw [List.take_succ, h]; simp
theorem wgt_one {S : Say} {ds : List (Nat × Nat)} : wgt (cnt S 0) ds = (ds.map (·.2)).sum := by
  unfold wgt
  congr 1
  refine List.map_congr_left fun p _ => ?_
  simp [cnt]
def S_many_lawful : PrmC where
  sp := sD fun (v0 : D) => sI fun (i : Int) => sEnd fun Q => ∃ (S : Say), v0 = S.d ∧ (S.Ok ∧ 0 ≤ i ∧ i ≤ 60) ∧ Q (.d (.int ((cnt S i.toNat 0 : Nat) : Int))) []
  mono := sD.mono fun _ => sI.mono fun _ => sEnd.mono fun Q Q' hq ⟨S, e0, pre, q⟩ => ⟨S, e0, pre, hq _ _ q⟩
/-! ### watchers -/
structure Wat where
  signs : Int
  deeds : Int
  states : Game
def Wat.d (W : Wat) : D := .tuple [.int W.signs, .int W.deeds, .tuple (W.states.map posD)]
def Wat.Wf (W : Wat) : Prop := ∀ st ∈ W.states, (st.length : Int) = W.signs ∧ ∀ row ∈ st, (row.length : Int) = W.deeds ∧ ∀ p ∈ row, (p.1 : Int) < W.deeds ∧ p.2 < W.states.length
structure Wat.Ok (W : Wat) : Prop where
  wf : W.Wf
  s1 : 1 ≤ W.signs
  s9 : W.signs ≤ 9
  d1 : 1 ≤ W.deeds
  d9 : W.deeds ≤ 9
  r1 : 1 ≤ W.states.length
  r100 : W.states.length ≤ 100
def wrowB (n m : Int) (d : D) : Bool := match d with | .tuple cs => decide ((cs.length : Int) = n) && cs.all (stepB n m) | _ => false
def stateB (s n m : Int) (d : D) : Bool := match d with | .tuple rs => decide ((rs.length : Int) = s) && rs.all (wrowB n m) | _ => false
def watB (d : D) : Bool := match d with
  | .tuple [x, y, .tuple sts] => isC x && isC y && (decide (1 ≤ (sts.length : Int)) && decide ((sts.length : Int) ≤ 100)) && sts.all (stateB (intOf x) (intOf y) sts.length)
  | _ => false
theorem not_three_w {d : D} (h : isRw d 3 = false) : watB d = false := by
  unfold watB
  split
  · exact Bool.noConfusion (show true = false from h)
  · rfl
def S_is_cell : PrmC where
  sp := sD fun (d : D) => sI fun (n : Int) => sI fun (m : Int) => sEnd fun Q => (True) ∧ Q (.d (.bool (stepB n m d))) []
  mono := sD.mono fun _ => sI.mono fun _ => sI.mono fun _ => sEnd.mono fun Q Q' hq ⟨pre, q⟩ => ⟨pre, hq _ _ q⟩
def S_is_state : PrmC where
  sp := sD fun (d : D) => sI fun (s1 : Int) => sI fun (n1 : Int) => sI fun (m1 : Int) => sEnd fun Q => (n1 ≤ 1000) ∧ Q (.d (.bool (stateB s1 n1 m1 d))) []
  mono := sD.mono fun _ => sI.mono fun _ => sI.mono fun _ => sI.mono fun _ => sEnd.mono fun Q Q' hq ⟨pre, q⟩ => ⟨pre, hq _ _ q⟩
def S_is_watcher : PrmC where
  sp := sD fun (d : D) => sEnd fun Q => (True) ∧ Q (.d (.bool (watB d))) []
  mono := sD.mono fun _ => sEnd.mono fun Q Q' hq ⟨pre, q⟩ => ⟨pre, hq _ _ q⟩
def S_lwatcher : PrmC where
  sp := sO 1 fun (ob : Ob) => sI fun (signs : Int) => sI fun (deeds : Int) => sI fun (states : Int) => sI fun (rate : Int) => sEnd fun Q => ∃ (c : Nat), (IsPot c ob ∧ c ≤ 10 ^ 10 ∧ (0 ≤ signs ∧ signs ≤ 10) ∧ (0 < deeds ∧ deeds ≤ 10) ∧ (0 < states ∧ states ≤ 200) ∧ (0 < rate ∧ rate ≤ 1000)) ∧ ∀ (st : Game) (o : Ob), ((st.length : Int) = states ∧ Wat.Wf ⟨signs, deeds, st⟩ ∧ IsPot (c + 1000000) o) → Q (.d (Wat.d ⟨signs, deeds, st⟩)) [o]
  mono := sO.mono fun _ => sI.mono fun _ => sI.mono fun _ => sI.mono fun _ => sI.mono fun _ => sEnd.mono fun Q Q' hq ⟨c, pre, q⟩ => ⟨c, pre, fun st o h => hq _ _ (q st o h)⟩
/-! ### prices -/
def priceB (own : Bool) (d : D) : Bool := if own then (match d with | .int i => decide (i = 0) | _ => false) else (isNone d || isBt d 1 99)
def prowB (n : Int) (w : Nat) (d : D) : Bool := match d with | .tuple xs => decide ((xs.length : Int) = n) && (xs.zipIdx.all fun p => priceB (decide (p.2 = w)) p.1) | _ => false
def pricesB (n : Int) (d : D) : Bool := match d with | .none => true | .tuple rs => decide ((rs.length : Int) = n) && (rs.zipIdx.all fun p => prowB n p.2 p.1) | _ => false
abbrev Prc := Option (List (List (Option Nat)))
def prcD : Prc → D
  | none => .none
  | some tb => roomD tb
def priceOk (own : Bool) (c : Option Nat) : Prop := if own then c = some 0 else ∀ n, c = some n → 1 ≤ n ∧ n ≤ 99
def PrcOk (n : Int) : Prc → Prop
  | none => True
  | some tb => (tb.length : Int) = n ∧ ∀ (w : Nat) (row : List (Option Nat)), tb[w]? = some row → (row.length : Int) = n ∧ ∀ (g : Nat) (c : Option Nat), row[g]? = some c → priceOk (decide (g = w)) c
def priceOf (p : Prc) (w g : Nat) : Option Nat := match p with
  | none => some (if w = g then 0 else 1)
  | some tb => ((tb[w]?).getD [])[g]?.getD none
theorem snoc_get {α : Type} {xs : List α} {y x : α} {i : Nat} (h : (xs ++ [y])[i]? = some x) : (xs[i]? = some x) ∨ (i = xs.length ∧ x = y) := by
  by_cases e : i < xs.length
  · rw [List.getElem?_append_left e] at h; exact .inl h
  · have h1 := (List.getElem?_eq_some_iff.mp h).1
    have e2 : i = xs.length := by simp at h1; omega
    rw [List.getElem?_append_right (by omega), e2] at h
    simp at h
    exact .inr ⟨e2, h.symm⟩
theorem priceB_cell {own : Bool} {c : Option Nat} : priceB own (cellD c) = true ↔ priceOk own c := by
  unfold priceB priceOk
  cases own
  · simp only [Bool.false_eq_true, if_false]
    cases c with
    | none => simp [cellD, isNone]
    | some n => simp [cellD, isNone, isBt]; omega
  · simp only [if_true]
    cases c with
    | none => simp [cellD]
    | some n => simp [cellD]
theorem zipIdx_all {α : Type} {xs : List α} {p : α × Nat → Bool} : xs.zipIdx.all p = true ↔ ∀ i x, xs[i]? = some x → p (x, i) = true := by
  rw [List.all_eq_true]
  constructor
  · intro h i x hx
    exact h (x, i) (List.mk_mem_zipIdx_iff_getElem?.mpr hx)
  · rintro h ⟨x, i⟩ hx
    exact h i x (List.mk_mem_zipIdx_iff_getElem?.mp hx)
theorem pricesB_prc {n : Int} {p : Prc} (h : PrcOk n p) : pricesB n (prcD p) = true := by
  cases p with
  | none => rfl
  | some tb =>
    obtain ⟨h1, h2⟩ := h
    simp only [prcD, roomD, pricesB, List.length_map, h1, decide_true, Bool.true_and, zipIdx_all]
    intro w x hx
    obtain ⟨row, hr, rfl, _⟩ := map_at hx
    obtain ⟨k1, k2⟩ := h2 w row hr
    simp only [prowB, rowD, List.length_map, k1, decide_true, Bool.true_and, zipIdx_all]
    intro g y hy
    obtain ⟨c, hc, rfl, _⟩ := map_at hy
    exact priceB_cell.mpr (k2 g c hc)
theorem price_at {n : Int} {tb : List (List (Option Nat))} (h : PrcOk n (some tb)) {w g : Nat} (hw : (w : Int) < n) (hg : (g : Int) < n) : ∃ row, atI (tb.map rowD) (w : Int) = some (rowD row) ∧ atI (row.map cellD) (g : Int) = some (cellD (priceOf (some tb) w g)) := by
  obtain ⟨h1, h2⟩ := h
  obtain ⟨row, a1, a2⟩ := atI_map (f := rowD) (xs := tb) (i := (w : Int)) (by omega) (by omega)
  have a2' : tb[w]? = some row := by simpa using a2
  obtain ⟨k1, k2⟩ := h2 w row a2'
  obtain ⟨c, b1, b2⟩ := atI_map (f := cellD) (xs := row) (i := (g : Int)) (by omega) (by omega)
  have b2' : row[g]? = some c := by simpa using b2
  exact ⟨row, a1, by rw [b1]; simp [priceOf, a2', b2']⟩
def S_is_price : PrmC where
  sp := sD fun (d : D) => sD fun (v1 : D) => sEnd fun Q => ∃ (own : Bool), v1 = (.bool own) ∧ (True) ∧ Q (.d (.bool (priceB own d))) []
  mono := sD.mono fun _ => sD.mono fun _ => sEnd.mono fun Q Q' hq ⟨own, e0, pre, q⟩ => ⟨own, e0, pre, hq _ _ q⟩
def S_are_prices : PrmC where
  sp := sI fun (n : Int) => sD fun (d : D) => sEnd fun Q => (n ≤ 1000) ∧ Q (.d (.bool (pricesB n d))) []
  mono := sI.mono fun _ => sD.mono fun _ => sEnd.mono fun Q Q' hq ⟨pre, q⟩ => ⟨pre, hq _ _ q⟩
def S_need_prices : PrmC where
  sp := sI fun (n : Int) => sD fun (d : D) => sEnd fun Q => (n ≤ 1000 ∧ pricesB n d = true) ∧ Q (.d .none) []
  mono := sI.mono fun _ => sD.mono fun _ => sEnd.mono fun Q Q' hq ⟨pre, q⟩ => ⟨pre, hq _ _ q⟩
def S_cost : PrmC where
  sp := sD fun (v0 : D) => sD fun (v1 : D) => sD fun (v2 : D) => sEnd fun Q => ∃ (p : Prc) (n : Int) (w : Nat) (g : Nat), v0 = (prcD p) ∧ v1 = (.int (w : Int)) ∧ v2 = (.int (g : Int)) ∧ (PrcOk n p ∧ (w : Int) < n ∧ (g : Int) < n) ∧ Q (.d (cellD (priceOf p w g))) []
  mono := sD.mono fun _ => sD.mono fun _ => sD.mono fun _ => sEnd.mono fun Q Q' hq ⟨p, n, w, g, e0, e1, e2, pre, q⟩ => ⟨p, n, w, g, e0, e1, e2, pre, hq _ _ q⟩
def S_need_watcher : PrmC where
  sp := sD fun (d : D) => sEnd fun Q => (watB d = true) ∧ Q (.d .none) []
  mono := sD.mono fun _ => sEnd.mono fun Q Q' hq ⟨pre, q⟩ => ⟨pre, hq _ _ q⟩
/-! ### watchers walked -/
def Wat.get (W : Wat) (s sg d : Nat) : Nat × Nat := ((((W.states[s]?).getD [])[sg]?).getD [])[d]?.getD (0, 0)
abbrev Quad := Nat × Nat × Nat × Nat
def quadD (q : Quad) : D := .tuple [.int (q.1 : Int), .int (q.2.1 : Int), .int (q.2.2.1 : Int), .int (q.2.2.2 : Int)]
def stepsW (W : Wat) : Nat → List (Nat × Nat) → List Quad
  | _, [] => []
  | s, p :: ps => (p.1, p.2, W.get s p.1 p.2) :: stepsW W (W.get s p.1 p.2).2 ps
theorem Wat.watB {W : Wat} (h : W.Ok) : M3.watB W.d = true := by
  simp only [M3.watB, Wat.d, isC, intOf, Bool.and_eq_true, decide_eq_true_eq, List.length_map, List.all_map, List.all_eq_true]
  refine ⟨⟨⟨⟨h.s1, h.s9⟩, h.d1, h.d9⟩, by have := h.r1; omega, by have := h.r100; omega⟩, fun st hs => ?_⟩
  obtain ⟨h1, h2⟩ := h.wf st hs
  simp only [Function.comp, stateB, posD, List.length_map, h1, decide_true, Bool.true_and, List.all_map, List.all_eq_true]
  intro row hr
  obtain ⟨h3, h4⟩ := h2 row hr
  simp only [Function.comp, wrowB, runD, List.length_map, h3, decide_true, Bool.true_and, List.all_map, List.all_eq_true]
  intro p hp
  exact stepB_step.mpr ⟨(h4 p hp).1, by have := (h4 p hp).2; omega⟩
theorem get_at {W : Wat} (h : W.Wf) {s sg d : Nat} (hs : s < W.states.length) (hg : (sg : Int) < W.signs) (hd : (d : Int) < W.deeds) : ∃ st row, atI (W.states.map posD) (s : Int) = some (posD st) ∧ atI (st.map runD) (sg : Int) = some (runD row) ∧ atI (row.map stepD) (d : Int) = some (stepD (W.get s sg d)) ∧ ((W.get s sg d).1 : Int) < W.deeds ∧ (W.get s sg d).2 < W.states.length := by
  obtain ⟨st, a1, a2⟩ := atI_map (f := posD) (xs := W.states) (i := (s : Int)) (by omega) (by omega)
  have a2' : W.states[s]? = some st := by simpa using a2
  obtain ⟨k1, k2⟩ := h st (List.mem_of_getElem? a2')
  obtain ⟨row, b1, b2⟩ := atI_map (f := runD) (xs := st) (i := (sg : Int)) (by omega) (by omega)
  have b2' : st[sg]? = some row := by simpa using b2
  obtain ⟨k3, k4⟩ := k2 row (List.mem_of_getElem? b2')
  obtain ⟨p, c1, c2⟩ := atI_map (f := stepD) (xs := row) (i := (d : Int)) (by omega) (by omega)
  have c2' : row[d]? = some p := by simpa using c2
  have e : W.get s sg d = p := by simp [Wat.get, a2', b2', c2']
  obtain ⟨k5, k6⟩ := k4 p (List.mem_of_getElem? c2')
  exact ⟨st, row, a1, b1, by rw [e]; exact c1, by rw [e]; exact k5, by rw [e]; exact k6⟩
theorem stepsW_len {W : Wat} : ∀ (R : List (Nat × Nat)) (s : Nat), (stepsW W s R).length = R.length
  | [], _ => rfl
  | p :: ps, s => by simp [stepsW, stepsW_len ps]
theorem stepsW_ok {W : Wat} (h : W.Wf) : ∀ (R : List (Nat × Nat)) (s : Nat), s < W.states.length → RunOk W.signs W.deeds R → ∀ q ∈ stepsW W s R, (q.1 : Int) < W.signs ∧ (q.2.1 : Int) < W.deeds ∧ (q.2.2.1 : Int) < W.deeds
  | [], _, _, _, q, hq => by cases hq
  | p :: ps, s, hs, hR, q, hq => by
    obtain ⟨h1, h2⟩ := hR p List.mem_cons_self
    obtain ⟨st, row, _, _, _, e4, e5⟩ := get_at h hs h1 h2
    rcases List.mem_cons.mp hq with rfl | hq
    · exact ⟨h1, h2, e4⟩
    · exact stepsW_ok h ps _ e5 (fun p hp => hR p (List.mem_cons_of_mem _ hp)) q hq
def costS (p : Prc) : List Quad → Option Nat
  | [] => some 0
  | q :: r => match priceOf p q.2.1 q.2.2.1 with | none => none | some a => (costS p r).map (a + ·)
def changesI : Nat → List Quad → List Nat
  | _, [] => []
  | k, q :: r => if q.2.2.1 = q.2.1 then changesI (k + 1) r else k :: changesI (k + 1) r
theorem changesI_len : ∀ (xs : List Quad) (k : Nat), (changesI k xs).length ≤ xs.length
  | [], _ => Nat.le_refl _
  | q :: r, k => by
    unfold changesI
    have := changesI_len r (k + 1)
    split
    · simp; omega
    · simp; omega
def mendR (st : List Quad) : List (Nat × Nat) := st.map fun q => (q.1, q.2.2.1)
def statesR (st : List Quad) : List Nat := st.map fun q => q.2.2.2
def letRow (j : Int) : List (Nat × Nat) := (List.range j.toNat).map fun d => (d, 0)
def letS (i j : Int) : Wat := ⟨i, j, [List.replicate i.toNat (letRow j)]⟩
def S_letting : PrmC where
  sp := sI fun (i : Int) => sI fun (j : Int) => sEnd fun Q => ((1 ≤ i ∧ i ≤ 9) ∧ (1 ≤ j ∧ j ≤ 9)) ∧ Q (.d (letS i j).d) []
  mono := sI.mono fun _ => sI.mono fun _ => sEnd.mono fun Q Q' hq ⟨pre, q⟩ => ⟨pre, hq _ _ q⟩
def S_steps_by : PrmC where
  sp := sD fun (v0 : D) => sD fun (v1 : D) => sEnd fun Q => ∃ (W : Wat) (R : List (Nat × Nat)), v0 = W.d ∧ v1 = (runD R) ∧ (W.Ok ∧ RunOk W.signs W.deeds R ∧ R.length ≤ 10000) ∧ Q (.own (.lst ((stepsW W 0 R).map quadD))) []
  mono := sD.mono fun _ => sD.mono fun _ => sEnd.mono fun Q Q' hq ⟨W, R, e0, e1, pre, q⟩ => ⟨W, R, e0, e1, pre, hq _ _ q⟩
def S_cost_of : PrmC where
  sp := sD fun (v0 : D) => sD fun (v1 : D) => sD fun (v2 : D) => sEnd fun Q => ∃ (W : Wat) (R : List (Nat × Nat)) (p : Prc), v0 = W.d ∧ v1 = (runD R) ∧ v2 = (prcD p) ∧ (W.Ok ∧ RunOk W.signs W.deeds R ∧ R.length ≤ 10000 ∧ PrcOk W.deeds p) ∧ Q (.d (cellD (costS p (stepsW W 0 R)))) []
  mono := sD.mono fun _ => sD.mono fun _ => sD.mono fun _ => sEnd.mono fun Q Q' hq ⟨W, R, p, e0, e1, e2, pre, q⟩ => ⟨W, R, p, e0, e1, e2, pre, hq _ _ q⟩
def S_mended : PrmC where
  sp := sD fun (v0 : D) => sD fun (v1 : D) => sEnd fun Q => ∃ (W : Wat) (R : List (Nat × Nat)), v0 = W.d ∧ v1 = (runD R) ∧ (W.Ok ∧ RunOk W.signs W.deeds R ∧ R.length ≤ 10000) ∧ Q (.d (runD (mendR (stepsW W 0 R)))) []
  mono := sD.mono fun _ => sD.mono fun _ => sEnd.mono fun Q Q' hq ⟨W, R, e0, e1, pre, q⟩ => ⟨W, R, e0, e1, pre, hq _ _ q⟩
def S_states_of : PrmC where
  sp := sD fun (v0 : D) => sD fun (v1 : D) => sEnd fun Q => ∃ (W : Wat) (R : List (Nat × Nat)), v0 = W.d ∧ v1 = (runD R) ∧ (W.Ok ∧ RunOk W.signs W.deeds R ∧ R.length ≤ 10000) ∧ Q (.d (.tuple (intsD (0 :: statesR (stepsW W 0 R))))) []
  mono := sD.mono fun _ => sD.mono fun _ => sEnd.mono fun Q Q' hq ⟨W, R, e0, e1, pre, q⟩ => ⟨W, R, e0, e1, pre, hq _ _ q⟩
def S_changed_at : PrmC where
  sp := sD fun (v0 : D) => sD fun (v1 : D) => sEnd fun Q => ∃ (W : Wat) (R : List (Nat × Nat)), v0 = W.d ∧ v1 = (runD R) ∧ (W.Ok ∧ RunOk W.signs W.deeds R ∧ R.length ≤ 10000) ∧ Q (.d (.tuple (intsD (changesI 0 (stepsW W 0 R))))) []
  mono := sD.mono fun _ => sD.mono fun _ => sEnd.mono fun Q Q' hq ⟨W, R, e0, e1, pre, q⟩ => ⟨W, R, e0, e1, pre, hq _ _ q⟩
/-! ### machines -/
structure Mac where
  signs : Int
  deeds : Int
  rooms : List (List (Nat × Nat))
def Mac.d (M : Mac) : D := .tuple [.int M.signs, .int M.deeds, .tuple (M.rooms.map runD)]
def Mac.Wf (M : Mac) : Prop := ∀ row ∈ M.rooms, (row.length : Int) = M.signs ∧ ∀ p ∈ row, (p.1 : Int) < M.deeds ∧ p.2 < M.rooms.length
structure Mac.Ok (M : Mac) : Prop where
  wf : M.Wf
  s1 : 1 ≤ M.signs
  s9 : M.signs ≤ 9
  d1 : 1 ≤ M.deeds
  d9 : M.deeds ≤ 9
  r1 : 1 ≤ M.rooms.length
  r100 : M.rooms.length ≤ 100
def mrowB (s n m : Int) (d : D) : Bool := match d with | .tuple cs => decide ((cs.length : Int) = s) && cs.all (stepB n m) | _ => false
def macB (d : D) : Bool := match d with
  | .tuple [x, y, .tuple sts] => isC x && isC y && (decide (1 ≤ (sts.length : Int)) && decide ((sts.length : Int) ≤ 100)) && sts.all (mrowB (intOf x) (intOf y) sts.length)
  | _ => false
theorem not_three_m {d : D} (h : isRw d 3 = false) : macB d = false := by
  unfold macB
  split
  · exact Bool.noConfusion (show true = false from h)
  · rfl
theorem Mac.macB {M : Mac} (h : M.Ok) : M3.macB M.d = true := by
  simp only [M3.macB, Mac.d, isC, intOf, Bool.and_eq_true, decide_eq_true_eq, List.length_map, List.all_map, List.all_eq_true]
  refine ⟨⟨⟨⟨h.s1, h.s9⟩, h.d1, h.d9⟩, by have := h.r1; omega, by have := h.r100; omega⟩, fun row hr => ?_⟩
  obtain ⟨h3, h4⟩ := h.wf row hr
  simp only [Function.comp, mrowB, runD, List.length_map, h3, decide_true, Bool.true_and, List.all_map, List.all_eq_true]
  intro p hp
  exact stepB_step.mpr ⟨(h4 p hp).1, by have := (h4 p hp).2; omega⟩
def Mac.get (M : Mac) (r sg : Nat) : Nat × Nat := ((M.rooms[r]?).getD [])[sg]?.getD (0, 0)
theorem mget_at {M : Mac} (h : M.Wf) {r sg : Nat} (hr : r < M.rooms.length) (hg : (sg : Int) < M.signs) : ∃ row, atI (M.rooms.map runD) (r : Int) = some (runD row) ∧ M.rooms[r]? = some row ∧ (row.length : Int) = M.signs ∧ atI (row.map stepD) (sg : Int) = some (stepD (M.get r sg)) ∧ ((M.get r sg).1 : Int) < M.deeds ∧ (M.get r sg).2 < M.rooms.length := by
  obtain ⟨row, a1, a2⟩ := atI_map (f := runD) (xs := M.rooms) (i := (r : Int)) (by omega) (by omega)
  have a2' : M.rooms[r]? = some row := by simpa using a2
  obtain ⟨k1, k2⟩ := h row (List.mem_of_getElem? a2')
  obtain ⟨p, c1, c2⟩ := atI_map (f := stepD) (xs := row) (i := (sg : Int)) (by omega) (by omega)
  have c2' : row[sg]? = some p := by simpa using c2
  have e : M.get r sg = p := by simp [Mac.get, a2', c2']
  obtain ⟨k5, k6⟩ := k2 p (List.mem_of_getElem? c2')
  exact ⟨row, a1, a2', k1, by rw [e]; exact c1, by rw [e]; exact k5, by rw [e]; exact k6⟩
def runM (M : Mac) : Nat → List Nat → List (Nat × Nat)
  | _, [] => []
  | r, x :: xs => (x, (M.get r x).1) :: runM M (M.get r x).2 xs
theorem runM_len {M : Mac} : ∀ (xs : List Nat) (r : Nat), (runM M r xs).length = xs.length
  | [], _ => rfl
  | x :: xs, r => by simp [runM, runM_len xs]
theorem runM_ok {M : Mac} (h : M.Wf) : ∀ (xs : List Nat) (r : Nat), r < M.rooms.length → (∀ x ∈ xs, (x : Int) < M.signs) → RunOk M.signs M.deeds (runM M r xs)
  | [], _, _, _ => fun p hp => by cases hp
  | x :: xs, r, hr, hx => fun p hp => by
    obtain ⟨row, _, _, _, _, e1, e2⟩ := mget_at h hr (hx x List.mem_cons_self)
    rcases List.mem_cons.mp hp with rfl | hp
    · exact ⟨hx x List.mem_cons_self, e1⟩
    · exact runM_ok h xs _ e2 (fun y hy => hx y (List.mem_cons_of_mem _ hy)) p hp
/-! ### numbered as they first come -/
def idxP {α : Type} [DecidableEq α] (xs : List α) (x : α) : Nat := xs.idxOf x
def placesD {α : Type} (f : α → D) : Nat → List α → List (D × D)
  | _, [] => []
  | k, a :: r => (f a, .int (k : Int)) :: placesD f (k + 1) r
theorem placesD_len {α : Type} {f : α → D} : ∀ (xs : List α) (k : Nat), (placesD f k xs).length = xs.length
  | [], _ => rfl
  | a :: r, k => by simp [placesD, placesD_len r]
theorem place_get {α : Type} [DecidableEq α] {f : α → D} (hf : ∀ a b, tEq (f a) (f b) = decide (a = b)) (x : α) : ∀ (xs : List α) (k : Nat), xgetD (placesD f k xs) (f x) = if x ∈ xs then some (.int ((k + idxP xs x : Nat) : Int)) else none
  | [], k => by simp [placesD, xgetD]
  | a :: r, k => by
    have ih := place_get hf x r (k + 1)
    unfold xgetD idxP at ih ⊢
    simp only [placesD, List.find?_cons, hf]
    by_cases e : a = x
    · subst e
      simp
    · have e' : ¬ x = a := fun z => e z.symm
      simp only [e, decide_false, ih, List.mem_cons, e', false_or, List.idxOf_cons]
      have : (a == x) = false := by simpa using e
      rw [this]
      split <;> simp [Nat.add_comm, Nat.add_left_comm, Nat.add_assoc]
theorem place_put {α : Type} [DecidableEq α] {f : α → D} (hf : ∀ a b, tEq (f a) (f b) = decide (a = b)) {x : α} {xs : List α} (hx : x ∉ xs) {k : Nat} : xputD (placesD f k xs) (f x) (.int ((k + xs.length : Nat) : Int)) = placesD f k (xs ++ [x]) := by
  have h := place_get hf x xs k
  rw [if_neg hx] at h
  unfold xputD
  rw [h]
  simp only [Option.isSome_none, Bool.false_eq_true, if_false]
  have go : ∀ (ys : List α) (k : Nat), placesD f k ys ++ [(f x, .int ((k + ys.length : Nat) : Int))] = placesD f k (ys ++ [x]) := fun ys => by
    induction ys with
    | nil => intro k; simp [placesD]
    | cons y ys ih => intro k; simp only [placesD, List.cons_append, List.length_cons]; rw [← ih (k + 1)]; simp [Nat.add_comm, Nat.add_left_comm]
  exact go xs k
theorem tEq_step (a b : Nat × Nat) : tEq (stepD a) (stepD b) = decide (a = b) := by
  obtain ⟨a1, a2⟩ := a
  obtain ⟨b1, b2⟩ := b
  have e : ∀ x y : Nat, decide ((x : Int) = (y : Int)) = decide (x = y) := fun x y => by simp [Int.ofNat_inj]
  simp only [tEq, stepD, rowEq, oEq, Prod.mk.injEq, Bool.and_true, e, Bool.decide_and]
def addP {α : Type} [DecidableEq α] (ps : List α) (x : α) : List α := if x ∈ ps then ps else ps ++ [x]
theorem addP_mem {α : Type} [DecidableEq α] {ps : List α} {x : α} : x ∈ addP ps x := by unfold addP; split <;> simp_all
theorem addP_pre {α : Type} [DecidableEq α] {ps : List α} {x : α} : ps <+: addP ps x := by
  unfold addP; split
  · exact List.prefix_refl _
  · exact List.prefix_append _ _
theorem idx_pre {α : Type} [DecidableEq α] {ps qs : List α} {x : α} (h : ps <+: qs) (hx : x ∈ ps) : idxP qs x = idxP ps x := by
  unfold idxP
  obtain ⟨t, rfl⟩ := h
  rw [List.idxOf_append, if_pos hx]
def addAll {α : Type} [DecidableEq α] (ps xs : List α) : List α := xs.foldl addP ps
theorem addAll_pre {α : Type} [DecidableEq α] : ∀ (xs ps : List α), ps <+: addAll ps xs
  | [], _ => List.prefix_refl _
  | x :: xs, ps => (addP_pre (x := x)).trans (addAll_pre xs (addP ps x))
theorem addAll_mem {α : Type} [DecidableEq α] : ∀ (xs ps : List α) (x : α), x ∈ xs → x ∈ addAll ps xs
  | y :: xs, ps, x, h => by
    rcases List.mem_cons.mp h with rfl | h
    · exact (addAll_pre xs _).subset addP_mem
    · exact addAll_mem xs _ x h
theorem addAll_all {α : Type} [DecidableEq α] {P : α → Prop} : ∀ (xs ps : List α), (∀ x ∈ ps, P x) → (∀ x ∈ xs, P x) → ∀ x ∈ addAll ps xs, P x
  | [], ps, h1, _ => h1
  | y :: xs, ps, h1, h2 => addAll_all xs _ (fun x hx => by
      unfold addP at hx
      split at hx
      · exact h1 x hx
      · rcases List.mem_append.mp hx with hx | hx
        · exact h1 x hx
        · rw [List.mem_singleton.mp hx]; exact h2 y List.mem_cons_self) fun x hx => h2 x (List.mem_cons_of_mem _ hx)
theorem addAll_app {α : Type} [DecidableEq α] {ps xs ys : List α} : addAll ps (xs ++ ys) = addAll (addAll ps xs) ys := by simp [addAll, List.foldl_append]
theorem addAll_snoc {α : Type} [DecidableEq α] {ps xs : List α} {x : α} : addAll ps (xs ++ [x]) = addP (addAll ps xs) x := by simp [addAll, List.foldl_append]
/-! what is come to, row by row: out tells for each thing its row of (told, thing) -/
section
variable {α β : Type} [DecidableEq α] (out : α → List (β × α)) (b0 : α)
def come : Nat → List α
  | 0 => [b0]
  | n + 1 => match (come n)[n]? with
    | some x => addAll (come n) ((out x).map (·.2))
    | none => come n
def rowC (n : Nat) : List (β × Nat) := match (come out b0 n)[n]? with
  | some x => (out x).map fun o => (o.1, idxP (come out b0 (n + 1)) o.2)
  | none => []
def Going (n : Nat) : Prop := ∀ m, m < n → m < (come out b0 m).length ∧ (come out b0 m).length ≤ 100
variable {out b0}
theorem come_succ {n : Nat} {x : α} (h : (come out b0 n)[n]? = some x) : come out b0 (n + 1) = addAll (come out b0 n) ((out x).map (·.2)) := by
  rw [come, h]
theorem come_pre (n : Nat) : come out b0 n <+: come out b0 (n + 1) := by
  show _ <+: (match (come out b0 n)[n]? with | some x => addAll (come out b0 n) ((out x).map (·.2)) | none => come out b0 n)
  split
  · exact addAll_pre _ _
  · exact List.prefix_refl _
theorem come_le {n m : Nat} (h : n ≤ m) : come out b0 n <+: come out b0 m := by
  induction m with
  | zero => rw [Nat.le_zero.mp h]; exact List.prefix_refl _
  | succ m ih =>
    rcases Nat.lt_or_ge n (m + 1) with h1 | h1
    · exact (ih (by omega)).trans (come_pre m)
    · rw [show n = m + 1 by omega]; exact List.prefix_refl _
theorem come_all {P : α → Prop} (h0 : P b0) (hs : ∀ x, P x → ∀ o ∈ out x, P o.2) : ∀ n, ∀ x ∈ come out b0 n, P x
  | 0, x, hx => by rw [List.mem_singleton.mp hx]; exact h0
  | n + 1, x, hx => by
    have ih := come_all h0 hs n
    have hx : x ∈ (match (come out b0 n)[n]? with | some x => addAll (come out b0 n) ((out x).map fun (o : β × α) => o.2) | none => come out b0 n) := hx
    split at hx
    · rename_i y hy
      refine addAll_all _ _ ih (fun z hz => ?_) x hx
      obtain ⟨o, ho, rfl⟩ := List.mem_map.mp hz
      exact hs y (ih y (List.mem_of_getElem? hy)) o ho
    · exact ih x hx
theorem going_le {n : Nat} (h : Going out b0 n) : n ≤ 100 := by
  cases n with
  | zero => omega
  | succ n => have := h n (by omega); omega
theorem going_len {n : Nat} (h : Going out b0 n) : n ≤ (come out b0 n).length := by
  cases n with
  | zero => exact Nat.zero_le _
  | succ n => have h1 := (h n (by omega)).1; have h2 := (come_pre (out := out) (b0 := b0) n).length_le; omega
theorem going_one {n m : Nat} (h1 : Going out b0 n) (e1 : n = (come out b0 n).length ∨ 100 < (come out b0 n).length) (h2 : Going out b0 m) (e2 : m = (come out b0 m).length ∨ 100 < (come out b0 m).length) : n = m := by
  rcases Nat.lt_trichotomy n m with h | h | h
  · have := h2 n h; omega
  · exact h
  · have := h1 m h; omega
theorem come_len0 (n : Nat) : 1 ≤ (come out b0 n).length := by
  have := (come_le (out := out) (b0 := b0) (Nat.zero_le n)).length_le
  exact this
end
/-! ### watched -/
def prodOut (M : Mac) (W : Wat) (p : Nat × Nat) : List (Nat × (Nat × Nat)) := (List.range M.signs.toNat).map fun sg => ((W.get p.2 sg (M.get p.1 sg).1).1, ((M.get p.1 sg).2, (W.get p.2 sg (M.get p.1 sg).1).2))
def prodM (M : Mac) (W : Wat) (n : Nat) : Mac := ⟨M.signs, M.deeds, (List.range n).map (rowC (prodOut M W) (0, 0))⟩
abbrev prodC (M : Mac) (W : Wat) (n : Nat) : List (Nat × Nat) := come (prodOut M W) (0, 0) n
abbrev Done (M : Mac) (W : Wat) (n : Nat) : Prop := Going (prodOut M W) (0, 0) n ∧ n = (prodC M W n).length ∧ n ≤ 100
abbrev Wid (M : Mac) (W : Wat) : Prop := ∃ n, Going (prodOut M W) (0, 0) n ∧ 100 < (prodC M W n).length
theorem prod_in {M : Mac} {W : Wat} (hM : M.Wf) (hW : W.Wf) (hm : 1 ≤ M.rooms.length) (hw : 1 ≤ W.states.length) (e1 : W.signs = M.signs) (e2 : W.deeds = M.deeds) (n : Nat) : ∀ p ∈ prodC M W n, p.1 < M.rooms.length ∧ p.2 < W.states.length := by
  refine come_all (out := prodOut M W) (b0 := (0, 0)) (P := fun (p : Nat × Nat) => p.1 < M.rooms.length ∧ p.2 < W.states.length) ⟨hm, hw⟩ (fun p hp o ho => ?_) n
  obtain ⟨sg, hs, rfl⟩ := List.mem_map.mp ho
  have hs := List.mem_range.mp hs
  obtain ⟨row, _, _, _, _, k1, k2⟩ := mget_at hM hp.1 (sg := sg) (by omega)
  obtain ⟨st, row, _, _, _, _, k3⟩ := get_at hW hp.2 (sg := sg) (d := (M.get p.1 sg).1) (by omega) (by omega)
  exact ⟨k2, k3⟩
theorem pre_get {α : Type} {xs ys : List α} (h : xs <+: ys) {i : Nat} {x : α} (hx : xs[i]? = some x) : ys[i]? = some x := by
  obtain ⟨t, rfl⟩ := h
  rw [List.getElem?_append_left (List.getElem?_eq_some_iff.mp hx).1]; exact hx
theorem pre_get' {α : Type} {xs ys : List α} (h : xs <+: ys) {i : Nat} {x : α} (hi : i < xs.length) (hx : ys[i]? = some x) : xs[i]? = some x := by
  obtain ⟨t, rfl⟩ := h
  rw [List.getElem?_append_left hi] at hx; exact hx
theorem idx_get {α : Type} [DecidableEq α] {x : α} {xs : List α} (h : x ∈ xs) : xs[idxP xs x]? = some x := by
  unfold idxP
  have := List.idxOf_lt_length_of_mem h
  rw [List.getElem?_eq_getElem this, List.getElem_idxOf]
theorem prod_get {M : Mac} {W : Wat} {n i sg : Nat} {p : Nat × Nat} (hd : Going (prodOut M W) (0, 0) n) (hi : i < n) (hp : (prodC M W n)[i]? = some p) (hs : sg < M.signs.toNat) :
    ∃ j, (prodM M W n).get i sg = ((W.get p.2 sg (M.get p.1 sg).1).1, j) ∧ (prodC M W n)[j]? = some ((M.get p.1 sg).2, (W.get p.2 sg (M.get p.1 sg).1).2) := by
  have h1 := pre_get' (come_le (Nat.le_of_lt hi)) (hd i hi).1 hp
  have eo : (prodOut M W p)[sg]? = some ((W.get p.2 sg (M.get p.1 sg).1).1, ((M.get p.1 sg).2, (W.get p.2 sg (M.get p.1 sg).1).2)) := by
    simp [prodOut, hs]
  refine ⟨idxP (prodC M W (i + 1)) ((M.get p.1 sg).2, (W.get p.2 sg (M.get p.1 sg).1).2), ?_, ?_⟩
  · have er : rowC (prodOut M W) (0, 0) i = (prodOut M W p).map fun o => (o.1, idxP (prodC M W (i + 1)) o.2) := by
      unfold rowC
      rw [h1]
    simp only [Mac.get, prodM, List.getElem?_map, List.getElem?_range hi, Option.map_some, Option.getD_some, er, eo]
  · refine pre_get (come_le (by omega : i + 1 ≤ n)) (idx_get ?_)
    rw [come_succ h1]
    exact addAll_mem _ _ _ (List.mem_map.mpr ⟨_, List.mem_of_getElem? eo, rfl⟩)
theorem rowC_len {M : Mac} {W : Wat} {n m : Nat} (hd : Going (prodOut M W) (0, 0) n) (hm : m < n) : (rowC (prodOut M W) (0, 0) m).length = M.signs.toNat := by
  have h := (hd m hm).1
  unfold rowC
  rw [List.getElem?_eq_getElem h]
  simp [prodOut]
theorem prod_ok {M : Mac} {W : Wat} (hM : M.Ok) (hW : W.Ok) (e1 : W.signs = M.signs) (e2 : W.deeds = M.deeds) {n : Nat} (hd : Done M W n) : (prodM M W n).Ok := by
  obtain ⟨hg, hn, h100⟩ := hd
  have hs := hM.s1
  have hl : (prodM M W n).rooms.length = n := by simp [prodM]
  have hn1 : 1 ≤ n := by have : 1 ≤ (prodC M W n).length := come_len0 n; omega
  refine ⟨fun row hr => ?_, hM.s1, hM.s9, hM.d1, hM.d9, by rw [hl]; exact hn1, by rw [hl]; exact h100⟩
  obtain ⟨m, hm, rfl⟩ := List.mem_map.mp hr
  have hm := List.mem_range.mp hm
  have hl2 := rowC_len hg hm
  refine ⟨by rw [hl2]; show ((M.signs.toNat : Nat) : Int) = M.signs; omega, fun q hq => ?_⟩
  obtain ⟨sg, hsg⟩ := List.mem_iff_getElem?.mp hq
  have hsl : sg < M.signs.toNat := by rw [← hl2]; exact (List.getElem?_eq_some_iff.mp hsg).1
  obtain ⟨p, hp⟩ : ∃ p, (prodC M W n)[m]? = some p := ⟨_, List.getElem?_eq_getElem (by omega)⟩
  obtain ⟨j, g1, g2⟩ := prod_get hg hm hp hsl
  have hb := prod_in hM.wf hW.wf hM.r1 hW.r1 e1 e2 n p (List.mem_of_getElem? hp)
  have eq : (prodM M W n).get m sg = q := by
    simp only [Mac.get, prodM, List.getElem?_map, List.getElem?_range hm, Option.map_some, Option.getD_some, hsg]
  rw [eq] at g1
  obtain ⟨row, _, _, _, _, k1, k2⟩ := mget_at hM.wf hb.1 (sg := sg) (by omega)
  obtain ⟨st, row, _, _, _, k4, k3⟩ := get_at hW.wf hb.2 (sg := sg) (d := (M.get p.1 sg).1) (by omega) (by omega)
  rw [g1, hl]
  refine ⟨by show ((W.get p.2 sg (M.get p.1 sg).1).1 : Int) < M.deeds; omega, ?_⟩
  have := (List.getElem?_eq_some_iff.mp g2).1
  show j < n
  omega
theorem prod_sim {M : Mac} {W : Wat} {n : Nat} (hd : Done M W n) : ∀ (xs : List Nat) (i : Nat) (p : Nat × Nat), (∀ x ∈ xs, (x : Int) < M.signs) → (prodC M W n)[i]? = some p → runM (prodM M W n) i xs = mendR (stepsW W p.2 (runM M p.1 xs))
  | [], _, _, _, _ => rfl
  | x :: xs, i, p, hx, hp => by
    have hi : i < n := by have := (List.getElem?_eq_some_iff.mp hp).1; have := hd.2.1; omega
    obtain ⟨j, g1, g2⟩ := prod_get hd.1 hi hp (sg := x) (by have := hx x List.mem_cons_self; omega)
    have ih := prod_sim hd xs j _ (fun y hy => hx y (List.mem_cons_of_mem _ hy)) g2
    simp only [runM, g1, ih, stepsW, mendR, List.map_cons]
theorem done_one {M : Mac} {W : Wat} {n m : Nat} (h1 : Done M W n) (h2 : Done M W m) : n = m := going_one h1.1 (.inl h1.2.1) h2.1 (.inl h2.2.1)
theorem done_wid {M : Mac} {W : Wat} {n : Nat} (h1 : Done M W n) (h2 : Wid M W) : False := by
  obtain ⟨m, h3, h4⟩ := h2
  obtain rfl := going_one h1.1 (.inl h1.2.1) h3 (.inr h4)
  have := h1.2
  omega
def S_is_go : PrmC where
  sp := sD fun (d : D) => sI fun (n : Int) => sI fun (m : Int) => sEnd fun Q => (True) ∧ Q (.d (.bool (stepB n m d))) []
  mono := sD.mono fun _ => sI.mono fun _ => sI.mono fun _ => sEnd.mono fun Q Q' hq ⟨pre, q⟩ => ⟨pre, hq _ _ q⟩
def S_is_machine : PrmC where
  sp := sD fun (d : D) => sEnd fun Q => (True) ∧ Q (.d (.bool (macB d))) []
  mono := sD.mono fun _ => sEnd.mono fun Q Q' hq ⟨pre, q⟩ => ⟨pre, hq _ _ q⟩
def S_need_machine : PrmC where
  sp := sD fun (d : D) => sEnd fun Q => (macB d = true) ∧ Q (.d .none) []
  mono := sD.mono fun _ => sEnd.mono fun Q Q' hq ⟨pre, q⟩ => ⟨pre, hq _ _ q⟩
def S_need_alike : PrmC where
  sp := sD fun (v0 : D) => sD fun (v1 : D) => sEnd fun Q => ∃ (i : Int) (j : Int) (x : D) (y : D), v0 = (.tuple [.int i, .int j, x]) ∧ v1 = (.tuple [.int i, .int j, y]) ∧ (True) ∧ Q (.d .none) []
  mono := sD.mono fun _ => sD.mono fun _ => sEnd.mono fun Q Q' hq ⟨i, j, x, y, e0, e1, pre, q⟩ => ⟨i, j, x, y, e0, e1, pre, hq _ _ q⟩
def S_run_of : PrmC where
  sp := sD fun (v0 : D) => sD fun (v1 : D) => sEnd fun Q => ∃ (M : Mac) (xs : List Nat), v0 = M.d ∧ v1 = (.tuple (intsD xs)) ∧ (M.Ok ∧ (∀ x ∈ xs, (x : Int) < M.signs) ∧ xs.length ≤ 1000) ∧ Q (.d (runD (runM M 0 xs))) []
  mono := sD.mono fun _ => sD.mono fun _ => sEnd.mono fun Q Q' hq ⟨M, xs, e0, e1, pre, q⟩ => ⟨M, xs, e0, e1, pre, hq _ _ q⟩
def S_lmac : PrmC where
  sp := sO 1 fun (ob : Ob) => sI fun (signs : Int) => sI fun (deeds : Int) => sI fun (rooms : Int) => sEnd fun Q => ∃ (c : Nat), (IsPot c ob ∧ c ≤ 10 ^ 10 ∧ (0 ≤ signs ∧ signs ≤ 10) ∧ (0 < deeds ∧ deeds ≤ 10) ∧ (0 < rooms ∧ rooms ≤ 200)) ∧ ∀ (rs : List (List (Nat × Nat))) (o : Ob), ((rs.length : Int) = rooms ∧ Mac.Wf ⟨signs, deeds, rs⟩ ∧ IsPot (c + 10000) o) → Q (.d (Mac.d ⟨signs, deeds, rs⟩)) [o]
  mono := sO.mono fun _ => sI.mono fun _ => sI.mono fun _ => sI.mono fun _ => sEnd.mono fun Q Q' hq ⟨c, pre, q⟩ => ⟨c, pre, fun rs o h => hq _ _ (q rs o h)⟩
/-! ### first_come: rows of rooms as they first come -/
abbrev Rw := List (Option Nat)
def rowO : Option Rw → D
  | none => .none
  | some r => rowD r
theorem cellD_oEq (a b : Option Nat) : oEq (cellD a) (cellD b) = decide (a = b) := by
  cases a <;> cases b <;> simp [oEq, cellD, Int.ofNat_inj]
theorem rowEq_cells : ∀ a b : Rw, rowEq (a.map cellD) (b.map cellD) = decide (a = b)
  | [], [] => rfl
  | [], _ :: _ => rfl
  | _ :: _, [] => rfl
  | x :: xs, y :: ys => by
    simp only [List.map_cons, rowEq, cellD_oEq, rowEq_cells xs ys]
    by_cases h : x = y <;> by_cases h' : xs = ys <;> simp [h, h']
theorem tEq_row (a b : Rw) : tEq (rowD a) (rowD b) = decide (a = b) := rowEq_cells a b
theorem tkB_row (a : Rw) : tkB (rowD a) = true := by
  simp only [rowD, tkB, List.all_map, List.all_eq_true]
  intro c _
  cases c <;> rfl
section
variable (a b : Nat) (step : Rw → Nat → Nat → Option Rw) (b0 : Rw)
def fcNew (x : Rw) (s : Nat) : List Rw := (List.range b).filterMap (step x s)
def fcAll (x : Rw) (s : Nat) : List Rw := (List.range s).flatMap (fcNew b step x)
def fcOut (x : Rw) : List (Unit × Rw) := (fcAll b step x a).map fun y => ((), y)
abbrev fcC (n : Nat) : List Rw := come (fcOut a b step) b0 n
def fcRow (n : Nat) (x : Rw) (s : Nat) : Rw := (List.range b).map fun d => (step x s d).map (idxP (fcC a b step b0 (n + 1)))
def fcRoom (n : Nat) : List Rw := match (fcC a b step b0 n)[n]? with
  | some x => (List.range a).map (fcRow a b step b0 n x)
  | none => []
def fcT (n : Nat) : List (List Rw) := (List.range n).map (fcRoom a b step b0)
def FDone (n : Nat) : Prop := Going (fcOut a b step) b0 n ∧ n = (fcC a b step b0 n).length ∧ n ≤ 100
def FWid : Prop := ∃ n, Going (fcOut a b step) b0 n ∧ 100 < (fcC a b step b0 n).length
variable {a b step b0}
theorem fcAll_succ {x : Rw} {s : Nat} : fcAll b step x (s + 1) = fcAll b step x s ++ fcNew b step x s := by
  unfold fcAll; rw [List.range_succ, List.flatMap_append]; simp
theorem fc_succ {n : Nat} {x : Rw} (h : (fcC a b step b0 n)[n]? = some x) : fcC a b step b0 (n + 1) = addAll (fcC a b step b0 n) (fcAll b step x a) := by
  have := come_succ (out := fcOut a b step) h
  rw [fcOut, List.map_map] at this
  refine this.trans ?_
  congr 1
  exact List.map_id' _
theorem fcAll_pre {x : Rw} {s t : Nat} (h : s ≤ t) : fcAll b step x s <+: fcAll b step x t := by
  induction t with
  | zero => rw [Nat.le_zero.mp h]; exact List.prefix_refl _
  | succ t ih =>
    rcases Nat.lt_or_ge s (t + 1) with h1 | h1
    · rw [fcAll_succ]; exact (ih (by omega)).trans (List.prefix_append _ _)
    · rw [show s = t + 1 by omega]; exact List.prefix_refl _
theorem addAll_pre2 {α : Type} [DecidableEq α] {ps xs ys : List α} (h : xs <+: ys) : addAll ps xs <+: addAll ps ys := by
  obtain ⟨t, rfl⟩ := h
  rw [addAll_app]; exact addAll_pre _ _
theorem fcNew_take {x : Rw} {s k : Nat} : ((List.range b).map (step x s)).filterMap id = fcNew b step x s := by
  unfold fcNew; rw [List.filterMap_map]; rfl
theorem fdone_one {n m : Nat} (h1 : FDone a b step b0 n) (h2 : FDone a b step b0 m) : n = m := going_one h1.1 (.inl h1.2.1) h2.1 (.inl h2.2.1)
theorem fdone_wid {n : Nat} (h1 : FDone a b step b0 n) (h2 : FWid a b step b0) : False := by
  obtain ⟨m, h3, h4⟩ := h2
  obtain rfl := going_one h1.1 (.inl h1.2.1) h3 (.inr h4)
  have := h1.2
  omega
theorem going_succ {n : Nat} (h : Going (fcOut a b step) b0 n) (h1 : n < (fcC a b step b0 n).length) (h2 : (fcC a b step b0 n).length ≤ 100) : Going (fcOut a b step) b0 (n + 1) := fun m hm => by
  rcases Nat.lt_or_ge m n with z | z
  · exact h m z
  · obtain rfl : m = n := by omega
    exact ⟨h1, h2⟩
theorem fc_ok {ok : Rw → Prop} (h0 : ok b0) (hs : ∀ r s d r', ok r → s < a → d < b → step r s d = some r' → ok r') : ∀ n, ∀ x ∈ fcC a b step b0 n, ok x := come_all h0 fun x hx o ho => by
  simp only [fcOut, fcAll, fcNew, List.mem_map, List.mem_flatMap, List.mem_filterMap, List.mem_range] at ho
  obtain ⟨y, ⟨s, hs1, d, hd1, hy⟩, rfl⟩ := ho
  exact hs x s d y hx hs1 hd1 hy
theorem fcT_len {n : Nat} : (fcT a b step b0 n).length = n := by simp [fcT]
theorem idx_lt {α : Type} [DecidableEq α] {x : α} {xs : List α} (h : x ∈ xs) : idxP xs x < xs.length := List.idxOf_lt_length_of_mem h
theorem fc_mem {n : Nat} {x y : Rw} {s d : Nat} (h : (fcC a b step b0 n)[n]? = some x) (hs : s < a) (hd : d < b) (e : step x s d = some y) : y ∈ fcC a b step b0 (n + 1) := by
  rw [fc_succ h]
  refine addAll_mem _ _ _ ?_
  simp only [fcAll, fcNew, List.mem_flatMap, List.mem_filterMap, List.mem_range]
  exact ⟨s, hs, d, hd, e⟩
theorem fc_say {i j : Int} {n : Nat} (ha : a = i.toNat) (hb : b = j.toNat) (hi : 1 ≤ i ∧ i ≤ 9) (hj : 1 ≤ j ∧ j ≤ 9) (h : FDone a b step b0 n) : (⟨i, j, fcT a b step b0 n⟩ : Say).Ok := by
  have h1 := come_len0 (out := fcOut a b step) (b0 := b0) n
  have h2 : n = (come (fcOut a b step) b0 n).length := h.2.1
  refine ⟨fun room hr => ?_, hi.1, hi.2, hj.1, hj.2, (by show 1 ≤ (fcT a b step b0 n).length; rw [fcT_len]; omega), (by show (fcT a b step b0 n).length ≤ 100; rw [fcT_len]; exact h.2.2)⟩
  obtain ⟨m, hm, rfl⟩ := List.mem_map.mp (show room ∈ (List.range n).map (fcRoom a b step b0) from hr)
  rw [List.mem_range] at hm
  have hg := h.1 m hm
  obtain ⟨x, hx⟩ : ∃ x, (fcC a b step b0 m)[m]? = some x := ⟨_, List.getElem?_eq_getElem hg.1⟩
  have e : fcRoom a b step b0 m = (List.range a).map (fcRow a b step b0 m x) := by unfold fcRoom; rw [hx]
  rw [e]
  refine ⟨by simp [ha]; omega, fun row hrow => ?_⟩
  obtain ⟨s, hs, rfl⟩ := List.mem_map.mp hrow
  rw [List.mem_range] at hs
  refine ⟨by simp [fcRow, hb]; omega, fun k hk => ?_⟩
  simp only [fcRow, List.mem_map, List.mem_range] at hk
  obtain ⟨d, hd, hk⟩ := hk
  cases hst : step x s d with
  | none => rw [hst] at hk; cases hk
  | some y =>
    rw [hst] at hk
    obtain rfl : idxP (fcC a b step b0 (m + 1)) y = k := by simpa using hk
    have h3 := idx_lt (fc_mem hx hs hd hst)
    have h4 := (come_le (out := fcOut a b step) (b0 := b0) (show m + 1 ≤ n by omega)).length_le
    show _ < (fcT a b step b0 n).length
    rw [fcT_len]
    have h3 : idxP (fcC a b step b0 (m + 1)) y < (come (fcOut a b step) b0 (m + 1)).length := h3
    omega
end
def S_step (i j : Int) (step : Rw → Nat → Nat → Option Rw) (ok : Rw → Prop) : PrmC where
  sp := sD fun (v0 : D) => sD fun (v1 : D) => sD fun (v2 : D) => sEnd fun Q => ∃ (r : Rw) (s1 : Nat) (d1 : Nat), v0 = (rowD r) ∧ v1 = (.int (s1 : Int)) ∧ v2 = (.int (d1 : Int)) ∧ (ok r ∧ (s1 : Int) < i ∧ (d1 : Int) < j) ∧ Q (.d (rowO (step r s1 d1))) []
  mono := sD.mono fun _ => sD.mono fun _ => sD.mono fun _ => sEnd.mono fun Q Q' hq ⟨r, s1, d1, e0, e1, e2, pre, q⟩ => ⟨r, s1, d1, e0, e1, e2, pre, hq _ _ q⟩
def X_first (P : Program) (w : World) (K : PySem.W.Frag) (mg : Str → Option Value) (base : Heap) (cc : Str → Addr) : PrmX where
  p := fun ws Q E => (sI fun (i : Int) => sI fun (j : Int) => sD fun (x : D) => sF fun (fa : Addr) (FI : (Addr → Prop) → Hp → Prop) => sEnd fun Q => ∃ (b0 : Rw) (step : Rw → Nat → Nat → Option Rw) (ok : Rw → Prop) (k : Nat), (x = rowD b0 ∧ (1 ≤ i ∧ i ≤ 9) ∧ (1 ≤ j ∧ j ≤ 9) ∧ ok b0 ∧ (∀ r s d r', ok r → s < i.toNat → d < j.toNat → step r s d = some r' → ok r') ∧ k ≤ 12 ∧ Callv P w K mg base k fa FI (S_step i j step ok)) ∧ (∀ n, FDone i.toNat j.toNat step b0 n → Q (.d (.tuple [.tuple ((fcC i.toNat j.toNat step b0 n).map rowD), .tuple ((fcT i.toNat j.toNat step b0 n).map roomD)])) []) ∧ (FWid i.toNat j.toNat step b0 → E ⟨.ref (cc "TooWide"), none⟩)) ws Q
  mono := fun ws Q Q' E E' hq he h0 => by
    obtain ⟨i, ws0, rfl, h1⟩ := sI.inv h0; obtain ⟨j, ws1, rfl, h2⟩ := sI.inv h1; obtain ⟨x, ws2, rfl, h3⟩ := sD.inv h2; obtain ⟨fa, FI, ws3, rfl, h4⟩ := sF.inv h3; obtain ⟨rfl, h⟩ := sEnd.inv h4
    show ∃ (b0 : Rw) (step : Rw → Nat → Nat → Option Rw) (ok : Rw → Prop) (k : Nat), (x = rowD b0 ∧ (1 ≤ i ∧ i ≤ 9) ∧ (1 ≤ j ∧ j ≤ 9) ∧ ok b0 ∧ (∀ r s d r', ok r → s < i.toNat → d < j.toNat → step r s d = some r' → ok r') ∧ k ≤ 12 ∧ Callv P w K mg base k fa FI (S_step i j step ok)) ∧ (∀ n, FDone i.toNat j.toNat step b0 n → Q' (.d (.tuple [.tuple ((fcC i.toNat j.toNat step b0 n).map rowD), .tuple ((fcT i.toNat j.toNat step b0 n).map roomD)])) []) ∧ (FWid i.toNat j.toNat step b0 → E' ⟨.ref (cc "TooWide"), none⟩)
    repeat' (first | exact h | exact hq _ _ h | exact he _ h | exact fun r => hq _ _ (h r) | exact fun r => he _ (h r) | exact fun r e => hq _ _ (h r e) | (refine br.imp h (fun h => ?_) (fun h => ?_)) | (refine And.imp_right (fun h => ?_) h) | (refine Exists.imp (fun w h => ?_) h) | (refine And.imp (fun h => ?_) (fun h => ?_) h))
/-! ### rows of sayings -/
def saysD (Ss : List Say) : D := .tuple (Ss.map Say.d)
/-- as many signs and deeds, one to four of them -/
def AllS (i j : Int) (Ss : List Say) : Prop := (1 ≤ Ss.length ∧ Ss.length ≤ 4) ∧ (1 ≤ i ∧ i ≤ 9) ∧ (1 ≤ j ∧ j ≤ 9) ∧ ∀ S ∈ Ss, S.Ok ∧ S.signs = i ∧ S.deeds = j
/-- rooms of theirs, or none -/
def OkR (Ss : List Say) (r : Rw) : Prop := r.length = Ss.length ∧ ∀ (i : Nat) (S : Say) (k : Nat), Ss[i]? = some S → r[i]? = some (some k) → k < S.rooms.length
def behindR (Ss : List Say) (r : Rw) (s d : Nat) : Rw := List.zipWith (fun (S : Say) (c : Option Nat) => c.bind fun k => S.go k s d) Ss r
def lostB (b : Bool) (a : Rw) : Bool := if b then a.all Option.isNone else a.any Option.isNone
def stepX (b : Bool) (Ss : List Say) (r : Rw) (s d : Nat) : Option Rw := if lostB b (behindR Ss r s d) = true then none else some (behindR Ss r s d)
def begR (Ss : List Say) : Rw := List.replicate Ss.length (some 0)
theorem behindR_len {Ss : List Say} {r : Rw} {s d : Nat} (h : r.length = Ss.length) : (behindR Ss r s d).length = Ss.length := by
  unfold behindR; simp [h]
theorem behindR_get {Ss : List Say} {r : Rw} {s d i : Nat} {S : Say} {c : Option Nat} (h1 : Ss[i]? = some S) (h2 : r[i]? = some c) : (behindR Ss r s d)[i]? = some (c.bind fun k => S.go k s d) := by
  unfold behindR
  rw [List.getElem?_zipWith, h1, h2]
theorem behindR_ok {Ss : List Say} {i j : Int} {r : Rw} {s d : Nat} (h : AllS i j Ss) (hr : OkR Ss r) (hs : (s : Int) < i) (hd : (d : Int) < j) : OkR Ss (behindR Ss r s d) := by
  refine ⟨behindR_len hr.1, fun n S k h1 h2 => ?_⟩
  obtain ⟨hS, rfl, rfl⟩ := h.2.2.2 S (List.mem_of_getElem? h1)
  obtain ⟨c, hc⟩ : ∃ c, r[n]? = some c := ⟨_, List.getElem?_eq_getElem (by rw [hr.1]; exact (List.getElem?_eq_some_iff.mp h1).1)⟩
  rw [behindR_get h1 hc] at h2
  cases c with
  | none => cases h2
  | some m =>
    obtain ⟨_, _, _, _, _, hg⟩ := go_at hS (hr.2 n S m h1 hc) hs hd
    exact hg k (Option.some.inj h2)
theorem stepX_ok {b : Bool} {Ss : List Say} {i j : Int} (h : AllS i j Ss) : ∀ r s d r', OkR Ss r → s < i.toNat → d < j.toNat → stepX b Ss r s d = some r' → OkR Ss r' := by
  intro r s d r' hr hs hd e
  have h1 := h.2.1
  have h2 := h.2.2.1
  have := behindR_ok h hr (s := s) (d := d) (by omega) (by omega)
  unfold stepX at e
  split at e
  · cases e
  · cases e; exact this
theorem begR_ok {Ss : List Say} {i j : Int} (h : AllS i j Ss) : OkR Ss (begR Ss) := by
  refine ⟨by simp [begR], fun n S k h1 h2 => ?_⟩
  obtain ⟨hS, _⟩ := h.2.2.2 S (List.mem_of_getElem? h1)
  have := hS.r1
  unfold begR at h2
  rw [List.getElem?_replicate] at h2
  split at h2
  · cases h2; omega
  · cases h2
/-- what is told of so many rows -/
def ToldF (i j : Int) (step : Rw → Nat → Nat → Option Rw) (b0 : Rw) (x : D) : Prop := (∃ n, FDone i.toNat j.toNat step b0 n ∧ x = Say.d ⟨i, j, fcT i.toNat j.toNat step b0 n⟩) ∨ (FWid i.toNat j.toNat step b0 ∧ x = .none)
theorem cells_lay : ∀ r : Rw, PyData.canLayAll0 (r.map cellD) = true
  | [] => rfl
  | c :: r => by
    rw [List.map_cons, PyData.canLayAll0, cells_lay r]
    cases c <;> rfl
theorem cells_none (r : Rw) : ((r.map cellD).any fun z => PyData.eqv z .none) = r.any Option.isNone := by
  rw [List.any_map]
  congr 1
  funext c
  cases c <;> simp [cellD, PyData.eqv]
theorem step_lost {b : Bool} {Ss : List Say} {r : Rw} {s d : Nat} (h : lostB b (behindR Ss r s d) = true) : stepX b Ss r s d = none := by unfold stepX; rw [if_pos h]
theorem step_going {b : Bool} {Ss : List Say} {r : Rw} {s d : Nat} (h : lostB b (behindR Ss r s d) = false) : stepX b Ss r s d = some (behindR Ss r s d) := by unfold stepX; rw [if_neg (by rw [h]; decide)]
theorem flat_rep {α : Type} (x : α) : ∀ n : Nat, (List.replicate n [x]).flatten = List.replicate n x
  | 0 => rfl
  | n + 1 => by rw [List.replicate_succ, List.flatten_cons, flat_rep x n, List.replicate_succ]; rfl
theorem addP_nodup {α : Type} [DecidableEq α] {ps : List α} {x : α} (h : ps.Nodup) : (addP ps x).Nodup := by
  unfold addP
  split
  · exact h
  · rename_i hx
    rw [List.nodup_append]
    refine ⟨h, by simp, fun a ha b hb e => hx ?_⟩
    rw [List.mem_singleton] at hb
    rw [← hb, ← e]; exact ha
theorem addAll_nodup {α : Type} [DecidableEq α] : ∀ (xs ps : List α), ps.Nodup → (addAll ps xs).Nodup
  | [], _, h => h
  | x :: xs, ps, h => by
    have e : addAll ps (x :: xs) = addAll (addP ps x) xs := rfl
    rw [e]; exact addAll_nodup xs _ (addP_nodup h)
theorem come_nodup {α β : Type} [DecidableEq α] {out : α → List (β × α)} {b0 : α} : ∀ n, (come out b0 n).Nodup
  | 0 => by simp [come]
  | n + 1 => by
    unfold come
    split
    · exact addAll_nodup _ _ (come_nodup n)
    · exact come_nodup n
theorem one_row {b : Bool} {D : Say} (hD : D.Ok) (n : Nat) : ∀ x ∈ fcC D.signs.toNat D.deeds.toNat (stepX b [D]) (begR [D]) n, ∃ k, x = [some k] ∧ k < D.rooms.length := by
  refine fc_ok (ok := fun x => ∃ k, x = [some k] ∧ k < D.rooms.length) ⟨0, rfl, hD.r1⟩ ?_ n
  rintro r s d r' ⟨k, rfl, hk⟩ hs hd e
  have h1 := hD.s1
  have h2 := hD.d1
  obtain ⟨_, _, _, _, _, hg⟩ := go_at hD hk (s := s) (d := d) (by omega) (by omega)
  have eb : behindR [D] [some k] s d = [D.go k s d] := rfl
  cases hgo : D.go k s d with
  | none =>
    rw [step_lost (by rw [eb, hgo]; cases b <;> rfl)] at e
    cases e
  | some m =>
    rw [step_going (by rw [eb, hgo]; cases b <;> rfl), eb, hgo] at e
    cases e
    exact ⟨m, rfl, hg m hgo⟩
theorem one_narrow {b : Bool} {D : Say} (hD : D.Ok) (h : FWid D.signs.toNat D.deeds.toNat (stepX b [D]) (begR [D])) : False := by
  obtain ⟨n, _, h2⟩ := h
  have h3 := one_row (b := b) hD n
  have h4 := come_nodup (out := fcOut D.signs.toNat D.deeds.toNat (stepX b [D])) (b0 := begR [D]) n
  have h5 := hD.r100
  have key : ∀ xs : List Rw, xs.Nodup → (∀ x ∈ xs, ∃ k, x = [some k] ∧ k < D.rooms.length) → ∃ ks : List Nat, xs = ks.map (fun k => [some k]) ∧ ks.Nodup ∧ ∀ k ∈ ks, k < D.rooms.length := by
    intro xs
    induction xs with
    | nil => intro _ _; exact ⟨[], rfl, by simp, by simp⟩
    | cons x xs ih =>
      intro hn hx
      rw [List.nodup_cons] at hn
      obtain ⟨ks, rfl, a1, a2⟩ := ih hn.2 fun y hy => hx y (List.mem_cons_of_mem _ hy)
      obtain ⟨k, rfl, hk⟩ := hx x List.mem_cons_self
      refine ⟨k :: ks, rfl, List.nodup_cons.mpr ⟨fun z => hn.1 (List.mem_map.mpr ⟨k, z, rfl⟩), a1⟩, fun y hy => ?_⟩
      rcases List.mem_cons.mp hy with rfl | z
      · exact hk
      · exact a2 y z
  obtain ⟨ks, e, a1, a2⟩ := key _ h4 h3
  have h6 := nodup_bound D.rooms.length ks a1 a2
  have h7 : (come (fcOut D.signs.toNat D.deeds.toNat (stepX b [D])) (begR [D]) n).length = ks.length := by rw [e, List.length_map]
  have h2 : 100 < (come (fcOut D.signs.toNat D.deeds.toNat (stepX b [D])) (begR [D]) n).length := h2
  omega
theorem say_sh {S : Say} (h : S.Ok) : Sh 4 27304 S.d := by
  have h1 := h.s9
  have h2 := h.d9
  have h3 := h.r100
  have h4 := h.s1
  have h5 := h.d1
  refine .tup (n := 9101) (fun x hx => ?_) (by simp)
  simp only [List.mem_cons, List.not_mem_nil, or_false] at hx
  rcases hx with rfl | rfl | rfl
  · exact .int (by decide) (by omega)
  · exact .int (by decide) (by omega)
  refine .tup (n := 91) (fun x hx => ?_) (by rw [List.length_map]; omega)
  obtain ⟨room, hr, rfl⟩ := List.mem_map.mp hx
  obtain ⟨l1, hrow⟩ := h.wf room hr
  refine .tup (n := 10) (fun x hx => ?_) (by rw [List.length_map]; omega)
  obtain ⟨row, hrw, rfl⟩ := List.mem_map.mp hx
  obtain ⟨l2, hc⟩ := hrow row hrw
  refine .tup (n := 1) (fun x hx => ?_) (by rw [List.length_map]; omega)
  obtain ⟨c, hcc, rfl⟩ := List.mem_map.mp hx
  cases c with
  | none => exact .non (by decide)
  | some k => exact .int (by decide) (by have := hc k hcc; show ((k : Nat) : Int).natAbs < 10 ^ 20; omega)
theorem says_sh {i j : Int} {Ss : List Say} (h : AllS i j Ss) : Sh 5 109217 (saysD Ss) := by
  have := h.1.2
  refine .tup (n := 27304) (fun x hx => ?_) (by rw [List.length_map]; omega)
  obtain ⟨S, hS, rfl⟩ := List.mem_map.mp hx
  exact say_sh (h.2.2.2 S hS).1
theorem nest_say {S : Say} (h : S.Ok) : nest 6 S.d := by
  have h1 := h.s9
  have h2 := h.d9
  have h3 := h.r100
  refine nest_tup (by simp) fun x hx => ?_
  simp only [List.mem_cons, List.not_mem_nil, or_false] at hx
  rcases hx with rfl | rfl | rfl
  · exact nest_int
  · exact nest_int
  refine nest_tup (by rw [List.length_map]; omega) fun x hx => ?_
  obtain ⟨room, hr, rfl⟩ := List.mem_map.mp hx
  obtain ⟨l1, hrow⟩ := h.wf room hr
  refine nest_tup (by rw [List.length_map]; omega) fun x hx => ?_
  obtain ⟨row, hrw, rfl⟩ := List.mem_map.mp hx
  obtain ⟨l2, hc⟩ := hrow row hrw
  refine nest_tup (by rw [List.length_map]; omega) fun x hx => ?_
  obtain ⟨c, hcc, rfl⟩ := List.mem_map.mp hx
  exact nest_cell
theorem at_last {α : Type} {xs : List α} {x : α} : atI (xs ++ [x]) (-1) = some x := by
  unfold atI ixN
  simp
  have : (-1 + ((xs.length : Int) + 1)).toNat = xs.length := by omega
  rw [if_pos (by omega), this]
  simp
def S_behind : PrmC where
  sp := sD fun (v0 : D) => sD fun (v1 : D) => sD fun (v2 : D) => sD fun (v3 : D) => sEnd fun Q => ∃ (Ss : List Say) (i : Int) (j : Int) (r : Rw) (s1 : Nat) (d1 : Nat), v0 = (saysD Ss) ∧ v1 = (rowD r) ∧ v2 = (.int (s1 : Int)) ∧ v3 = (.int (d1 : Int)) ∧ (AllS i j Ss ∧ OkR Ss r ∧ (s1 : Int) < i ∧ (d1 : Int) < j) ∧ Q (.d (rowD (behindR Ss r s1 d1))) []
  mono := sD.mono fun _ => sD.mono fun _ => sD.mono fun _ => sD.mono fun _ => sEnd.mono fun Q Q' hq ⟨Ss, i, j, r, s1, d1, e0, e1, e2, e3, pre, q⟩ => ⟨Ss, i, j, r, s1, d1, e0, e1, e2, e3, pre, hq _ _ q⟩
def S_ltab : PrmC where
  sp := sD fun (v0 : D) => sD fun (v1 : D) => sEnd fun Q => ∃ (Ss : List Say) (i : Int) (j : Int) (b : Bool), v0 = (saysD Ss) ∧ v1 = (.bool b) ∧ (AllS i j Ss) ∧ ∀ (x : D), ToldF i j (stepX b Ss) (begR Ss) x → Q (.d x) []
  mono := sD.mono fun _ => sD.mono fun _ => sEnd.mono fun Q Q' hq ⟨Ss, i, j, b, e0, e1, pre, q⟩ => ⟨Ss, i, j, b, e0, e1, pre, fun x h => hq _ _ (q x h)⟩
def S_need_says : PrmC where
  sp := sD fun (v0 : D) => sI fun (m : Int) => sEnd fun Q => ∃ (Ss : List Say) (i : Int) (j : Int), v0 = (saysD Ss) ∧ (AllS i j Ss ∧ (Ss.length : Int) ≤ m) ∧ Q (.d .none) []
  mono := sD.mono fun _ => sI.mono fun _ => sEnd.mono fun Q Q' hq ⟨Ss, i, j, e0, pre, q⟩ => ⟨Ss, i, j, e0, pre, hq _ _ q⟩
def S_need_ra : PrmC where
  sp := sD fun (v0 : D) => sEnd fun Q => ∃ (Ss : List Say) (i : Int) (j : Int), v0 = (saysD Ss) ∧ (AllS i j Ss) ∧ Q (.d .none) []
  mono := sD.mono fun _ => sEnd.mono fun Q Q' hq ⟨Ss, i, j, e0, pre, q⟩ => ⟨Ss, i, j, e0, pre, hq _ _ q⟩
def X_join (b : Bool) (cc : Str → Addr) : PrmX where
  p := fun ws Q E => (sD fun (x : D) => sEnd fun Q => ∃ (Ss : List Say) (i j : Int), (x = saysD Ss ∧ AllS i j Ss) ∧ (∀ n, FDone i.toNat j.toNat (stepX b Ss) (begR Ss) n → Q (.d (Say.d ⟨i, j, fcT i.toNat j.toNat (stepX b Ss) (begR Ss) n⟩)) []) ∧ (FWid i.toNat j.toNat (stepX b Ss) (begR Ss) → E ⟨.ref (cc "TooWide"), none⟩)) ws Q
  mono := fun ws Q Q' E E' hq he h0 => by
    obtain ⟨x, ws0, rfl, h1⟩ := sD.inv h0; obtain ⟨rfl, h⟩ := sEnd.inv h1
    show ∃ (Ss : List Say) (i j : Int), (x = saysD Ss ∧ AllS i j Ss) ∧ (∀ n, FDone i.toNat j.toNat (stepX b Ss) (begR Ss) n → Q' (.d (Say.d ⟨i, j, fcT i.toNat j.toNat (stepX b Ss) (begR Ss) n⟩)) []) ∧ (FWid i.toNat j.toNat (stepX b Ss) (begR Ss) → E' ⟨.ref (cc "TooWide"), none⟩)
    repeat' (first | exact h | exact hq _ _ h | exact he _ h | exact fun r => hq _ _ (h r) | exact fun r => he _ (h r) | exact fun r e => hq _ _ (h r e) | (refine br.imp h (fun h => ?_) (fun h => ?_)) | (refine And.imp_right (fun h => ?_) h) | (refine Exists.imp (fun w h => ?_) h) | (refine And.imp (fun h => ?_) (fun h => ?_) h))
def S_lwide : PrmC where
  sp := sO 1 fun (ob : Ob) => sEnd fun Q => ∃ (c : Nat), (IsPot c ob ∧ c ≤ 10 ^ 10) ∧ ∀ (i j m : Nat) (o : Ob), ((1 ≤ i ∧ i ≤ 9) ∧ (1 ≤ j ∧ j ≤ 9) ∧ (1 ≤ m ∧ m ≤ 12) ∧ IsPot (c + 10) o) → Q (.d (.tuple [.int (i : Int), .int (j : Int), .int (m : Int)])) [o]
  mono := sO.mono fun _ => sEnd.mono fun Q Q' hq ⟨c, pre, q⟩ => ⟨c, pre, fun i j m o h => hq _ _ (q i j m o h)⟩
def S_lring : PrmC where
  sp := sR fun (v0 : List D) => sI fun (first : Int) => sO 3 fun (ob : Ob) => sI fun (signs : Int) => sI fun (deeds : Int) => sI fun (most : Int) => sEnd fun Q => ∃ (ns : List Int) (c : Nat), v0 = (ns.map .int) ∧ ((0 ≤ first ∧ first ≤ 10 ^ 9) ∧ IsPot c ob ∧ c ≤ 10 ^ 10 ∧ (1 ≤ signs ∧ signs ≤ 9) ∧ (1 ≤ deeds ∧ deeds ≤ 9) ∧ (1 ≤ most ∧ most ≤ 12)) ∧ ∀ (rs : List (List (List (Option Nat)))) (o : Ob), ((1 ≤ rs.length ∧ rs.length ≤ 12) ∧ Say.Wf ⟨signs, deeds, rs⟩ ∧ IsPot (c + 200) o) → Q (.d (Say.d ⟨signs, deeds, rs⟩)) [o]
  mono := sR.mono fun _ => sI.mono fun _ => sO.mono fun _ => sI.mono fun _ => sI.mono fun _ => sI.mono fun _ => sEnd.mono fun Q Q' hq ⟨ns, c, e0, pre, q⟩ => ⟨ns, c, e0, pre, fun rs o h => hq _ _ (q rs o h)⟩
end M3

set_option Elab.async false
set_option linter.all false
set_option maxRecDepth 100000
set_option maxHeartbeats 4000000
namespace K07
open PySem L2 M3 NdefX LamX
def topS (i : Nat) : Stmt := PySem.Challenge.pw_mildwarden_k07_either_room_by_room.main.body.getD i (.Pass ⟨0, 0, 0, 0⟩)
structure Txt (mg : Str → Option Value) : Prop where
  b_abs : mg "abs" = none
  b_after : mg "after" = none
  b_all : mg "all" = none
  b_any : mg "any" = none
  b_bool : mg "bool" = none
  b_deed : mg "deed" = none
  b_int : mg "int" = none
  b_isinstance : mg "isinstance" = none
  b_len : mg "len" = none
  b_list : mg "list" = none
  b_range : mg "range" = none
  b_repr : mg "repr" = none
  b_room : mg "room" = none
  b_sign : mg "sign" = none
  b_str : mg "str" = none
  b_tuple : mg "tuple" = none
  b_zip : mg "zip" = none
  c_MOST : ∃ t, mg "MOST" = some (.int 100 t)
  c_WIDE : ∃ t, mg "WIDE" = some (.int 9 t)
abbrev s__law_pot : Stmt := topS 22
theorem sc__law_pot : FnScope ["script", "k", "cell"] ["script", "k"] (defScope s__law_pot) := ⟨rfl, rfl, rfl, by decide +kernel, rfl, by decide +kernel, by decide +kernel⟩
abbrev s__law_take : Stmt := topS 23
theorem sc__law_take : FnScope ["pot", "many", "found", "one", "other"] ["pot", "many"] (defScope s__law_take) := ⟨rfl, rfl, rfl, by decide +kernel, rfl, by decide +kernel, by decide +kernel⟩
abbrev s__law_wide : Stmt := topS 28
theorem sc__law_wide : FnScope ["pot", "few", "many"] ["pot"] (defScope s__law_wide) := ⟨rfl, rfl, rfl, by decide +kernel, rfl, by decide +kernel, by decide +kernel⟩
abbrev s__law_behind : Stmt := topS 26
theorem sc__law_behind : FnScope ["sayings", "rooms", "sign", "deed", "one", "room"] ["sayings", "rooms", "sign", "deed"] (defScope s__law_behind) := ⟨rfl, rfl, rfl, by decide +kernel, rfl, by decide +kernel, by decide +kernel⟩
abbrev s__law_table : Stmt := topS 27
theorem sc__law_table : FnScope ["sayings", "some", "signs", "deeds", "rooms", "come", "places", "table", "rows", "sign", "row", "deed", "after", "lost", "one", "room"] ["sayings", "some"] (defScope s__law_table) := ⟨rfl, rfl, rfl, by decide +kernel, rfl, by decide +kernel, by decide +kernel⟩
abbrev s_is_row : Stmt := topS 11
theorem sc_is_row : FnScope ["thing", "many"] ["thing", "many"] (defScope s_is_row) := ⟨rfl, rfl, rfl, by decide +kernel, rfl, by decide +kernel, by decide +kernel⟩
abbrev s_is_whole : Stmt := topS 8
theorem sc_is_whole : FnScope ["thing"] ["thing"] (defScope s_is_whole) := ⟨rfl, rfl, rfl, by decide +kernel, rfl, by decide +kernel, by decide +kernel⟩
abbrev s_is_count : Stmt := topS 10
theorem sc_is_count : FnScope ["thing"] ["thing"] (defScope s_is_count) := ⟨rfl, rfl, rfl, by decide +kernel, rfl, by decide +kernel, by decide +kernel⟩
abbrev s_is_below : Stmt := topS 9
theorem sc_is_below : FnScope ["thing", "most"] ["thing", "most"] (defScope s_is_below) := ⟨rfl, rfl, rfl, by decide +kernel, rfl, by decide +kernel, by decide +kernel⟩
abbrev s_is_room : Stmt := topS 12
theorem sc_is_room : FnScope ["thing", "signs", "deeds", "many", "row", "behind"] ["thing", "signs", "deeds", "many"] (defScope s_is_room) := ⟨rfl, rfl, rfl, by decide +kernel, rfl, by decide +kernel, by decide +kernel⟩
abbrev s_is_saying : Stmt := topS 13
theorem sc_is_saying : FnScope ["thing", "signs", "deeds", "rooms", "room"] ["thing"] (defScope s_is_saying) := ⟨rfl, rfl, rfl, by decide +kernel, rfl, by decide +kernel, by decide +kernel⟩
abbrev s_need_sayings : Stmt := topS 17
theorem sc_need_sayings : FnScope ["sayings", "most", "saying"] ["sayings", "most"] (defScope s_need_sayings) := ⟨rfl, rfl, rfl, by decide +kernel, rfl, by decide +kernel, by decide +kernel⟩
abbrev s_need_alike : Stmt := topS 14
theorem sc_need_alike : FnScope ["one", "other"] ["one", "other"] (defScope s_need_alike) := ⟨rfl, rfl, rfl, by decide +kernel, rfl, by decide +kernel, by decide +kernel⟩
abbrev s_need_row_alike : Stmt := topS 18
theorem sc_need_row_alike : FnScope ["things", "first", "others", "other"] ["things"] (defScope s_need_row_alike) := ⟨rfl, rfl, rfl, by decide +kernel, rfl, by decide +kernel, by decide +kernel⟩
abbrev s_behind : Stmt := topS 19
theorem sc_behind : FnScope ["sayings", "rooms", "sign", "deed", "one", "room"] ["sayings", "rooms", "sign", "deed"] (defScope s_behind) := ⟨rfl, rfl, rfl, by decide +kernel, rfl, by decide +kernel, by decide +kernel⟩
abbrev s_first_come : Stmt := topS 16
theorem sc_first_come : FnScope ["signs", "deeds", "begin", "follow", "things", "numbers", "table", "rows", "sign", "row", "thing", "deed"] ["signs", "deeds", "begin", "follow"] (defScope s_first_come) := ⟨rfl, rfl, rfl, by decide +kernel, rfl, by decide +kernel, by decide +kernel⟩
abbrev s_either : Stmt := topS 20
theorem sc_either : FnScope ["sayings", "follow", "signs", "deeds", "rooms"] ["sayings"] (defScope s_either) := ⟨rfl, rfl, rfl, by decide +kernel, rfl, by decide +kernel, by decide +kernel⟩
abbrev n_either_follow : Stmt := (defBody s_either).getD 2 (.Pass ⟨0, 0, 0, 0⟩)
theorem nsc_either_follow : NdefX.NScope ["rooms", "sign", "deed", "sayings", "after", "room"] ["rooms", "sign", "deed"] ["sayings"] (C8.fnScope n_either_follow) := NdefX.nscope_by (by decide +kernel)
def nm_either : Nat → Nat → Str := fun _ _ => "either.<locals>.follow"
abbrev s__law_same : Stmt := topS 24
theorem sc__law_same : FnScope ["found", "due", "one", "other"] ["found", "due"] (defScope s__law_same) := ⟨rfl, rfl, rfl, by decide +kernel, rfl, by decide +kernel, by decide +kernel⟩
abbrev s__law_ringed : Stmt := topS 25
theorem sc__law_ringed : FnScope ["script", "first", "pot", "signs", "deeds", "most", "rooms", "back", "ring", "rate", "on", "table", "room", "own", "rows", "s", "row", "d", "to"] ["script", "first", "pot", "signs", "deeds", "most"] (defScope s__law_ringed) := ⟨rfl, rfl, rfl, by decide +kernel, rfl, by decide +kernel, by decide +kernel⟩
abbrev s_law : Stmt := topS 29
theorem sc_law : FnScope ["script", "pot", "signs", "deeds", "most", "sayings", "first", "k", "held", "due", "found"] ["script"] (defScope s_law) := ⟨rfl, rfl, rfl, by decide +kernel, rfl, by decide +kernel, by decide +kernel⟩
variable [TabsC]
set_option hygiene false in
local macro_rules | `(tactic| walk_at "m3 side") => `(tactic| ((first | (first | with_reducible assumption | with_reducible rfl | omega | assumption | rfl | decide | exact trivial | exact Nat.le_of_ble_eq_true rfl | (dsimp only; omega) | (simp only [sizeLine24]; omega) | (simp only [sizeLine24, List.length_cons, List.length_nil, List.length_append, List.length_map, rng_len, enumD_length, zipD_length, List.length_range]; omega) | (refine And.intro ?_ ?_ <;> omega) | (refine Or.inl (And.intro ?_ ?_) <;> omega) | (refine Or.inr (And.intro ?_ ?_) <;> omega) | fail) | ((repeat' (first | with_reducible assumption | with_reducible refine And.intro ?_ ?_)) <;> (first | with_reducible assumption | with_reducible rfl | omega | assumption | rfl | decide | exact trivial | exact Nat.le_of_ble_eq_true rfl | (dsimp only; omega) | (simp only [sizeLine24]; omega) | (simp only [sizeLine24, List.length_cons, List.length_nil, List.length_append, List.length_map, rng_len, enumD_length, zipD_length, List.length_range]; omega) | (refine And.intro ?_ ?_ <;> omega) | (refine Or.inl (And.intro ?_ ?_) <;> omega) | (refine Or.inr (And.intro ?_ ?_) <;> omega) | fail)))))
set_option hygiene false in
local macro_rules | `(tactic| walk_at "m3 st") => `(tactic| (((conv => whnf); first | (refine Exists.intro _ (And.intro rfl ?_)) | (refine And.intro ?side ?_; case side => (first | (first | with_reducible assumption | with_reducible rfl | omega | assumption | rfl | decide | exact trivial | exact Nat.le_of_ble_eq_true rfl | (dsimp only; omega) | (simp only [sizeLine24]; omega) | (simp only [sizeLine24, List.length_cons, List.length_nil, List.length_append, List.length_map, rng_len, enumD_length, zipD_length, List.length_range]; omega) | (refine And.intro ?_ ?_ <;> omega) | (refine Or.inl (And.intro ?_ ?_) <;> omega) | (refine Or.inr (And.intro ?_ ?_) <;> omega) | fail) | ((repeat' (first | with_reducible assumption | with_reducible refine And.intro ?_ ?_)) <;> (first | with_reducible assumption | with_reducible rfl | omega | assumption | rfl | decide | exact trivial | exact Nat.le_of_ble_eq_true rfl | (dsimp only; omega) | (simp only [sizeLine24]; omega) | (simp only [sizeLine24, List.length_cons, List.length_nil, List.length_append, List.length_map, rng_len, enumD_length, zipD_length, List.length_range]; omega) | (refine And.intro ?_ ?_ <;> omega) | (refine Or.inl (And.intro ?_ ?_) <;> omega) | (refine Or.inr (And.intro ?_ ?_) <;> omega) | fail)))) | fail)))
set_option hygiene false in
local macro_rules | `(tactic| walk_at "m3 wp") => `(tactic| (repeat ((conv => whnf); first | (refine Exists.intro _ (And.intro rfl ?_)) | (refine And.intro ?side ?_; case side => (first | (first | with_reducible assumption | with_reducible rfl | omega | assumption | rfl | decide | exact trivial | exact Nat.le_of_ble_eq_true rfl | (dsimp only; omega) | (simp only [sizeLine24]; omega) | (simp only [sizeLine24, List.length_cons, List.length_nil, List.length_append, List.length_map, rng_len, enumD_length, zipD_length, List.length_range]; omega) | (refine And.intro ?_ ?_ <;> omega) | (refine Or.inl (And.intro ?_ ?_) <;> omega) | (refine Or.inr (And.intro ?_ ?_) <;> omega) | fail) | ((repeat' (first | with_reducible assumption | with_reducible refine And.intro ?_ ?_)) <;> (first | with_reducible assumption | with_reducible rfl | omega | assumption | rfl | decide | exact trivial | exact Nat.le_of_ble_eq_true rfl | (dsimp only; omega) | (simp only [sizeLine24]; omega) | (simp only [sizeLine24, List.length_cons, List.length_nil, List.length_append, List.length_map, rng_len, enumD_length, zipD_length, List.length_range]; omega) | (refine And.intro ?_ ?_ <;> omega) | (refine Or.inl (And.intro ?_ ?_) <;> omega) | (refine Or.inr (And.intro ?_ ?_) <;> omega) | fail)))) | (refine' Exists.intro _ (And.intro rfl (And.intro ?side ?_)); case side => (first | (first | with_reducible assumption | with_reducible rfl | omega | assumption | rfl | decide | exact trivial | exact Nat.le_of_ble_eq_true rfl | (dsimp only; omega) | (simp only [sizeLine24]; omega) | (simp only [sizeLine24, List.length_cons, List.length_nil, List.length_append, List.length_map, rng_len, enumD_length, zipD_length, List.length_range]; omega) | (refine And.intro ?_ ?_ <;> omega) | (refine Or.inl (And.intro ?_ ?_) <;> omega) | (refine Or.inr (And.intro ?_ ?_) <;> omega) | fail) | ((repeat' (first | with_reducible assumption | with_reducible refine And.intro ?_ ?_)) <;> (first | with_reducible assumption | with_reducible rfl | omega | assumption | rfl | decide | exact trivial | exact Nat.le_of_ble_eq_true rfl | (dsimp only; omega) | (simp only [sizeLine24]; omega) | (simp only [sizeLine24, List.length_cons, List.length_nil, List.length_append, List.length_map, rng_len, enumD_length, zipD_length, List.length_range]; omega) | (refine And.intro ?_ ?_ <;> omega) | (refine Or.inl (And.intro ?_ ?_) <;> omega) | (refine Or.inr (And.intro ?_ ?_) <;> omega) | fail)))) | (refine' Exists.intro _ (And.intro ?side ?_); case side => (first | (first | with_reducible assumption | with_reducible rfl | omega | assumption | rfl | decide | exact trivial | exact Nat.le_of_ble_eq_true rfl | (dsimp only; omega) | (simp only [sizeLine24]; omega) | (simp only [sizeLine24, List.length_cons, List.length_nil, List.length_append, List.length_map, rng_len, enumD_length, zipD_length, List.length_range]; omega) | (refine And.intro ?_ ?_ <;> omega) | (refine Or.inl (And.intro ?_ ?_) <;> omega) | (refine Or.inr (And.intro ?_ ?_) <;> omega) | fail) | ((repeat' (first | with_reducible assumption | with_reducible refine And.intro ?_ ?_)) <;> (first | with_reducible assumption | with_reducible rfl | omega | assumption | rfl | decide | exact trivial | exact Nat.le_of_ble_eq_true rfl | (dsimp only; omega) | (simp only [sizeLine24]; omega) | (simp only [sizeLine24, List.length_cons, List.length_nil, List.length_append, List.length_map, rng_len, enumD_length, zipD_length, List.length_range]; omega) | (refine And.intro ?_ ?_ <;> omega) | (refine Or.inl (And.intro ?_ ?_) <;> omega) | (refine Or.inr (And.intro ?_ ?_) <;> omega) | fail)))) | (refine' Exists.intro _ (Exists.intro _ (And.intro rfl (And.intro rfl (And.intro ?side ?_)))); case side => (first | (first | with_reducible assumption | with_reducible rfl | omega | assumption | rfl | decide | exact trivial | exact Nat.le_of_ble_eq_true rfl | (dsimp only; omega) | (simp only [sizeLine24]; omega) | (simp only [sizeLine24, List.length_cons, List.length_nil, List.length_append, List.length_map, rng_len, enumD_length, zipD_length, List.length_range]; omega) | (refine And.intro ?_ ?_ <;> omega) | (refine Or.inl (And.intro ?_ ?_) <;> omega) | (refine Or.inr (And.intro ?_ ?_) <;> omega) | fail) | ((repeat' (first | with_reducible assumption | with_reducible refine And.intro ?_ ?_)) <;> (first | with_reducible assumption | with_reducible rfl | omega | assumption | rfl | decide | exact trivial | exact Nat.le_of_ble_eq_true rfl | (dsimp only; omega) | (simp only [sizeLine24]; omega) | (simp only [sizeLine24, List.length_cons, List.length_nil, List.length_append, List.length_map, rng_len, enumD_length, zipD_length, List.length_range]; omega) | (refine And.intro ?_ ?_ <;> omega) | (refine Or.inl (And.intro ?_ ?_) <;> omega) | (refine Or.inr (And.intro ?_ ?_) <;> omega) | fail)))) | (refine' Exists.intro _ (Exists.intro _ (And.intro rfl (And.intro ?side ?_))); case side => (first | (first | with_reducible assumption | with_reducible rfl | omega | assumption | rfl | decide | exact trivial | exact Nat.le_of_ble_eq_true rfl | (dsimp only; omega) | (simp only [sizeLine24]; omega) | (simp only [sizeLine24, List.length_cons, List.length_nil, List.length_append, List.length_map, rng_len, enumD_length, zipD_length, List.length_range]; omega) | (refine And.intro ?_ ?_ <;> omega) | (refine Or.inl (And.intro ?_ ?_) <;> omega) | (refine Or.inr (And.intro ?_ ?_) <;> omega) | fail) | ((repeat' (first | with_reducible assumption | with_reducible refine And.intro ?_ ?_)) <;> (first | with_reducible assumption | with_reducible rfl | omega | assumption | rfl | decide | exact trivial | exact Nat.le_of_ble_eq_true rfl | (dsimp only; omega) | (simp only [sizeLine24]; omega) | (simp only [sizeLine24, List.length_cons, List.length_nil, List.length_append, List.length_map, rng_len, enumD_length, zipD_length, List.length_range]; omega) | (refine And.intro ?_ ?_ <;> omega) | (refine Or.inl (And.intro ?_ ?_) <;> omega) | (refine Or.inr (And.intro ?_ ?_) <;> omega) | fail)))) | (refine' Exists.intro _ (Exists.intro _ (And.intro ?side ?_)); case side => (first | (first | with_reducible assumption | with_reducible rfl | omega | assumption | rfl | decide | exact trivial | exact Nat.le_of_ble_eq_true rfl | (dsimp only; omega) | (simp only [sizeLine24]; omega) | (simp only [sizeLine24, List.length_cons, List.length_nil, List.length_append, List.length_map, rng_len, enumD_length, zipD_length, List.length_range]; omega) | (refine And.intro ?_ ?_ <;> omega) | (refine Or.inl (And.intro ?_ ?_) <;> omega) | (refine Or.inr (And.intro ?_ ?_) <;> omega) | fail) | ((repeat' (first | with_reducible assumption | with_reducible refine And.intro ?_ ?_)) <;> (first | with_reducible assumption | with_reducible rfl | omega | assumption | rfl | decide | exact trivial | exact Nat.le_of_ble_eq_true rfl | (dsimp only; omega) | (simp only [sizeLine24]; omega) | (simp only [sizeLine24, List.length_cons, List.length_nil, List.length_append, List.length_map, rng_len, enumD_length, zipD_length, List.length_range]; omega) | (refine And.intro ?_ ?_ <;> omega) | (refine Or.inl (And.intro ?_ ?_) <;> omega) | (refine Or.inr (And.intro ?_ ?_) <;> omega) | fail)))) | (refine' Exists.intro _ (Exists.intro _ (Exists.intro _ (And.intro rfl (And.intro rfl (And.intro rfl (And.intro ?side ?_)))))); case side => (first | (first | with_reducible assumption | with_reducible rfl | omega | assumption | rfl | decide | exact trivial | exact Nat.le_of_ble_eq_true rfl | (dsimp only; omega) | (simp only [sizeLine24]; omega) | (simp only [sizeLine24, List.length_cons, List.length_nil, List.length_append, List.length_map, rng_len, enumD_length, zipD_length, List.length_range]; omega) | (refine And.intro ?_ ?_ <;> omega) | (refine Or.inl (And.intro ?_ ?_) <;> omega) | (refine Or.inr (And.intro ?_ ?_) <;> omega) | fail) | ((repeat' (first | with_reducible assumption | with_reducible refine And.intro ?_ ?_)) <;> (first | with_reducible assumption | with_reducible rfl | omega | assumption | rfl | decide | exact trivial | exact Nat.le_of_ble_eq_true rfl | (dsimp only; omega) | (simp only [sizeLine24]; omega) | (simp only [sizeLine24, List.length_cons, List.length_nil, List.length_append, List.length_map, rng_len, enumD_length, zipD_length, List.length_range]; omega) | (refine And.intro ?_ ?_ <;> omega) | (refine Or.inl (And.intro ?_ ?_) <;> omega) | (refine Or.inr (And.intro ?_ ?_) <;> omega) | fail)))) | (refine' Exists.intro _ (Exists.intro _ (Exists.intro _ (And.intro rfl (And.intro rfl (And.intro ?side ?_))))); case side => (first | (first | with_reducible assumption | with_reducible rfl | omega | assumption | rfl | decide | exact trivial | exact Nat.le_of_ble_eq_true rfl | (dsimp only; omega) | (simp only [sizeLine24]; omega) | (simp only [sizeLine24, List.length_cons, List.length_nil, List.length_append, List.length_map, rng_len, enumD_length, zipD_length, List.length_range]; omega) | (refine And.intro ?_ ?_ <;> omega) | (refine Or.inl (And.intro ?_ ?_) <;> omega) | (refine Or.inr (And.intro ?_ ?_) <;> omega) | fail) | ((repeat' (first | with_reducible assumption | with_reducible refine And.intro ?_ ?_)) <;> (first | with_reducible assumption | with_reducible rfl | omega | assumption | rfl | decide | exact trivial | exact Nat.le_of_ble_eq_true rfl | (dsimp only; omega) | (simp only [sizeLine24]; omega) | (simp only [sizeLine24, List.length_cons, List.length_nil, List.length_append, List.length_map, rng_len, enumD_length, zipD_length, List.length_range]; omega) | (refine And.intro ?_ ?_ <;> omega) | (refine Or.inl (And.intro ?_ ?_) <;> omega) | (refine Or.inr (And.intro ?_ ?_) <;> omega) | fail)))) | (refine' Exists.intro _ (Exists.intro _ (Exists.intro _ (And.intro rfl (And.intro ?side ?_)))); case side => (first | (first | with_reducible assumption | with_reducible rfl | omega | assumption | rfl | decide | exact trivial | exact Nat.le_of_ble_eq_true rfl | (dsimp only; omega) | (simp only [sizeLine24]; omega) | (simp only [sizeLine24, List.length_cons, List.length_nil, List.length_append, List.length_map, rng_len, enumD_length, zipD_length, List.length_range]; omega) | (refine And.intro ?_ ?_ <;> omega) | (refine Or.inl (And.intro ?_ ?_) <;> omega) | (refine Or.inr (And.intro ?_ ?_) <;> omega) | fail) | ((repeat' (first | with_reducible assumption | with_reducible refine And.intro ?_ ?_)) <;> (first | with_reducible assumption | with_reducible rfl | omega | assumption | rfl | decide | exact trivial | exact Nat.le_of_ble_eq_true rfl | (dsimp only; omega) | (simp only [sizeLine24]; omega) | (simp only [sizeLine24, List.length_cons, List.length_nil, List.length_append, List.length_map, rng_len, enumD_length, zipD_length, List.length_range]; omega) | (refine And.intro ?_ ?_ <;> omega) | (refine Or.inl (And.intro ?_ ?_) <;> omega) | (refine Or.inr (And.intro ?_ ?_) <;> omega) | fail)))) | (refine' Exists.intro _ (Exists.intro _ (Exists.intro _ (And.intro ?side ?_))); case side => (first | (first | with_reducible assumption | with_reducible rfl | omega | assumption | rfl | decide | exact trivial | exact Nat.le_of_ble_eq_true rfl | (dsimp only; omega) | (simp only [sizeLine24]; omega) | (simp only [sizeLine24, List.length_cons, List.length_nil, List.length_append, List.length_map, rng_len, enumD_length, zipD_length, List.length_range]; omega) | (refine And.intro ?_ ?_ <;> omega) | (refine Or.inl (And.intro ?_ ?_) <;> omega) | (refine Or.inr (And.intro ?_ ?_) <;> omega) | fail) | ((repeat' (first | with_reducible assumption | with_reducible refine And.intro ?_ ?_)) <;> (first | with_reducible assumption | with_reducible rfl | omega | assumption | rfl | decide | exact trivial | exact Nat.le_of_ble_eq_true rfl | (dsimp only; omega) | (simp only [sizeLine24]; omega) | (simp only [sizeLine24, List.length_cons, List.length_nil, List.length_append, List.length_map, rng_len, enumD_length, zipD_length, List.length_range]; omega) | (refine And.intro ?_ ?_ <;> omega) | (refine Or.inl (And.intro ?_ ?_) <;> omega) | (refine Or.inr (And.intro ?_ ?_) <;> omega) | fail)))) | (refine' Exists.intro _ (Exists.intro _ (Exists.intro _ (Exists.intro _ (And.intro rfl (And.intro ?side ?_))))); case side => (first | (first | with_reducible assumption | with_reducible rfl | omega | assumption | rfl | decide | exact trivial | exact Nat.le_of_ble_eq_true rfl | (dsimp only; omega) | (simp only [sizeLine24]; omega) | (simp only [sizeLine24, List.length_cons, List.length_nil, List.length_append, List.length_map, rng_len, enumD_length, zipD_length, List.length_range]; omega) | (refine And.intro ?_ ?_ <;> omega) | (refine Or.inl (And.intro ?_ ?_) <;> omega) | (refine Or.inr (And.intro ?_ ?_) <;> omega) | fail) | ((repeat' (first | with_reducible assumption | with_reducible refine And.intro ?_ ?_)) <;> (first | with_reducible assumption | with_reducible rfl | omega | assumption | rfl | decide | exact trivial | exact Nat.le_of_ble_eq_true rfl | (dsimp only; omega) | (simp only [sizeLine24]; omega) | (simp only [sizeLine24, List.length_cons, List.length_nil, List.length_append, List.length_map, rng_len, enumD_length, zipD_length, List.length_range]; omega) | (refine And.intro ?_ ?_ <;> omega) | (refine Or.inl (And.intro ?_ ?_) <;> omega) | (refine Or.inr (And.intro ?_ ?_) <;> omega) | fail)))) | fail)))
set_option hygiene false in
local macro_rules | `(tactic| walk_at "m3 wpb") => `(tactic| (repeat' ((conv => whnf); first | (refine Exists.intro _ (And.intro rfl ?_)) | (first | (refine br_t ?hk ?_; case hk => (first | rfl | assumption | (apply decide_eq_true; first | omega | assumption) | (apply nt; (first | assumption | (apply decide_eq_false; first | omega | assumption) | fail)) | fail)) | (refine br_f ?hk ?_; case hk => (first | rfl | assumption | (apply decide_eq_false; first | omega | assumption) | (apply nf; (first | assumption | (apply decide_eq_true; first | omega | assumption) | fail)) | fail)) | (refine br.mk (fun hbr => ?_) (fun hbr => ?_) <;> (first | exact Bool.noConfusion (show false = true from hbr) | exact Bool.noConfusion (show true = false from hbr) | simp only [decide_eq_true_eq, decide_eq_false_iff_not, Bool.not_eq_true', Bool.not_eq_false', Bool.and_eq_true, Bool.not_not, id_eq, not_true_eq_false] at hbr | skip))) | (refine And.intro ?side ?_; case side => (first | (first | with_reducible assumption | with_reducible rfl | omega | assumption | rfl | decide | exact trivial | exact Nat.le_of_ble_eq_true rfl | (dsimp only; omega) | (simp only [sizeLine24]; omega) | (simp only [sizeLine24, List.length_cons, List.length_nil, List.length_append, List.length_map, rng_len, enumD_length, zipD_length, List.length_range]; omega) | (refine And.intro ?_ ?_ <;> omega) | (refine Or.inl (And.intro ?_ ?_) <;> omega) | (refine Or.inr (And.intro ?_ ?_) <;> omega) | fail) | ((repeat' (first | with_reducible assumption | with_reducible refine And.intro ?_ ?_)) <;> (first | with_reducible assumption | with_reducible rfl | omega | assumption | rfl | decide | exact trivial | exact Nat.le_of_ble_eq_true rfl | (dsimp only; omega) | (simp only [sizeLine24]; omega) | (simp only [sizeLine24, List.length_cons, List.length_nil, List.length_append, List.length_map, rng_len, enumD_length, zipD_length, List.length_range]; omega) | (refine And.intro ?_ ?_ <;> omega) | (refine Or.inl (And.intro ?_ ?_) <;> omega) | (refine Or.inr (And.intro ?_ ?_) <;> omega) | fail)))) | (refine' Exists.intro _ (And.intro rfl (And.intro ?side ?_)); case side => (first | (first | with_reducible assumption | with_reducible rfl | omega | assumption | rfl | decide | exact trivial | exact Nat.le_of_ble_eq_true rfl | (dsimp only; omega) | (simp only [sizeLine24]; omega) | (simp only [sizeLine24, List.length_cons, List.length_nil, List.length_append, List.length_map, rng_len, enumD_length, zipD_length, List.length_range]; omega) | (refine And.intro ?_ ?_ <;> omega) | (refine Or.inl (And.intro ?_ ?_) <;> omega) | (refine Or.inr (And.intro ?_ ?_) <;> omega) | fail) | ((repeat' (first | with_reducible assumption | with_reducible refine And.intro ?_ ?_)) <;> (first | with_reducible assumption | with_reducible rfl | omega | assumption | rfl | decide | exact trivial | exact Nat.le_of_ble_eq_true rfl | (dsimp only; omega) | (simp only [sizeLine24]; omega) | (simp only [sizeLine24, List.length_cons, List.length_nil, List.length_append, List.length_map, rng_len, enumD_length, zipD_length, List.length_range]; omega) | (refine And.intro ?_ ?_ <;> omega) | (refine Or.inl (And.intro ?_ ?_) <;> omega) | (refine Or.inr (And.intro ?_ ?_) <;> omega) | fail)))) | (refine' Exists.intro _ (And.intro ?side ?_); case side => (first | (first | with_reducible assumption | with_reducible rfl | omega | assumption | rfl | decide | exact trivial | exact Nat.le_of_ble_eq_true rfl | (dsimp only; omega) | (simp only [sizeLine24]; omega) | (simp only [sizeLine24, List.length_cons, List.length_nil, List.length_append, List.length_map, rng_len, enumD_length, zipD_length, List.length_range]; omega) | (refine And.intro ?_ ?_ <;> omega) | (refine Or.inl (And.intro ?_ ?_) <;> omega) | (refine Or.inr (And.intro ?_ ?_) <;> omega) | fail) | ((repeat' (first | with_reducible assumption | with_reducible refine And.intro ?_ ?_)) <;> (first | with_reducible assumption | with_reducible rfl | omega | assumption | rfl | decide | exact trivial | exact Nat.le_of_ble_eq_true rfl | (dsimp only; omega) | (simp only [sizeLine24]; omega) | (simp only [sizeLine24, List.length_cons, List.length_nil, List.length_append, List.length_map, rng_len, enumD_length, zipD_length, List.length_range]; omega) | (refine And.intro ?_ ?_ <;> omega) | (refine Or.inl (And.intro ?_ ?_) <;> omega) | (refine Or.inr (And.intro ?_ ?_) <;> omega) | fail)))) | (refine' Exists.intro _ (Exists.intro _ (And.intro rfl (And.intro rfl (And.intro ?side ?_)))); case side => (first | (first | with_reducible assumption | with_reducible rfl | omega | assumption | rfl | decide | exact trivial | exact Nat.le_of_ble_eq_true rfl | (dsimp only; omega) | (simp only [sizeLine24]; omega) | (simp only [sizeLine24, List.length_cons, List.length_nil, List.length_append, List.length_map, rng_len, enumD_length, zipD_length, List.length_range]; omega) | (refine And.intro ?_ ?_ <;> omega) | (refine Or.inl (And.intro ?_ ?_) <;> omega) | (refine Or.inr (And.intro ?_ ?_) <;> omega) | fail) | ((repeat' (first | with_reducible assumption | with_reducible refine And.intro ?_ ?_)) <;> (first | with_reducible assumption | with_reducible rfl | omega | assumption | rfl | decide | exact trivial | exact Nat.le_of_ble_eq_true rfl | (dsimp only; omega) | (simp only [sizeLine24]; omega) | (simp only [sizeLine24, List.length_cons, List.length_nil, List.length_append, List.length_map, rng_len, enumD_length, zipD_length, List.length_range]; omega) | (refine And.intro ?_ ?_ <;> omega) | (refine Or.inl (And.intro ?_ ?_) <;> omega) | (refine Or.inr (And.intro ?_ ?_) <;> omega) | fail)))) | (refine' Exists.intro _ (Exists.intro _ (And.intro rfl (And.intro ?side ?_))); case side => (first | (first | with_reducible assumption | with_reducible rfl | omega | assumption | rfl | decide | exact trivial | exact Nat.le_of_ble_eq_true rfl | (dsimp only; omega) | (simp only [sizeLine24]; omega) | (simp only [sizeLine24, List.length_cons, List.length_nil, List.length_append, List.length_map, rng_len, enumD_length, zipD_length, List.length_range]; omega) | (refine And.intro ?_ ?_ <;> omega) | (refine Or.inl (And.intro ?_ ?_) <;> omega) | (refine Or.inr (And.intro ?_ ?_) <;> omega) | fail) | ((repeat' (first | with_reducible assumption | with_reducible refine And.intro ?_ ?_)) <;> (first | with_reducible assumption | with_reducible rfl | omega | assumption | rfl | decide | exact trivial | exact Nat.le_of_ble_eq_true rfl | (dsimp only; omega) | (simp only [sizeLine24]; omega) | (simp only [sizeLine24, List.length_cons, List.length_nil, List.length_append, List.length_map, rng_len, enumD_length, zipD_length, List.length_range]; omega) | (refine And.intro ?_ ?_ <;> omega) | (refine Or.inl (And.intro ?_ ?_) <;> omega) | (refine Or.inr (And.intro ?_ ?_) <;> omega) | fail)))) | (refine' Exists.intro _ (Exists.intro _ (And.intro ?side ?_)); case side => (first | (first | with_reducible assumption | with_reducible rfl | omega | assumption | rfl | decide | exact trivial | exact Nat.le_of_ble_eq_true rfl | (dsimp only; omega) | (simp only [sizeLine24]; omega) | (simp only [sizeLine24, List.length_cons, List.length_nil, List.length_append, List.length_map, rng_len, enumD_length, zipD_length, List.length_range]; omega) | (refine And.intro ?_ ?_ <;> omega) | (refine Or.inl (And.intro ?_ ?_) <;> omega) | (refine Or.inr (And.intro ?_ ?_) <;> omega) | fail) | ((repeat' (first | with_reducible assumption | with_reducible refine And.intro ?_ ?_)) <;> (first | with_reducible assumption | with_reducible rfl | omega | assumption | rfl | decide | exact trivial | exact Nat.le_of_ble_eq_true rfl | (dsimp only; omega) | (simp only [sizeLine24]; omega) | (simp only [sizeLine24, List.length_cons, List.length_nil, List.length_append, List.length_map, rng_len, enumD_length, zipD_length, List.length_range]; omega) | (refine And.intro ?_ ?_ <;> omega) | (refine Or.inl (And.intro ?_ ?_) <;> omega) | (refine Or.inr (And.intro ?_ ?_) <;> omega) | fail)))) | (refine' Exists.intro _ (Exists.intro _ (Exists.intro _ (And.intro rfl (And.intro rfl (And.intro rfl (And.intro ?side ?_)))))); case side => (first | (first | with_reducible assumption | with_reducible rfl | omega | assumption | rfl | decide | exact trivial | exact Nat.le_of_ble_eq_true rfl | (dsimp only; omega) | (simp only [sizeLine24]; omega) | (simp only [sizeLine24, List.length_cons, List.length_nil, List.length_append, List.length_map, rng_len, enumD_length, zipD_length, List.length_range]; omega) | (refine And.intro ?_ ?_ <;> omega) | (refine Or.inl (And.intro ?_ ?_) <;> omega) | (refine Or.inr (And.intro ?_ ?_) <;> omega) | fail) | ((repeat' (first | with_reducible assumption | with_reducible refine And.intro ?_ ?_)) <;> (first | with_reducible assumption | with_reducible rfl | omega | assumption | rfl | decide | exact trivial | exact Nat.le_of_ble_eq_true rfl | (dsimp only; omega) | (simp only [sizeLine24]; omega) | (simp only [sizeLine24, List.length_cons, List.length_nil, List.length_append, List.length_map, rng_len, enumD_length, zipD_length, List.length_range]; omega) | (refine And.intro ?_ ?_ <;> omega) | (refine Or.inl (And.intro ?_ ?_) <;> omega) | (refine Or.inr (And.intro ?_ ?_) <;> omega) | fail)))) | (refine' Exists.intro _ (Exists.intro _ (Exists.intro _ (And.intro rfl (And.intro rfl (And.intro ?side ?_))))); case side => (first | (first | with_reducible assumption | with_reducible rfl | omega | assumption | rfl | decide | exact trivial | exact Nat.le_of_ble_eq_true rfl | (dsimp only; omega) | (simp only [sizeLine24]; omega) | (simp only [sizeLine24, List.length_cons, List.length_nil, List.length_append, List.length_map, rng_len, enumD_length, zipD_length, List.length_range]; omega) | (refine And.intro ?_ ?_ <;> omega) | (refine Or.inl (And.intro ?_ ?_) <;> omega) | (refine Or.inr (And.intro ?_ ?_) <;> omega) | fail) | ((repeat' (first | with_reducible assumption | with_reducible refine And.intro ?_ ?_)) <;> (first | with_reducible assumption | with_reducible rfl | omega | assumption | rfl | decide | exact trivial | exact Nat.le_of_ble_eq_true rfl | (dsimp only; omega) | (simp only [sizeLine24]; omega) | (simp only [sizeLine24, List.length_cons, List.length_nil, List.length_append, List.length_map, rng_len, enumD_length, zipD_length, List.length_range]; omega) | (refine And.intro ?_ ?_ <;> omega) | (refine Or.inl (And.intro ?_ ?_) <;> omega) | (refine Or.inr (And.intro ?_ ?_) <;> omega) | fail)))) | (refine' Exists.intro _ (Exists.intro _ (Exists.intro _ (And.intro rfl (And.intro ?side ?_)))); case side => (first | (first | with_reducible assumption | with_reducible rfl | omega | assumption | rfl | decide | exact trivial | exact Nat.le_of_ble_eq_true rfl | (dsimp only; omega) | (simp only [sizeLine24]; omega) | (simp only [sizeLine24, List.length_cons, List.length_nil, List.length_append, List.length_map, rng_len, enumD_length, zipD_length, List.length_range]; omega) | (refine And.intro ?_ ?_ <;> omega) | (refine Or.inl (And.intro ?_ ?_) <;> omega) | (refine Or.inr (And.intro ?_ ?_) <;> omega) | fail) | ((repeat' (first | with_reducible assumption | with_reducible refine And.intro ?_ ?_)) <;> (first | with_reducible assumption | with_reducible rfl | omega | assumption | rfl | decide | exact trivial | exact Nat.le_of_ble_eq_true rfl | (dsimp only; omega) | (simp only [sizeLine24]; omega) | (simp only [sizeLine24, List.length_cons, List.length_nil, List.length_append, List.length_map, rng_len, enumD_length, zipD_length, List.length_range]; omega) | (refine And.intro ?_ ?_ <;> omega) | (refine Or.inl (And.intro ?_ ?_) <;> omega) | (refine Or.inr (And.intro ?_ ?_) <;> omega) | fail)))) | (refine' Exists.intro _ (Exists.intro _ (Exists.intro _ (And.intro ?side ?_))); case side => (first | (first | with_reducible assumption | with_reducible rfl | omega | assumption | rfl | decide | exact trivial | exact Nat.le_of_ble_eq_true rfl | (dsimp only; omega) | (simp only [sizeLine24]; omega) | (simp only [sizeLine24, List.length_cons, List.length_nil, List.length_append, List.length_map, rng_len, enumD_length, zipD_length, List.length_range]; omega) | (refine And.intro ?_ ?_ <;> omega) | (refine Or.inl (And.intro ?_ ?_) <;> omega) | (refine Or.inr (And.intro ?_ ?_) <;> omega) | fail) | ((repeat' (first | with_reducible assumption | with_reducible refine And.intro ?_ ?_)) <;> (first | with_reducible assumption | with_reducible rfl | omega | assumption | rfl | decide | exact trivial | exact Nat.le_of_ble_eq_true rfl | (dsimp only; omega) | (simp only [sizeLine24]; omega) | (simp only [sizeLine24, List.length_cons, List.length_nil, List.length_append, List.length_map, rng_len, enumD_length, zipD_length, List.length_range]; omega) | (refine And.intro ?_ ?_ <;> omega) | (refine Or.inl (And.intro ?_ ?_) <;> omega) | (refine Or.inr (And.intro ?_ ?_) <;> omega) | fail)))) | (refine' Exists.intro _ (Exists.intro _ (Exists.intro _ (Exists.intro _ (And.intro rfl (And.intro ?side ?_))))); case side => (first | (first | with_reducible assumption | with_reducible rfl | omega | assumption | rfl | decide | exact trivial | exact Nat.le_of_ble_eq_true rfl | (dsimp only; omega) | (simp only [sizeLine24]; omega) | (simp only [sizeLine24, List.length_cons, List.length_nil, List.length_append, List.length_map, rng_len, enumD_length, zipD_length, List.length_range]; omega) | (refine And.intro ?_ ?_ <;> omega) | (refine Or.inl (And.intro ?_ ?_) <;> omega) | (refine Or.inr (And.intro ?_ ?_) <;> omega) | fail) | ((repeat' (first | with_reducible assumption | with_reducible refine And.intro ?_ ?_)) <;> (first | with_reducible assumption | with_reducible rfl | omega | assumption | rfl | decide | exact trivial | exact Nat.le_of_ble_eq_true rfl | (dsimp only; omega) | (simp only [sizeLine24]; omega) | (simp only [sizeLine24, List.length_cons, List.length_nil, List.length_append, List.length_map, rng_len, enumD_length, zipD_length, List.length_range]; omega) | (refine And.intro ?_ ?_ <;> omega) | (refine Or.inl (And.intro ?_ ?_) <;> omega) | (refine Or.inr (And.intro ?_ ?_) <;> omega) | fail)))) | fail)))
set_option hygiene false in
local macro_rules | `(tactic| walk_at "m3 br") => `(tactic| (((conv => whnf); (first | (refine br_t ?hk ?_; case hk => (first | rfl | assumption | (apply decide_eq_true; first | omega | assumption) | (apply nt; (first | assumption | (apply decide_eq_false; first | omega | assumption) | fail)) | fail)) | (refine br_f ?hk ?_; case hk => (first | rfl | assumption | (apply decide_eq_false; first | omega | assumption) | (apply nf; (first | assumption | (apply decide_eq_true; first | omega | assumption) | fail)) | fail)) | (refine br.mk (fun hbr => ?_) (fun hbr => ?_) <;> (first | exact Bool.noConfusion (show false = true from hbr) | exact Bool.noConfusion (show true = false from hbr) | simp only [decide_eq_true_eq, decide_eq_false_iff_not, Bool.not_eq_true', Bool.not_eq_false', Bool.and_eq_true, Bool.not_not, id_eq, not_true_eq_false] at hbr | skip))))))
structure TxE (K : PySem.W.Frag) (mg : Str → Option Value) (cc : Str → Addr) : Prop where
  e_TooWide : ExCls K mg "TooWide" (cc "TooWide")
structure TxC (K : PySem.W.Frag) (mg : Str → Option Value) (cc : Str → Addr) : Prop where
  g : mg "TooWide" = some (.ref (cc "TooWide"))
  x_TooWide : PySem.W.exmOne K (.ref (cc "TooWide")) (.ref (cc "TooWide")) = some true
  c_TooWide : ExcC K (cc "TooWide")
  k_TooWide_TooWide : PySem.W.kitOne K (.ref (cc "TooWide")) (.ref (cc "TooWide")) = some true
section
variable {P : Program} {w : World} {K : PySem.W.Frag} {mg : Str → Option Value} {base : Heap} {cc : Str → Addr}
theorem ok__law_pot {f : Addr} {fd : FuncData} (F : Fun K "_law_pot" "_law_pot" s__law_pot f fd) (T : Txt mg)  : FnOk P w K mg base CX0 1 f fd ["script", "k"] (liftF K S_pot.p) := by
  refine fnN F sc__law_pot (fun ws Q h0 => by (obtain ⟨v0, ws0, rfl, h1⟩ := sR.inv h0; obtain ⟨k, ws1, rfl, h2⟩ := sI.inv h1; obtain ⟨rfl, h⟩ := sEnd.inv h2); rfl) (fun cdv A outer s H E hr => ⟨_, (scN (set3 2 sc__law_pot.nd int3)
      (scN (if3 (lt3T (v3 1) (lenO3 0 (by rfl) T.b_len))
      (s13 (set3 2 sc__law_pot.nd (mod3 (abs3  (by rfl) T.b_abs (ixOK 0 (v3 1))) (pow3 (pow3 int3 int3) int3))))
      sn3)
      (s13 (retO3 (olst3 (ac3 (mulI3 (v3 2) (int3c  (by rfl) T.b_int (ge3 (v3 2) (pow3 int3 int3)))) (ac3 (mod3 (pow3 (add3 (add3 (mod3 (v3 2) int3) (mulI3 int3 (v3 1))) int3) int3) int3) (ac3 int3 an3)))))))), ?_⟩)
  intro ws Q h0
  obtain ⟨v0, ws0, rfl, h1⟩ := sR.inv h0
  obtain ⟨k, ws1, rfl, h2⟩ := sI.inv h1
  obtain ⟨rfl, h⟩ := sEnd.inv h2
  obtain ⟨ns, rfl, pre, q⟩ := h
  clear h0 h1 h2
  obtain ⟨hk, hk2⟩ := pre
  have fin : ∀ cell : Int, 0 ≤ cell → IsPot 0 (.lst [.int (cell * (if decide ((10 : Int) ^ Int.toNat 18 ≤ cell) then 1 else 0)), .int ((cell % 2147483629 + 7919 * k + 1) ^ Int.toNat 5 % 2305843009213693951), .int 0]) := by
    intro cell h0
    refine ⟨_, _, _, rfl, ?_, ?_, ?_, by decide, by decide⟩
    · split
      · omega
      · simp
    · exact Int.emod_nonneg _ (by decide)
    · exact Int.lt_trans (Int.emod_lt_of_pos _ (by decide)) (by decide)
  have bnd : ∀ cell : Int, (cell % 2147483629 + 7919 * k + 1).natAbs < 2 ^ 60 := fun cell => by
    have h1 := Int.emod_nonneg cell (show (2147483629 : Int) ≠ 0 by decide)
    have h2 := Int.emod_lt_of_pos cell (show (0 : Int) < 2147483629 by decide)
    omega
  have p18 : CPw 10 18 := cpw 4 (by decide) (by decide) (by decide)
  have p60 : CPw 10 60 := cpw 4 (by decide) (by decide) (by decide)
  have p10 : CPw (10 ^ Int.toNat 60) 10 := cpw 200 (by decide) (by decide) (by decide)
  have p5 : ∀ cell : Int, CPw (cell % 2147483629 + 7919 * k + 1) 5 := fun cell => cpw 60 (bnd _) (by decide) (by decide)
  have pos : (0 : Int) < (10 ^ Int.toNat 60) ^ Int.toNat 10 := by decide +kernel
  walk_at "m3 wpb"
  · obtain ⟨m, hm⟩ := at_ints hk hbr
    (conv => whnf)
    refine atK_of (hm) ?_
    walk_at "m3 wpb"
    refine And.intro (p5 _) ?_
    walk_at "m3 wpb"
    exact q _ (fin _ (Int.emod_nonneg _ (by decide +kernel)))
  · refine And.intro (p5 _) ?_
    walk_at "m3 wpb"
    exact q _ (fin _ (by decide))
theorem ok__law_take {f : Addr} {fd : FuncData} (F : Fun K "_law_take" "_law_take" s__law_take f fd) (T : Txt mg)  : FnOk P w K mg base CX0 1 f fd ["pot", "many"] (liftF K S_take.p) := by
  refine fnN F sc__law_take (fun ws Q h0 => by (obtain ⟨ob, ws0, rfl, h1⟩ := sO.inv h0; obtain ⟨many, ws1, rfl, h2⟩ := sI.inv h1; obtain ⟨rfl, h⟩ := sEnd.inv h2); rfl) (fun cdv A outer s H E hr => ⟨_, (scN (if3 (gt3T (ixOK 0 int3) int3)
      (scN (set3 2 sc__law_take.nd (mod3 (ixOK 0 int3) (v3 1)))
      (scN (setIx3 0 (fdiv3 (ixOK 0 int3) (v3 1)) int3)
      (s13 (ret3 (v3 2)))))
      sn3)
      (scN (setIx3 0 (add3 (ixOK 0 int3) int3) int3)
      (scN (set3 3 sc__law_take.nd (mod3 (pow3 (add3 (ixOK 0 int3) (mulI3 int3 (ixOK 0 int3))) int3) int3))
      (scN (set3 4 sc__law_take.nd (mod3 (pow3 (add3 (add3 (v3 3) (mod3 (ixOK 0 int3) int3)) (mulI3 int3 (ixOK 0 int3))) int3) int3))
      (s13 (ret3 (mod3 (fdiv3 (v3 4) int3) (v3 1)))))))), ?_⟩)
  intro ws Q h0
  obtain ⟨ob, ws0, rfl, h1⟩ := sO.inv h0
  obtain ⟨many, ws1, rfl, h2⟩ := sI.inv h1
  obtain ⟨rfl, h⟩ := sEnd.inv h2
  obtain ⟨c, pre, q⟩ := h
  clear h0 h1 h2
  obtain ⟨⟨x, y, z, rfl, hx, hy, hy2, hz, hz2⟩, hc, hm, hm2⟩ := pre
  have hz3 : z ≤ 10 ^ 12 := by omega
  have q' : ∀ (r : Int) (o : Ob), 0 ≤ r → r < many → IsPot (c + 1) o → Q (.d (.int r)) [o] := fun r o h0 h1 h2 => by
    have e := q r.toNat o ⟨by omega, h2⟩
    rw [show ((r.toNat : Nat) : Int) = r by omega] at e
    exact e
  walk_at "m3 wpb"
  · exact q' (x % many) (.lst [.int (x / many), .int y, .int z]) (Int.emod_nonneg _ (by omega)) (Int.emod_lt_of_pos _ hm) ⟨x / many, y, z, rfl, Int.ediv_nonneg hx (by omega), hy, hy2, hz, by omega⟩
  · refine And.intro (cpw 62 (by omega) (by decide) (by decide)) ?_
    walk_at "m3 wpb"
    refine And.intro (cpw 63 (by have h1 := Int.emod_nonneg ((y + 104729 * (z + 1)) ^ Int.toNat 3) (show (2305843009213693921 : Int) ≠ 0 by decide); have h2 := Int.emod_lt_of_pos ((y + 104729 * (z + 1)) ^ Int.toNat 3) (show (0 : Int) < 2305843009213693921 by decide); omega) (by decide) (by decide)) ?_
    walk_at "m3 wpb"
    exact q' _ (.lst [.int x, .int y, .int (z + 1)]) (Int.emod_nonneg _ (by omega)) (Int.emod_lt_of_pos _ hm) ⟨x, y, z + 1, rfl, hx, hy, hy2, by omega, by omega⟩
theorem ok__law_wide {f : Addr} {fd : FuncData} (F : Fun K "_law_wide" "_law_wide" s__law_wide f fd) (T : Txt mg) (C__law_take : CalC P w K mg base 1 "_law_take" ["pot", "many"] S_take) : FnOk P w K mg base CX0 2 f fd ["pot"] (liftF K S_lwide.p) := by
  refine fnN F sc__law_wide (fun ws Q h0 => by (obtain ⟨ob, ws0, rfl, h1⟩ := sO.inv h0; obtain ⟨rfl, h⟩ := sEnd.inv h1); rfl) (fun cdv A outer s H E hr => ⟨_, (scN (set3 1 sc__law_wide.nd (tup3 (ac3 (add3 int3 (clC C__law_take hr (ro3 0 (rd3 int3 rn3)))) (ac3 (add3 int3 (clC C__law_take hr (ro3 0 (rd3 int3 rn3)))) (ac3 (ixK (lst3 (ac3 int3 (ac3 int3 an3))) (clC C__law_take hr (ro3 0 (rd3 int3 rn3)))) an3)))))
      (scN (set3 2 sc__law_wide.nd (tup3 (ac3 (add3 int3 (clC C__law_take hr (ro3 0 (rd3 int3 rn3)))) (ac3 (add3 int3 (clC C__law_take hr (ro3 0 (rd3 int3 rn3)))) (ac3 int3 an3)))))
      (s13 (ret3 (ixK (lst3 (ac3 (v3 1) (ac3 (v3 2) an3))) (int3c  (by rfl) T.b_int (eq3 hr.units (clC C__law_take hr (ro3 0 (rd3 int3 rn3))) int3))))))), ?_⟩)
  intro ws Q h0
  obtain ⟨ob, ws0, rfl, h1⟩ := sO.inv h0
  obtain ⟨rfl, h⟩ := sEnd.inv h1
  obtain ⟨c, pre, q⟩ := h
  clear h0 h1
  obtain ⟨hp, hc⟩ := pre
  walk_at "m3 wpb"
  rintro u1 ob ⟨h_u1, hp⟩
  walk_at "m3 wpb"
  rintro u2 ob ⟨h_u2, hp⟩
  walk_at "m3 wpb"
  rintro u3 ob ⟨h_u3, hp⟩
  walk_at "m3 wpb"
  obtain ⟨m, hm, hm1⟩ : ∃ m : Nat, atI [PyData.int 3, PyData.int 12] (u3 : Int) = some (.int (m : Int)) ∧ (1 ≤ m ∧ m ≤ 12) := by
    rcases (show u3 = 0 ∨ u3 = 1 by omega) with rfl | rfl
    · exact ⟨3, rfl, by omega⟩
    · exact ⟨12, rfl, by omega⟩
  (conv => whnf)
  refine atK_of (hm) ?_
  walk_at "m3 wpb"
  rintro u4 ob ⟨h_u4, hp⟩
  walk_at "m3 wpb"
  rintro u5 ob ⟨h_u5, hp⟩
  walk_at "m3 wpb"
  rintro u6 ob ⟨h_u6, hp⟩
  walk_at "m3 wpb"
  have c1 : ((1 : Int) + (u1 : Int)) = ((1 + u1 : Nat) : Int) := by omega
  have c2 : ((1 : Int) + (u2 : Int)) = ((1 + u2 : Nat) : Int) := by omega
  have c4 : ((1 : Int) + (u4 : Int)) = ((1 + u4 : Nat) : Int) := by omega
  have c5 : ((1 : Int) + (u5 : Int)) = ((1 + u5 : Nat) : Int) := by omega
  have hp' : IsPot (c + 10) ob := hp.mono (by omega)
  by_cases h6 : u6 = 0
  · have e6 : atI [PyData.tuple [.int (1 + (u1 : Int)), .int (1 + (u2 : Int)), .int (m : Int)], PyData.tuple [.int (1 + (u4 : Int)), .int (1 + (u5 : Int)), .int 2]] (if id (PyData.eqv (PyData.int (u6 : Int)) (PyData.int 0)) = true then 1 else 0) = some (PyData.tuple [.int (1 + (u4 : Int)), .int (1 + (u5 : Int)), .int 2]) := by
      subst h6; rfl
    (conv => whnf)
    refine atK_of (e6) ?_
    walk_at "m3 wpb"
    rw [c4, c5]
    exact q (1 + u4) (1 + u5) 2 ob ⟨by omega, by omega, by omega, hp'⟩
  · have e6 : atI [PyData.tuple [.int (1 + (u1 : Int)), .int (1 + (u2 : Int)), .int (m : Int)], PyData.tuple [.int (1 + (u4 : Int)), .int (1 + (u5 : Int)), .int 2]] (if id (PyData.eqv (PyData.int (u6 : Int)) (PyData.int 0)) = true then 1 else 0) = some (PyData.tuple [.int (1 + (u1 : Int)), .int (1 + (u2 : Int)), .int (m : Int)]) := by
      have : PyData.eqv (PyData.int (u6 : Int)) (PyData.int 0) = false := by simp [PyData.eqv]; omega
      rw [this]; rfl
    (conv => whnf)
    refine atK_of (e6) ?_
    walk_at "m3 wpb"
    rw [c1, c2]
    exact q (1 + u1) (1 + u2) m ob ⟨by omega, by omega, hm1, hp'⟩
theorem ok__law_behind {f : Addr} {fd : FuncData} (F : Fun K "_law_behind" "_law_behind" s__law_behind f fd) (T : Txt mg)  : FnOk P w K mg base CX0 1 f fd ["sayings", "rooms", "sign", "deed"] (liftF K S_behind.p) := by
  refine fnN F sc__law_behind (fun ws Q h0 => by (obtain ⟨v0, ws0, rfl, h1⟩ := sD.inv h0; obtain ⟨v1, ws1, rfl, h2⟩ := sD.inv h1; obtain ⟨v2, ws2, rfl, h3⟩ := sD.inv h2; obtain ⟨v3, ws3, rfl, h4⟩ := sD.inv h3; obtain ⟨rfl, h⟩ := sEnd.inv h4); rfl) (fun cdv A outer s H E hr => ⟨_, (s13 (ret3 (tuple3  (by rfl) T.b_tuple (PE3.lcP (lcP (own := [("one", 4), ("room", 5)]) rfl sc__law_behind.nd (zip3 (by rfl) T.b_zip (v3 0) (v3 1)) (blkOk_by (by kernel_rfl)) (fun _ _ _ _ _ => (gtA (n := 2) rfl (gs1 (gn3 4 sc__law_behind.nd) (gs1 (gn3 5 sc__law_behind.nd) gs0)))) (fun _ _ _ _ _ => (ifx3 (isN3T (v3 5)) non3 (ixK (ixK (ixK (ixK (v3 4) int3) (v3 5)) (v3 2)) (v3 3)))) s))))), ?_⟩)
  intro ws Q h0
  obtain ⟨v0, ws0, rfl, h1⟩ := sD.inv h0
  obtain ⟨v1, ws1, rfl, h2⟩ := sD.inv h1
  obtain ⟨v2, ws2, rfl, h3⟩ := sD.inv h2
  obtain ⟨v3, ws3, rfl, h4⟩ := sD.inv h3
  obtain ⟨rfl, h⟩ := sEnd.inv h4
  obtain ⟨Ss, i, j, r, s1, d1, rfl, rfl, rfl, rfl, pre, q⟩ := h
  clear h0 h1 h2 h3 h4
  obtain ⟨hA, hR, hs, hd⟩ := pre
  have l0 : (zipD (Ss.map Say.d) (r.map cellD)).length = Ss.length := by rw [zipD_length]; simp [hR.1]
  have l1 : (behindR Ss r s1 d1).length = Ss.length := behindR_len hR.1
  have l4 := hA.1.2
  walk_at "m3 wpb"
  refine ⟨⟨(behindR Ss r s1 d1).map cellD, by rw [l0, List.length_map, l1], fun k x hk => ?_, ?_⟩⟩
  · obtain ⟨_, _, h1, h2, rfl⟩ := zipD_get hk
    rw [List.getElem?_map] at h1 h2
    obtain ⟨S, h3, rfl⟩ := Option.map_eq_some_iff.mp h1
    obtain ⟨c, h4, rfl⟩ := Option.map_eq_some_iff.mp h2
    have hb := behindR_get (s := s1) (d := d1) h3 h4
    obtain ⟨hS, rfl, rfl⟩ := hA.2.2.2 S (List.mem_of_getElem? h3)
    rw [List.getElem?_map, hb]
    cases c with
    | none =>
      walk_at "m3 wpb"
      rfl
    | some m =>
      obtain ⟨room, row, e1, e2, e3, _⟩ := go_at hS (hR.2 k S m h3 h4) hs hd
      walk_at "m3 wpb"
      (conv => whnf)
      refine atK_of (e1) ?_
      walk_at "m3 wpb"
      (conv => whnf)
      refine atK_of (e2) ?_
      walk_at "m3 wpb"
      (conv => whnf)
      refine atK_of (e3) ?_
      walk_at "m3 wpb"
      rfl
  · walk_at "m3 wpb"
    exact q
theorem ok__law_table {f : Addr} {fd : FuncData} (F : Fun K "_law_table" "_law_table" s__law_table f fd) (T : Txt mg) (C__law_behind : CalC P w K mg base 1 "_law_behind" ["sayings", "rooms", "sign", "deed"] S_behind) : FnOk P w K mg base CX0 2 f fd ["sayings", "some"] (liftF K S_ltab.p) := by
  refine fnN F sc__law_table (fun ws Q h0 => by (obtain ⟨v0, ws0, rfl, h1⟩ := sD.inv h0; obtain ⟨v1, ws1, rfl, h2⟩ := sD.inv h1; obtain ⟨rfl, h⟩ := sEnd.inv h2); rfl) (fun cdv A outer s H E hr => ⟨_, (scN (asg3 (ws := [2, 3, 4]) (ixK (v3 0) int3) (gtA (n := 3) rfl (gs1 (gn3 2 sc__law_table.nd) (gs1 (gn3 3 sc__law_table.nd) (gs1 (gn3 4 sc__law_table.nd) gs0)))))
      (scN (setO3 5 sc__law_table.nd (olst3 (ac3 (tuple3  (by rfl) T.b_tuple (PE3.lcP (lcP (own := [("one", 14)]) rfl sc__law_table.nd (seq3 (v3 0)) (blkOk_by (by kernel_rfl)) (fun _ _ _ _ _ => (gn3 14 sc__law_table.nd)) (fun _ _ _ _ _ => int3) s))) an3)))
      (scN (setO3 6 sc__law_table.nd (otab1 hr.units (ixOK 5 int3) int3))
      (scN (setO3 7 sc__law_table.nd (olst3 an3))
      (scN (whileN [5, 6, 7, 8, 9, 10, 11, 12, 13] PassesOwn.never (chLtLe3T (lenO3 7 (by rfl) T.b_len) (lenO3 5 (by rfl) T.b_len) int3)
      (scN (setO3 8 sc__law_table.nd (olst3 an3))
      (scN (forN [5, 6, 8, 9, 10, 11, 12, 13] (ws0 := [9]) PassesOwn.never rfl (range3 (by rfl) T.b_range (v3 2)) (gn3 9 sc__law_table.nd)
      (scN (setO3 10 sc__law_table.nd (olst3 an3))
      (scN (forN [5, 6, 10, 11, 12, 13] (ws0 := [11]) PassesOwn.never rfl (range3 (by rfl) T.b_range (v3 3)) (gn3 11 sc__law_table.nd)
      (scN (set3 12 sc__law_table.nd (clC C__law_behind hr (rd3 (v3 0) (rd3 (ixOK 5 (lenO3 7 (by rfl) T.b_len)) (rd3 (v3 9) (rd3 (v3 11) rn3))))))
      (scN (PS3.lcP (setLcP 13 (own := [("room", 15)]) rfl sc__law_table.nd (seq3 (v3 12)) (blkOk_by (by kernel_rfl)) (fun _ _ _ _ _ => (gn3 15 sc__law_table.nd)) (fun _ _ _ _ _ => (isN3 (v3 15))) s (sw_true rfl rfl rfl (by decide +kernel))))
      (s13 (if3 (pt3_val (ixK (lst3 (ac3 (any3 rfl (by rfl) T.b_any (v3 13)) (ac3 (all3 rfl (by rfl) T.b_all (v3 13)) an3))) (int3c  (by rfl) T.b_int (v3 1))))
      (s13 (app3 10 non3))
      (scN (if3 (notInX3T 6 hr.units (v3 12))
      (scN (setX3 6 hr.units (lenO3 5 (by rfl) T.b_len) (v3 12))
      (s13 (app3 5 (v3 12))))
      sn3)
      (s13 (app3 10 (ixX3 6 hr.units (v3 12))))))))))
      (frz3 10 (s13 (app3 8 (tuple3  (by rfl) T.b_tuple (v3 10))))))))
      (frz3 8 (s13 (app3 7 (tuple3  (by rfl) T.b_tuple (v3 8))))))))
      (frz3 7 (frz3 5 (scN (if3 (gt3T (len3  (by rfl) T.b_len (v3 5)) int3)
      (s13 (ret3 non3))
      sn3)
      (s13 (ret3 (tup3 (ac3 (v3 2) (ac3 (v3 3) (ac3 (tuple3  (by rfl) T.b_tuple (v3 7)) an3)))))))))))))), ?_⟩)
  intro ws Q h0
  obtain ⟨v0, ws0, rfl, h1⟩ := sD.inv h0
  obtain ⟨v1, ws1, rfl, h2⟩ := sD.inv h1
  obtain ⟨rfl, h⟩ := sEnd.inv h2
  obtain ⟨Ss, i, j, b, rfl, rfl, pre, q⟩ := h
  clear h0 h1 h2
  obtain ⟨S, Sr, rfl⟩ : ∃ S Sr, Ss = S :: Sr := by
    cases Ss with
    | nil => have := pre.1.1; simp at this
    | cons S Sr => exact ⟨S, Sr, rfl⟩
  have hA := pre
  obtain ⟨hS, rfl, rfl⟩ := pre.2.2.2 S List.mem_cons_self
  have hi := hA.2.1
  have hj := hA.2.2.1
  have l4 := hA.1.2
  have l3 : Sr.length ≤ 3 := by rw [List.length_cons] at l4; omega
  have hok := fc_ok (a := S.signs.toNat) (b := S.deeds.toNat) (begR_ok hA) (stepX_ok (b := b) hA)
  generalize eb0 : begR (S :: Sr) = b0 at *
  have tk0 := tkB_row b0
  walk_at "m3 wpb"
  refine ⟨⟨List.replicate (S :: Sr).length (.int 0), by simp, fun k x hk => ?_, ?_⟩⟩
  · have := (List.getElem?_eq_some_iff.mp hk).1
    rw [List.length_map] at this
    walk_at "m3 wpb"
    rw [List.getElem?_replicate, if_pos this]
  have ez : PyData.tuple (List.replicate (S :: Sr).length (PyData.int 0)) = rowD b0 := by
    rw [← eb0]; simp only [rowD, begR, List.map_replicate]; rfl
  have l5 : (List.replicate (S :: Sr).length (PyData.int 0)).length = (S :: Sr).length := by simp
  (conv => whnf)
  rw [ez]
  walk_at "m3 wpb"
  generalize estep : stepX b (S :: Sr) = step at *
  generalize ea : S.signs.toNat = a at *
  generalize ebb : S.deeds.toNat = c at *
  refine ⟨⟨fun m vs => ∃ (n : Nat) (ds : List (D × D)) (ps ts : List D) (a1 a2 a3 a4 a5 a6 : Option M3.W), vs = [some (.own 0 (.lst ps)), some (.own 0 (.dcT ds)), some (.own 0 (.lst ts)), a1, a2, a3, a4, a5, a6] ∧ ps = (fcC a c step b0 n).map rowD ∧ ds = placesD rowD 0 (fcC a c step b0 n) ∧ ts = (fcT a c step b0 n).map roomD ∧ Going (fcOut a c step) b0 n ∧ m = 101 - n, ⟨101, 0, _, _, _, _, _, _, _, _, _, rfl, rfl, rfl, rfl, fun m hm => by omega, rfl⟩, ?_⟩⟩
  rintro m vs ⟨n, _, _, _, a1, a2, a3, a4, a5, a6, rfl, rfl, rfl, rfl, hg, rfl⟩
  have hn := going_le hg
  have hgl := going_len hg
  have l1 : ((fcC a c step b0 n).map rowD).length = (come (fcOut a c step) b0 n).length := by simp
  have l2 : ((fcT a c step b0 n).map roomD).length = n := by rw [List.length_map, fcT_len]
  by_cases hnl : n < (come (fcOut a c step) b0 n).length ∧ (come (fcOut a c step) b0 n).length ≤ 100
  · obtain ⟨hnl, h100⟩ := hnl
    walk_at "m3 wpb"
    obtain ⟨x, hx⟩ : ∃ x, (fcC a c step b0 n)[n]? = some x := ⟨_, List.getElem?_eq_getElem hnl⟩
    have hxo := hok n x (List.mem_of_getElem? hx)
    have hsx := fc_succ hx
    have gs := going_succ hg hnl h100
    have eR : fcRoom a c step b0 n = (List.range a).map (fcRow a c step b0 n x) := by unfold fcRoom; rw [hx]
    refine ⟨⟨fun s vs => ∃ (ds : List (D × D)) (ps rs : List D) (a1 a2 a3 a4 a5 : Option M3.W), vs = [some (.own 0 (.lst ps)), some (.own 0 (.dcT ds)), some (.own 0 (.lst rs)), a1, a2, a3, a4, a5] ∧ ps = (addAll (fcC a c step b0 n) (fcAll c step x s)).map rowD ∧ ds = placesD rowD 0 (addAll (fcC a c step b0 n) (fcAll c step x s)) ∧ rs = ((List.range s).map (fcRow a c step b0 n x)).map rowD ∧ (addAll (fcC a c step b0 n) (fcAll c step x s)).length ≤ 100 + 9 * s, ⟨_, _, _, _, _, _, _, _, rfl, rfl, rfl, rfl, h100⟩, ?_, ?_⟩⟩
    · rintro s v vs hv ⟨_, _, _, c1, c2, c3, c4, c5, rfl, rfl, rfl, rfl, hl⟩
      obtain ⟨rfl, hs'⟩ := rng_at hv
      rw [ea] at hs'
      clear hv
      rw [Int.zero_add]
      have hs1 : (s : Int) < S.signs := by omega
      walk_at "m3 wpb"
      refine ⟨⟨fun d vs => ∃ (B : List Rw) (ds : List (D × D)) (ps rs : List D) (a1 a2 a3 : Option M3.W), vs = [some (.own 0 (.lst ps)), some (.own 0 (.dcT ds)), some (.own 0 (.lst rs)), a1, a2, a3] ∧ B = addAll (addAll (fcC a c step b0 n) (fcAll c step x s)) (((List.range c).map (step x s)).take d |>.filterMap id) ∧ ps = B.map rowD ∧ ds = placesD rowD 0 B ∧ rs = ((fcRow a c step b0 n x s).take d).map cellD ∧ B.length ≤ 100 + 9 * s + d, ⟨_, _, _, _, _, _, _, rfl, rfl, rfl, rfl, rfl, hl⟩, ?_, ?_⟩⟩
      · rintro d y vs hy ⟨B, _, _, _, e1, e2, e3, rfl, hB, rfl, rfl, rfl, hBl⟩
        obtain ⟨rfl, hdb⟩ := rng_at hy
        rw [ebb] at hdb
        clear hy
        rw [Int.zero_add]
        have hd1 : (d : Int) < S.deeds := by omega
        have preB : fcC a c step b0 n <+: B := by rw [hB]; exact (addAll_pre _ _).trans (addAll_pre _ _)
        have ex : atI (B.map rowD) ((((fcT a c step b0 n).map roomD).length : Nat) : Int) = some (rowD x) := by
          rw [l2]; exact at_map_nat (pre_get preB hx)
        have lB : (B.map rowD).length = B.length := by simp
        have lz : (placesD rowD 0 B).length = B.length := placesD_len _ _
        have lrow : (fcRow a c step b0 n x s).length = c := by simp [fcRow]
        have lr : (((fcRow a c step b0 n x s).take d).map cellD).length = d := by simp; omega
        have ht : ((List.range c).map (step x s)).take (d + 1) = ((List.range c).map (step x s)).take d ++ [step x s d] := by rw [List.take_add_one, List.getElem?_map, List.getElem?_range hdb]; rfl
        have htr : (fcRow a c step b0 n x s).take (d + 1) = (fcRow a c step b0 n x s).take d ++ [(step x s d).map (idxP (fcC a c step b0 (n + 1)))] := by
          rw [List.take_add_one]
          simp [fcRow, hdb]
        walk_at "m3 wpb"
        (conv => whnf)
        refine atK_of (ex) ?_
        walk_at "m3 wpb"
        refine ⟨S :: Sr, S.signs, S.deeds, x, s, d, rfl, rfl, rfl, rfl, ⟨hA, hxo, hs1, hd1⟩, ?_⟩
        have hfo := behindR_ok hA hxo hs1 hd1
        have e4 : lostB b (behindR (S :: Sr) x s d) = true → step x s d = none := fun h => by rw [← estep]; exact step_lost h
        have e5 : lostB b (behindR (S :: Sr) x s d) = false → step x s d = some (behindR (S :: Sr) x s d) := fun h => by rw [← estep]; exact step_going h
        generalize ef : behindR (S :: Sr) x s d = f at *
        have lf : (f.map cellD).length = (S :: Sr).length := by rw [List.length_map, hfo.1]
        have lf2 : (f.map cellD).length ≤ 4 := by rw [lf]; exact l4
        walk_at "m3 wpb"
        refine ⟨⟨(f.map Option.isNone).map PyData.bool, by simp, fun k y hk => ?_, ?_⟩⟩
        · obtain ⟨c', h3, rfl, _⟩ := map_at hk
          rw [List.getElem?_map, List.getElem?_map, h3]
          cases c' <;> (
            walk_at "m3 wpb"
            rfl)
        have eL : atI [PyData.bool ((f.map Option.isNone).any id), PyData.bool ((f.map Option.isNone).all id)] (if b = true then 1 else 0) = some (PyData.bool (lostB b f)) := by
          cases b
          · simp only [lostB, List.any_map]; rfl
          · simp only [lostB, List.all_map]; rfl
        cases hL : lostB b f with
        | true =>
          rw [e4 hL] at ht htr
          rw [hL] at eL
          walk_at "m3 wpb"
          (conv => whnf)
          refine atK_of (eL) ?_
          walk_at "m3 wpb"
          exact ⟨B, _, _, _, _, _, _, rfl, by rw [ht, List.filterMap_append]; simpa using hB, rfl, rfl, by rw [htr, List.map_append]; rfl, by omega⟩
        | false =>
          have hst := e5 hL
          rw [hL] at eL
          rw [hst] at ht htr
          have hg0 := place_get tEq_row f B 0
          have hky := tkB_row f
          have eB : addAll (addAll (fcC a c step b0 n) (fcAll c step x s)) ((((List.range c).map (step x s)).take (d + 1)).filterMap id) = addP B f := by
            rw [ht, List.filterMap_append, hB]
            exact addAll_snoc
          have hpre : addP B f <+: fcC a c step b0 (n + 1) := by
            rw [← eB, hsx, ← addAll_app]
            refine addAll_pre2 (List.IsPrefix.trans ?_ (fcAll_pre (show s + 1 ≤ a by omega)))
            rw [fcAll_succ]
            refine (List.prefix_append_right_inj _).mpr ?_
            rw [← fcNew_take (k := 0)]
            exact (List.take_prefix _ _).filterMap _
          by_cases hy : f ∈ B
          · rw [if_pos hy] at hg0
            have hb : (!(xgetD (placesD rowD 0 B) (rowD f)).isSome) = false := by rw [hg0]; rfl
            have e2 : addP B f = B := by unfold addP; rw [if_pos hy]
            have hpre' := hpre
            rw [e2] at hpre'
            walk_at "m3 wpb"
            (conv => whnf)
            refine atK_of (eL) ?_
            walk_at "m3 wpb"
            refine ⟨⟨_, hg0, ?_⟩⟩
            walk_at "m3 wpb"
            refine ⟨B, _, _, _, _, _, _, rfl, by rw [eB, e2], rfl, rfl, ?_, by omega⟩
            rw [htr, List.map_append, Option.map_some, idx_pre hpre' hy, Nat.zero_add]; rfl
          · rw [if_neg hy] at hg0
            have hb : (!(xgetD (placesD rowD 0 B) (rowD f)).isSome) = true := by rw [hg0]; rfl
            have e2 : addP B f = B ++ [f] := by unfold addP; rw [if_neg hy]
            have hpre' := hpre
            rw [e2] at hpre'
            have hput : xputD (placesD rowD 0 B) (rowD f) (.int ((B.map rowD).length : Int)) = placesD rowD 0 (B ++ [f]) := by rw [← place_put tEq_row hy, lB, Nat.zero_add]
            have hg1 := place_get tEq_row f (B ++ [f]) 0
            rw [if_pos (by simp)] at hg1
            rw [← hput] at hg1
            walk_at "m3 wpb"
            (conv => whnf)
            refine atK_of (eL) ?_
            walk_at "m3 wpb"
            refine ⟨⟨_, hg1, ?_⟩⟩
            walk_at "m3 wpb"
            refine ⟨B ++ [f], _, _, _, _, _, _, rfl, by rw [eB, e2], by simp, hput, ?_, by simp; omega⟩
            rw [htr, List.map_append, Option.map_some, idx_pre hpre' (show f ∈ B ++ [f] by simp), Nat.zero_add]; rfl
      · rintro vs ⟨B, _, _, _, e1, e2, e3, rfl, hB, rfl, rfl, rfl, hBl⟩
        rw [rng_len, ebb] at hB hBl ⊢
        rw [List.take_of_length_le (by simp), fcNew_take (k := 0)] at hB
        have hB2 : addAll (fcC a c step b0 n) (fcAll c step x (s + 1)) = B := by rw [fcAll_succ, addAll_app, hB]
        have lrow : (fcRow a c step b0 n x s).length = c := by simp [fcRow]
        rw [List.take_of_length_le (by omega)]
        have l5 : (((List.range s).map (fcRow a c step b0 n x)).map rowD).length = s := by simp
        have l6 : ((fcRow a c step b0 n x s).map cellD).length = c := by simp [fcRow]
        walk_at "m3 wpb"
        refine ⟨_, _, _, _, _, _, _, _, rfl, by rw [hB2], by rw [hB2], ?_, by rw [hB2]; omega⟩
        rw [List.range_succ, List.map_append, List.map_append]; rfl
    · rintro vs ⟨_, _, _, c1, c2, c3, c4, c5, rfl, rfl, rfl, rfl, hl⟩
      rw [rng_len, ea] at hl ⊢
      rw [← hsx] at hl ⊢
      have l5 : (((List.range a).map (fcRow a c step b0 n x)).map rowD).length = a := by simp
      walk_at "m3 wpb"
      refine ⟨101 - (n + 1), by omega, n + 1, _, _, _, _, _, _, _, _, _, rfl, rfl, rfl, ?_, gs, rfl⟩
      unfold fcT
      rw [List.range_succ, List.map_append, List.map_append, List.map_singleton, List.map_singleton, eR]; rfl
  · have hF : (decide (((((fcT a c step b0 n).map roomD).length : Nat) : Int) < ((((fcC a c step b0 n).map rowD).length : Nat) : Int)) && decide (((((fcC a c step b0 n).map rowD).length : Nat) : Int) ≤ 100)) = false := by
      rw [l1, l2, Bool.eq_false_iff]
      intro z
      rw [Bool.and_eq_true, decide_eq_true_eq, decide_eq_true_eq] at z
      exact hnl ⟨by omega, by omega⟩
    subst ea
    subst ebb
    walk_at "m3 wpb"
    all_goals first
      | exact q _ (.inr ⟨⟨n, hg, by show 100 < (come (fcOut S.signs.toNat S.deeds.toNat step) b0 n).length; omega⟩, rfl⟩)
      | exact q _ (.inl ⟨n, ⟨hg, by show n = (come (fcOut S.signs.toNat S.deeds.toNat step) b0 n).length; omega, hn⟩, rfl⟩)
theorem ok_is_row {f : Addr} {fd : FuncData} (F : Fun K "is_row" "is_row" s_is_row f fd) (T : Txt mg)  : FnOk P w K mg base CX0 1 f fd ["thing", "many"] (liftF K S_is_row.p) := by
  refine fnN F sc_is_row (fun ws Q h0 => by (obtain ⟨d, ws0, rfl, h1⟩ := sD.inv h0; obtain ⟨m, ws1, rfl, h2⟩ := sI.inv h1; obtain ⟨rfl, h⟩ := sEnd.inv h2); rfl) (fun cdv A outer s H E hr => ⟨_, (s13 (ret3 (andV3 (isi3 kit_tuple (by decide +kernel) (by rfl) T.b_isinstance (by rfl) T.b_tuple (v3 0)) (one3 (eq3 hr.units (len3  (by rfl) T.b_len (v3 0)) (v3 1)))))), ?_⟩)
  intro ws Q h0
  obtain ⟨d, ws0, rfl, h1⟩ := sD.inv h0
  obtain ⟨m, ws1, rfl, h2⟩ := sI.inv h1
  obtain ⟨rfl, h⟩ := sEnd.inv h2
  obtain ⟨pre, q⟩ := h
  clear h0 h1 h2
  cases d
  all_goals walk_at "m3 wpb"
  all_goals exact q
theorem ok_is_whole {f : Addr} {fd : FuncData} (F : Fun K "is_whole" "is_whole" s_is_whole f fd) (T : Txt mg)  : FnOk P w K mg base CX0 1 f fd ["thing"] (liftF K S_is_whole.p) := by
  refine fnN F sc_is_whole (fun ws Q h0 => by (obtain ⟨d, ws0, rfl, h1⟩ := sD.inv h0; obtain ⟨rfl, h⟩ := sEnd.inv h1); rfl) (fun cdv A outer s H E hr => ⟨_, (s13 (ret3 (andV3 (isi3 kit_int (by decide +kernel) (by rfl) T.b_isinstance (by rfl) T.b_int (v3 0)) (one3 (notV3 (isi3 kit_bool (by decide +kernel) (by rfl) T.b_isinstance (by rfl) T.b_bool (v3 0))))))), ?_⟩)
  intro ws Q h0
  obtain ⟨d, ws0, rfl, h1⟩ := sD.inv h0
  obtain ⟨rfl, h⟩ := sEnd.inv h1
  obtain ⟨pre, q⟩ := h
  clear h0 h1
  cases d
  all_goals walk_at "m3 wpb"
  all_goals exact q
theorem ok_is_count {f : Addr} {fd : FuncData} (F : Fun K "is_count" "is_count" s_is_count f fd) (T : Txt mg) (C_is_whole : CalC P w K mg base 1 "is_whole" ["thing"] S_is_whole) : FnOk P w K mg base CX0 2 f fd ["thing"] (liftF K S_is_count.p) := by
  refine fnN F sc_is_count (fun ws Q h0 => by (obtain ⟨d, ws0, rfl, h1⟩ := sD.inv h0; obtain ⟨rfl, h⟩ := sEnd.inv h1); rfl) (fun cdv A outer s H E hr => ⟨_, (s13 (ret3 (andV3 (clC C_is_whole hr (rd3 (v3 0) rn3)) (one3 (chLeLe3 int3 (v3 0) (gl3 T.c_WIDE)))))), ?_⟩)
  intro ws Q h0
  obtain ⟨d, ws0, rfl, h1⟩ := sD.inv h0
  obtain ⟨rfl, h⟩ := sEnd.inv h1
  obtain ⟨pre, q⟩ := h
  clear h0 h1
  cases d
  all_goals walk_at "m3 wpb"
  all_goals first | exact q | exact qb q (by simp [isC, hbr])
theorem ok_is_below {f : Addr} {fd : FuncData} (F : Fun K "is_below" "is_below" s_is_below f fd) (T : Txt mg) (C_is_whole : CalC P w K mg base 1 "is_whole" ["thing"] S_is_whole) : FnOk P w K mg base CX0 2 f fd ["thing", "most"] (liftF K S_is_below.p) := by
  refine fnN F sc_is_below (fun ws Q h0 => by (obtain ⟨d, ws0, rfl, h1⟩ := sD.inv h0; obtain ⟨m, ws1, rfl, h2⟩ := sI.inv h1; obtain ⟨rfl, h⟩ := sEnd.inv h2); rfl) (fun cdv A outer s H E hr => ⟨_, (s13 (ret3 (andV3 (clC C_is_whole hr (rd3 (v3 0) rn3)) (one3 (chLeLt3 int3 (v3 0) (v3 1)))))), ?_⟩)
  intro ws Q h0
  obtain ⟨d, ws0, rfl, h1⟩ := sD.inv h0
  obtain ⟨m, ws1, rfl, h2⟩ := sI.inv h1
  obtain ⟨rfl, h⟩ := sEnd.inv h2
  obtain ⟨pre, q⟩ := h
  clear h0 h1 h2
  cases d
  all_goals walk_at "m3 wpb"
  all_goals first | exact q | exact qb q (by simp [isB, hbr])
theorem ok_is_room {f : Addr} {fd : FuncData} (F : Fun K "is_room" "is_room" s_is_room f fd) (T : Txt mg) (C_is_row : CalC P w K mg base 1 "is_row" ["thing", "many"] S_is_row) (C_is_below : CalC P w K mg base 2 "is_below" ["thing", "most"] S_is_below) : FnOk P w K mg base CX0 3 f fd ["thing", "signs", "deeds", "many"] (liftF K S_is_room.p) := by
  refine fnN F sc_is_room (fun ws Q h0 => by (obtain ⟨d, ws0, rfl, h1⟩ := sD.inv h0; obtain ⟨s1, ws1, rfl, h2⟩ := sI.inv h1; obtain ⟨n1, ws2, rfl, h3⟩ := sI.inv h2; obtain ⟨m1, ws3, rfl, h4⟩ := sI.inv h3; obtain ⟨rfl, h⟩ := sEnd.inv h4); rfl) (fun cdv A outer s H E hr => ⟨_, (scN (if3 (not3 (pt3_val (clC C_is_row hr (rd3 (v3 0) (rd3 (v3 1) rn3)))))
      (s13 (ret3 bl3))
      sn3)
      (scN (forN [4, 5] (ws0 := [4]) PassesOwn.never rfl (seq3 (v3 0)) (gn3 4 sc_is_room.nd)
      (scN (if3 (not3 (pt3_val (clC C_is_row hr (rd3 (v3 4) (rd3 (v3 2) rn3)))))
      (s13 (ret3 bl3))
      sn3)
      (s13 (forN [5] (ws0 := [5]) PassesOwn.never rfl (seq3 (v3 4)) (gn3 5 sc_is_room.nd)
      (s13 (if3 (PW3.pt (and3 (isNotN3T (v3 5)) (and1_3 (not3 (pt3_val (clC C_is_below hr (rd3 (v3 5) (rd3 (v3 3) rn3))))))))
      (s13 (ret3 bl3))
      sn3))))))
      (s13 (ret3 bl3)))), ?_⟩)
  intro ws Q h0
  obtain ⟨d, ws0, rfl, h1⟩ := sD.inv h0
  obtain ⟨s1, ws1, rfl, h2⟩ := sI.inv h1
  obtain ⟨n1, ws2, rfl, h3⟩ := sI.inv h2
  obtain ⟨m1, ws3, rfl, h4⟩ := sI.inv h3
  obtain ⟨rfl, h⟩ := sEnd.inv h4
  obtain ⟨pre, q⟩ := h
  clear h0 h1 h2 h3 h4
  cases d
  case tuple rows =>
    walk_at "m3 wpb"
    · have hbr' : decide ((rows.length : Int) = s1) = false := hbr
      exact qb q (by simp only [roomB, hbr', Bool.false_and])
    have hbr' : decide ((rows.length : Int) = s1) = true := hbr
    refine ⟨⟨fun i vs => ∃ r b, vs = [r, b] ∧ (rows.take i).all (rowB n1 m1) = true, ⟨none, none, rfl, rfl⟩, ?_, ?_⟩⟩
    · rintro i x vs hx ⟨r, b, rfl, hall⟩
      have bad : rowB n1 m1 x = false → Q (.d (.bool false)) [] := fun z => qb q (by simp only [roomB, all_false hx z, Bool.and_false])
      cases x
      case tuple cells =>
        walk_at "m3 wpb"
        · have hbr2 : decide ((cells.length : Int) = n1) = false := hbr
          exact bad (by simp only [rowB, hbr2, Bool.false_and])
        have hbr2 : decide ((cells.length : Int) = n1) = true := hbr
        refine ⟨⟨fun j vs => ∃ b, vs = [b] ∧ (cells.take j).all (cellB m1) = true, ⟨b, rfl, rfl⟩, ?_, ?_⟩⟩
        · rintro j c vs hc ⟨b, rfl, hall2⟩
          cases c
          all_goals walk_at "m3 wpb"
          all_goals first | exact ⟨_, rfl, all_take_succ hc hall2 rfl⟩ | exact ⟨_, rfl, all_take_succ hc hall2 (show isB _ m1 = true from hbr)⟩ | exact bad (by first | simp only [rowB, all_false (p := cellB m1) hc rfl, Bool.and_false] | simp only [rowB, all_false (p := cellB m1) hc (show isB _ m1 = false from hbr), Bool.and_false])
        · rintro vs ⟨b, rfl, hall2⟩
          rw [List.take_length] at hall2
          walk_at "m3 wpb"
          exact ⟨_, _, rfl, all_take_succ hx hall (by simp only [rowB, hbr2, hall2, Bool.and_self])⟩
      all_goals walk_at "m3 wpb"
      all_goals exact bad rfl
    · rintro vs ⟨r, b, rfl, hall⟩
      rw [List.take_length] at hall
      walk_at "m3 wpb"
      exact qb q (by simp only [roomB, hall, hbr', Bool.and_self])
  all_goals walk_at "m3 wpb"
  all_goals exact q
theorem ok_is_saying {f : Addr} {fd : FuncData} (F : Fun K "is_saying" "is_saying" s_is_saying f fd) (T : Txt mg) (C_is_row : CalC P w K mg base 1 "is_row" ["thing", "many"] S_is_row) (C_is_count : CalC P w K mg base 2 "is_count" ["thing"] S_is_count) (C_is_room : CalC P w K mg base 3 "is_room" ["thing", "signs", "deeds", "many"] S_is_room) : FnOk P w K mg base CX0 4 f fd ["thing"] (liftF K S_is_saying.p) := by
  refine fnN F sc_is_saying (fun ws Q h0 => by (obtain ⟨d, ws0, rfl, h1⟩ := sD.inv h0; obtain ⟨rfl, h⟩ := sEnd.inv h1); rfl) (fun cdv A outer s H E hr => ⟨_, (scN (if3 (not3 (pt3_val (clC C_is_row hr (rd3 (v3 0) (rd3 int3 rn3)))))
      (s13 (ret3 bl3))
      sn3)
      (scN (asg3 (ws := [1, 2, 3]) (v3 0) (gtA (n := 3) rfl (gs1 (gn3 1 sc_is_saying.nd) (gs1 (gn3 2 sc_is_saying.nd) (gs1 (gn3 3 sc_is_saying.nd) gs0)))))
      (scN (if3 (PW3.pt (or3 (not3 (pt3_val (clC C_is_count hr (rd3 (v3 1) rn3)))) (or3 (not3 (pt3_val (clC C_is_count hr (rd3 (v3 2) rn3)))) (or1_3 (not3 (pt3_val (isi3 kit_tuple (by decide +kernel) (by rfl) T.b_isinstance (by rfl) T.b_tuple (v3 3))))))))
      (s13 (ret3 bl3))
      sn3)
      (s13 (ret3 (andV3 (chLeLe3 int3 (len3  (by rfl) T.b_len (v3 3)) (gl3 T.c_MOST)) (one3 (all3 rfl (by rfl) T.b_all (PE3.lcP (lcP (own := [("room", 4)]) rfl sc_is_saying.nd (seq3 (v3 3)) (blkOk_by (by kernel_rfl)) (fun _ _ _ _ _ => (gn3 4 sc_is_saying.nd)) (fun _ _ _ _ _ => (clC C_is_room hr (rd3 (v3 4) (rd3 (v3 1) (rd3 (v3 2) (rd3 (len3  (by rfl) T.b_len (v3 3)) rn3)))))) s)))))))))), ?_⟩)
  intro ws Q h0
  obtain ⟨d, ws0, rfl, h1⟩ := sD.inv h0
  obtain ⟨rfl, h⟩ := sEnd.inv h1
  obtain ⟨pre, q⟩ := h
  clear h0 h1
  by_cases h3 : isRw d 3 = true
  case neg =>
    have h3 : isRw d 3 = false := by simpa using h3
    walk_at "m3 wpb"
    exact qb q (not_three h3)
  obtain ⟨x, y, z, rfl⟩ := three h3
  cases hx : isC x
  case false =>
    walk_at "m3 wpb"
    exact qb q (by cases z <;> first | rfl | simp only [sayB, hx, Bool.false_and])
  obtain ⟨i, rfl, hi1, hi2⟩ := isC_int hx
  cases hy : isC y
  case false =>
    walk_at "m3 wpb"
    exact qb q (by cases z <;> first | rfl | simp only [sayB, hx, hy, Bool.false_and, Bool.and_false])
  obtain ⟨j, rfl, hj1, hj2⟩ := isC_int hy
  cases z
  case tuple rooms =>
    walk_at "m3 wpb"
    · refine ⟨⟨rooms.map fun r => .bool (roomB i j rooms.length r), by simp, fun k x hk => ?_, ?_⟩⟩
      · walk_at "m3 wpb"
        rw [List.getElem?_map, hk]; rfl
      · refine ⟨rooms.map (roomB i j rooms.length), by simp, ?_⟩
        exact qb q (by simp [sayB, hx, hy, intOf, List.all_map, *])
    · exact qb q (by simp [sayB, *])
    · exact qb q (by simp only [sayB, decide_eq_false hbr, Bool.false_and, Bool.and_false])
  all_goals walk_at "m3 wpb"
  all_goals exact q
theorem ok_need_sayings {f : Addr} {fd : FuncData} (F : Fun K "need_sayings" "need_sayings" s_need_sayings f fd) (T : Txt mg) (C_is_saying : CalC P w K mg base 4 "is_saying" ["thing"] S_is_saying) : FnOk P w K mg base CX0 5 f fd ["sayings", "most"] (liftF K S_need_says.p) := by
  refine fnN F sc_need_sayings (fun ws Q h0 => by (obtain ⟨v0, ws0, rfl, h1⟩ := sD.inv h0; obtain ⟨m, ws1, rfl, h2⟩ := sI.inv h1; obtain ⟨rfl, h⟩ := sEnd.inv h2); rfl) (fun cdv A outer s H E hr => ⟨_, (scN (if3 (PW3.pt (or3 (not3 (pt3_val (isi3 kit_tuple (by decide +kernel) (by rfl) T.b_isinstance (by rfl) T.b_tuple (v3 0)))) (or1_3 (not3 (chLeLe3T int3 (len3  (by rfl) T.b_len (v3 0)) (v3 1))))))
      (s13 never3)
      sn3)
      (s13 (if3 (not3 (pt3_val (all3 rfl (by rfl) T.b_all (PE3.lcP (lcP (own := [("saying", 2)]) rfl sc_need_sayings.nd (seq3 (v3 0)) (blkOk_by (by kernel_rfl)) (fun _ _ _ _ _ => (gn3 2 sc_need_sayings.nd)) (fun _ _ _ _ _ => (clC C_is_saying hr (rd3 (v3 2) rn3))) s)))))
      (s13 never3)
      sn3))), ?_⟩)
  intro ws Q h0
  obtain ⟨v0, ws0, rfl, h1⟩ := sD.inv h0
  obtain ⟨m, ws1, rfl, h2⟩ := sI.inv h1
  obtain ⟨rfl, h⟩ := sEnd.inv h2
  obtain ⟨Ss, i, j, rfl, pre, q⟩ := h
  clear h0 h1 h2
  obtain ⟨hA, hm⟩ := pre
  have l1 : ((Ss.map Say.d).length : Int) = Ss.length := by simp
  have h1 := hA.1
  walk_at "m3 wpb"
  refine ⟨⟨List.replicate Ss.length (.bool true), by simp, fun k x hk => ?_, ?_⟩⟩
  · rw [List.getElem?_map] at hk
    obtain ⟨S, h3, rfl⟩ := Option.map_eq_some_iff.mp hk
    have hb := Say.sayB (hA.2.2.2 S (List.mem_of_getElem? h3)).1
    have hl := (List.getElem?_eq_some_iff.mp h3).1
    walk_at "m3 wpb"
    rw [hb, List.getElem?_replicate, if_pos hl]
  · refine ⟨List.replicate Ss.length true, by simp, ?_⟩
    have e : ((List.replicate Ss.length true).all id) = true := by simp
    walk_at "m3 wpb"
    exact q
theorem ok_need_alike {f : Addr} {fd : FuncData} (F : Fun K "need_alike" "need_alike" s_need_alike f fd) (T : Txt mg)  : FnOk P w K mg base CX0 1 f fd ["one", "other"] (liftF K S_need_alike.p) := by
  refine fnN F sc_need_alike (fun ws Q h0 => by (obtain ⟨v0, ws0, rfl, h1⟩ := sD.inv h0; obtain ⟨v1, ws1, rfl, h2⟩ := sD.inv h1; obtain ⟨rfl, h⟩ := sEnd.inv h2); rfl) (fun cdv A outer s H E hr => ⟨_, (s13 (if3 (PW3.pt (or3 (ne3T hr.units (ixK (v3 0) int3) (ixK (v3 1) int3)) (or1_3 (ne3T hr.units (ixK (v3 0) int3) (ixK (v3 1) int3)))))
      (s13 never3)
      sn3)), ?_⟩)
  intro ws Q h0
  obtain ⟨v0, ws0, rfl, h1⟩ := sD.inv h0
  obtain ⟨v1, ws1, rfl, h2⟩ := sD.inv h1
  obtain ⟨rfl, h⟩ := sEnd.inv h2
  obtain ⟨i, j, x, y, rfl, rfl, pre, q⟩ := h
  clear h0 h1 h2
  walk_at "m3 wpb"
  exact q
theorem ok_need_row_alike {f : Addr} {fd : FuncData} (F : Fun K "need_row_alike" "need_row_alike" s_need_row_alike f fd) (T : Txt mg) (C_need_alike : CalC P w K mg base 1 "need_alike" ["one", "other"] S_need_alike) : FnOk P w K mg base CX0 2 f fd ["things"] (liftF K S_need_ra.p) := by
  refine fnN F sc_need_row_alike (fun ws Q h0 => by (obtain ⟨v0, ws0, rfl, h1⟩ := sD.inv h0; obtain ⟨rfl, h⟩ := sEnd.inv h1); rfl) (fun cdv A outer s H E hr => ⟨_, (scN (asg3 (ws := [1, 2]) (v3 0) (gtS (n := 2) rfl (gs1 (gn3 1 sc_need_row_alike.nd) (gsS (gn3 2 sc_need_row_alike.nd) gs0))))
      (s13 (forN [3] (ws0 := [3]) PassesOwn.never rfl (seq3 (v3 2)) (gn3 3 sc_need_row_alike.nd)
      (s13 (expr3 (clC C_need_alike hr (rd3 (v3 1) (rd3 (v3 3) rn3)))))))), ?_⟩)
  intro ws Q h0
  obtain ⟨v0, ws0, rfl, h1⟩ := sD.inv h0
  obtain ⟨rfl, h⟩ := sEnd.inv h1
  obtain ⟨Ss, i, j, rfl, pre, q⟩ := h
  clear h0 h1
  obtain ⟨S, Sr, rfl⟩ : ∃ S Sr, Ss = S :: Sr := by
    cases Ss with
    | nil => have := pre.1.1; simp at this
    | cons S Sr => exact ⟨S, Sr, rfl⟩
  have l1 := pre.1.2
  have l2 : (Sr.map Say.d).length = Sr.length := by simp
  rw [List.length_cons] at l1
  obtain ⟨_, e1, e2⟩ := pre.2.2.2 S List.mem_cons_self
  have es : starL 2 (0 + 1) ((S :: Sr).map Say.d) PyData.list = [S.d, .list (Sr.map Say.d)] := by
    unfold starL
    simp [← l2, -List.length_map, List.take_of_length_le]
    omega
  walk_at "m3 wpb"
  rw [es]
  walk_at "m3 wpb"
  refine ⟨⟨fun k vs => ∃ a : Option M3.W, vs = [a], ⟨none, rfl⟩, ?_, ?_⟩⟩
  · rintro k x vs hk ⟨a, rfl⟩
    rw [List.getElem?_map] at hk
    obtain ⟨S', h3, rfl⟩ := Option.map_eq_some_iff.mp hk
    obtain ⟨_, e3, e4⟩ := pre.2.2.2 S' (List.mem_cons_of_mem _ (List.mem_of_getElem? h3))
    refine ⟨i, j, .tuple (S.rooms.map roomD), .tuple (S'.rooms.map roomD), by simp only [Say.d, e1, e2], by simp only [Say.d, e3, e4], trivial, ?_⟩
    walk_at "m3 wpb"
    exact ⟨_, rfl⟩
  · rintro vs ⟨a, rfl⟩
    walk_at "m3 wpb"
    exact q
theorem ok_behind {f : Addr} {fd : FuncData} (F : Fun K "behind" "behind" s_behind f fd) (T : Txt mg)  : FnOk P w K mg base CX0 1 f fd ["sayings", "rooms", "sign", "deed"] (liftF K S_behind.p) := by
  refine fnN F sc_behind (fun ws Q h0 => by (obtain ⟨v0, ws0, rfl, h1⟩ := sD.inv h0; obtain ⟨v1, ws1, rfl, h2⟩ := sD.inv h1; obtain ⟨v2, ws2, rfl, h3⟩ := sD.inv h2; obtain ⟨v3, ws3, rfl, h4⟩ := sD.inv h3; obtain ⟨rfl, h⟩ := sEnd.inv h4); rfl) (fun cdv A outer s H E hr => ⟨_, (s13 (ret3 (tuple3  (by rfl) T.b_tuple (PE3.lcP (lcP (own := [("one", 4), ("room", 5)]) rfl sc_behind.nd (zip3 (by rfl) T.b_zip (v3 0) (v3 1)) (blkOk_by (by kernel_rfl)) (fun _ _ _ _ _ => (gtA (n := 2) rfl (gs1 (gn3 4 sc_behind.nd) (gs1 (gn3 5 sc_behind.nd) gs0)))) (fun _ _ _ _ _ => (ifx3 (isN3T (v3 5)) non3 (ixK (ixK (ixK (ixK (v3 4) int3) (v3 5)) (v3 2)) (v3 3)))) s))))), ?_⟩)
  intro ws Q h0
  obtain ⟨v0, ws0, rfl, h1⟩ := sD.inv h0
  obtain ⟨v1, ws1, rfl, h2⟩ := sD.inv h1
  obtain ⟨v2, ws2, rfl, h3⟩ := sD.inv h2
  obtain ⟨v3, ws3, rfl, h4⟩ := sD.inv h3
  obtain ⟨rfl, h⟩ := sEnd.inv h4
  obtain ⟨Ss, i, j, r, s1, d1, rfl, rfl, rfl, rfl, pre, q⟩ := h
  clear h0 h1 h2 h3 h4
  obtain ⟨hA, hR, hs, hd⟩ := pre
  have l0 : (zipD (Ss.map Say.d) (r.map cellD)).length = Ss.length := by rw [zipD_length]; simp [hR.1]
  have l1 : (behindR Ss r s1 d1).length = Ss.length := behindR_len hR.1
  have l4 := hA.1.2
  walk_at "m3 wpb"
  refine ⟨⟨(behindR Ss r s1 d1).map cellD, by rw [l0, List.length_map, l1], fun k x hk => ?_, ?_⟩⟩
  · obtain ⟨_, _, h1, h2, rfl⟩ := zipD_get hk
    rw [List.getElem?_map] at h1 h2
    obtain ⟨S, h3, rfl⟩ := Option.map_eq_some_iff.mp h1
    obtain ⟨c, h4, rfl⟩ := Option.map_eq_some_iff.mp h2
    have hb := behindR_get (s := s1) (d := d1) h3 h4
    obtain ⟨hS, rfl, rfl⟩ := hA.2.2.2 S (List.mem_of_getElem? h3)
    rw [List.getElem?_map, hb]
    cases c with
    | none =>
      walk_at "m3 wpb"
      rfl
    | some m =>
      obtain ⟨room, row, e1, e2, e3, _⟩ := go_at hS (hR.2 k S m h3 h4) hs hd
      walk_at "m3 wpb"
      (conv => whnf)
      refine atK_of (e1) ?_
      walk_at "m3 wpb"
      (conv => whnf)
      refine atK_of (e2) ?_
      walk_at "m3 wpb"
      (conv => whnf)
      refine atK_of (e3) ?_
      walk_at "m3 wpb"
      rfl
  · walk_at "m3 wpb"
    exact q
theorem okx_first_come {f : Addr} {fd : FuncData} (F : Fun K "first_come" "first_come" s_first_come f fd) (T : Txt mg) (TX : TxE K mg cc)  : FnOk P w K mg base (L2.CX P w) 14 f fd ["signs", "deeds", "begin", "follow"] (liftF K (X_first P w K mg base cc).p) := by
  refine fnX F sc_first_come (fun ws Q E h0 => by (obtain ⟨i, ws0, rfl, h1⟩ := sI.inv h0; obtain ⟨j, ws1, rfl, h2⟩ := sI.inv h1; obtain ⟨x, ws2, rfl, h3⟩ := sD.inv h2; obtain ⟨fa, FI, ws3, rfl, h4⟩ := sF.inv h3; obtain ⟨rfl, h⟩ := sEnd.inv h4); rfl) (fun cdv A outer s H E hr tk po => ⟨_, (scN (setO3 4 sc_first_come.nd (olst3 (ac3 (v3 2) an3)))
      (scN (setO3 5 sc_first_come.nd (otab1 hr.units (v3 2) int3))
      (scN (setO3 6 sc_first_come.nd (olst3 an3))
      (scN (whileN [4, 5, 6, 7, 8, 9, 10] po (lt3T (lenO3 6 (by rfl) T.b_len) (lenO3 4 (by rfl) T.b_len))
      (scN (setO3 7 sc_first_come.nd (olst3 an3))
      (scN (forN [4, 5, 7, 8, 9, 10] (ws0 := [8]) po rfl (range3 (by rfl) T.b_range (v3 0)) (gn3 8 sc_first_come.nd)
      (scN (PS3.lcP (setLcP 9 (own := [("deed", 11)]) rfl sc_first_come.nd (range3 (by rfl) T.b_range (v3 1)) (blkOk_by (by kernel_rfl)) (fun _ _ _ _ _ => (gn3 11 sc_first_come.nd)) (fun _ _ _ _ _ => (clV (P := P) (w := w) (K := K) (mg := mg) (base := base) (n := 3) 3 ⟨rfl, rfl, rfl, rfl, rfl⟩ hr (rd3 (ixOK 4 (lenO3 6 (by rfl) T.b_len)) (rd3 (v3 8) (rd3 (v3 11) rn3))))) s (sw_true rfl rfl rfl (by decide +kernel))))
      (scN (forN [4, 5, 10] (ws0 := [10]) po rfl (seq3 (v3 9)) (gn3 10 sc_first_come.nd)
      (s13 (if3 (PW3.pt (and3 (isNotN3T (v3 10)) (and1_3 (notInX3T 5 hr.units (v3 10)))))
      (scN (setX3 5 hr.units (lenO3 4 (by rfl) T.b_len) (v3 10))
      (s13 (app3 4 (v3 10))))
      sn3)))
      (scN (if3 (gt3T (lenO3 4 (by rfl) T.b_len) (gl3 T.c_MOST))
      (s13 (raise3 TX.e_TooWide tk))
      sn3)
      (s13 (app3 7 (tuple3  (by rfl) T.b_tuple (PE3.lcP (lcP (own := [("thing", 10)]) rfl sc_first_come.nd (seq3 (v3 9)) (blkOk_by (by kernel_rfl)) (fun _ _ _ _ _ => (gn3 10 sc_first_come.nd)) (fun _ _ _ _ _ => (ifx3 (isN3T (v3 10)) non3 (ixX3 5 hr.units (v3 10)))) s)))))))))
      (frz3 7 (s13 (app3 6 (tuple3  (by rfl) T.b_tuple (v3 7))))))))
      (frz3 4 (frz3 6 (s13 (ret3 (tup3 (ac3 (tuple3  (by rfl) T.b_tuple (v3 4)) (ac3 (tuple3  (by rfl) T.b_tuple (v3 6)) an3))))))))))), ?_⟩)
  intro ws Q Ex h0
  obtain ⟨i, ws0, rfl, h1⟩ := sI.inv h0
  obtain ⟨j, ws1, rfl, h2⟩ := sI.inv h1
  obtain ⟨x, ws2, rfl, h3⟩ := sD.inv h2
  obtain ⟨fa, FI, ws3, rfl, h4⟩ := sF.inv h3
  obtain ⟨rfl, h⟩ := sEnd.inv h4
  have q := h
  clear h h0 h1 h2 h3 h4
  obtain ⟨b0, step, ok, k, ⟨rfl, hi, hj, h0, hs, hk, hC⟩, q1, q2⟩ := q
  generalize ea : i.toNat = a at *
  generalize eb : j.toNat = b at *
  have hok := fc_ok (a := a) (b := b) h0 hs
  have ha9 : a ≤ 9 := by omega
  have hb9 : b ≤ 9 := by omega
  have tk0 := tkB_row b0
  walk_at "m3 wpb"
  refine ⟨⟨fun m vs => ∃ (n : Nat) (ds : List (D × D)) (ps ts : List D) (a1 a2 a3 : Option M3.W) (a4 : Option D), vs = [some (.own 0 (.lst ps)), some (.own 0 (.dcT ds)), some (.own 0 (.lst ts)), a1, a2, a3, a4.map M3.W.d] ∧ ps = (fcC a b step b0 n).map rowD ∧ ds = placesD rowD 0 (fcC a b step b0 n) ∧ ts = (fcT a b step b0 n).map roomD ∧ Going (fcOut a b step) b0 n ∧ (come (fcOut a b step) b0 n).length ≤ 100 ∧ m = 101 - n, ⟨101, 0, _, _, _, _, _, _, none, rfl, rfl, rfl, rfl, fun m hm => by omega, by show 1 ≤ 100; omega, rfl⟩, ?_⟩⟩
  rintro m vs ⟨n, _, _, _, a1, a2, a3, a4, rfl, rfl, rfl, rfl, hg, h100, rfl⟩
  have hn := going_le hg
  have hgl := going_len hg
  have l1 : ((fcC a b step b0 n).map rowD).length = (come (fcOut a b step) b0 n).length := by simp
  have l2 : ((fcT a b step b0 n).map roomD).length = n := by rw [List.length_map, fcT_len]
  walk_at "m3 wpb"
  · have hnl : n < (come (fcOut a b step) b0 n).length := by omega
    obtain ⟨x, hx⟩ : ∃ x, (fcC a b step b0 n)[n]? = some x := ⟨_, List.getElem?_eq_getElem hnl⟩
    have hxo := hok n x (List.mem_of_getElem? hx)
    have hsx := fc_succ hx
    have gs := going_succ hg hnl h100
    have eR : fcRoom a b step b0 n = (List.range a).map (fcRow a b step b0 n x) := by unfold fcRoom; rw [hx]
    refine ⟨⟨fun s vs => ∃ (ds : List (D × D)) (ps rs : List D) (a1 a2 : Option M3.W) (a3 : Option D), vs = [some (.own 0 (.lst ps)), some (.own 0 (.dcT ds)), some (.own 0 (.lst rs)), a1, a2, a3.map M3.W.d] ∧ ps = (addAll (fcC a b step b0 n) (fcAll b step x s)).map rowD ∧ ds = placesD rowD 0 (addAll (fcC a b step b0 n) (fcAll b step x s)) ∧ rs = ((List.range s).map (fcRow a b step b0 n x)).map rowD ∧ (addAll (fcC a b step b0 n) (fcAll b step x s)).length ≤ 100, ⟨_, _, _, _, _, a4, rfl, rfl, rfl, rfl, h100⟩, ?_, ?_⟩⟩
    · rintro s v vs hv ⟨_, _, _, c1, c2, c3, rfl, rfl, rfl, rfl, hl⟩
      obtain ⟨rfl, hs'⟩ := rng_at hv
      rw [ea] at hs'
      clear hv
      generalize eA : addAll (fcC a b step b0 n) (fcAll b step x s) = A at *
      have lA : (A.map rowD).length = A.length := by simp
      have lz : (placesD rowD 0 A).length = A.length := placesD_len _ _
      have preA : fcC a b step b0 n <+: A := by rw [← eA]; exact addAll_pre _ _
      have e1 : atI (A.map rowD) ((((fcT a b step b0 n).map roomD).length : Nat) : Int) = some (rowD x) := by
        rw [l2]; exact at_map_nat (pre_get preA hx)
      walk_at "m3 wpb"
      refine ⟨⟨(List.range b).map fun d => rowO (step x s d), by rw [rng_len, List.length_map, List.length_range, eb], fun d y hy => ?_, ?_⟩⟩
      · obtain ⟨rfl, hd⟩ := rng_at hy
        rw [eb] at hd
        rw [Int.zero_add] at hy ⊢
        have hs1 : (s : Int) < i := by omega
        have hd1 : (d : Int) < j := by omega
        walk_at "m3 wpb"
        (conv => whnf)
        refine atK_of (e1) ?_
        walk_at "m3 wpb"
        simp [hd]
      · walk_at "m3 wpb"
        refine ⟨⟨fun d vs => ∃ (B : List Rw) (ds : List (D × D)) (ps : List D) (a3 : Option D), vs = [some (.own 0 (.lst ps)), some (.own 0 (.dcT ds)), a3.map M3.W.d] ∧ B = addAll A (((List.range b).map (step x s)).take d |>.filterMap id) ∧ ps = B.map rowD ∧ ds = placesD rowD 0 B ∧ B.length ≤ A.length + d, ⟨_, _, _, c3, rfl, rfl, rfl, rfl, Nat.le_refl _⟩, ?_, ?_⟩⟩
        · rintro d y vs hy ⟨B, _, _, c3, rfl, hB, rfl, rfl, hBl⟩
          obtain ⟨d', hd', rfl, hm⟩ := map_at hy
          have hdb : d < b := by have := (List.getElem?_eq_some_iff.mp hd').1; simpa using this
          obtain rfl : d = d' := by rw [List.getElem?_range hdb] at hd'; exact Option.some.inj hd'
          clear hy hm hd'
          have ht : ((List.range b).map (step x s)).take (d + 1) = ((List.range b).map (step x s)).take d ++ [step x s d] := by rw [List.take_add_one, List.getElem?_map, List.getElem?_range hdb]; rfl
          have lB : (B.map rowD).length = B.length := by simp
          have lz : (placesD rowD 0 B).length = B.length := placesD_len _ _
          cases hst : step x s d with
          | none =>
            rw [hst] at ht
            have hN : (!isNone (rowO none)) = false := rfl
            walk_at "m3 wpb"
            exact ⟨B, _, _, some (rowO none), rfl, by rw [ht, List.filterMap_append]; simpa using hB, rfl, rfl, by omega⟩
          | some y =>
            rw [hst] at ht
            have hg0 := place_get tEq_row y B 0
            have hky := tkB_row y
            have eB : addAll A ((((List.range b).map (step x s)).take (d + 1)).filterMap id) = addP B y := by
              rw [ht, List.filterMap_append, hB]
              exact addAll_snoc
            have hN : (!isNone (rowO (some y))) = true := rfl
            by_cases hy : y ∈ B
            · rw [if_pos hy] at hg0
              have hb : (!(xgetD (placesD rowD 0 B) (rowO (some y))).isSome) = false := by
                show (!(xgetD (placesD rowD 0 B) (rowD y)).isSome) = false
                rw [hg0]; rfl
              have e2 : addP B y = B := by unfold addP; rw [if_pos hy]
              walk_at "m3 wpb"
              exact ⟨B, _, _, some (rowO (some y)), rfl, by rw [eB, e2], rfl, rfl, by omega⟩
            · rw [if_neg hy] at hg0
              have hb : (!(xgetD (placesD rowD 0 B) (rowO (some y))).isSome) = true := by
                show (!(xgetD (placesD rowD 0 B) (rowD y)).isSome) = true
                rw [hg0]; rfl
              have e2 : addP B y = B ++ [y] := by unfold addP; rw [if_neg hy]
              have hput : xputD (placesD rowD 0 B) (rowD y) (.int ((B.map rowD).length : Int)) = placesD rowD 0 (B ++ [y]) := by rw [← place_put tEq_row hy, lB, Nat.zero_add]
              walk_at "m3 wpb"
              exact ⟨B ++ [y], _, _, some (rowO (some y)), rfl, by rw [eB, e2], by simp [rowO], hput, by simp; omega⟩
        · rintro vs ⟨B, _, _, c3, rfl, hB, rfl, rfl, hBl⟩
          rw [List.length_map, List.length_range] at hB hBl
          rw [List.take_of_length_le (by simp), fcNew_take (k := 0)] at hB
          have hB2 : addAll (fcC a b step b0 n) (fcAll b step x (s + 1)) = B := by rw [fcAll_succ, addAll_app, eA, hB]
          have hpre : B <+: fcC a b step b0 (n + 1) := by rw [hsx, ← hB2]; exact addAll_pre2 (fcAll_pre (by omega))
          have lB : (B.map rowD).length = B.length := by simp
          walk_at "m3 wpb"
          · exact q2 ⟨n + 1, gs, by have := hpre.length_le; show 100 < (come (fcOut a b step) b0 (n + 1)).length; have h5 : B.length ≤ (come (fcOut a b step) b0 (n + 1)).length := this; omega⟩
          · refine ⟨⟨(fcRow a b step b0 n x s).map cellD, by simp [fcRow], fun d y hy => ?_, ?_⟩⟩
            · obtain ⟨d', hd', rfl, hm⟩ := map_at hy
              have hdb : d < b := by have := (List.getElem?_eq_some_iff.mp hd').1; simpa using this
              obtain rfl : d = d' := by rw [List.getElem?_range hdb] at hd'; exact Option.some.inj hd'
              clear hy hm hd'
              have hr : ((fcRow a b step b0 n x s).map cellD)[d]? = some (cellD ((step x s d).map (idxP (fcC a b step b0 (n + 1))))) := by simp [fcRow, hdb]
              rw [hr]
              cases hst : step x s d with
              | none =>
                have hN : isNone (rowO none) = true := rfl
                rcases c3 with _ | c3
                all_goals (
                  walk_at "m3 wpb"
                  rfl)
              | some y =>
                have hg0 := place_get tEq_row y B 0
                have hyB : y ∈ B := by rw [hB]; exact addAll_mem _ _ _ (by simp only [fcNew, List.mem_filterMap, List.mem_range]; exact ⟨d, hdb, hst⟩)
                rw [if_pos hyB] at hg0
                have hky := tkB_row y
                have hN : isNone (rowO (some y)) = false := rfl
                rcases c3 with _ | c3
                all_goals (
                  walk_at "m3 wpb"
                  refine ⟨⟨_, hg0, ?_⟩⟩
                  walk_at "m3 wpb"
                  show some (cellD (some (idxP (fcC a b step b0 (n + 1)) y))) = _
                  rw [idx_pre hpre hyB, Nat.zero_add]; rfl)
            · have l5 : (((List.range s).map (fcRow a b step b0 n x)).map rowD).length = s := by simp
              have l6 : ((fcRow a b step b0 n x s).map cellD).length = b := by simp [fcRow]
              walk_at "m3 wpb"
              refine ⟨_, _, _, _, _, c3, rfl, by rw [hB2], by rw [hB2], ?_, by rw [hB2]; omega⟩
              rw [List.range_succ, List.map_append, List.map_append]; rfl
    · rintro vs ⟨_, _, _, c1, c2, c3, rfl, rfl, rfl, rfl, hl⟩
      rw [rng_len, ea] at hl ⊢
      rw [← hsx] at hl ⊢
      have l5 : (((List.range a).map (fcRow a b step b0 n x)).map rowD).length = a := by simp
      walk_at "m3 wpb"
      refine ⟨101 - (n + 1), by omega, n + 1, _, _, _, _, _, _, c3, rfl, rfl, rfl, ?_, gs, hl, rfl⟩
      unfold fcT
      rw [List.range_succ, List.map_append, List.map_append, List.map_singleton, List.map_singleton, eR]; rfl
  · have hd : FDone a b step b0 n := ⟨hg, by show n = (come (fcOut a b step) b0 n).length; omega, hn⟩
    exact q1 n hd
theorem rec__law_same {f : Addr} {fd : FuncData} (F : Fun K "_law_same" "_law_same" s__law_same f fd) (T : Txt mg)  (hm : mg "_law_same" = some (.ref f)) (hk : PySem.W.keepIn K (.ref f) = true) (hb : Binds K fd ["found", "due"] []) : ∀ n, n ≤ 6 → FnOk P w K mg base CX0 (1 + n) f fd ["found", "due"] (liftF K (S_same n).p)
  | 0, _ => by
    refine fnN (k := 0) F sc__law_same (fun ws Q h0 => by (obtain ⟨x, ws0, rfl, h1⟩ := sD.inv h0; obtain ⟨y, ws1, rfl, h2⟩ := sD.inv h1; obtain ⟨rfl, h⟩ := sEnd.inv h2); rfl) (fun cdv A outer s H E hr => ⟨_, (scN (if3 (pt3_val (isi3 kit_tuple (by decide +kernel) (by rfl) T.b_isinstance (by rfl) T.b_tuple (v3 1)))
      (scN (if3 (PW3.pt (or3 (not3 (pt3_val (isi3 kit_tuple (by decide +kernel) (by rfl) T.b_isinstance (by rfl) T.b_tuple (v3 0)))) (or1_3 (ne3T hr.units (len3  (by rfl) T.b_len (v3 0)) (len3  (by rfl) T.b_len (v3 1))))))
      (s13 (ret3 bl3))
      sn3)
      (s13 (ret3 (all3 rfl (by rfl) T.b_all (PE3.lcP (lcP (own := [("one", 2), ("other", 3)]) rfl sc__law_same.nd (zip3 (by rfl) T.b_zip (v3 0) (v3 1)) (blkOk_by (by kernel_rfl)) (fun _ _ _ _ _ => (gtA (n := 2) rfl (gs1 (gn3 2 sc__law_same.nd) (gs1 (gn3 3 sc__law_same.nd) gs0)))) (fun _ _ _ _ _ => neverE3) s))))))
      sn3)
      (scN (if3 (isN3T (v3 1))
      (s13 (ret3 (isN3 (v3 0))))
      sn3)
      (scN (if3 (pt3_val (isi3_2 kit_str kit_bool (by decide +kernel) (by decide +kernel) (by rfl) T.b_isinstance (by rfl) T.b_str (by rfl) T.b_bool (v3 1)))
      (s13 (ret3 (andV3 (isi3_2 kit_str kit_bool (by decide +kernel) (by decide +kernel) (by rfl) T.b_isinstance (by rfl) T.b_str (by rfl) T.b_bool (v3 0)) (andV3 (eq3 hr.units (isi3 kit_bool (by decide +kernel) (by rfl) T.b_isinstance (by rfl) T.b_bool (v3 0)) (isi3 kit_bool (by decide +kernel) (by rfl) T.b_isinstance (by rfl) T.b_bool (v3 1))) (one3 (eq3 hr.units (v3 0) (v3 1)))))))
      sn3)
      (s13 (ret3 (andV3 (isi3 kit_int (by decide +kernel) (by rfl) T.b_isinstance (by rfl) T.b_int (v3 0)) (andV3 (notV3 (isi3 kit_bool (by decide +kernel) (by rfl) T.b_isinstance (by rfl) T.b_bool (v3 0))) (one3 (eq3 hr.units (v3 0) (v3 1)))))))))), ?_⟩)
    intro ws Q h0
    obtain ⟨x, ws0, rfl, h1⟩ := sD.inv h0
    obtain ⟨y, ws1, rfl, h2⟩ := sD.inv h1
    obtain ⟨rfl, h⟩ := sEnd.inv h2
    obtain ⟨pre, q⟩ := h
    clear h0 h1 h2
    obtain ⟨rfl, hn⟩ := pre
    cases x
    all_goals first | exact hn.elim | skip
    · walk_at "m3 wpb"
      exact q
    · walk_at "m3 wpb"
      exact qb q (by simp)
  | n + 1, hn => by
    have C__law_same : CalC P w K mg base (1 + n) "_law_same" ["found", "due"] (S_same n) := ⟨f, fd, rec__law_same F T  hm hk hb n (by omega), hm, hk, hb⟩
    refine fnN (k := 1 + n) F sc__law_same (fun ws Q h0 => by (obtain ⟨x, ws0, rfl, h1⟩ := sD.inv h0; obtain ⟨y, ws1, rfl, h2⟩ := sD.inv h1; obtain ⟨rfl, h⟩ := sEnd.inv h2); rfl) (fun cdv A outer s H E hr => ⟨_, (scN (if3 (pt3_val (isi3 kit_tuple (by decide +kernel) (by rfl) T.b_isinstance (by rfl) T.b_tuple (v3 1)))
      (scN (if3 (PW3.pt (or3 (not3 (pt3_val (isi3 kit_tuple (by decide +kernel) (by rfl) T.b_isinstance (by rfl) T.b_tuple (v3 0)))) (or1_3 (ne3T hr.units (len3  (by rfl) T.b_len (v3 0)) (len3  (by rfl) T.b_len (v3 1))))))
      (s13 (ret3 bl3))
      sn3)
      (s13 (ret3 (all3 rfl (by rfl) T.b_all (PE3.lcP (lcP (own := [("one", 2), ("other", 3)]) rfl sc__law_same.nd (zip3 (by rfl) T.b_zip (v3 0) (v3 1)) (blkOk_by (by kernel_rfl)) (fun _ _ _ _ _ => (gtA (n := 2) rfl (gs1 (gn3 2 sc__law_same.nd) (gs1 (gn3 3 sc__law_same.nd) gs0)))) (fun _ _ _ _ _ => (clC C__law_same hr (rd3 (v3 2) (rd3 (v3 3) rn3)))) s))))))
      sn3)
      (scN (if3 (isN3T (v3 1))
      (s13 (ret3 (isN3 (v3 0))))
      sn3)
      (scN (if3 (pt3_val (isi3_2 kit_str kit_bool (by decide +kernel) (by decide +kernel) (by rfl) T.b_isinstance (by rfl) T.b_str (by rfl) T.b_bool (v3 1)))
      (s13 (ret3 (andV3 (isi3_2 kit_str kit_bool (by decide +kernel) (by decide +kernel) (by rfl) T.b_isinstance (by rfl) T.b_str (by rfl) T.b_bool (v3 0)) (andV3 (eq3 hr.units (isi3 kit_bool (by decide +kernel) (by rfl) T.b_isinstance (by rfl) T.b_bool (v3 0)) (isi3 kit_bool (by decide +kernel) (by rfl) T.b_isinstance (by rfl) T.b_bool (v3 1))) (one3 (eq3 hr.units (v3 0) (v3 1)))))))
      sn3)
      (s13 (ret3 (andV3 (isi3 kit_int (by decide +kernel) (by rfl) T.b_isinstance (by rfl) T.b_int (v3 0)) (andV3 (notV3 (isi3 kit_bool (by decide +kernel) (by rfl) T.b_isinstance (by rfl) T.b_bool (v3 0))) (one3 (eq3 hr.units (v3 0) (v3 1)))))))))), ?_⟩)
    intro ws Q h0
    obtain ⟨x, ws0, rfl, h1⟩ := sD.inv h0
    obtain ⟨y, ws1, rfl, h2⟩ := sD.inv h1
    obtain ⟨rfl, h⟩ := sEnd.inv h2
    obtain ⟨pre, q⟩ := h
    clear h0 h1 h2
    obtain ⟨rfl, hx⟩ := pre
    cases x
    all_goals first | exact hx.elim | skip
    · walk_at "m3 wpb"
      exact q
    · walk_at "m3 wpb"
      exact qb q (by simp)
    · rename_i xs
      obtain ⟨hl, hx⟩ := hx
      walk_at "m3 wpb"
      refine ⟨⟨List.replicate (zipD xs xs).length (.bool true), by simp, fun i y hy => ?_, ?_⟩⟩
      · obtain ⟨a, b, ha, hb, rfl⟩ := zipD_get hy
        rw [ha] at hb; cases hb
        have := hx a (List.mem_of_getElem? ha)
        walk_at "m3 wpb"
        rw [List.getElem?_replicate, if_pos (List.getElem?_eq_some_iff.mp hy).1]
      · refine ⟨List.replicate (zipD xs xs).length true, by simp, ?_⟩
        exact qb q (by simp)
theorem ok__law_same {f : Addr} {fd : FuncData} (F : Fun K "_law_same" "_law_same" s__law_same f fd) (T : Txt mg)  (hm : mg "_law_same" = some (.ref f)) (hk : PySem.W.keepIn K (.ref f) = true) (hb : Binds K fd ["found", "due"] []) : FnOk P w K mg base CX0 7 f fd ["found", "due"] (liftF K (S_same 6).p) := rec__law_same F T  hm hk hb 6 (by omega)
theorem ok__law_ringed {f : Addr} {fd : FuncData} (F : Fun K "_law_ringed" "_law_ringed" s__law_ringed f fd) (T : Txt mg) (C__law_take : CalC P w K mg base 1 "_law_take" ["pot", "many"] S_take) (C__law_pot : CalC P w K mg base 1 "_law_pot" ["script", "k"] S_pot) : FnOk P w K mg base CX0 2 f fd ["script", "first", "pot", "signs", "deeds", "most"] (liftF K S_lring.p) := by
  refine fnN F sc__law_ringed (fun ws Q h0 => by (obtain ⟨v0, ws0, rfl, h1⟩ := sR.inv h0; obtain ⟨first, ws1, rfl, h2⟩ := sI.inv h1; obtain ⟨ob, ws2, rfl, h3⟩ := sO.inv h2; obtain ⟨signs, ws3, rfl, h4⟩ := sI.inv h3; obtain ⟨deeds, ws4, rfl, h5⟩ := sI.inv h4; obtain ⟨most, ws5, rfl, h6⟩ := sI.inv h5; obtain ⟨rfl, h⟩ := sEnd.inv h6); rfl) (fun cdv A outer s H E hr => ⟨_, (scN (set3 6 sc__law_ringed.nd (add3 int3 (clC C__law_take hr (ro3 2 (rd3 (v3 5) rn3)))))
      (scN (set3 7 sc__law_ringed.nd (clC C__law_take hr (ro3 2 (rd3 (v3 6) rn3))))
      (scN (set3 8 sc__law_ringed.nd (clC C__law_take hr (ro3 2 (rd3 int3 rn3))))
      (scN (set3 9 sc__law_ringed.nd (ixK (lst3 (ac3 int3 (ac3 int3 (ac3 int3 (ac3 (pow3 int3 int3) an3))))) (clC C__law_take hr (ro3 2 (rd3 int3 rn3)))))
      (scN (PS3.lcM (setLcM 10 [2] (own := [("s", 15)]) rfl sc__law_ringed.nd (range3 (by rfl) T.b_range (v3 3)) (blkOk_by (by kernel_rfl)) (fun _ _ _ _ _ => (gn3 15 sc__law_ringed.nd)) (fun _ _ _ _ _ => (PE3.lcM (lcM [2] (own := [("d", 17)]) rfl sc__law_ringed.nd (range3 (by rfl) T.b_range (v3 4)) (blkOk_by (by kernel_rfl)) (fun _ _ _ _ _ => (gn3 17 sc__law_ringed.nd)) (fun _ _ _ _ _ => (clC C__law_take hr (ro3 2 (rd3 int3 rn3)))) s))) s (sw_true rfl rfl rfl (by decide +kernel))))
      (scN (setO3 11 sc__law_ringed.nd (olst3 an3))
      (scN (forN [11, 12, 13, 14, 15, 16, 17, 18] (ws0 := [12]) PassesOwn.never rfl (range3 (by rfl) T.b_range (v3 6)) (gn3 12 sc__law_ringed.nd)
      (scN (setO3 13 sc__law_ringed.nd (clOC C__law_pot hr (rr3 0 (rd3 (add3 (v3 1) (v3 12)) rn3))))
      (scN (setO3 14 sc__law_ringed.nd (olst3 an3))
      (scN (forN [13, 14, 15, 16, 17, 18] (ws0 := [15]) PassesOwn.never rfl (range3 (by rfl) T.b_range (v3 3)) (gn3 15 sc__law_ringed.nd)
      (scN (setO3 16 sc__law_ringed.nd (olst3 an3))
      (scN (forN [13, 16, 17, 18] (ws0 := [17]) PassesOwn.never rfl (range3 (by rfl) T.b_range (v3 4)) (gn3 17 sc__law_ringed.nd)
      (scN (set3 18 sc__law_ringed.nd (ixK (lst3 (ac3 (clC C__law_take hr (ro3 13 (rd3 (v3 6) rn3))) (ac3 (add3 (v3 12) (ixK (ixK (v3 10) (v3 15)) (v3 17))) an3))) (v3 8)))
      (scN (if3 (eq3T hr.units (v3 18) (v3 6))
      (s13 (set3 18 sc__law_ringed.nd (v3 7)))
      sn3)
      (s13 (app3 16 (ixK (lst3 (ac3 (v3 18) (ac3 non3 an3))) (int3c  (by rfl) T.b_int (eq3 hr.units (clC C__law_take hr (ro3 13 (rd3 (v3 9) rn3))) int3))))))))
      (frz3 16 (s13 (app3 14 (tuple3  (by rfl) T.b_tuple (v3 16))))))))
      (frz3 14 (s13 (app3 11 (tuple3  (by rfl) T.b_tuple (v3 14)))))))))
      (frz3 11 (s13 (ret3 (tup3 (ac3 (v3 3) (ac3 (v3 4) (ac3 (tuple3  (by rfl) T.b_tuple (v3 11)) an3)))))))))))))), ?_⟩)
  intro ws Q h0
  obtain ⟨v0, ws0, rfl, h1⟩ := sR.inv h0
  obtain ⟨first, ws1, rfl, h2⟩ := sI.inv h1
  obtain ⟨ob, ws2, rfl, h3⟩ := sO.inv h2
  obtain ⟨signs, ws3, rfl, h4⟩ := sI.inv h3
  obtain ⟨deeds, ws4, rfl, h5⟩ := sI.inv h4
  obtain ⟨most, ws5, rfl, h6⟩ := sI.inv h5
  obtain ⟨rfl, h⟩ := sEnd.inv h6
  obtain ⟨ns, c, rfl, pre, q⟩ := h
  clear h0 h1 h2 h3 h4 h5 h6
  obtain ⟨hf, hp, hc, hs, hd, hm⟩ := pre
  walk_at "m3 wpb"
  rintro u1 ob ⟨h_u1, hp⟩
  walk_at "m3 wpb"
  rintro u2 ob ⟨h_u2, hp⟩
  walk_at "m3 wpb"
  rintro u3 ob ⟨h_u3, hp⟩
  walk_at "m3 wpb"
  refine And.intro (cpw 20 (by decide) (by decide) (by decide)) ?_
  walk_at "m3 wpb"
  rintro u4 ob ⟨h_u4, hp⟩
  walk_at "m3 wpb"
  obtain ⟨rate, hra, hr0, hr1⟩ : ∃ rate : Int, atI [PyData.int 3, PyData.int 7, PyData.int 30, PyData.int ((10 : Int) ^ Int.toNat 6)] (u4 : Int) = some (.int rate) ∧ 0 < rate ∧ rate < 2 ^ 29 := by
    rcases (show u4 = 0 ∨ u4 = 1 ∨ u4 = 2 ∨ u4 = 3 by omega) with rfl | rfl | rfl | rfl
    · exact ⟨3, rfl, by decide, by decide⟩
    · exact ⟨7, rfl, by decide, by decide⟩
    · exact ⟨30, rfl, by decide, by decide⟩
    · exact ⟨(10 : Int) ^ Int.toNat 6, rfl, by decide, by decide⟩
  (conv => whnf)
  refine atK_of (hra) ?_
  walk_at "m3 wpb"
  refine ⟨⟨fun m acc us => ∃ (ob : Ob) (on : List (List Nat)), us = [some (.own 3 ob)] ∧ acc = on.map (fun r => PyData.list (intsD r)) ∧ IsPot (c + 4 + 9 * m) ob ∧ on.length = m ∧ ∀ r ∈ on, (r.length : Int) = deeds ∧ ∀ v ∈ r, v < 2, ⟨ob, [], rfl, rfl, hp.mono (by omega), rfl, by simp⟩, ?_, ?_⟩⟩
  · rintro m x acc us hx ⟨ob, on, rfl, rfl, hp, hl, hall⟩
    obtain ⟨rfl, hk⟩ := rng_at hx
    walk_at "m3 wpb"
    refine ⟨⟨fun n acc us => ∃ (ob : Ob) (r : List Nat), us = [some (.own 3 ob)] ∧ acc = intsD r ∧ IsPot (c + 4 + 9 * m + n) ob ∧ r.length = n ∧ ∀ v ∈ r, v < 2, ⟨ob, [], rfl, rfl, hp, rfl, by simp⟩, ?_, ?_⟩⟩
    · rintro n x acc us hx ⟨ob, r, rfl, rfl, hp, hl3, hall3⟩
      obtain ⟨rfl, hn⟩ := rng_at hx
      walk_at "m3 wpb"
      rintro v ob ⟨h_v, hp⟩
      walk_at "m3 wpb"
      refine ⟨ob, r ++ [v], rfl, by simp [intsD], hp.mono (by omega), by simp [hl3], fun y hy => ?_⟩
      rcases List.mem_append.mp hy with z | z
      · exact hall3 y z
      · rw [List.mem_singleton.mp z]; omega
    · rintro acc us ⟨ob, r, rfl, rfl, hp, hl3, hall3⟩
      rw [rng_len] at hp hl3
      walk_at "m3 wpb"
      refine ⟨ob, on ++ [r], rfl, by simp, hp.mono (by omega), by simp [hl], fun row hrow => ?_⟩
      rcases List.mem_append.mp hrow with z | z
      · exact hall row z
      · rw [List.mem_singleton.mp z]; exact ⟨by omega, hall3⟩
  rintro acc us ⟨ob, on, rfl, rfl, hp, hl, hall⟩
  rw [rng_len] at hp hl
  have hpE : IsPot (c + 200) ob := hp.mono (by omega)
  have hR : (1 : Int) + (u1 : Int) ≤ 12 := by omega
  walk_at "m3 wpb"
  refine ⟨⟨fun k vs => ∃ (tb : List (List Rw)) (t : List D) (a1 a2 a3 a4 a5 a6 a7 : Option M3.W), vs = [some (.own 0 (.lst t)), a1, a2, a3, a4, a5, a6, a7] ∧ t = tb.map roomD ∧ tb.length = k ∧ ∀ room ∈ tb, (room.length : Int) = signs ∧ ∀ row ∈ room, (row.length : Int) = deeds ∧ ∀ (n : Nat), some n ∈ row → (n : Int) < 1 + (u1 : Int), ⟨[], _, _, _, _, _, _, _, _, rfl, rfl, rfl, by simp⟩, ?_, ?_⟩⟩
  · rintro k x vs hx ⟨tb, _, a1, a2, a3, a4, a5, a6, a7, rfl, rfl, hl1, hall1⟩
    obtain ⟨rfl, hk⟩ := rng_at hx
    have hk2 : (k : Int) < 1 + (u1 : Int) := by omega
    clear hx
    rw [Int.zero_add]
    have lt : (tb.map roomD).length = k := by simp [hl1]
    walk_at "m3 wpb"
    rintro own hown
    walk_at "m3 wpb"
    refine ⟨⟨fun m vs => ∃ (own : Ob) (rm : List Rw) (t : List D) (a1 a2 a3 a4 : Option M3.W), vs = [some (.own 0 own), some (.own 0 (.lst t)), a1, a2, a3, a4] ∧ t = rm.map rowD ∧ IsPot (18 * m) own ∧ rm.length = m ∧ ∀ row ∈ rm, (row.length : Int) = deeds ∧ ∀ (n : Nat), some n ∈ row → (n : Int) < 1 + (u1 : Int), ⟨own, [], _, _, _, _, _, rfl, rfl, hown, rfl, by simp⟩, ?_, ?_⟩⟩
    · rintro m x vs hx ⟨own, rm, _, b1, b2, b3, b4, rfl, rfl, hown, hl2, hall2⟩
      obtain ⟨rfl, hm2⟩ := rng_at hx
      clear hx
      rw [Int.zero_add]
      have lrm : (rm.map rowD).length = m := by simp [hl2]
      obtain ⟨orow, ho⟩ : ∃ r, on[m]? = some r := ⟨_, List.getElem?_eq_getElem (by omega)⟩
      obtain ⟨hol, hov⟩ := hall orow (List.mem_of_getElem? ho)
      have eo : atI (on.map fun r => PyData.list (intsD r)) (m : Int) = some (.list (intsD orow)) := at_map_nat ho
      walk_at "m3 wpb"
      refine ⟨⟨fun d vs => ∃ (own : Ob) (rw : Rw) (t : List D) (a1 a2 : Option M3.W), vs = [some (.own 0 own), some (.own 0 (.lst t)), a1, a2] ∧ t = rw.map cellD ∧ IsPot (18 * m + 2 * d) own ∧ rw.length = d ∧ ∀ (n : Nat), some n ∈ rw → (n : Int) < 1 + (u1 : Int), ⟨own, [], _, _, _, rfl, rfl, hown, rfl, by simp⟩, ?_, ?_⟩⟩
      · rintro d x vs hx ⟨own, rw, _, d1, d2, rfl, rfl, hown, hl3, hall3⟩
        obtain ⟨rfl, hd2⟩ := rng_at hx
        clear hx
        rw [Int.zero_add]
        have lrw : (rw.map cellD).length = d := by simp [hl3]
        obtain ⟨v, hv⟩ : ∃ v, orow[d]? = some v := ⟨_, List.getElem?_eq_getElem (by omega)⟩
        have hv2 := hov v (List.mem_of_getElem? hv)
        have ev : atI (intsD orow) (d : Int) = some (.int (v : Int)) := at_map_nat (f := fun (n : Nat) => PyData.int (n : Int)) hv
        walk_at "m3 wpb"
        rintro w1 ob ⟨h_w1, hp⟩
        walk_at "m3 wpb"
        (conv => whnf)
        refine atK_of (eo) ?_
        walk_at "m3 wpb"
        (conv => whnf)
        refine atK_of (ev) ?_
        walk_at "m3 wpb"
        obtain ⟨to, ht, ht1⟩ : ∃ to : Nat, atI [PyData.int (w1 : Int), PyData.int ((k : Int) + (v : Int))] (u3 : Int) = some (.int (to : Int)) ∧ (to : Int) ≤ 1 + (u1 : Int) := by
          rcases (show u3 = 0 ∨ u3 = 1 by omega) with rfl | rfl
          · exact ⟨w1, rfl, by omega⟩
          · exact ⟨k + v, by rw [show (((k + v : Nat)) : Int) = (k : Int) + (v : Int) by omega]; rfl, by omega⟩
        have fin : ∀ (to : Nat) (w2 : Nat), (to : Int) < 1 + (u1 : Int) → ∃ cc : Option Nat, atI [PyData.int (to : Int), PyData.none] (if id (PyData.eqv (PyData.int (w2 : Int)) (PyData.int 0)) = true then 1 else 0) = some (cellD cc) ∧ ∀ n, cc = some n → (n : Int) < 1 + (u1 : Int) := by
          intro to w2 h
          cases e : PyData.eqv (PyData.int (w2 : Int)) (PyData.int 0) with
          | true => exact ⟨none, rfl, by intro n z; cases z⟩
          | false => exact ⟨some to, rfl, by intro n z; cases z; exact h⟩
        (conv => whnf)
        refine atK_of (ht) ?_
        walk_at "m3 wpb"
        · rintro w2 ob ⟨h_w2, hp⟩
          walk_at "m3 wpb"
          obtain ⟨cc, hcc, hcn⟩ := fin u2 w2 (by omega)
          (conv => whnf)
          refine atK_of (hcc) ?_
          walk_at "m3 wpb"
          refine ⟨ob, rw ++ [cc], _, _, _, rfl, by simp, hp.mono (by omega), by simp [hl3], fun n hn => ?_⟩
          rcases List.mem_append.mp hn with z | z
          · exact hall3 n z
          · exact hcn n (List.mem_singleton.mp z).symm
        · rintro w2 ob ⟨h_w2, hp⟩
          walk_at "m3 wpb"
          obtain ⟨cc, hcc, hcn⟩ := fin to w2 (by omega)
          (conv => whnf)
          refine atK_of (hcc) ?_
          walk_at "m3 wpb"
          refine ⟨ob, rw ++ [cc], _, _, _, rfl, by simp, hp.mono (by omega), by simp [hl3], fun n hn => ?_⟩
          rcases List.mem_append.mp hn with z | z
          · exact hall3 n z
          · exact hcn n (List.mem_singleton.mp z).symm
      · rintro vs ⟨own, rw, _, d1, d2, rfl, rfl, hown, hl3, hall3⟩
        rw [rng_len] at hown hl3
        have lrw : (rw.map cellD).length = deeds.toNat := by simp [hl3]
        walk_at "m3 wpb"
        refine ⟨own, rm ++ [rw], _, _, _, _, _, rfl, by simp [rowD], hown.mono (by omega), by simp [hl2], fun row hrow => ?_⟩
        rcases List.mem_append.mp hrow with z | z
        · exact hall2 row z
        · rw [List.mem_singleton.mp z]; exact ⟨by omega, hall3⟩
    · rintro vs ⟨own, rm, _, b1, b2, b3, b4, rfl, rfl, hown, hl2, hall2⟩
      rw [rng_len] at hown hl2
      have lrm : (rm.map rowD).length = signs.toNat := by simp [hl2]
      walk_at "m3 wpb"
      refine ⟨tb ++ [rm], _, _, _, _, _, _, _, _, rfl, by simp [roomD], by simp [hl1], fun room hroom => ?_⟩
      rcases List.mem_append.mp hroom with z | z
      · exact hall1 room z
      · rw [List.mem_singleton.mp z]; exact ⟨by omega, hall2⟩
  · rintro vs ⟨tb, _, a1, a2, a3, a4, a5, a6, a7, rfl, rfl, hl1, hall1⟩
    rw [rng_len] at hl1
    have lt : (tb.map roomD).length = (1 + (u1 : Int)).toNat := by simp [hl1]
    walk_at "m3 wpb"
    refine q tb ob ⟨by omega, fun room hroom => ?_, hpE⟩
    obtain ⟨h1, h2⟩ := hall1 room hroom
    exact ⟨h1, fun row hrow => ⟨(h2 row hrow).1, fun n hn => by have := (h2 row hrow).2 n hn; show n < tb.length; omega⟩⟩
theorem nk_either_follow (T : Txt mg) (C_behind : CalC P w K mg base 1 "behind" ["sayings", "rooms", "sign", "deed"] S_behind) {f : Addr} {qual : Str} {cl : List (Str × Addr)} {c1 : Addr} (i j : Int) (Ss : List Say) (hA : AllS i j Ss) : Callv P w K mg base 2 f (CloH K f (NdefX.NF.of n_either_follow "follow" qual cl c1) ["sayings"] [saysD Ss]) (S_step i j (stepX true Ss) (OkR Ss)) := by
  refine callv_of (F := NdefX.NF.of n_either_follow "follow" qual cl c1) nsc_either_follow (fun doc pm ctv us hl => match us, hl with | [_, _, _], _ => rfl) (fun ws Q h0 => by (obtain ⟨v0, ws0, rfl, h1⟩ := sD.inv h0; obtain ⟨v1, ws1, rfl, h2⟩ := sD.inv h1; obtain ⟨v2, ws2, rfl, h3⟩ := sD.inv h2; obtain ⟨rfl, h⟩ := sEnd.inv h3); rfl) (fun A outer s H hr => ⟨_, (scN (set3 4 nsc_either_follow.nd (clC C_behind hr (rd3 (v3 3) (rd3 (v3 0) (rd3 (v3 1) (rd3 (v3 2) rn3))))))
      (s13 (ret3 (ifx3 (pt3_val (all3 rfl (by rfl) T.b_all (PE3.lcP (lcP (own := [("room", 5)]) rfl nsc_either_follow.nd (seq3 (v3 4)) (blkOk_by (by kernel_rfl)) (fun _ _ _ _ _ => (gn3 5 nsc_either_follow.nd)) (fun _ _ _ _ _ => (isN3 (v3 5))) s)))) non3 (v3 4))))), ?_⟩)
  intro ws Q h0
  obtain ⟨v0, ws0, rfl, h1⟩ := sD.inv h0
  obtain ⟨v1, ws1, rfl, h2⟩ := sD.inv h1
  obtain ⟨v2, ws2, rfl, h3⟩ := sD.inv h2
  obtain ⟨rfl, h⟩ := sEnd.inv h3
  obtain ⟨r, s1, d1, rfl, rfl, rfl, pre, q⟩ := h
  clear h0 h1 h2 h3
  obtain ⟨hR, hs, hd⟩ := pre
  have hb := behindR_ok hA hR hs hd
  have l1 := hb.1
  have l4 := hA.1.2
  have l5 : ((behindR Ss r s1 d1).map cellD).length ≤ 4 := by rw [List.length_map, l1]; exact l4
  refine ⟨Ss, i, j, r, s1, d1, rfl, rfl, rfl, rfl, ⟨hA, hR, hs, hd⟩, ?_⟩
  generalize ef : behindR Ss r s1 d1 = f at *
  have eA : ((f.map Option.isNone).all id) = lostB true f := by simp only [lostB, List.all_map]; rfl
  walk_at "m3 wpb"
  refine ⟨⟨(f.map Option.isNone).map PyData.bool, by simp, fun k y hk => ?_, ?_⟩⟩
  · obtain ⟨c', h3, rfl, _⟩ := map_at hk
    rw [List.getElem?_map, List.getElem?_map, h3]
    cases c' <;> (
      walk_at "m3 wpb"
      rfl)
  cases hL : lostB true f with
  | true =>
    rw [step_lost (by rw [ef]; exact hL)] at q
    rw [hL] at eA
    walk_at "m3 wpb"
    exact q
  | false =>
    rw [step_going (by rw [ef]; exact hL), ef] at q
    rw [hL] at eA
    walk_at "m3 wpb"
    exact q
theorem okx_either {f : Addr} {fd : FuncData} (F : Fun K "either" "either" s_either f fd) (T : Txt mg) (TX : TxE K mg cc) {c_ P_ : Addr} (hc_ : fd.code = .ref c_) (TB_ : TabB base mg c_ P_) (hm_ : (P_, nm_either) ∈ TabsC.T) (hu_ : ∀ p ∈ TabsC.T, p.1 = P_ → p.2 = nm_either) (C_need_sayings : CalC P w K mg base 5 "need_sayings" ["sayings", "most"] S_need_says) (C_need_row_alike : CalC P w K mg base 2 "need_row_alike" ["things"] S_need_ra) (C_behind : CalC P w K mg base 1 "behind" ["sayings", "rooms", "sign", "deed"] S_behind) (CX_first_come : CalX P w K mg base 14 "first_come" ["signs", "deeds", "begin", "follow"] (X_first P w K mg base cc)) : FnOk P w K mg base (L2.CX P w) 15 f fd ["sayings"] (liftF K (X_join true cc).p) := by
  refine fnXK F hc_ sc_either (fun ws Q E h0 => by (obtain ⟨x, ws0, rfl, h1⟩ := sD.inv h0; obtain ⟨rfl, h⟩ := sEnd.inv h1); rfl) (fun A outer s H E hr tk po => ⟨_, (scN (expr3 (clCE C_need_sayings hr (rd3 (v3 0) (rd3 int3 rn3))))
      (scN (expr3 (clCE C_need_row_alike hr (rd3 (v3 0) rn3)))
      (scN (ps_nd3 (st := n_either_follow) 1 rfl TB_ rfl hm_ rfl hu_ (freeB_to (show freeB (defScope s_either) (C8.fnScope n_either_follow) = true by decide +kernel)) rfl rfl rfl sc_either.nd rfl (by first | exact Or.inl rfl | exact Or.inr rfl) (by first | exact .inl rfl | exact .inr rfl))
      (scN (asg3 (ws := [2, 3, 4]) (ixK (v3 0) int3) (gtA (n := 3) rfl (gs1 (gn3 2 sc_either.nd) (gs1 (gn3 3 sc_either.nd) (gs1 (gn3 4 sc_either.nd) gs0)))))
      (s13 (ret3 (tup3 (ac3 (v3 2) (ac3 (v3 3) (ac3 (ixK (clXC CX_first_come tk (C8.fnScope n_either_follow) ["sayings"] [0] sc_either.nd (show freeB (defScope s_either) (C8.fnScope n_either_follow) = true by decide +kernel) (by decide +kernel) (by first | rfl | decide +kernel) hr (rd3 (v3 2) (rd3 (v3 3) (rd3 (mulT3 (tup3 (ac3 int3 an3)) (len3  (by rfl) T.b_len (v3 0))) (rcl3 1 rn3))))) int3) an3)))))))))), ?_⟩)
  intro ws Q Ex h0
  obtain ⟨x, ws0, rfl, h1⟩ := sD.inv h0
  obtain ⟨rfl, h⟩ := sEnd.inv h1
  have q := h
  clear h h0 h1
  obtain ⟨Ss, i, j, ⟨rfl, hA⟩, q1, q2⟩ := q
  obtain ⟨S, Sr, rfl⟩ : ∃ S Sr, Ss = S :: Sr := by
    cases Ss with
    | nil => have := hA.1.1; simp at this
    | cons S Sr => exact ⟨S, Sr, rfl⟩
  have l1 := hA.1.2
  rw [List.length_cons] at l1
  refine ⟨_, i, j, rfl, ⟨hA, by rw [List.length_cons]; omega⟩, ?_⟩
  refine ⟨_, i, j, rfl, hA, ?_⟩
  (conv => whnf)
  intro fo c1
  obtain ⟨hS, rfl, rfl⟩ := hA.2.2.2 S List.mem_cons_self
  walk_at "m3 wpb"
  have eb : PyData.tuple (List.replicate ((((S :: Sr).map Say.d).length : Nat) : Int).toNat [PyData.int 0]).flatten = rowD (begR (S :: Sr)) := by
    simp only [rowD, begR, List.map_replicate, cellD, List.length_map, Int.toNat_natCast]
    congr 1
    exact flat_rep _ _
  refine ⟨begR (S :: Sr), stepX true (S :: Sr), OkR (S :: Sr), _, ⟨eb, hA.2.1, hA.2.2.1, begR_ok hA, stepX_ok hA, ?_, nk_either_follow T C_behind S.signs S.deeds (S :: Sr) hA⟩, fun n hn => ?_, fun hw => ?_⟩
  · decide
  · have := q1 n hn
    walk_at "m3 wpb"
    exact this
  · exact q2 hw
theorem ok_law {f : Addr} {fd : FuncData} (F : Fun K "law" "law" s_law f fd) (T : Txt mg) (TX : TxE K mg cc) (TC : TxC K mg cc) (CX_either : CalX P w K mg base 15 "either" ["sayings"] (X_join true cc)) (C__law_pot : CalC P w K mg base 1 "_law_pot" ["script", "k"] S_pot) (C__law_wide : CalC P w K mg base 2 "_law_wide" ["pot"] S_lwide) (C__law_table : CalC P w K mg base 2 "_law_table" ["sayings", "some"] S_ltab) (C_either : CalC P w K mg base 15 "either" ["sayings"] (X_join true cc).quiet) (C__law_same : CalC P w K mg base 7 "_law_same" ["found", "due"] (S_same 6)) (C__law_take : CalC P w K mg base 1 "_law_take" ["pot", "many"] S_take) (C__law_ringed : CalC P w K mg base 2 "_law_ringed" ["script", "first", "pot", "signs", "deeds", "most"] S_lring) : FnG P w K mg base CX0 16 f fd ["script"] (liftF K S_lawC.p) := by
  refine fnG F sc_law (fun ws Q h => by obtain ⟨_, _, rfl, _⟩ := h; rfl) (fun cdv A outer s H E hgd_ hr => ⟨_, (scN (setO3 1 sc_law.nd (clOC C__law_pot hr (rr3 0 (rd3 int3 rn3))))
      (scN (asg3 (ws := [2, 3, 4]) (clC C__law_wide hr (ro3 1 rn3)) (gtA (n := 3) rfl (gs1 (gn3 2 sc_law.nd) (gs1 (gn3 3 sc_law.nd) (gs1 (gn3 4 sc_law.nd) gs0)))))
      (scN (setO3 5 sc_law.nd (olst3 an3))
      (scN (set3 6 sc_law.nd int3)
      (scN (forN [1, 5, 6, 7] (ws0 := [7]) PassesOwn.never rfl (range3 (by rfl) T.b_range (add3 int3 (clC C__law_take hr (ro3 1 (rd3 int3 rn3))))) (gn3 7 sc_law.nd)
      (scN (app3 5 (clC C__law_ringed hr (rr3 0 (rd3 (v3 6) (ro3 1 (rd3 (v3 2) (rd3 (v3 3) (rd3 (v3 4) rn3))))))))
      (s13 (set3 6 sc_law.nd (add3 (v3 6) (len3  (by rfl) T.b_len (ixK (ixOK 5 (neg3 int3)) int3)))))))
      (scN (set3 5 sc_law.nd (tupleO3 5 (by rfl) T.b_tuple))
      (scN (set3 8 sc_law.nd (reprR3 hgd_ hr (by rfl) T.b_repr (v3 5)))
      (scN (set3 9 sc_law.nd (clC C__law_table hr (rd3 (v3 5) (rd3 bl3 rn3))))
      (scN (set3 10 sc_law.nd non3)
      (scN (tryO3 (pbSet (n := 1) 10 CX_either hr sc_law.nd fun pn xe => (rd3 (v3 5) rn3)) (fun a oe pn => (s13 (set3 10 sc_law.nd non3))) TX.e_TooWide.g)
      (scN (if3 (isN3T (v3 9))
      (s13 (ret3 (isN3 (v3 10))))
      sn3)
      (scN (if3 (PW3.pt (or3 (not3 (pt3_val (clC C__law_same hr (rd3 (v3 10) (rd3 (v3 9) rn3))))) (or1_3 (ne3T hr.units (reprR3 hgd_ hr (by rfl) T.b_repr (v3 5)) (v3 8)))))
      (s13 (ret3 bl3))
      sn3)
      (s13 (ret3 (andV3 (clC C__law_same hr (rd3 (clC C_either hr (rd3 (tuple3  (by rfl) T.b_tuple (list3  (by rfl) T.b_list (v3 5))) rn3)) (rd3 (v3 9) rn3))) (one3 (clC C__law_same hr (rd3 (clC C_either hr (rd3 (tup3 (ac3 (v3 9) an3)) rn3)) (rd3 (clC C__law_table hr (rd3 (tup3 (ac3 (v3 9) an3)) (rd3 bl3 rn3))) rn3))))))))))))))))))), ?_⟩)
  rintro _ Q ⟨ns, pre, rfl, q⟩
  walk_at "m3 wpb"
  rintro ob hp
  walk_at "m3 wpb"
  rintro i j m ob ⟨hi, hj, hm, hp⟩
  walk_at "m3 wpb"
  rintro w0 ob ⟨h_w0, hp⟩
  walk_at "m3 wpb"
  refine ⟨⟨fun k vs => ∃ (ob : Ob) (Ss : List Say) (t : List D) (first : Int) (a1 : Option M3.W), vs = [some (.own 0 ob), some (.own 0 (.lst t)), some (.d (.int first)), a1] ∧ t = Ss.map Say.d ∧ IsPot (11 + 200 * k) ob ∧ Ss.length = k ∧ (0 ≤ first ∧ first ≤ 1 + 12 * k) ∧ ∀ S ∈ Ss, S.Ok ∧ S.signs = (i : Int) ∧ S.deeds = (j : Int), ⟨ob, [], _, 1, _, rfl, rfl, hp, rfl, by omega, by simp⟩, ?_, ?_⟩⟩
  · rintro k x vs hx ⟨ob, Ss, _, first, a1, rfl, rfl, hp, hl, hfs, hall⟩
    obtain ⟨rfl, hk⟩ := rng_at hx
    clear hx
    have lt : (Ss.map Say.d).length = k := by simp [hl]
    walk_at "m3 wpb"
    rintro rs ob ⟨hr, hwf, hp⟩
    have hS : (⟨(i : Int), (j : Int), rs⟩ : Say).Ok := ⟨hwf, by dsimp only; omega, by dsimp only; omega, by dsimp only; omega, by dsimp only; omega, by dsimp only; omega, by dsimp only; omega⟩
    have ei : atI (Ss.map Say.d ++ [Say.d ⟨(i : Int), (j : Int), rs⟩]) (-1) = some (Say.d ⟨(i : Int), (j : Int), rs⟩) := at_last
    walk_at "m3 wpb"
    (conv => whnf)
    refine atK_of (ei) ?_
    walk_at "m3 wpb"
    refine ⟨ob, Ss ++ [⟨(i : Int), (j : Int), rs⟩], _, _, _, rfl, by simp, hp.mono (by omega), by simp [hl], by rw [List.length_map]; dsimp only; omega, fun S hS' => ?_⟩
    rcases List.mem_append.mp hS' with z | z
    · exact hall S z
    · rw [List.mem_singleton.mp z]; exact ⟨hS, rfl, rfl⟩
  rintro vs ⟨ob, Ss, _, first, a1, rfl, rfl, hp, hl, hfs, hall⟩
  rw [rng_len] at hl hp
  have hA : AllS (i : Int) (j : Int) Ss := ⟨by omega, by omega, by omega, hall⟩
  have lt : (Ss.map Say.d).length = Ss.length := by simp
  have l4 := hA.1
  have hsh := says_sh hA
  walk_at "m3 wpb"
  refine ⟨⟨_, rfl⟩, ⟨⟨5, 109217, hsh, by decide, by decide⟩⟩, ?_⟩
  refine ⟨Ss, i, j, true, rfl, rfl, hA, fun due hdue => ?_⟩
  walk_at "m3 wpb"
  refine ⟨fun n hn => ?_, fun hw => ?_⟩
  · obtain ⟨n', hn', rfl⟩ := hdue.resolve_right fun z => fdone_wid hn z.1
    obtain rfl := fdone_one hn hn'
    have hD : (⟨(i : Int), (j : Int), fcT (i : Int).toNat (j : Int).toNat (stepX true Ss) (begR Ss) n⟩ : Say).Ok := fc_say rfl rfl (by omega) (by omega) hn
    generalize eD : (⟨(i : Int), (j : Int), fcT (i : Int).toNat (j : Int).toNat (stepX true Ss) (begR Ss) n⟩ : Say) = D at *
    have h6 := nest_say hD
    have hN : isNone D.d = false := rfl
    walk_at "m3 wpb"
    refine ⟨⟨_, rfl⟩, ⟨⟨5, 109217, hsh, by decide, by decide⟩⟩, ?_⟩
    have hA1 : AllS D.signs D.deeds [D] := ⟨by simp, ⟨hD.s1, hD.s9⟩, ⟨hD.d1, hD.d9⟩, fun S hS => by rw [List.mem_singleton.mp hS]; exact ⟨hD, rfl, rfl⟩⟩
    walk_at "m3 wpb"
    refine ⟨Ss, i, j, ⟨rfl, hA⟩, fun n2 hn2 => ?_, fun hw => fdone_wid hn hw⟩
    obtain rfl := fdone_one hn hn2
    rw [eD]
    walk_at "m3 wpb"
    refine ⟨fun n3 hn3 => ?_, fun hw => one_narrow hD hw⟩
    have h7 := nest_say (fc_say rfl rfl ⟨hD.s1, hD.s9⟩ ⟨hD.d1, hD.d9⟩ hn3)
    walk_at "m3 wpb"
    refine ⟨[D], D.signs, D.deeds, true, rfl, rfl, hA1, fun x hx => ?_⟩
    obtain ⟨n4, hn4, rfl⟩ := hx.resolve_right fun z => one_narrow hD z.1
    obtain rfl := fdone_one hn3 hn4
    walk_at "m3 wpb"
    exact q
  · rcases hdue with ⟨n', hn', _⟩ | ⟨_, rfl⟩
    · exact (fdone_wid hn' hw).elim
    refine ⟨TC.x_TooWide, ?_⟩
    walk_at "m3 wpb"
    exact q
end
theorem all_mk {l : PySem.W.OpenLaw} {w : World} {K : PySem.W.Frag} {h : Heap} {mg : Str → Option Value} {fa : Addr} (X : K.In h) (G : h.Ns mainGlobals mg) (hfa : mg "law" = some (.ref fa))
    {f0 : Addr} {od0 an0 : Option Addr} {sl0 : Array (Option Value)} {oc0 dc0 pm0 cd0 ct0 : Value} {kV0 : Value}
    {f1 : Addr} {od1 an1 : Option Addr} {sl1 : Array (Option Value)} {oc1 dc1 pm1 cd1 ct1 : Value} {kV1 : Value}
    {f2 : Addr} {od2 an2 : Option Addr} {sl2 : Array (Option Value)} {oc2 dc2 pm2 cd2 ct2 : Value} {kV2 : Value}
    {f3 : Addr} {od3 an3 : Option Addr} {sl3 : Array (Option Value)} {oc3 dc3 pm3 cd3 ct3 : Value} {kV3 : Value}
    {f4 : Addr} {od4 an4 : Option Addr} {sl4 : Array (Option Value)} {oc4 dc4 pm4 cd4 ct4 : Value} {kV4 : Value}
    {f5 : Addr} {od5 an5 : Option Addr} {sl5 : Array (Option Value)} {oc5 dc5 pm5 cd5 ct5 : Value} {kV5 : Value}
    {f6 : Addr} {od6 an6 : Option Addr} {sl6 : Array (Option Value)} {oc6 dc6 pm6 cd6 ct6 : Value} {kV6 : Value}
    {f7 : Addr} {od7 an7 : Option Addr} {sl7 : Array (Option Value)} {oc7 dc7 pm7 cd7 ct7 : Value} {kV7 : Value}
    {f8 : Addr} {od8 an8 : Option Addr} {sl8 : Array (Option Value)} {oc8 dc8 pm8 cd8 ct8 : Value} {kV8 : Value}
    {f9 : Addr} {od9 an9 : Option Addr} {sl9 : Array (Option Value)} {oc9 dc9 pm9 cd9 ct9 : Value} {kV9 : Value}
    {f10 : Addr} {od10 an10 : Option Addr} {sl10 : Array (Option Value)} {oc10 dc10 pm10 cd10 ct10 : Value} {kV10 : Value}
    {f11 : Addr} {od11 an11 : Option Addr} {sl11 : Array (Option Value)} {oc11 dc11 pm11 cd11 ct11 : Value} {kV11 : Value}
    {f12 : Addr} {od12 an12 : Option Addr} {sl12 : Array (Option Value)} {oc12 dc12 pm12 cd12 ct12 : Value} {kV12 : Value}
    {f13 : Addr} {od13 an13 : Option Addr} {sl13 : Array (Option Value)} {oc13 dc13 pm13 cd13 ct13 : Value} {kV13 : Value}
    {f14 : Addr} {od14 an14 : Option Addr} {sl14 : Array (Option Value)} {oc14 dc14 pm14 cd14 ct14 : Value} {kV14 : Value}
    {f15 : Addr} {od15 an15 : Option Addr} {sl15 : Array (Option Value)} {oc15 dc15 pm15 cd15 ct15 : Value} {kV15 : Value}
    {f16 : Addr} {od16 an16 : Option Addr} {sl16 : Array (Option Value)} {oc16 dc16 pm16 ct16 : Value} {kV16 : Value} {e16 : Addr}
    {q16 : Addr}
    {f17 : Addr} {od17 an17 : Option Addr} {sl17 : Array (Option Value)} {oc17 dc17 pm17 cd17 ct17 : Value} {kV17 : Value}
    {f18 : Addr} {od18 an18 : Option Addr} {sl18 : Array (Option Value)} {oc18 dc18 pm18 cd18 ct18 : Value} {kV18 : Value}
    {f19 : Addr} {od19 an19 : Option Addr} {sl19 : Array (Option Value)} {oc19 dc19 pm19 cd19 ct19 : Value} {kV19 : Value}
    {t_MOST : Tok}
    {t_WIDE : Tok}
    {A_TooWide : Addr}
    (a0 : PySem.W.nsIn K mainGlobals "_law_pot" = some (some (.ref f0))) (l0 : K.lookup f0 = some ⟨oc0, od0, .func (PySem.W.fnOf "_law_pot" "_law_pot" (defArgs s__law_pot) (defBody s__law_pot) (defScope s__law_pot) .none kV0 dc0 pm0 an0 cd0 ct0), sl0⟩) (c0 : PySem.W.codeIn K cd0 "_law_pot" = true) (k0 : PySem.W.keepIn K (.ref f0) = true)
    (a1 : PySem.W.nsIn K mainGlobals "_law_take" = some (some (.ref f1))) (l1 : K.lookup f1 = some ⟨oc1, od1, .func (PySem.W.fnOf "_law_take" "_law_take" (defArgs s__law_take) (defBody s__law_take) (defScope s__law_take) .none kV1 dc1 pm1 an1 cd1 ct1), sl1⟩) (c1 : PySem.W.codeIn K cd1 "_law_take" = true) (k1 : PySem.W.keepIn K (.ref f1) = true)
    (a2 : PySem.W.nsIn K mainGlobals "_law_wide" = some (some (.ref f2))) (l2 : K.lookup f2 = some ⟨oc2, od2, .func (PySem.W.fnOf "_law_wide" "_law_wide" (defArgs s__law_wide) (defBody s__law_wide) (defScope s__law_wide) .none kV2 dc2 pm2 an2 cd2 ct2), sl2⟩) (c2 : PySem.W.codeIn K cd2 "_law_wide" = true) (k2 : PySem.W.keepIn K (.ref f2) = true)
    (a3 : PySem.W.nsIn K mainGlobals "_law_behind" = some (some (.ref f3))) (l3 : K.lookup f3 = some ⟨oc3, od3, .func (PySem.W.fnOf "_law_behind" "_law_behind" (defArgs s__law_behind) (defBody s__law_behind) (defScope s__law_behind) .none kV3 dc3 pm3 an3 cd3 ct3), sl3⟩) (c3 : PySem.W.codeIn K cd3 "_law_behind" = true) (k3 : PySem.W.keepIn K (.ref f3) = true)
    (a4 : PySem.W.nsIn K mainGlobals "_law_table" = some (some (.ref f4))) (l4 : K.lookup f4 = some ⟨oc4, od4, .func (PySem.W.fnOf "_law_table" "_law_table" (defArgs s__law_table) (defBody s__law_table) (defScope s__law_table) .none kV4 dc4 pm4 an4 cd4 ct4), sl4⟩) (c4 : PySem.W.codeIn K cd4 "_law_table" = true) (k4 : PySem.W.keepIn K (.ref f4) = true)
    (a5 : PySem.W.nsIn K mainGlobals "is_row" = some (some (.ref f5))) (l5 : K.lookup f5 = some ⟨oc5, od5, .func (PySem.W.fnOf "is_row" "is_row" (defArgs s_is_row) (defBody s_is_row) (defScope s_is_row) .none kV5 dc5 pm5 an5 cd5 ct5), sl5⟩) (c5 : PySem.W.codeIn K cd5 "is_row" = true) (k5 : PySem.W.keepIn K (.ref f5) = true)
    (a6 : PySem.W.nsIn K mainGlobals "is_whole" = some (some (.ref f6))) (l6 : K.lookup f6 = some ⟨oc6, od6, .func (PySem.W.fnOf "is_whole" "is_whole" (defArgs s_is_whole) (defBody s_is_whole) (defScope s_is_whole) .none kV6 dc6 pm6 an6 cd6 ct6), sl6⟩) (c6 : PySem.W.codeIn K cd6 "is_whole" = true) (k6 : PySem.W.keepIn K (.ref f6) = true)
    (a7 : PySem.W.nsIn K mainGlobals "is_count" = some (some (.ref f7))) (l7 : K.lookup f7 = some ⟨oc7, od7, .func (PySem.W.fnOf "is_count" "is_count" (defArgs s_is_count) (defBody s_is_count) (defScope s_is_count) .none kV7 dc7 pm7 an7 cd7 ct7), sl7⟩) (c7 : PySem.W.codeIn K cd7 "is_count" = true) (k7 : PySem.W.keepIn K (.ref f7) = true)
    (a8 : PySem.W.nsIn K mainGlobals "is_below" = some (some (.ref f8))) (l8 : K.lookup f8 = some ⟨oc8, od8, .func (PySem.W.fnOf "is_below" "is_below" (defArgs s_is_below) (defBody s_is_below) (defScope s_is_below) .none kV8 dc8 pm8 an8 cd8 ct8), sl8⟩) (c8 : PySem.W.codeIn K cd8 "is_below" = true) (k8 : PySem.W.keepIn K (.ref f8) = true)
    (a9 : PySem.W.nsIn K mainGlobals "is_room" = some (some (.ref f9))) (l9 : K.lookup f9 = some ⟨oc9, od9, .func (PySem.W.fnOf "is_room" "is_room" (defArgs s_is_room) (defBody s_is_room) (defScope s_is_room) .none kV9 dc9 pm9 an9 cd9 ct9), sl9⟩) (c9 : PySem.W.codeIn K cd9 "is_room" = true) (k9 : PySem.W.keepIn K (.ref f9) = true)
    (a10 : PySem.W.nsIn K mainGlobals "is_saying" = some (some (.ref f10))) (l10 : K.lookup f10 = some ⟨oc10, od10, .func (PySem.W.fnOf "is_saying" "is_saying" (defArgs s_is_saying) (defBody s_is_saying) (defScope s_is_saying) .none kV10 dc10 pm10 an10 cd10 ct10), sl10⟩) (c10 : PySem.W.codeIn K cd10 "is_saying" = true) (k10 : PySem.W.keepIn K (.ref f10) = true)
    (a11 : PySem.W.nsIn K mainGlobals "need_sayings" = some (some (.ref f11))) (l11 : K.lookup f11 = some ⟨oc11, od11, .func (PySem.W.fnOf "need_sayings" "need_sayings" (defArgs s_need_sayings) (defBody s_need_sayings) (defScope s_need_sayings) .none kV11 dc11 pm11 an11 cd11 ct11), sl11⟩) (c11 : PySem.W.codeIn K cd11 "need_sayings" = true) (k11 : PySem.W.keepIn K (.ref f11) = true)
    (a12 : PySem.W.nsIn K mainGlobals "need_alike" = some (some (.ref f12))) (l12 : K.lookup f12 = some ⟨oc12, od12, .func (PySem.W.fnOf "need_alike" "need_alike" (defArgs s_need_alike) (defBody s_need_alike) (defScope s_need_alike) .none kV12 dc12 pm12 an12 cd12 ct12), sl12⟩) (c12 : PySem.W.codeIn K cd12 "need_alike" = true) (k12 : PySem.W.keepIn K (.ref f12) = true)
    (a13 : PySem.W.nsIn K mainGlobals "need_row_alike" = some (some (.ref f13))) (l13 : K.lookup f13 = some ⟨oc13, od13, .func (PySem.W.fnOf "need_row_alike" "need_row_alike" (defArgs s_need_row_alike) (defBody s_need_row_alike) (defScope s_need_row_alike) .none kV13 dc13 pm13 an13 cd13 ct13), sl13⟩) (c13 : PySem.W.codeIn K cd13 "need_row_alike" = true) (k13 : PySem.W.keepIn K (.ref f13) = true)
    (a14 : PySem.W.nsIn K mainGlobals "behind" = some (some (.ref f14))) (l14 : K.lookup f14 = some ⟨oc14, od14, .func (PySem.W.fnOf "behind" "behind" (defArgs s_behind) (defBody s_behind) (defScope s_behind) .none kV14 dc14 pm14 an14 cd14 ct14), sl14⟩) (c14 : PySem.W.codeIn K cd14 "behind" = true) (k14 : PySem.W.keepIn K (.ref f14) = true)
    (a15 : PySem.W.nsIn K mainGlobals "first_come" = some (some (.ref f15))) (l15 : K.lookup f15 = some ⟨oc15, od15, .func (PySem.W.fnOf "first_come" "first_come" (defArgs s_first_come) (defBody s_first_come) (defScope s_first_come) .none kV15 dc15 pm15 an15 cd15 ct15), sl15⟩) (c15 : PySem.W.codeIn K cd15 "first_come" = true) (k15 : PySem.W.keepIn K (.ref f15) = true)
    (a16 : PySem.W.nsIn K mainGlobals "either" = some (some (.ref f16))) (l16 : K.lookup f16 = some ⟨oc16, od16, .func (PySem.W.fnOf "either" "either" (defArgs s_either) (defBody s_either) (defScope s_either) .none kV16 dc16 pm16 an16 (.ref e16) ct16), sl16⟩) (c16 : PySem.W.codeIn K (.ref e16) "either" = true) (k16 : PySem.W.keepIn K (.ref f16) = true)
    (a17 : PySem.W.nsIn K mainGlobals "_law_same" = some (some (.ref f17))) (l17 : K.lookup f17 = some ⟨oc17, od17, .func (PySem.W.fnOf "_law_same" "_law_same" (defArgs s__law_same) (defBody s__law_same) (defScope s__law_same) .none kV17 dc17 pm17 an17 cd17 ct17), sl17⟩) (c17 : PySem.W.codeIn K cd17 "_law_same" = true) (k17 : PySem.W.keepIn K (.ref f17) = true)
    (a18 : PySem.W.nsIn K mainGlobals "_law_ringed" = some (some (.ref f18))) (l18 : K.lookup f18 = some ⟨oc18, od18, .func (PySem.W.fnOf "_law_ringed" "_law_ringed" (defArgs s__law_ringed) (defBody s__law_ringed) (defScope s__law_ringed) .none kV18 dc18 pm18 an18 cd18 ct18), sl18⟩) (c18 : PySem.W.codeIn K cd18 "_law_ringed" = true) (k18 : PySem.W.keepIn K (.ref f18) = true)
    (a19 : PySem.W.nsIn K mainGlobals "law" = some (some (.ref f19))) (l19 : K.lookup f19 = some ⟨oc19, od19, .func (PySem.W.fnOf "law" "law" (defArgs s_law) (defBody s_law) (defScope s_law) .none kV19 dc19 pm19 an19 cd19 ct19), sl19⟩) (c19 : PySem.W.codeIn K cd19 "law" = true) (k19 : PySem.W.keepIn K (.ref f19) = true)
    (b_abs : PySem.W.nsIn K mainGlobals "abs" = some none)
    (b_after : PySem.W.nsIn K mainGlobals "after" = some none)
    (b_all : PySem.W.nsIn K mainGlobals "all" = some none)
    (b_any : PySem.W.nsIn K mainGlobals "any" = some none)
    (b_bool : PySem.W.nsIn K mainGlobals "bool" = some none)
    (b_deed : PySem.W.nsIn K mainGlobals "deed" = some none)
    (b_int : PySem.W.nsIn K mainGlobals "int" = some none)
    (b_isinstance : PySem.W.nsIn K mainGlobals "isinstance" = some none)
    (b_len : PySem.W.nsIn K mainGlobals "len" = some none)
    (b_list : PySem.W.nsIn K mainGlobals "list" = some none)
    (b_range : PySem.W.nsIn K mainGlobals "range" = some none)
    (b_repr : PySem.W.nsIn K mainGlobals "repr" = some none)
    (b_room : PySem.W.nsIn K mainGlobals "room" = some none)
    (b_sign : PySem.W.nsIn K mainGlobals "sign" = some none)
    (b_str : PySem.W.nsIn K mainGlobals "str" = some none)
    (b_tuple : PySem.W.nsIn K mainGlobals "tuple" = some none)
    (b_zip : PySem.W.nsIn K mainGlobals "zip" = some none)
    (c_MOST : PySem.W.nsIn K mainGlobals "MOST" = some (some (.int 100 t_MOST)))
    (c_WIDE : PySem.W.nsIn K mainGlobals "WIDE" = some (some (.int 9 t_WIDE)))
    (g_TooWide : PySem.W.nsIn K mainGlobals "TooWide" = some (some (.ref A_TooWide)))
    (x_TooWide : PySem.W.excIn K A_TooWide veB "ValueError.__new__" = true)
    (kp_TooWide : PySem.W.keepIn K (.ref A_TooWide) = true)
    (bs_TooWide : PySem.W.subIn K (.ref A_TooWide) (.type "BaseException") = some true)
    (ty_TooWide : PySem.W.typeIn K (.ref A_TooWide) = some (.type "type"))
    (wb : PySem.W.subIn K (.ref A_TooWide) (.type "BaseException") = some true)
    (wd : PySem.W.hasDictIn K A_TooWide = true)
    (wt : PySem.W.typeIn K (.ref A_TooWide) = some (.type "type"))
    (xhn : PySem.W.specialIn K (.builtin "object.__class__") "__get__" = some (some (.builtin "getset_descriptor.__get__")))
    (xht : PySem.W.takesIn K (.builtin "object.__class__") = some true)
    (sb_TooWide : PySem.W.subIn K (.ref A_TooWide) (.ref A_TooWide) = some true)
    (hg_TooWide : PySem.W.findIn K (.ref A_TooWide) "__getattribute__" = some (some (.builtin "BaseException.__getattribute__")))
    (hk_TooWide : PySem.W.findIn K (.ref A_TooWide) "__getattr__" = some none)
    (hs_TooWide : PySem.W.subIn K (.ref A_TooWide) (.type "BaseException") = some true)
    (hd_TooWide : PySem.W.hasDictIn K A_TooWide = true)
    (ha_TooWide : PySem.W.findIn K (.ref A_TooWide) "__class__" = some (some (.builtin "object.__class__")))
    (hm_TooWide : PySem.W.mroIn K A_TooWide (.type "object") = some true)
    (sf_TooWide : PySem.W.subIn K (.ref A_TooWide) (.ref A_TooWide) = some true)
    (yt_TooWide : PySem.W.typeIn K (.ref A_TooWide) = some (.type "type"))
    (hm16 : (q16, nm_either) ∈ TabsC.T) (hu16 : ∀ p ∈ TabsC.T, p.1 = q16 → p.2 = nm_either) :
    ∃ fd : FuncData, (∀ (s : Shared) (v : Value), BindsTo s fd ⟨[v], []⟩ [("script", v)]) ∧ ∀ base : Heap, K.In base → base.Ns mainGlobals mg → (∀ p ∈ ([(e16, q16)] : List (Addr × Addr)), TabB base mg p.1 p.2) → FnG l.prog w K mg base CX0 16 fa fd ["script"] (liftF K S_lawC.p) := by
  have e := hfa.symm.trans (PySem.W.mg_of X G a19)
  cases e
  have T : Txt mg := ⟨PySem.W.mg_none_of X G b_abs, PySem.W.mg_none_of X G b_after, PySem.W.mg_none_of X G b_all, PySem.W.mg_none_of X G b_any, PySem.W.mg_none_of X G b_bool, PySem.W.mg_none_of X G b_deed, PySem.W.mg_none_of X G b_int, PySem.W.mg_none_of X G b_isinstance, PySem.W.mg_none_of X G b_len, PySem.W.mg_none_of X G b_list, PySem.W.mg_none_of X G b_range, PySem.W.mg_none_of X G b_repr, PySem.W.mg_none_of X G b_room, PySem.W.mg_none_of X G b_sign, PySem.W.mg_none_of X G b_str, PySem.W.mg_none_of X G b_tuple, PySem.W.mg_none_of X G b_zip, ⟨_, PySem.W.mg_of X G c_MOST⟩, ⟨_, PySem.W.mg_of X G c_WIDE⟩⟩
  have ec_TooWide : ccOf mg "TooWide" = A_TooWide := ccOf_of (PySem.W.mg_of X G g_TooWide)
  have TX : TxE K mg (ccOf mg) := ⟨by rw [ec_TooWide]; exact ⟨PySem.W.mg_of X G g_TooWide, x_TooWide, kp_TooWide, bs_TooWide, ty_TooWide⟩⟩
  have TC : TxC K mg (ccOf mg) := ⟨by rw [ec_TooWide]; exact PySem.W.mg_of X G g_TooWide, by rw [ec_TooWide]; exact PySem.W.exm_ref wb wd wt sb_TooWide, by rw [ec_TooWide]; exact ⟨hg_TooWide, hk_TooWide, hs_TooWide, hd_TooWide, ha_TooWide, xhn, xht, hm_TooWide⟩, by rw [ec_TooWide]; exact kit_self⟩
  have F0 := fun_mk (st := s__law_pot) l0 c0 k0
  have B0 := F0.binds (ps := ["script", "k"]) fun _ _ _ _ _ _ us hl => match us, hl with | [_, _], _ => rfl
  have F1 := fun_mk (st := s__law_take) l1 c1 k1
  have B1 := F1.binds (ps := ["pot", "many"]) fun _ _ _ _ _ _ us hl => match us, hl with | [_, _], _ => rfl
  have F2 := fun_mk (st := s__law_wide) l2 c2 k2
  have B2 := F2.binds (ps := ["pot"]) fun _ _ _ _ _ _ us hl => match us, hl with | [_], _ => rfl
  have F3 := fun_mk (st := s__law_behind) l3 c3 k3
  have B3 := F3.binds (ps := ["sayings", "rooms", "sign", "deed"]) fun _ _ _ _ _ _ us hl => match us, hl with | [_, _, _, _], _ => rfl
  have F4 := fun_mk (st := s__law_table) l4 c4 k4
  have B4 := F4.binds (ps := ["sayings", "some"]) fun _ _ _ _ _ _ us hl => match us, hl with | [_, _], _ => rfl
  have F5 := fun_mk (st := s_is_row) l5 c5 k5
  have B5 := F5.binds (ps := ["thing", "many"]) fun _ _ _ _ _ _ us hl => match us, hl with | [_, _], _ => rfl
  have F6 := fun_mk (st := s_is_whole) l6 c6 k6
  have B6 := F6.binds (ps := ["thing"]) fun _ _ _ _ _ _ us hl => match us, hl with | [_], _ => rfl
  have F7 := fun_mk (st := s_is_count) l7 c7 k7
  have B7 := F7.binds (ps := ["thing"]) fun _ _ _ _ _ _ us hl => match us, hl with | [_], _ => rfl
  have F8 := fun_mk (st := s_is_below) l8 c8 k8
  have B8 := F8.binds (ps := ["thing", "most"]) fun _ _ _ _ _ _ us hl => match us, hl with | [_, _], _ => rfl
  have F9 := fun_mk (st := s_is_room) l9 c9 k9
  have B9 := F9.binds (ps := ["thing", "signs", "deeds", "many"]) fun _ _ _ _ _ _ us hl => match us, hl with | [_, _, _, _], _ => rfl
  have F10 := fun_mk (st := s_is_saying) l10 c10 k10
  have B10 := F10.binds (ps := ["thing"]) fun _ _ _ _ _ _ us hl => match us, hl with | [_], _ => rfl
  have F11 := fun_mk (st := s_need_sayings) l11 c11 k11
  have B11 := F11.binds (ps := ["sayings", "most"]) fun _ _ _ _ _ _ us hl => match us, hl with | [_, _], _ => rfl
  have F12 := fun_mk (st := s_need_alike) l12 c12 k12
  have B12 := F12.binds (ps := ["one", "other"]) fun _ _ _ _ _ _ us hl => match us, hl with | [_, _], _ => rfl
  have F13 := fun_mk (st := s_need_row_alike) l13 c13 k13
  have B13 := F13.binds (ps := ["things"]) fun _ _ _ _ _ _ us hl => match us, hl with | [_], _ => rfl
  have F14 := fun_mk (st := s_behind) l14 c14 k14
  have B14 := F14.binds (ps := ["sayings", "rooms", "sign", "deed"]) fun _ _ _ _ _ _ us hl => match us, hl with | [_, _, _, _], _ => rfl
  have F15 := fun_mk (st := s_first_come) l15 c15 k15
  have B15 := F15.binds (ps := ["signs", "deeds", "begin", "follow"]) fun _ _ _ _ _ _ us hl => match us, hl with | [_, _, _, _], _ => rfl
  have F16 := fun_mk (st := s_either) l16 c16 k16
  have B16 := F16.binds (ps := ["sayings"]) fun _ _ _ _ _ _ us hl => match us, hl with | [_], _ => rfl
  have F17 := fun_mk (st := s__law_same) l17 c17 k17
  have B17 := F17.binds (ps := ["found", "due"]) fun _ _ _ _ _ _ us hl => match us, hl with | [_, _], _ => rfl
  have F18 := fun_mk (st := s__law_ringed) l18 c18 k18
  have B18 := F18.binds (ps := ["script", "first", "pot", "signs", "deeds", "most"]) fun _ _ _ _ _ _ us hl => match us, hl with | [_, _, _, _, _, _], _ => rfl
  have F19 := fun_mk (st := s_law) l19 c19 k19
  have B19 := F19.binds (ps := ["script"]) fun _ _ _ _ _ _ us hl => match us, hl with | [_], _ => rfl
  refine ⟨PySem.W.fnOf "law" "law" (defArgs s_law) (defBody s_law) (defScope s_law) .none kV19 dc19 pm19 an19 cd19 ct19, fun s v => .of_eq rfl, fun base _ _ TBs => ?_⟩
  have tb16 : TabB base mg e16 q16 := TBs (e16, q16) (by simp)
  have C__law_pot : CalC l.prog w K mg base 1 "_law_pot" ["script", "k"] S_pot := ⟨f0, _, ok__law_pot F0 T , PySem.W.mg_of X G a0, k0, B0⟩
  have C__law_take : CalC l.prog w K mg base 1 "_law_take" ["pot", "many"] S_take := ⟨f1, _, ok__law_take F1 T , PySem.W.mg_of X G a1, k1, B1⟩
  have C__law_wide : CalC l.prog w K mg base 2 "_law_wide" ["pot"] S_lwide := ⟨f2, _, ok__law_wide F2 T C__law_take, PySem.W.mg_of X G a2, k2, B2⟩
  have C__law_behind : CalC l.prog w K mg base 1 "_law_behind" ["sayings", "rooms", "sign", "deed"] S_behind := ⟨f3, _, ok__law_behind F3 T , PySem.W.mg_of X G a3, k3, B3⟩
  have C__law_table : CalC l.prog w K mg base 2 "_law_table" ["sayings", "some"] S_ltab := ⟨f4, _, ok__law_table F4 T C__law_behind, PySem.W.mg_of X G a4, k4, B4⟩
  have C_is_row : CalC l.prog w K mg base 1 "is_row" ["thing", "many"] S_is_row := ⟨f5, _, ok_is_row F5 T , PySem.W.mg_of X G a5, k5, B5⟩
  have C_is_whole : CalC l.prog w K mg base 1 "is_whole" ["thing"] S_is_whole := ⟨f6, _, ok_is_whole F6 T , PySem.W.mg_of X G a6, k6, B6⟩
  have C_is_count : CalC l.prog w K mg base 2 "is_count" ["thing"] S_is_count := ⟨f7, _, ok_is_count F7 T C_is_whole, PySem.W.mg_of X G a7, k7, B7⟩
  have C_is_below : CalC l.prog w K mg base 2 "is_below" ["thing", "most"] S_is_below := ⟨f8, _, ok_is_below F8 T C_is_whole, PySem.W.mg_of X G a8, k8, B8⟩
  have C_is_room : CalC l.prog w K mg base 3 "is_room" ["thing", "signs", "deeds", "many"] S_is_room := ⟨f9, _, ok_is_room F9 T C_is_row C_is_below, PySem.W.mg_of X G a9, k9, B9⟩
  have C_is_saying : CalC l.prog w K mg base 4 "is_saying" ["thing"] S_is_saying := ⟨f10, _, ok_is_saying F10 T C_is_row C_is_count C_is_room, PySem.W.mg_of X G a10, k10, B10⟩
  have C_need_sayings : CalC l.prog w K mg base 5 "need_sayings" ["sayings", "most"] S_need_says := ⟨f11, _, ok_need_sayings F11 T C_is_saying, PySem.W.mg_of X G a11, k11, B11⟩
  have C_need_alike : CalC l.prog w K mg base 1 "need_alike" ["one", "other"] S_need_alike := ⟨f12, _, ok_need_alike F12 T , PySem.W.mg_of X G a12, k12, B12⟩
  have C_need_row_alike : CalC l.prog w K mg base 2 "need_row_alike" ["things"] S_need_ra := ⟨f13, _, ok_need_row_alike F13 T C_need_alike, PySem.W.mg_of X G a13, k13, B13⟩
  have C_behind : CalC l.prog w K mg base 1 "behind" ["sayings", "rooms", "sign", "deed"] S_behind := ⟨f14, _, ok_behind F14 T , PySem.W.mg_of X G a14, k14, B14⟩
  have CX_first_come : CalX l.prog w K mg base 14 "first_come" ["signs", "deeds", "begin", "follow"] (X_first l.prog w K mg base (ccOf mg)) := ⟨f15, _, okx_first_come F15 T TX , PySem.W.mg_of X G a15, k15, B15⟩
  have C_first_come := CX_first_come.quiet
  have V_first_come := CX_first_come.val
  have CX_either : CalX l.prog w K mg base 15 "either" ["sayings"] (X_join true (ccOf mg)) := ⟨f16, _, okx_either (c_ := e16) (P_ := q16) F16 T TX rfl tb16 hm16 hu16 C_need_sayings C_need_row_alike C_behind CX_first_come, PySem.W.mg_of X G a16, k16, B16⟩
  have C_either := CX_either.quiet
  have V_either := CX_either.val
  have C__law_same : CalC l.prog w K mg base 7 "_law_same" ["found", "due"] (S_same 6) := ⟨f17, _, ok__law_same F17 T  (PySem.W.mg_of X G a17) k17 B17, PySem.W.mg_of X G a17, k17, B17⟩
  have C__law_ringed : CalC l.prog w K mg base 2 "_law_ringed" ["script", "first", "pot", "signs", "deeds", "most"] S_lring := ⟨f18, _, ok__law_ringed F18 T C__law_take C__law_pot, PySem.W.mg_of X G a18, k18, B18⟩
  exact ok_law F19 T TX TC CX_either  C__law_pot C__law_wide C__law_table C_either C__law_same C__law_take C__law_ringed
omit [TabsC] in
theorem all_mkT {l : PySem.W.OpenLaw} {w : World} {K : PySem.W.Frag} {h : Heap} {mg : Str → Option Value} {fa : Addr} (X : K.In h) (G : h.Ns mainGlobals mg) (hfa : mg "law" = some (.ref fa))
    {f0 : Addr} {od0 an0 : Option Addr} {sl0 : Array (Option Value)} {oc0 dc0 pm0 cd0 ct0 : Value} {kV0 : Value}
    {f1 : Addr} {od1 an1 : Option Addr} {sl1 : Array (Option Value)} {oc1 dc1 pm1 cd1 ct1 : Value} {kV1 : Value}
    {f2 : Addr} {od2 an2 : Option Addr} {sl2 : Array (Option Value)} {oc2 dc2 pm2 cd2 ct2 : Value} {kV2 : Value}
    {f3 : Addr} {od3 an3 : Option Addr} {sl3 : Array (Option Value)} {oc3 dc3 pm3 cd3 ct3 : Value} {kV3 : Value}
    {f4 : Addr} {od4 an4 : Option Addr} {sl4 : Array (Option Value)} {oc4 dc4 pm4 cd4 ct4 : Value} {kV4 : Value}
    {f5 : Addr} {od5 an5 : Option Addr} {sl5 : Array (Option Value)} {oc5 dc5 pm5 cd5 ct5 : Value} {kV5 : Value}
    {f6 : Addr} {od6 an6 : Option Addr} {sl6 : Array (Option Value)} {oc6 dc6 pm6 cd6 ct6 : Value} {kV6 : Value}
    {f7 : Addr} {od7 an7 : Option Addr} {sl7 : Array (Option Value)} {oc7 dc7 pm7 cd7 ct7 : Value} {kV7 : Value}
    {f8 : Addr} {od8 an8 : Option Addr} {sl8 : Array (Option Value)} {oc8 dc8 pm8 cd8 ct8 : Value} {kV8 : Value}
    {f9 : Addr} {od9 an9 : Option Addr} {sl9 : Array (Option Value)} {oc9 dc9 pm9 cd9 ct9 : Value} {kV9 : Value}
    {f10 : Addr} {od10 an10 : Option Addr} {sl10 : Array (Option Value)} {oc10 dc10 pm10 cd10 ct10 : Value} {kV10 : Value}
    {f11 : Addr} {od11 an11 : Option Addr} {sl11 : Array (Option Value)} {oc11 dc11 pm11 cd11 ct11 : Value} {kV11 : Value}
    {f12 : Addr} {od12 an12 : Option Addr} {sl12 : Array (Option Value)} {oc12 dc12 pm12 cd12 ct12 : Value} {kV12 : Value}
    {f13 : Addr} {od13 an13 : Option Addr} {sl13 : Array (Option Value)} {oc13 dc13 pm13 cd13 ct13 : Value} {kV13 : Value}
    {f14 : Addr} {od14 an14 : Option Addr} {sl14 : Array (Option Value)} {oc14 dc14 pm14 cd14 ct14 : Value} {kV14 : Value}
    {f15 : Addr} {od15 an15 : Option Addr} {sl15 : Array (Option Value)} {oc15 dc15 pm15 cd15 ct15 : Value} {kV15 : Value}
    {f16 : Addr} {od16 an16 : Option Addr} {sl16 : Array (Option Value)} {oc16 dc16 pm16 ct16 : Value} {kV16 : Value} {e16 : Addr}
    {q16 : Addr}
    {f17 : Addr} {od17 an17 : Option Addr} {sl17 : Array (Option Value)} {oc17 dc17 pm17 cd17 ct17 : Value} {kV17 : Value}
    {f18 : Addr} {od18 an18 : Option Addr} {sl18 : Array (Option Value)} {oc18 dc18 pm18 cd18 ct18 : Value} {kV18 : Value}
    {f19 : Addr} {od19 an19 : Option Addr} {sl19 : Array (Option Value)} {oc19 dc19 pm19 cd19 ct19 : Value} {kV19 : Value}
    {t_MOST : Tok}
    {t_WIDE : Tok}
    {A_TooWide : Addr}
    {ox16 : Value} {dx16 : Option Addr} {vx16 : Array Value} {sx16 : Array (Option Value)}
    (a0 : PySem.W.nsIn K mainGlobals "_law_pot" = some (some (.ref f0))) (l0 : K.lookup f0 = some ⟨oc0, od0, .func (PySem.W.fnOf "_law_pot" "_law_pot" (defArgs s__law_pot) (defBody s__law_pot) (defScope s__law_pot) .none kV0 dc0 pm0 an0 cd0 ct0), sl0⟩) (c0 : PySem.W.codeIn K cd0 "_law_pot" = true) (k0 : PySem.W.keepIn K (.ref f0) = true)
    (a1 : PySem.W.nsIn K mainGlobals "_law_take" = some (some (.ref f1))) (l1 : K.lookup f1 = some ⟨oc1, od1, .func (PySem.W.fnOf "_law_take" "_law_take" (defArgs s__law_take) (defBody s__law_take) (defScope s__law_take) .none kV1 dc1 pm1 an1 cd1 ct1), sl1⟩) (c1 : PySem.W.codeIn K cd1 "_law_take" = true) (k1 : PySem.W.keepIn K (.ref f1) = true)
    (a2 : PySem.W.nsIn K mainGlobals "_law_wide" = some (some (.ref f2))) (l2 : K.lookup f2 = some ⟨oc2, od2, .func (PySem.W.fnOf "_law_wide" "_law_wide" (defArgs s__law_wide) (defBody s__law_wide) (defScope s__law_wide) .none kV2 dc2 pm2 an2 cd2 ct2), sl2⟩) (c2 : PySem.W.codeIn K cd2 "_law_wide" = true) (k2 : PySem.W.keepIn K (.ref f2) = true)
    (a3 : PySem.W.nsIn K mainGlobals "_law_behind" = some (some (.ref f3))) (l3 : K.lookup f3 = some ⟨oc3, od3, .func (PySem.W.fnOf "_law_behind" "_law_behind" (defArgs s__law_behind) (defBody s__law_behind) (defScope s__law_behind) .none kV3 dc3 pm3 an3 cd3 ct3), sl3⟩) (c3 : PySem.W.codeIn K cd3 "_law_behind" = true) (k3 : PySem.W.keepIn K (.ref f3) = true)
    (a4 : PySem.W.nsIn K mainGlobals "_law_table" = some (some (.ref f4))) (l4 : K.lookup f4 = some ⟨oc4, od4, .func (PySem.W.fnOf "_law_table" "_law_table" (defArgs s__law_table) (defBody s__law_table) (defScope s__law_table) .none kV4 dc4 pm4 an4 cd4 ct4), sl4⟩) (c4 : PySem.W.codeIn K cd4 "_law_table" = true) (k4 : PySem.W.keepIn K (.ref f4) = true)
    (a5 : PySem.W.nsIn K mainGlobals "is_row" = some (some (.ref f5))) (l5 : K.lookup f5 = some ⟨oc5, od5, .func (PySem.W.fnOf "is_row" "is_row" (defArgs s_is_row) (defBody s_is_row) (defScope s_is_row) .none kV5 dc5 pm5 an5 cd5 ct5), sl5⟩) (c5 : PySem.W.codeIn K cd5 "is_row" = true) (k5 : PySem.W.keepIn K (.ref f5) = true)
    (a6 : PySem.W.nsIn K mainGlobals "is_whole" = some (some (.ref f6))) (l6 : K.lookup f6 = some ⟨oc6, od6, .func (PySem.W.fnOf "is_whole" "is_whole" (defArgs s_is_whole) (defBody s_is_whole) (defScope s_is_whole) .none kV6 dc6 pm6 an6 cd6 ct6), sl6⟩) (c6 : PySem.W.codeIn K cd6 "is_whole" = true) (k6 : PySem.W.keepIn K (.ref f6) = true)
    (a7 : PySem.W.nsIn K mainGlobals "is_count" = some (some (.ref f7))) (l7 : K.lookup f7 = some ⟨oc7, od7, .func (PySem.W.fnOf "is_count" "is_count" (defArgs s_is_count) (defBody s_is_count) (defScope s_is_count) .none kV7 dc7 pm7 an7 cd7 ct7), sl7⟩) (c7 : PySem.W.codeIn K cd7 "is_count" = true) (k7 : PySem.W.keepIn K (.ref f7) = true)
    (a8 : PySem.W.nsIn K mainGlobals "is_below" = some (some (.ref f8))) (l8 : K.lookup f8 = some ⟨oc8, od8, .func (PySem.W.fnOf "is_below" "is_below" (defArgs s_is_below) (defBody s_is_below) (defScope s_is_below) .none kV8 dc8 pm8 an8 cd8 ct8), sl8⟩) (c8 : PySem.W.codeIn K cd8 "is_below" = true) (k8 : PySem.W.keepIn K (.ref f8) = true)
    (a9 : PySem.W.nsIn K mainGlobals "is_room" = some (some (.ref f9))) (l9 : K.lookup f9 = some ⟨oc9, od9, .func (PySem.W.fnOf "is_room" "is_room" (defArgs s_is_room) (defBody s_is_room) (defScope s_is_room) .none kV9 dc9 pm9 an9 cd9 ct9), sl9⟩) (c9 : PySem.W.codeIn K cd9 "is_room" = true) (k9 : PySem.W.keepIn K (.ref f9) = true)
    (a10 : PySem.W.nsIn K mainGlobals "is_saying" = some (some (.ref f10))) (l10 : K.lookup f10 = some ⟨oc10, od10, .func (PySem.W.fnOf "is_saying" "is_saying" (defArgs s_is_saying) (defBody s_is_saying) (defScope s_is_saying) .none kV10 dc10 pm10 an10 cd10 ct10), sl10⟩) (c10 : PySem.W.codeIn K cd10 "is_saying" = true) (k10 : PySem.W.keepIn K (.ref f10) = true)
    (a11 : PySem.W.nsIn K mainGlobals "need_sayings" = some (some (.ref f11))) (l11 : K.lookup f11 = some ⟨oc11, od11, .func (PySem.W.fnOf "need_sayings" "need_sayings" (defArgs s_need_sayings) (defBody s_need_sayings) (defScope s_need_sayings) .none kV11 dc11 pm11 an11 cd11 ct11), sl11⟩) (c11 : PySem.W.codeIn K cd11 "need_sayings" = true) (k11 : PySem.W.keepIn K (.ref f11) = true)
    (a12 : PySem.W.nsIn K mainGlobals "need_alike" = some (some (.ref f12))) (l12 : K.lookup f12 = some ⟨oc12, od12, .func (PySem.W.fnOf "need_alike" "need_alike" (defArgs s_need_alike) (defBody s_need_alike) (defScope s_need_alike) .none kV12 dc12 pm12 an12 cd12 ct12), sl12⟩) (c12 : PySem.W.codeIn K cd12 "need_alike" = true) (k12 : PySem.W.keepIn K (.ref f12) = true)
    (a13 : PySem.W.nsIn K mainGlobals "need_row_alike" = some (some (.ref f13))) (l13 : K.lookup f13 = some ⟨oc13, od13, .func (PySem.W.fnOf "need_row_alike" "need_row_alike" (defArgs s_need_row_alike) (defBody s_need_row_alike) (defScope s_need_row_alike) .none kV13 dc13 pm13 an13 cd13 ct13), sl13⟩) (c13 : PySem.W.codeIn K cd13 "need_row_alike" = true) (k13 : PySem.W.keepIn K (.ref f13) = true)
    (a14 : PySem.W.nsIn K mainGlobals "behind" = some (some (.ref f14))) (l14 : K.lookup f14 = some ⟨oc14, od14, .func (PySem.W.fnOf "behind" "behind" (defArgs s_behind) (defBody s_behind) (defScope s_behind) .none kV14 dc14 pm14 an14 cd14 ct14), sl14⟩) (c14 : PySem.W.codeIn K cd14 "behind" = true) (k14 : PySem.W.keepIn K (.ref f14) = true)
    (a15 : PySem.W.nsIn K mainGlobals "first_come" = some (some (.ref f15))) (l15 : K.lookup f15 = some ⟨oc15, od15, .func (PySem.W.fnOf "first_come" "first_come" (defArgs s_first_come) (defBody s_first_come) (defScope s_first_come) .none kV15 dc15 pm15 an15 cd15 ct15), sl15⟩) (c15 : PySem.W.codeIn K cd15 "first_come" = true) (k15 : PySem.W.keepIn K (.ref f15) = true)
    (a16 : PySem.W.nsIn K mainGlobals "either" = some (some (.ref f16))) (l16 : K.lookup f16 = some ⟨oc16, od16, .func (PySem.W.fnOf "either" "either" (defArgs s_either) (defBody s_either) (defScope s_either) .none kV16 dc16 pm16 an16 (.ref e16) ct16), sl16⟩) (c16 : PySem.W.codeIn K (.ref e16) "either" = true) (k16 : PySem.W.keepIn K (.ref f16) = true)
    (a17 : PySem.W.nsIn K mainGlobals "_law_same" = some (some (.ref f17))) (l17 : K.lookup f17 = some ⟨oc17, od17, .func (PySem.W.fnOf "_law_same" "_law_same" (defArgs s__law_same) (defBody s__law_same) (defScope s__law_same) .none kV17 dc17 pm17 an17 cd17 ct17), sl17⟩) (c17 : PySem.W.codeIn K cd17 "_law_same" = true) (k17 : PySem.W.keepIn K (.ref f17) = true)
    (a18 : PySem.W.nsIn K mainGlobals "_law_ringed" = some (some (.ref f18))) (l18 : K.lookup f18 = some ⟨oc18, od18, .func (PySem.W.fnOf "_law_ringed" "_law_ringed" (defArgs s__law_ringed) (defBody s__law_ringed) (defScope s__law_ringed) .none kV18 dc18 pm18 an18 cd18 ct18), sl18⟩) (c18 : PySem.W.codeIn K cd18 "_law_ringed" = true) (k18 : PySem.W.keepIn K (.ref f18) = true)
    (a19 : PySem.W.nsIn K mainGlobals "law" = some (some (.ref f19))) (l19 : K.lookup f19 = some ⟨oc19, od19, .func (PySem.W.fnOf "law" "law" (defArgs s_law) (defBody s_law) (defScope s_law) .none kV19 dc19 pm19 an19 cd19 ct19), sl19⟩) (c19 : PySem.W.codeIn K cd19 "law" = true) (k19 : PySem.W.keepIn K (.ref f19) = true)
    (b_abs : PySem.W.nsIn K mainGlobals "abs" = some none)
    (b_after : PySem.W.nsIn K mainGlobals "after" = some none)
    (b_all : PySem.W.nsIn K mainGlobals "all" = some none)
    (b_any : PySem.W.nsIn K mainGlobals "any" = some none)
    (b_bool : PySem.W.nsIn K mainGlobals "bool" = some none)
    (b_deed : PySem.W.nsIn K mainGlobals "deed" = some none)
    (b_int : PySem.W.nsIn K mainGlobals "int" = some none)
    (b_isinstance : PySem.W.nsIn K mainGlobals "isinstance" = some none)
    (b_len : PySem.W.nsIn K mainGlobals "len" = some none)
    (b_list : PySem.W.nsIn K mainGlobals "list" = some none)
    (b_range : PySem.W.nsIn K mainGlobals "range" = some none)
    (b_repr : PySem.W.nsIn K mainGlobals "repr" = some none)
    (b_room : PySem.W.nsIn K mainGlobals "room" = some none)
    (b_sign : PySem.W.nsIn K mainGlobals "sign" = some none)
    (b_str : PySem.W.nsIn K mainGlobals "str" = some none)
    (b_tuple : PySem.W.nsIn K mainGlobals "tuple" = some none)
    (b_zip : PySem.W.nsIn K mainGlobals "zip" = some none)
    (c_MOST : PySem.W.nsIn K mainGlobals "MOST" = some (some (.int 100 t_MOST)))
    (c_WIDE : PySem.W.nsIn K mainGlobals "WIDE" = some (some (.int 9 t_WIDE)))
    (g_TooWide : PySem.W.nsIn K mainGlobals "TooWide" = some (some (.ref A_TooWide)))
    (x_TooWide : PySem.W.excIn K A_TooWide veB "ValueError.__new__" = true)
    (kp_TooWide : PySem.W.keepIn K (.ref A_TooWide) = true)
    (bs_TooWide : PySem.W.subIn K (.ref A_TooWide) (.type "BaseException") = some true)
    (ty_TooWide : PySem.W.typeIn K (.ref A_TooWide) = some (.type "type"))
    (wb : PySem.W.subIn K (.ref A_TooWide) (.type "BaseException") = some true)
    (wd : PySem.W.hasDictIn K A_TooWide = true)
    (wt : PySem.W.typeIn K (.ref A_TooWide) = some (.type "type"))
    (xhn : PySem.W.specialIn K (.builtin "object.__class__") "__get__" = some (some (.builtin "getset_descriptor.__get__")))
    (xht : PySem.W.takesIn K (.builtin "object.__class__") = some true)
    (sb_TooWide : PySem.W.subIn K (.ref A_TooWide) (.ref A_TooWide) = some true)
    (hg_TooWide : PySem.W.findIn K (.ref A_TooWide) "__getattribute__" = some (some (.builtin "BaseException.__getattribute__")))
    (hk_TooWide : PySem.W.findIn K (.ref A_TooWide) "__getattr__" = some none)
    (hs_TooWide : PySem.W.subIn K (.ref A_TooWide) (.type "BaseException") = some true)
    (hd_TooWide : PySem.W.hasDictIn K A_TooWide = true)
    (ha_TooWide : PySem.W.findIn K (.ref A_TooWide) "__class__" = some (some (.builtin "object.__class__")))
    (hm_TooWide : PySem.W.mroIn K A_TooWide (.type "object") = some true)
    (sf_TooWide : PySem.W.subIn K (.ref A_TooWide) (.ref A_TooWide) = some true)
    (yt_TooWide : PySem.W.typeIn K (.ref A_TooWide) = some (.type "type"))
    (u16 : K.lookup e16 = some ⟨ox16, dx16, .fields vx16, sx16⟩) (v16 : vx16[11]? = some (.ref q16))
    (z16 : PySem.W.codeHdIn K e16 q16 = true)
    (y16 : K.lookup q16 = none)
    (hy16 : h.get? q16 = some { cls := .none, data := .fields #[] }) :
    ∃ (fd : FuncData) (cs : List (Addr × Addr)) (T : TabsC), (∀ p ∈ cs, h.get? p.2 = some { cls := .none, data := .fields #[] }) ∧ (∀ p ∈ cs, K.lookup p.2 = none) ∧ (∀ p ∈ cs, PySem.W.CodeHd h p.1 p.2) ∧ (∀ p ∈ T.T, ∃ c, (c, p.1) ∈ cs) ∧ (∀ (s : Shared) (u : Value), BindsTo s fd ⟨[u], []⟩ [("script", u)]) ∧ ∀ base : Heap, K.In base → base.Ns mainGlobals mg → (∀ p ∈ cs, TabB base mg p.1 p.2) → FnG l.prog w K mg base CX0 16 fa fd ["script"] (@liftF T K S_lawC.p) := by
  letI I0 : TabsC := ⟨[(q16, nm_either)]⟩
  obtain ⟨fd, hb, hF⟩ := all_mk (l := l) (w := w) X G hfa a0 l0 c0 k0 a1 l1 c1 k1 a2 l2 c2 k2 a3 l3 c3 k3 a4 l4 c4 k4 a5 l5 c5 k5 a6 l6 c6 k6 a7 l7 c7 k7 a8 l8 c8 k8 a9 l9 c9 k9 a10 l10 c10 k10 a11 l11 c11 k11 a12 l12 c12 k12 a13 l13 c13 k13 a14 l14 c14 k14 a15 l15 c15 k15 a16 l16 c16 k16 a17 l17 c17 k17 a18 l18 c18 k18 a19 l19 c19 k19 b_abs b_after b_all b_any b_bool b_deed b_int b_isinstance b_len b_list b_range b_repr b_room b_sign b_str b_tuple b_zip c_MOST c_WIDE g_TooWide x_TooWide kp_TooWide bs_TooWide ty_TooWide wb wd wt xhn xht sb_TooWide hg_TooWide hk_TooWide hs_TooWide hd_TooWide ha_TooWide hm_TooWide sf_TooWide yt_TooWide (show (q16, nm_either) ∈ [(q16, nm_either)] by simp) (fun p hp e => by have hp : p ∈ [(q16, nm_either)] := hp; simp only [List.mem_cons, List.not_mem_nil, or_false] at hp; rcases hp with rfl <;> first | rfl | rfl)
  exact ⟨fd, [(e16, q16)], I0, (List.forall_mem_cons.mpr ⟨hy16, (fun _ h => nomatch h)⟩), (List.forall_mem_cons.mpr ⟨y16, (fun _ h => nomatch h)⟩), (List.forall_mem_cons.mpr ⟨PySem.W.codeHd_of_K X z16, (fun _ h => nomatch h)⟩), (List.forall_mem_cons.mpr ⟨⟨e16, by simp⟩, (fun _ h => nomatch h)⟩), hb, hF⟩
end K07
open PySem PySem.W PyProof.Rows
set_option maxRecDepth 100000 in
set_option maxHeartbeats 0 in
theorem PySem.Challenge.cw_mildwarden_k07_either_room_by_room_holds : PySem.Challenge.rw_mildwarden_k07_either_room_by_room.Holds := by
  w_on; o_law; k_head; (case hw => w_witness2)
  k_fill
  letI : M3.TabsC := ⟨[]⟩
  refine M3.walkG (l := PySem.Challenge.rw_mildwarden_k07_either_room_by_room) (k := 16) rfl rfl ⟨rfl, by decide, by decide⟩ (fun w h Y => PySem.W.km_in_of Y) ?F
  case F =>
    intro w mg fa h Y KX G hmg
    refine' K07.all_mkT KX G hmg ?a0 ?l0 ?c0 ?k0 ?a1 ?l1 ?c1 ?k1 ?a2 ?l2 ?c2 ?k2 ?a3 ?l3 ?c3 ?k3 ?a4 ?l4 ?c4 ?k4 ?a5 ?l5 ?c5 ?k5 ?a6 ?l6 ?c6 ?k6 ?a7 ?l7 ?c7 ?k7 ?a8 ?l8 ?c8 ?k8 ?a9 ?l9 ?c9 ?k9 ?a10 ?l10 ?c10 ?k10 ?a11 ?l11 ?c11 ?k11 ?a12 ?l12 ?c12 ?k12 ?a13 ?l13 ?c13 ?k13 ?a14 ?l14 ?c14 ?k14 ?a15 ?l15 ?c15 ?k15 ?a16 ?l16 ?c16 ?k16 ?a17 ?l17 ?c17 ?k17 ?a18 ?l18 ?c18 ?k18 ?a19 ?l19 ?c19 ?k19 ?b_abs ?b_after ?b_all ?b_any ?b_bool ?b_deed ?b_int ?b_isinstance ?b_len ?b_list ?b_range ?b_repr ?b_room ?b_sign ?b_str ?b_tuple ?b_zip ?c_MOST ?c_WIDE ?g_TooWide ?x_TooWide ?kp_TooWide ?bs_TooWide ?ty_TooWide ?wb ?wd ?wt ?xhn ?xht ?sb_TooWide ?hg_TooWide ?hk_TooWide ?hs_TooWide ?hd_TooWide ?ha_TooWide ?hm_TooWide ?sf_TooWide ?yt_TooWide ?u16 ?v16 ?z16 ?y16 ?hy16
    (case a0 => k_is)
    (case l0 => k_is)
    (case c0 => k_is)
    (case k0 => k_is)
    (case a1 => k_is)
    (case l1 => k_is)
    (case c1 => k_is)
    (case k1 => k_is)
    (case a2 => k_is)
    (case l2 => k_is)
    (case c2 => k_is)
    (case k2 => k_is)
    (case a3 => k_is)
    (case l3 => k_is)
    (case c3 => k_is)
    (case k3 => k_is)
    (case a4 => k_is)
    (case l4 => k_is)
    (case c4 => k_is)
    (case k4 => k_is)
    (case a5 => k_is)
    (case l5 => k_is)
    (case c5 => k_is)
    (case k5 => k_is)
    (case a6 => k_is)
    (case l6 => k_is)
    (case c6 => k_is)
    (case k6 => k_is)
    (case a7 => k_is)
    (case l7 => k_is)
    (case c7 => k_is)
    (case k7 => k_is)
    (case a8 => k_is)
    (case l8 => k_is)
    (case c8 => k_is)
    (case k8 => k_is)
    (case a9 => k_is)
    (case l9 => k_is)
    (case c9 => k_is)
    (case k9 => k_is)
    (case a10 => k_is)
    (case l10 => k_is)
    (case c10 => k_is)
    (case k10 => k_is)
    (case a11 => k_is)
    (case l11 => k_is)
    (case c11 => k_is)
    (case k11 => k_is)
    (case a12 => k_is)
    (case l12 => k_is)
    (case c12 => k_is)
    (case k12 => k_is)
    (case a13 => k_is)
    (case l13 => k_is)
    (case c13 => k_is)
    (case k13 => k_is)
    (case a14 => k_is)
    (case l14 => k_is)
    (case c14 => k_is)
    (case k14 => k_is)
    (case a15 => k_is)
    (case l15 => k_is)
    (case c15 => k_is)
    (case k15 => k_is)
    (case a16 => k_is)
    (case l16 => k_is)
    (case c16 => k_is)
    (case k16 => k_is)
    (case a17 => k_is)
    (case l17 => k_is)
    (case c17 => k_is)
    (case k17 => k_is)
    (case a18 => k_is)
    (case l18 => k_is)
    (case c18 => k_is)
    (case k18 => k_is)
    (case a19 => k_is)
    (case l19 => k_is)
    (case c19 => k_is)
    (case k19 => k_is)
    (case b_abs => k_is)
    (case b_after => k_is)
    (case b_all => k_is)
    (case b_any => k_is)
    (case b_bool => k_is)
    (case b_deed => k_is)
    (case b_int => k_is)
    (case b_isinstance => k_is)
    (case b_len => k_is)
    (case b_list => k_is)
    (case b_range => k_is)
    (case b_repr => k_is)
    (case b_room => k_is)
    (case b_sign => k_is)
    (case b_str => k_is)
    (case b_tuple => k_is)
    (case b_zip => k_is)
    (case c_MOST => k_is)
    (case c_WIDE => k_is)
    (case g_TooWide => k_is)
    (case x_TooWide => k_exc)
    (case kp_TooWide => k_is)
    (case bs_TooWide => k_is)
    (case ty_TooWide => k_is)
    (case wb => k_is)
    (case wd => k_is)
    (case wt => k_is)
    (case xhn => k_is)
    (case xht => k_is)
    (case sb_TooWide => k_is)
    (case hg_TooWide => k_is)
    (case hk_TooWide => k_is)
    (case hs_TooWide => k_is)
    (case hd_TooWide => k_is)
    (case ha_TooWide => k_is)
    (case hm_TooWide => k_is)
    (case sf_TooWide => k_is)
    (case yt_TooWide => k_is)
    (case u16 => k_is)
    (case v16 => first | rfl | k_is)
    (case z16 => first | kernel_rfl | k_is)
    (case y16 => first | kernel_rfl | k_is)
    (case hy16 => first | exact PySem.W.km_tabs_of Y _ (by k_mem) | exact PySem.W.km_tabs_of Y _ (by simp))

