import PyProof.Rows.All
import Wide.All
import OpenK.AllK
import Wide.FinOn
import HandS.ForMost
import HandS.IsInst
import HandS.TupAny
import HandS.TupMul
import HandS.Style
import HandS.Flow
import HandS.Walk
import HandS.Nested
import KE.DataEq
import HandS.Zip
import HandS.Iter
import HandS.Deep
import KE.GoesMore
import PyProof.CollectIter
import HandS.RaiseMore
import PyProof.CallFns
import HandS.NoneIn
import HandS.Defaults
import HandS.MakeKwOnly
import HandS.Conv
import HandS.Dict
import HandS.Sort
import HandS.WordsExc
import HandS.TryOnly
import HandS.ExcIs
import HandS.DictComp
import KE.KDictDisplayH
import KE.KDictPairs
import HandS.EndTab
import PyProof.ReprRoads
import HandS.FStrTup
import KE.SortData
import KE.KDictSum
import KE.KDictWalk
import PyProof.Transfer
import HandS.CallSlots
import KE.DataMinMax
import KE.DataCmp
import PyProof.TupleOfSeq
import KE.KEqDict
import KE.KDictZip
import KE.GoesZip
import KE.KDictCopyH
import HandS.TupLen
import HandS.HotCalls
import PyProof.EqKinds
import PySem.Challenge.RW_mildwarden_k75_late
set_option Elab.async false
set_option linter.all false
set_option maxRecDepth 100000
namespace M3
open PySem L2
abbrev D := PyData
inductive Ob where
  | lst (xs : List D)
  | dct (kvs : List (D × D))
  | dcT (kvs : List (D × D))
inductive W where
  | d (x : D)
  | ro (xs : List D)
  | own (t : Nat) (o : Ob)
  | lnt (p : Nat)
  | ad (a : Addr)
  | lk (a : Addr) (ds : List (D × D))
  | cl (f : Addr) (F : NdefX.NF)
  | fv (a : Addr) (I : (Addr → Prop) → Hp → Prop)
inductive DV where
  | d (x : D)
  | ro (xs : List D)
  | ad (a : Addr)
  | lk (a : Addr) (ds : List (D × D))
  | cl (f : Addr) (F : NdefX.NF)
  | fv (a : Addr) (I : (Addr → Prop) → Hp → Prop)
def DV.w : DV → W
  | .d x => .d x
  | .ro xs => .ro xs
  | .ad a => .ad a
  | .lk a ds => .lk a ds
  | .cl f F => .cl f F
  | .fv a I => .fv a I
abbrev Sl := List (Option W)
structure Ex3 where
  cls : Value
  arg : Option Int
inductive R3 where
  | d (x : D)
  | own (o : Ob)
def kD : Key → D
  | .inl i => .int i
  | .inr x => .str x
abbrev NTab := Addr × (Nat → Nat → Str)
class TabsC where
  T : List NTab
variable [TabsC]
def isTbl (o : HO) : Bool := match o with | .tbl _ => true | _ => false
def isFrz (o : HO) : Bool := match o with | .frz _ (.frz _ (.ext _)) => true | _ => false
def TabM (H : Hp) (P : Addr) (nm : Nat → Nat → Str) : Prop := ∃ ps : Array Value, H P = some (.tbl ps) ∧ TriplesOk ps.toList ∧ ∀ (pos : Pos) (cv : Value), codeAmong pos ps.toList = some cv → ∃ c o, cv = .ref c ∧ H c = some (.frz o (.frz o (LamX.CodeO c (nm pos.line pos.col))))
def TabsM (H : Hp) : Prop := ∀ p ∈ TabsC.T, TabM H p.1 p.2
theorem TabM.ext {H H' : Hp} {P : Addr} {nm : Nat → Nat → Str} (t : TabM H P nm) (e : ∀ b o, H b = some o → isTbl o = true ∨ isFrz o = true → H' b = some o) : TabM H' P nm := by
  obtain ⟨ps, h1, h2, h3⟩ := t
  refine ⟨ps, e _ _ h1 (.inl rfl), h2, fun pos cv hc => ?_⟩
  obtain ⟨c, o, e1, e2⟩ := h3 pos cv hc
  exact ⟨c, o, e1, e _ _ e2 (.inr rfl)⟩
theorem TabsM.ext {H H' : Hp} (t : TabsM H) (e : ∀ b o, H b = some o → isTbl o = true ∨ isFrz o = true → H' b = some o) : TabsM H' := fun p hp => (t p hp).ext e
theorem TabsM.same {H H' : Hp} (t : TabsM H) (e : Same H H') : TabsM H' := t.ext fun b o h _ => e b o h
def Ord (o : HO) : Prop := isTbl o = false ∧ isFrz o = false
theorem TabsM.upd {H : Hp} {a : Addr} {u o : HO} (t : TabsM H) (h : H a = some u) (n : Ord u) : TabsM (upd H a o) := t.ext fun b v hb hv => by
  by_cases z : b = a
  · subst z
    rw [h] at hb; cases hb
    rcases hv with k | k
    · rw [n.1] at k; cases k
    · rw [n.2] at k; cases k
  · rw [upd_ne z]; exact hb
theorem TabsM.fresh {H : Hp} {a : Addr} {o : HO} (t : TabsM H) (h : H a = none) : TabsM (L2.upd H a o) := t.ext fun b v hb hv => by
  rw [upd_ne (ne_of_none hb h)]; exact hb
structure Tb (H H' : Hp) : Prop where
  t : TabsM H → TabsM H'
  c : ∀ b o, H b = some o → isFrz o = true → H' b = some o
theorem Tb.refl {H : Hp} : Tb H H := ⟨fun t => t, fun _ _ h _ => h⟩
theorem Tb.same {H H' : Hp} (e : Same H H') : Tb H H' := ⟨fun t => t.same e, fun b o h _ => e b o h⟩
theorem Tb.trans {H H1 H2 : Hp} (a : Tb H H1) (b : Tb H1 H2) : Tb H H2 := ⟨fun t => b.t (a.t t), fun c o h n => b.c c o (a.c c o h n) n⟩
theorem Tb.upd {H : Hp} {a : Addr} {u o : HO} (h : H a = some u) (n : Ord u) : Tb H (L2.upd H a o) := ⟨fun t => t.upd h n, fun b v hb hv => by
  by_cases z : b = a
  · subst z
    rw [h] at hb; cases hb
    rw [n.2] at hv; cases hv
  · rw [upd_ne z]; exact hb⟩
theorem Tb.fresh {H : Hp} {a : Addr} {o : HO} (h : H a = none) : Tb H (L2.upd H a o) := ⟨fun t => t.fresh h, fun b v hb _ => by rw [upd_ne (ne_of_none hb h)]; exact hb⟩
def none0 : Hp := fun _ => none
def TL (K : PySem.W.Frag) (O : Addr → Prop) (H : Hp) (a : Addr) (xs : List V) : Prop := H a = some (.lst xs) ∧ ¬ O a
def TT (K : PySem.W.Frag) (O : Addr → Prop) (H : Hp) (a : Addr) (xs : List V) : Prop := (Rd H a (.tup xs) ∧ ¬ O a) ∨ SqT K none0 a xs
theorem sqL0 {K : PySem.W.Frag} {H : Hp} {a : Addr} {xs : List V} (h : SqL K none0 a xs) : SqL K H a xs := by
  rcases h with (h | ⟨o, h⟩) | h
  · cases h
  · cases h
  · exact .inr h
theorem sqT0 {K : PySem.W.Frag} {H : Hp} {a : Addr} {xs : List V} (h : SqT K none0 a xs) : SqT K H a xs := by
  rcases h with (h | ⟨o, h⟩) | h
  · cases h
  · cases h
  · exact .inr h
theorem TL.sq {K : PySem.W.Frag} {O : Addr → Prop} {H : Hp} {a : Addr} {xs : List V} (h : TL K O H a xs) : SqL K H a xs := SqL.of h.1
theorem TT.sq {K : PySem.W.Frag} {O : Addr → Prop} {H : Hp} {a : Addr} {xs : List V} (h : TT K O H a xs) : SqT K H a xs := by
  rcases h with ⟨h, _⟩ | h
  · exact .inl h
  · exact sqT0 h
mutual
inductive Rp (K : PySem.W.Frag) (O : Addr → Prop) (H : Hp) : V → D → Prop
  | non : Rp K O H .non .none
  | bl (b : Bool) : Rp K O H (.bl b) (.bool b)
  | int (i : Int) : Rp K O H (.int i) (.int i)
  | str (x : Str) : Rp K O H (.str x) (.str x)
  | lst {a : Addr} {xs : List V} {ds : List D} : TL K O H a xs → RpAll K O H xs ds → Rp K O H (.ref a) (.list ds)
  | tup {a : Addr} {xs : List V} {ds : List D} : TT K O H a xs → RpAll K O H xs ds → Rp K O H (.ref a) (.tuple ds)
  | dic {a : Addr} {o : Obj} {kvs : List (Key × V)} {ds : List (D × D)} : H a = some (.frz o (.dK kvs)) → ¬ O a → RpKV K O H kvs ds → Rp K O H (.ref a) (.dict ds)
inductive RpAll (K : PySem.W.Frag) (O : Addr → Prop) (H : Hp) : List V → List D → Prop
  | nil : RpAll K O H [] []
  | cons {v : V} {vs : List V} {d : D} {ds : List D} : Rp K O H v d → RpAll K O H vs ds → RpAll K O H (v :: vs) (d :: ds)
inductive RpKV (K : PySem.W.Frag) (O : Addr → Prop) (H : Hp) : List (Key × V) → List (D × D) → Prop
  | nil : RpKV K O H [] []
  | cons {k : Key} {v : V} {vs : List (Key × V)} {d : D} {ds : List (D × D)} : Rp K O H v d → RpKV K O H vs ds → RpKV K O H ((k, v) :: vs) ((kD k, d) :: ds)
end
structure Ext (P : Addr → Prop) (O : Addr → Prop) (H : Hp) (O' : Addr → Prop) (H' : Hp) : Prop where
  fr : ∀ b o, H b = some o → ¬ P b → isTbl o = false → H' b = some o
  ow : ∀ b, O' b → O b ∨ H b = none
  tk : ∀ b o, H b = some o → ∃ o', H' b = some o'
  tb : Tb H H'
section
variable {K : PySem.W.Frag} {P O O' : Addr → Prop} {H H' : Hp}
theorem TL.ext {a : Addr} {xs : List V} (e : Ext P O H O' H') (po : ∀ b, P b → O b) (h : TL K O H a xs) : TL K O' H' a xs := by
  obtain ⟨h, n⟩ := h
  refine ⟨e.fr _ _ h (fun z => n (po a z)) rfl, fun z => ?_⟩
  rcases e.ow _ z with q | q
  · exact n q
  · rw [q] at h; cases h
theorem TT.ext {a : Addr} {xs : List V} (e : Ext P O H O' H') (po : ∀ b, P b → O b) (h : TT K O H a xs) : TT K O' H' a xs := by
  rcases h with ⟨h, n⟩ | h
  · have np : ¬ P a := fun z => n (po a z)
    refine .inl ⟨?_, fun z => ?_⟩
    · rcases h with h | ⟨o, h⟩
      · exact .inl (e.fr _ _ h np rfl)
      · exact .inr ⟨o, e.fr _ _ h np rfl⟩
    · rcases e.ow _ z with q | q
      · exact n q
      · rcases h with h | ⟨o, h⟩ <;> (rw [q] at h; cases h)
  · exact .inr h
mutual
theorem Rp.ext (e : Ext P O H O' H') (po : ∀ b, P b → O b) : ∀ {v : V} {d : D}, Rp K O H v d → Rp K O' H' v d
  | _, _, .non => .non
  | _, _, .bl b => .bl b
  | _, _, .int i => .int i
  | _, _, .str x => .str x
  | _, _, .lst h r => .lst (h.ext e po) (RpAll.ext e po r)
  | _, _, .tup h r => .tup (h.ext e po) (RpAll.ext e po r)
  | _, _, .dic h n r => .dic (e.fr _ _ h (fun z => n (po _ z)) rfl) (fun z => (e.ow _ z).elim n fun q => by rw [q] at h; cases h) (RpKV.ext e po r)
theorem RpAll.ext (e : Ext P O H O' H') (po : ∀ b, P b → O b) : ∀ {vs : List V} {ds : List D}, RpAll K O H vs ds → RpAll K O' H' vs ds
  | _, _, .nil => .nil
  | _, _, .cons r t => .cons (Rp.ext e po r) (RpAll.ext e po t)
theorem RpKV.ext (e : Ext P O H O' H') (po : ∀ b, P b → O b) : ∀ {vs : List (Key × V)} {ds : List (D × D)}, RpKV K O H vs ds → RpKV K O' H' vs ds
  | _, _, .nil => .nil
  | _, _, .cons r t => .cons (Rp.ext e po r) (RpKV.ext e po t)
end
end
def oV : Option Int → V
  | none => .non
  | some i => .int i
def oD : Option Int → D
  | none => .none
  | some i => .int i
def oT (ks : List (Option Int)) : D := .tuple (ks.map oD)
def oiHash : Option Int → Int
  | none => reduceHash 0xFCA86420
  | some i => hashInt i
def thash (ks : List (Option Int)) : Int := reduceHash (Builtin.Tuple.tupleHashOf (ks.map oiHash))
abbrev Row := List (Option Int)
def enX (y : Row × Addr × Value) : DictEntry := ⟨thash y.1, .ref y.2.1, y.2.2⟩
def TxP (x : Row × Addr × V) (y : Row × Addr × Value) : Prop := (x.1 = y.1 ∧ x.2.1 = y.2.1) ∧ RelV x.2.2 y.2.2
def DTOk (a : Addr) (xs : List (Row × Addr × V)) (h : Heap) : Prop := (xs.length ≤ sizeLine ∧ (a == sysModules) = false) ∧ ∃ ob es ep ys, h.get? a = some ob ∧ ob.ExactDict ∧ ob.data = .dict es ep ∧ es.toList = ys.map enX ∧ (ys.map fun y => y.1).Nodup ∧ Paired TxP xs ys
def dTx (a : Addr) (xs : List (Row × Addr × V)) : HO := .ext (DTOk a xs)
inductive RpTX (K : PySem.W.Frag) (O : Addr → Prop) (H : Hp) : List (Row × Addr × V) → List (D × D) → Prop
  | nil : RpTX K O H [] []
  | cons {k : Row} {b : Addr} {v : V} {vs : List (Row × Addr × V)} {d : D} {ds : List (D × D)} : TT K O H b (k.map oV) → Rp K O H v d → RpTX K O H vs ds → RpTX K O H ((k, b, v) :: vs) ((oT k, d) :: ds)
theorem RpTX.ext {K : PySem.W.Frag} {P O O' : Addr → Prop} {H H' : Hp} (e : Ext P O H O' H') (po : ∀ b, P b → O b) : ∀ {vs : List (Row × Addr × V)} {ds : List (D × D)}, RpTX K O H vs ds → RpTX K O' H' vs ds
  | _, _, .nil => .nil
  | _, _, .cons h r t => .cons (h.ext e po) (r.ext e po) (RpTX.ext e po t)
def ObOk (K : PySem.W.Frag) (O : Addr → Prop) (H : Hp) (a : Addr) : Ob → Prop
  | .lst xs => ∃ vs, H a = some (.lst vs) ∧ RpAll K O H vs xs
  | .dct ds => ∃ kvs, H a = some (.dK kvs) ∧ RpKV K O H kvs ds
  | .dcT ds => ∃ xs, H a = some (dTx a xs) ∧ RpTX K O H xs ds
def TR (K : PySem.W.Frag) (O : Addr → Prop) (H : Hp) (a : Addr) (xs : List V) : Prop := (Rd H a (.lst xs) ∧ ¬ O a) ∨ SqL K none0 a xs
theorem TR.sq {K : PySem.W.Frag} {O : Addr → Prop} {H : Hp} {a : Addr} {xs : List V} (h : TR K O H a xs) : SqL K H a xs := by
  rcases h with ⟨h, _⟩ | h
  · exact .inl h
  · exact sqL0 h
theorem TR.ext {K : PySem.W.Frag} {P O O' : Addr → Prop} {H H' : Hp} {a : Addr} {xs : List V} (e : Ext P O H O' H') (po : ∀ b, P b → O b) (h : TR K O H a xs) : TR K O' H' a xs := by
  rcases h with ⟨h, n⟩ | h
  · have np : ¬ P a := fun z => n (po a z)
    refine .inl ⟨?_, fun z => ?_⟩
    · rcases h with h | ⟨o, h⟩
      · exact .inl (e.fr _ _ h np rfl)
      · exact .inr ⟨o, e.fr _ _ h np rfl⟩
    · rcases e.ow _ z with q | q
      · exact n q
      · rcases h with h | ⟨o, h⟩ <;> (rw [q] at h; cases h)
  · exact .inr h
def ClH (f : Addr) (F : NdefX.NF) (O : Addr → Prop) (H : Hp) : Prop := (∃ o, H f = some (.frz o (NdefX.FnO f F))) ∧ ¬ O f ∧ ∃ o, H F.c = some (.frz o (.frz o (LamX.CodeO F.c F.qual)))
theorem ClH.ext {f : Addr} {F : NdefX.NF} {P O O' : Addr → Prop} {H H' : Hp} (e : Ext P O H O' H') (po : ∀ b, P b → O b) (h : ClH f F O H) : ClH f F O' H' := by
  obtain ⟨⟨o, h1⟩, h2, ⟨oc, h3⟩⟩ := h
  refine ⟨⟨o, e.fr _ _ h1 (fun z => h2 (po _ z)) rfl⟩, fun z => ?_, ⟨oc, e.tb.c _ _ h3 rfl⟩⟩
  rcases e.ow _ z with q | q
  · exact h2 q
  · rw [q] at h1; cases h1
def Stable (I : (Addr → Prop) → Hp → Prop) : Prop := (∀ P O H O' H', Ext P O H O' H' → (∀ b, P b → O b) → I O H → I O' H') ∧ ∀ O O' H, (∀ b, O' b → O b) → I O H → I O' H
def RpV (K : PySem.W.Frag) (O : Addr → Prop) (H : Hp) (v : V) : DV → Prop
  | .d x => Rp K O H v x
  | .ro xs => ∃ a vs, v = .ref a ∧ TR K O H a vs ∧ RpAll K O H vs xs
  | .ad a => v = .ref a
  | .lk a ds => v = .ref a ∧ ∃ o kvs, H a = some (.frz o (.dK kvs)) ∧ ¬ O a ∧ RpKV K O H kvs ds
  | .cl f F => v = .ref f ∧ ClH f F O H
  | .fv a I => v = .ref a ∧ I O H ∧ Stable I
theorem RpV.ext {K : PySem.W.Frag} {P O O' : Addr → Prop} {H H' : Hp} {v : V} {x : DV} (e : Ext P O H O' H') (po : ∀ b, P b → O b) (h : RpV K O H v x) : RpV K O' H' v x := by
  cases x with
  | d x => exact Rp.ext e po h
  | ro xs => obtain ⟨a, vs, h1, h2, h3⟩ := h; exact ⟨a, vs, h1, h2.ext e po, h3.ext e po⟩
  | ad a => exact h
  | cl f F => exact ⟨h.1, h.2.ext e po⟩
  | fv a I => exact ⟨h.1, h.2.2.1 _ _ _ _ _ e po h.2.1, h.2.2⟩
  | lk a ds => obtain ⟨h1, o, kvs, h, n, r⟩ := h; exact ⟨h1, o, kvs, e.fr _ _ h (fun z => n (po _ z)) rfl, (fun z => (e.ow _ z).elim n fun q => by rw [q] at h; cases h), RpKV.ext e po r⟩
abbrev Rho := Nat → Option Addr
def Ow (ρ : Rho) (a : Addr) : Prop := ∃ i, ρ i = some a
def Ox (F : Addr → Prop) (ρ : Rho) (a : Addr) : Prop := Ow ρ a ∨ F a
abbrev Ex (F : Addr → Prop) (ρ : Rho) (H : Hp) (ρ' : Rho) (H' : Hp) : Prop := Ext (Ow ρ) (Ow ρ) H (Ow ρ') H'
theorem Ext.refl {P O : Addr → Prop} {H : Hp} : Ext P O H O H := ⟨fun _ _ h _ _ => h, fun _ h => .inl h, fun _ o h => ⟨o, h⟩, Tb.refl⟩
theorem Ext.same {P O : Addr → Prop} {H H' : Hp} (s : Same H H') : Ext P O H O H' := ⟨fun _ _ h _ _ => s _ _ h, fun _ h => .inl h, fun _ o h => ⟨o, s _ _ h⟩, Tb.same s⟩
theorem Ext.frn {F : Addr → Prop} {ρ ρ' : Rho} {H H' : Hp} (e : Ext (Ow ρ) (Ow ρ) H (Ow ρ') H') : Ext (Ow ρ) (Ox F ρ) H (Ox F ρ') H' :=
  ⟨e.fr, fun b z => z.elim (fun q => (e.ow b q).elim (fun q => .inl (.inl q)) .inr) fun q => .inl (.inr q), e.tk, e.tb⟩
theorem Ext.trans {ρ ρ1 ρ2 : Rho} {H H1 H2 : Hp} (a : Ext (Ow ρ) (Ow ρ) H (Ow ρ1) H1) (b : Ext (Ow ρ1) (Ow ρ1) H1 (Ow ρ2) H2) : Ext (Ow ρ) (Ow ρ) H (Ow ρ2) H2 where
  fr := fun c o h n t => b.fr c o (a.fr c o h n t) (fun z => (a.ow c z).elim n fun q => by rw [q] at h; cases h) t
  ow := fun c z => by
    rcases b.ow c z with q | q
    · exact a.ow c q
    · cases h : H c with
      | none => exact .inr rfl
      | some o =>
        obtain ⟨o', z⟩ := a.tk c o h
        rw [z] at q; cases q
  tk := fun c o h => let ⟨o1, h1⟩ := a.tk c o h; b.tk c o1 h1
  tb := a.tb.trans b.tb
def LN (π : Rho) (σ : St) (δ : Sl) : Prop := ∀ (i p : Nat), δ[i]? = some (some (.lnt p)) → ∃ a, π p = some a ∧ σ[i]? = some (some (.ref a))
theorem LN.setδ {π : Rho} {σ : St} {δ : Sl} (h : LN π σ δ) {j : Nat} {x : Option W} (hx : ∀ p, x ≠ some (.lnt p)) : LN π σ (δ.set j x) := fun i p e => by
  by_cases hj : j = i
  · subst hj
    by_cases hl : j < δ.length
    · rw [List.getElem?_set_self hl] at e; exact absurd (Option.some.inj e) (hx p)
    · rw [List.getElem?_eq_none (by rw [List.length_set]; omega)] at e; cases e
  · rw [List.getElem?_set_ne hj] at e; exact h i p e
theorem LN.set {π : Rho} {σ : St} {δ : Sl} (h : LN π σ δ) {j : Nat} {x : Option W} {w : Option V} (hx : ∀ p, x ≠ some (.lnt p)) : LN π (σ.set j w) (δ.set j x) := fun i p e => by
  by_cases hj : j = i
  · subst hj
    by_cases hl : j < δ.length
    · rw [List.getElem?_set_self hl] at e; exact absurd (Option.some.inj e) (hx p)
    · rw [List.getElem?_eq_none (by rw [List.length_set]; omega)] at e; cases e
  · rw [List.getElem?_set_ne hj] at e
    obtain ⟨a, h1, h2⟩ := h i p e
    exact ⟨a, h1, by rw [List.getElem?_set_ne hj]; exact h2⟩
structure Rel (K : PySem.W.Frag) (π : Rho) (F : Addr → Prop) (ρ : Rho) (H : Hp) (σ : St) (δ : Sl) : Prop where
  len : σ.length = δ.length
  dat : ∀ (i : Nat) (x : DV), δ[i]? = some (some x.w) → ∃ v, σ[i]? = some (some v) ∧ RpV K (Ox F ρ) H v x
  own : ∀ (i : Nat) t o, δ[i]? = some (some (.own t o)) → ∃ a, ρ i = some a ∧ σ[i]? = some (some (.ref a)) ∧ ObOk K (Ox F ρ) H a o ∧ (∀ p, t = p + 1 → π p = some a) ∧ (t = 0 → ∀ p, π p ≠ some a)
  inj : ∀ i j a, ρ i = some a → ρ j = some a → i = j
  trk : ∀ a, Ox F ρ a → ∃ o, H a = some o
  dis : ∀ a, F a → ¬ Ow ρ a
  pit : ∀ p a, π p = some a → ∃ o, H a = some o
  ln : LN π σ δ
  tab : TabsM H
theorem ObOk.ord {K : PySem.W.Frag} {O : Addr → Prop} {H : Hp} {a : Addr} {o : Ob} (h : ObOk K O H a o) : ∃ u, H a = some u ∧ Ord u := by
  cases o <;> (obtain ⟨_, h, _⟩ := h; exact ⟨_, h, rfl, rfl⟩)
theorem ObOk.ext {K : PySem.W.Frag} {F : Addr → Prop} {ρ ρ' : Rho} {H H' : Hp} {a : Addr} {o : Ob} (e : Ext (Ow ρ) (Ow ρ) H (Ow ρ') H') (ha : ∀ u, H a = some u → Ord u → H' a = some u) (h : ObOk K (Ox F ρ) H a o) : ObOk K (Ox F ρ') H' a o := by
  have e' := e.frn (F := F)
  cases o with
  | lst xs => obtain ⟨vs, h, r⟩ := h; exact ⟨vs, ha _ h ⟨rfl, rfl⟩, r.ext e' fun _ => .inl⟩
  | dct ds => obtain ⟨kvs, h, r⟩ := h; exact ⟨kvs, ha _ h ⟨rfl, rfl⟩, r.ext e' fun _ => .inl⟩
  | dcT ds => obtain ⟨kvs, h, r⟩ := h; exact ⟨kvs, ha _ h ⟨rfl, rfl⟩, r.ext e' fun _ => .inl⟩
theorem Rel.same {K : PySem.W.Frag} {π : Rho} {F : Addr → Prop} {ρ : Rho} {H H' : Hp} {σ : St} {δ : Sl} (s : Same H H') (r : Rel K π F ρ H σ δ) : Rel K π F ρ H' σ δ where
  len := r.len
  dat := fun i x e => by
    obtain ⟨v, h1, h2⟩ := r.dat i x e
    exact ⟨v, h1, h2.ext (P := Ow ρ) ((Ext.same s).frn) fun _ => .inl⟩
  own := fun i t o e => by
    obtain ⟨a, h1, h2, h3, h4⟩ := r.own i t o e
    exact ⟨a, h1, h2, h3.ext (Ext.same s) (fun _ z _ => s _ _ z), h4⟩
  inj := r.inj
  trk := fun a z => let ⟨o, h⟩ := r.trk a z; ⟨o, s _ _ h⟩
  dis := r.dis
  pit := fun p a z => let ⟨o, h⟩ := r.pit p a z; ⟨o, s _ _ h⟩
  ln := r.ln
  tab := r.tab.same s
theorem Rel.fresh {K : PySem.W.Frag} {π : Rho} {F : Addr → Prop} {ρ : Rho} {H : Hp} {σ : St} {δ : Sl} (r : Rel K π F ρ H σ δ) {p : Addr} (h : H p = none) : ¬ Ox F ρ p := fun z => by
  obtain ⟨o, q⟩ := r.trk p z
  rw [h] at q; cases q
def XOk (H : Hp) (x : Option Int) (d : Option Addr) : Prop := match x with
  | none => d = none
  | some i => ∃ a, d = some a ∧ H a = some (.xd [("at", .int i)])
def liftX (K : PySem.W.Frag) (E : XK) (F : Addr → Prop) (ρ : Rho) (H : Hp) : Ex3 → Prop := fun ex => ∀ d H' ρ', Ex F ρ H ρ' H' → XOk H' ex.arg d → E ex.cls d H'
theorem liftX.mono {K : PySem.W.Frag} {E : XK} {F : Addr → Prop} {ρ ρ1 : Rho} {H H1 : Hp} (e : Ex F ρ H ρ1 H1) : ∀ ex, liftX K E F ρ H ex → liftX K E F ρ1 H1 ex :=
  fun ex h d H' ρ' e' x => h d H' ρ' (e.trans e') x
abbrev G3 (β : Type) := (Ex3 → Prop) → Sl → (β → Sl → Prop) → Prop
abbrev T3 := G3 D
abbrev TB3 := G3 Bool
abbrev TA3 := G3 (List D)
def Mono3 {β : Type} (t : G3 β) : Prop := ∀ E E' δ Q Q', (∀ e, E e → E' e) → (∀ y δ', Q y δ' → Q' y δ') → t E δ Q → t E' δ Q'
def lift (K : PySem.W.Frag) (E : XK) {α β : Type} (R : (Addr → Prop) → Hp → α → β → Prop) (t : G3 β) : St → Hp → (α → Hp → Prop) → Prop := fun σ H Q =>
  ∃ π F ρ δ, Rel K π F ρ H σ δ ∧ t (liftX K E F ρ H) δ fun y δ' => ∀ x H' ρ', Ex F ρ H ρ' H' → Rel K π F ρ' H' σ δ' → R (Ox F ρ') H' x y → Q x H'
structure PE3 (X : Cx) (E : XK) (e : Expr) (t : T3) : Prop where
  mono : Mono3 t
  pe : PE X e (lift X.K E (Rp X.K) t)
structure PT3 (X : Cx) (E : XK) (e : Expr) (t : TB3) : Prop where
  mono : Mono3 t
  pe : PT X e (lift X.K E (fun _ _ (x y : Bool) => x = y) t)
structure PW3 (X : Cx) (E : XK) (e : Expr) (t : TB3) : Prop where
  mono : Mono3 t
  pe : PW X e (lift X.K E (fun _ _ (x y : Bool) => x = y) t)
theorem PW3.pt {X : Cx} {E : XK} {e : Expr} {t : TB3} (h : PW3 X E e t) : PT3 X E e t := ⟨h.mono, h.pe.pt⟩
theorem _root_.L2.PE.imp {X : Cx} {e : Expr} {t t' : TE} (h : PE X e t) (k : ∀ σ H Q, t' σ H Q → t σ H Q) : PE X e t' := ⟨fun pins s σ H Q I q => h.run pins s σ H Q I (k σ H Q q)⟩
theorem _root_.L2.PT.imp {X : Cx} {e : Expr} {t t' : L2.TT} (h : PT X e t) (k : ∀ σ H Q, t' σ H Q → t σ H Q) : PT X e t' := ⟨fun pins s σ H Q I q => h.run pins s σ H Q I (k σ H Q q)⟩
theorem _root_.L2.PW.imp {X : Cx} {e : Expr} {t t' : L2.TT} (h : PW X e t) (k : ∀ σ H Q, t' σ H Q → t σ H Q) : PW X e t' := ⟨fun wh pins s σ H Q I q => h.run wh pins s σ H Q I (k σ H Q q)⟩
theorem _root_.L2.PA.imp {X : Cx} {e : List Expr} {t t' : TA} (h : PA X e t) (k : ∀ σ H Q, t' σ H Q → t σ H Q) : PA X e t' := ⟨fun pos pins s σ H Q I q => h.run pos pins s σ H Q I (k σ H Q q)⟩
theorem _root_.L2.PS.imp {X : Cx} {e : Stmt} {t t' : TS} (h : PS X e t) (k : ∀ D σ H, t' D σ H → t D σ H) : PS X e t' := ⟨fun pins s σ H D I q => h.run pins s σ H D I (k D σ H q)⟩
theorem _root_.L2.PSs.imp {X : Cx} {e : List Stmt} {t t' : TS} (h : PSs X e t) (k : ∀ D σ H, t' D σ H → t D σ H) : PSs X e t' := ⟨fun pins s σ H D I q => h.run pins s σ H D I (k D σ H q)⟩
theorem _root_.L2.PG.imp {X : Cx} {e : Expr} {t t' : TG} (h : PG X e t) (k : ∀ v σ H Q, t' v σ H Q → t v σ H Q) : PG X e t' := ⟨fun pins s σ H v u Q I r q => h.run pins s σ H v u Q I r (k v σ H Q q)⟩
theorem _root_.L2.PI.imp {X : Cx} {tg e : Expr} {t t' : TI} (h : PI X tg e t) (k : ∀ σ H Q, t' σ H Q → t σ H Q) : PI X tg e t' := ⟨fun pins s σ H Q I q => h.run pins s σ H Q I (k σ H Q q)⟩
structure br (b : Bool) (A B : Prop) : Prop where
  yes : b = true → A
  no : b = false → B
theorem br.ite {b : Bool} {A B : Prop} (h : br b A B) : if b = true then A else B := by
  cases b
  · rw [if_neg Bool.false_ne_true]; exact h.2 rfl
  · rw [if_pos rfl]; exact h.1 rfl
theorem br.imp {b : Bool} {A B A' B' : Prop} (h : br b A B) (f : A → A') (g : B → B') : br b A' B' := ⟨fun e => f (h.1 e), fun e => g (h.2 e)⟩
def asI (x : D) (k : Int → Prop) : Prop := match x with | .int i => k i | _ => False
def asB (x : D) (k : Bool → Prop) : Prop := match x with | .bool i => k i | _ => False
theorem asI.to {x : D} {k : Int → Prop} (h : asI x k) : ∃ i, x = .int i ∧ k i := by
  cases x <;> first | exact ⟨_, rfl, h⟩ | exact False.elim h
theorem asB.to {x : D} {k : Bool → Prop} (h : asB x k) : ∃ i, x = .bool i ∧ k i := by
  cases x <;> first | exact ⟨_, rfl, h⟩ | exact False.elim h
theorem asI.of {i : Int} {k : Int → Prop} (h : k i) : asI (.int i) k := h
theorem asB.of {i : Bool} {k : Bool → Prop} (h : k i) : asB (.bool i) k := h
end M3
set_option Elab.async false
set_option linter.all false
set_option maxRecDepth 100000
namespace M3
open PySem L2
variable [TabsC]
section
variable {X : Cx} {E : XK}
abbrev Trk (O : Addr → Prop) (H : Hp) : Prop := ∀ b, O b → ∃ o, H b = some o
def tU3 (r3 : D → (D → Prop) → Prop) (ta : T3) : T3 := fun E δ Q => ta E δ fun x δ1 => r3 x fun z => Q z δ1
def tB2 (r3 : D → D → (D → Prop) → Prop) (ta tb : T3) : T3 := fun E δ Q => ta E δ fun x δ1 => tb E δ1 fun y δ2 => r3 x y fun z => Q z δ2
def tBool (t : T3) : TB3 := fun E δ Q => t E δ fun x δ1 => asB x fun b => Q b δ1
def M1 (r3 : D → (D → Prop) → Prop) : Prop := ∀ x k k', (∀ z, k z → k' z) → r3 x k → r3 x k'
def M2 (r3 : D → D → (D → Prop) → Prop) : Prop := ∀ x y k k', (∀ z, k z → k' z) → r3 x y k → r3 x y k'
theorem mono_tU3 {r3 ta} (h : Mono3 ta) (m : M1 r3) : Mono3 (tU3 r3 ta) := fun _ _ _ _ _ he hq q => h _ _ _ _ _ he (fun x δ1 => m x _ _ fun z => hq z δ1) q
theorem mono_tB2 {r3 ta tb} (h : Mono3 ta) (h' : Mono3 tb) (m : M2 r3) : Mono3 (tB2 r3 ta tb) := fun _ _ _ _ _ he hq q => h _ _ _ _ _ he (fun x δ1 => h' _ _ _ _ _ he fun y δ2 => m x y _ _ fun z => hq z δ2) q
theorem mono_tBool {t} (h : Mono3 t) : Mono3 (tBool t) := fun _ _ _ _ _ he hq q => h _ _ _ _ _ he (fun x δ1 z => by obtain ⟨b, rfl, z1⟩ := asB.to z; exact asB.of (hq _ _ z1)) q
def OpOk1 (K : PySem.W.Frag) (r : V → Hp → VK → Prop) (r3 : D → (D → Prop) → Prop) : Prop := ∀ (O : Addr → Prop) (H : Hp) (v : V) (x : D) (k : D → Prop) (Q : VK), Trk O H → Rp K O H v x → r3 x k → (∀ z w H', Same H H' → Rp K O H' w z → k z → Q w H') → r v H Q
def OpOk2 (K : PySem.W.Frag) (r : R2) (r3 : D → D → (D → Prop) → Prop) : Prop := ∀ (O : Addr → Prop) (H : Hp) (v u : V) (x y : D) (k : D → Prop) (Q : VK), Trk O H → Rp K O H v x → Rp K O H u y → r3 x y k → (∀ z w H', Same H H' → Rp K O H' w z → k z → Q w H') → r v u H Q
theorem lift_un {t ta : T3} {r : V → Hp → VK → Prop} {r3} (ha : Mono3 ta) (hr : OpOk1 X.K r r3) {σ : St} {H : Hp} {Q : VK} (h : lift X.K E (Rp X.K) (tU3 r3 ta) σ H Q) : tUn r (lift X.K E (Rp X.K) ta) σ H Q := by
  obtain ⟨π, F, ρ, δ, rel, q⟩ := h
  refine ⟨π, F, ρ, δ, rel, ha _ _ _ _ _ (fun _ z => z) (fun x δ1 q v H1 ρ1 e1 rel1 r1 => ?_) q⟩
  exact hr _ H1 v x _ Q rel1.trk r1 q fun z w H2 s r2 q2 => q2 w H2 ρ1 (e1.trans (Ext.same s)) (rel1.same s) r2
theorem lift_bin {ta tb : T3} {r : R2} {r3} (ha : Mono3 ta) (hb : Mono3 tb) (hr : OpOk2 X.K r r3) {σ : St} {H : Hp} {Q : VK} (h : lift X.K E (Rp X.K) (tB2 r3 ta tb) σ H Q) : tOp r (lift X.K E (Rp X.K) ta) (lift X.K E (Rp X.K) tb) σ H Q := by
  obtain ⟨π, F, ρ, δ, rel, q⟩ := h
  refine ⟨π, F, ρ, δ, rel, ha _ _ _ _ _ (fun _ z => z) (fun x δ1 q v H1 ρ1 e1 rel1 r1 => ?_) q⟩
  refine ⟨π, F, ρ1, δ1, rel1, hb _ _ _ _ _ (liftX.mono e1) (fun y δ2 q u H2 ρ2 e2 rel2 r2 => ?_) q⟩
  exact hr _ H2 v u x y _ Q rel2.trk (r1.ext (e2.frn) fun _ => .inl) r2 q fun z w H3 s r3 q3 => q3 w H3 ρ2 ((e1.trans e2).trans (Ext.same s)) (rel2.same s) r3
theorem bin3 {a b e : Expr} {ta tb : T3} {r : R2} {r3} (mk : ∀ ta' tb', PE X a ta' → PE X b tb' → PE X e (tOp r ta' tb')) (hr : OpOk2 X.K r r3) (m : M2 r3) (ha : PE3 X E a ta) (hb : PE3 X E b tb) : PE3 X E e (tB2 r3 ta tb) :=
  ⟨mono_tB2 ha.mono hb.mono m, (mk _ _ ha.pe hb.pe).imp fun _ _ _ h => lift_bin ha.mono hb.mono hr h⟩
theorem un3 {a e : Expr} {ta : T3} {r : V → Hp → VK → Prop} {r3} (mk : ∀ ta', PE X a ta' → PE X e (tUn r ta')) (hr : OpOk1 X.K r r3) (m : M1 r3) (ha : PE3 X E a ta) : PE3 X E e (tU3 r3 ta) :=
  ⟨mono_tU3 ha.mono m, (mk _ ha.pe).imp fun _ _ _ h => lift_un (t := ta) ha.mono hr h⟩
theorem lift_bool {t : T3} (ht : Mono3 t) {σ : St} {H : Hp} {Q : Bool → Hp → Prop} (h : lift X.K E (fun _ _ (x y : Bool) => x = y) (tBool t) σ H Q) : lift X.K E (Rp X.K) t σ H fun x H1 => ∃ c, x = .bl c ∧ Q c H1 := by
  obtain ⟨π, F, ρ, δ, rel, q⟩ := h
  refine ⟨π, F, ρ, δ, rel, ht _ _ _ _ _ (fun _ z => z) (fun x δ1 q v H1 ρ1 e1 rel1 r1 => ?_) q⟩
  obtain ⟨b, rfl, q⟩ := asB.to q
  cases r1
  exact ⟨b, rfl, q b H1 ρ1 e1 rel1 rfl⟩
theorem pt3_val {e : Expr} {t : T3} (h : PE3 X E e t) (he : ∀ whole, isTrue e X.env whole = (do let v ← whole; standAt e.pos; holding [v] (truthy v)) := by intro _; rfl) : PT3 X E e (tBool t) :=
  ⟨mono_tBool h.mono, (pt_val h.pe he).imp fun _ _ _ q => lift_bool h.mono q⟩
theorem bin3T {a b e : Expr} {ta tb : T3} {r : R2} {r3} (mk : ∀ ta' tb', PE X a ta' → PE X b tb' → PT X e (tTest (tOp r ta' tb'))) (hr : OpOk2 X.K r r3) (m : M2 r3) (ha : PE3 X E a ta) (hb : PE3 X E b tb) : PT3 X E e (tBool (tB2 r3 ta tb)) :=
  ⟨mono_tBool (mono_tB2 ha.mono hb.mono m), (mk _ _ ha.pe hb.pe).imp fun _ _ _ h => lift_bin ha.mono hb.mono hr (lift_bool (mono_tB2 ha.mono hb.mono m) h)⟩
def tV3 (i : Nat) : T3 := fun _ δ Q => match δ[i]? with | some (some (.d x)) => Q x δ | _ => False
theorem tV3.to {i : Nat} {E : Ex3 → Prop} {δ : Sl} {Q : D → Sl → Prop} (h : tV3 i E δ Q) : ∃ x, δ[i]? = some (some (.d x)) ∧ Q x δ := by
  unfold tV3 at h
  split at h
  · exact ⟨_, by assumption, h⟩
  · exact h.elim
theorem tV3.of {i : Nat} {E : Ex3 → Prop} {δ : Sl} {Q : D → Sl → Prop} {x : D} (e : δ[i]? = some (some (.d x))) (h : Q x δ) : tV3 i E δ Q := by
  unfold tV3
  rw [e]
  exact h
theorem mono_tV3 {i : Nat} : Mono3 (tV3 i) := fun _ _ _ _ _ _ hq q => by
  obtain ⟨x, e, q⟩ := q.to
  exact tV3.of e (hq _ _ q)
theorem v3 (i : Nat) {x : Str} {pos : Pos} (hN : X.N[i]? = some x := by rfl) (hv : Vis X.env.scope x := by first | exact Or.inl rfl | exact Or.inr (Or.inl rfl) | exact Or.inr (Or.inr rfl)) (hd : (x == ("__debug__" : Str)) = false := by decide)
    (hcd : (x == ("__classdict__" : Str)) = false := by decide) : PE3 X E (.Name x pos) (tV3 i) := by
  refine ⟨mono_tV3, (pe_var hN hv hd hcd).imp fun σ H Q h => ?_⟩
  obtain ⟨π, F, ρ, δ, rel, q⟩ := h
  obtain ⟨x, e, q⟩ := q.to
  obtain ⟨v, e1, r⟩ := rel.dat i (.d x) e
  exact ⟨v, e1, q v H ρ Ext.refl rel r⟩
def tC3 (x : D) : T3 := fun _ δ Q => Q x δ
theorem mono_tC3 {x : D} : Mono3 (tC3 x) := fun _ _ _ _ _ _ hq q => hq _ _ q
theorem const3 {e : Expr} {v : V} {x : D} (h : PE X e (tC v)) (hr : ∀ O H, Rp X.K O H v x) : PE3 X E e (tC3 x) := by
  refine ⟨mono_tC3, h.imp fun σ H Q h => ?_⟩
  obtain ⟨π, F, ρ, δ, rel, q⟩ := h
  exact q v H ρ Ext.refl rel (hr _ _)
theorem int3 {i j pos} : PE3 X E (.Constant (.int i) j pos) (tC3 (.int i)) := const3 pe_int fun _ _ => .int i
theorem bl3 {b j pos} : PE3 X E (.Constant (.bool b) j pos) (tC3 (.bool b)) := const3 pe_bl fun _ _ => .bl b
theorem non3 {j pos} : PE3 X E (.Constant .none j pos) (tC3 .none) := const3 pe_non fun _ _ => .non
theorem str3 {x j pos} : PE3 X E (.Constant (.str x) j pos) (tC3 (.str x)) := const3 pe_str fun _ _ => .str x
theorem glob3 {x : Str} {v : V} {y : D} {u : Value} {pos : Pos} (hg : Gl X x) (hm : X.mg x = some u) (r : RelV v u) (hr : ∀ O H, Rp X.K O H v y) (hd : (x == ("__debug__" : Str)) = false := by decide) : PE3 X E (.Name x pos) (tC3 y) := const3 (pe_glob hg hm r hd) hr
theorem globI3 {x : Str} {i : Int} {t : Tok} {pos : Pos} (hg : Gl X x) (hm : X.mg x = some (.int i t)) (hd : (x == ("__debug__" : Str)) = false := by decide) : PE3 X E (.Name x pos) (tC3 (.int i)) := glob3 (v := .int i) hg hm ⟨_, rfl⟩ (fun _ _ => .int i) hd
variable {a b : Expr} {ta tb : T3} {pos : Pos}
def rII (C : Int → Int → Prop) (f : Int → Int → D) (x y : D) (k : D → Prop) : Prop := asI x fun i => asI y fun j => C i j ∧ k (f i j)
def rII0 (f : Int → Int → D) (x y : D) (k : D → Prop) : Prop := asI x fun i => asI y fun j => k (f i j)
theorem m_rII {C f} : M2 (rII C f) := fun x y k k' hk h => by
  obtain ⟨i, rfl, h1⟩ := asI.to h
  obtain ⟨j, rfl, c, h2⟩ := asI.to h1
  exact asI.of (asI.of ⟨c, hk _ h2⟩)
theorem m_rII0 {f} : M2 (rII0 f) := fun x y k k' hk h => by
  obtain ⟨i, rfl, h1⟩ := asI.to h
  obtain ⟨j, rfl, h2⟩ := asI.to h1
  exact asI.of (asI.of (hk _ h2))
theorem ok_rII {K : PySem.W.Frag} {C : Int → Int → Prop} {g : Int → Int → V} {f : Int → Int → D} (hf : ∀ i j O H, Rp K O H (g i j) (f i j)) : OpOk2 K (rI C g) (rII C f) := by
  intro O H v u x y k Q _ rx ry h hq
  obtain ⟨i, rfl, h1⟩ := asI.to h
  obtain ⟨j, rfl, c, h2⟩ := asI.to h1
  cases rx; cases ry
  exact ⟨i, j, rfl, rfl, c, hq _ _ H (Same.refl H) (hf i j O H) h2⟩
theorem ok_rII0 {K : PySem.W.Frag} {g : Int → Int → V} {f : Int → Int → D} (hf : ∀ i j O H, Rp K O H (g i j) (f i j)) : OpOk2 K (rI0 g) (rII0 f) := by
  intro O H v u x y k Q _ rx ry h hq
  obtain ⟨i, rfl, h1⟩ := asI.to h
  obtain ⟨j, rfl, h2⟩ := asI.to h1
  cases rx; cases ry
  exact ⟨i, j, rfl, rfl, hq _ _ H (Same.refl H) (hf i j O H) h2⟩
theorem sub3 (ha : PE3 X E a ta) (hb : PE3 X E b tb) : PE3 X E (.BinOp a .Sub b pos) (tB2 (rII0 fun i j => .int (i - j)) ta tb) := bin3 (fun _ _ h h' => pe_op op_sub h h') (ok_rII0 fun _ _ _ _ => .int _) m_rII0 ha hb
theorem mod3 (ha : PE3 X E a ta) (hb : PE3 X E b tb) : PE3 X E (.BinOp a .Mod b pos) (tB2 (rII (fun _ j => 0 < j) fun i j => .int (i % j)) ta tb) := bin3 (fun _ _ h h' => pe_op op_mod h h') (ok_rII fun _ _ _ _ => .int _) m_rII ha hb
theorem fdiv3 (ha : PE3 X E a ta) (hb : PE3 X E b tb) : PE3 X E (.BinOp a .FloorDiv b pos) (tB2 (rII CDiv fun i j => .int (i / j)) ta tb) := bin3 (fun _ _ h h' => pe_op op_fdiv h h') (ok_rII fun _ _ _ _ => .int _) m_rII ha hb
def CPw (i j : Int) : Prop := 0 ≤ j ∧ (Builtin.Int.intBits i : Int) * j ≤ 2 ^ 27
theorem op_pw : OpR X (binaryOp .Pow) (rI CPw fun i j => .int (i ^ j.toNat)) := opI fun _ _ _ _ _ _ _ hc q => PyProof.Rows.pow_int hc.1 hc.2 q
theorem pow3 (ha : PE3 X E a ta) (hb : PE3 X E b tb) : PE3 X E (.BinOp a .Pow b pos) (tB2 (rII CPw fun i j => .int (i ^ j.toNat)) ta tb) := bin3 (fun _ _ h h' => pe_op op_pw h h') (ok_rII fun _ _ _ _ => .int _) m_rII ha hb
theorem neg3 (ha : PE3 X E a ta) : PE3 X E (.UnaryOp .USub a pos) (tU3 (fun x k => asI x fun i => k (.int (-i))) ta) :=
  un3 (fun _ h => pe_un un_neg h) (fun O H v x k Q _ rx h hq => by
    obtain ⟨i, rfl, h1⟩ := asI.to h
    cases rx
    exact ⟨i, rfl, hq _ _ H (Same.refl H) (.int _) h1⟩) (fun x k k' hk h => by obtain ⟨i, rfl, h1⟩ := asI.to h; exact asI.of (hk _ h1)) ha
theorem same_upd {H : Hp} {p : Addr} {o : HO} (h : H p = none) : Same H (upd H p o) := fun b u e => by rw [upd_ne (ne_of_none e h)]; exact e
theorem Trk.fresh {O : Addr → Prop} {H : Hp} (t : Trk O H) {p : Addr} (h : H p = none) : ¬ O p := fun z => by
  obtain ⟨o, q⟩ := t p z
  rw [h] at q; cases q
theorem Rp.same {K : PySem.W.Frag} {O : Addr → Prop} {H H' : Hp} {v : V} {d : D} (s : Same H H') (h : Rp K O H v d) : Rp K O H' v d := h.ext (P := O) (Ext.same s) fun _ z => z
theorem RpAll.same {K : PySem.W.Frag} {O : Addr → Prop} {H H' : Hp} {v : List V} {d : List D} (s : Same H H') (h : RpAll K O H v d) : RpAll K O H' v d := h.ext (P := O) (Ext.same s) fun _ z => z
theorem rp_tup {K : PySem.W.Frag} {O : Addr → Prop} {H : Hp} {vs : List V} {ds : List D} {p : Addr} (t : Trk O H) (h : H p = none) (r : RpAll K O H vs ds) : Rp K O (upd H p (.tup vs)) (.ref p) (.tuple ds) :=
  .tup (.inl ⟨.inl upd_same, t.fresh h⟩) (r.same (same_upd h))
theorem rp_lst {K : PySem.W.Frag} {O : Addr → Prop} {H : Hp} {vs : List V} {ds : List D} {p : Addr} (t : Trk O H) (h : H p = none) (r : RpAll K O H vs ds) : Rp K O (upd H p (.lst vs)) (.ref p) (.list ds) :=
  .lst ⟨upd_same, t.fresh h⟩ (r.same (same_upd h))
theorem RpAll.length {K : PySem.W.Frag} {O : Addr → Prop} {H : Hp} : ∀ {vs : List V} {ds : List D}, RpAll K O H vs ds → vs.length = ds.length
  | _, _, .nil => rfl
  | _, _, .cons _ t => congrArg (· + 1) t.length
theorem RpAll.append {K : PySem.W.Frag} {O : Addr → Prop} {H : Hp} : ∀ {vs us : List V} {ds es : List D}, RpAll K O H vs ds → RpAll K O H us es → RpAll K O H (vs ++ us) (ds ++ es)
  | _, _, _, _, .nil, h => h
  | _, _, _, _, .cons r t, h => .cons r (t.append h)
theorem RpAll.get {K : PySem.W.Frag} {O : Addr → Prop} {H : Hp} : ∀ {vs : List V} {ds : List D} {i : Nat} {d : D}, RpAll K O H vs ds → ds[i]? = some d → ∃ v, vs[i]? = some v ∧ Rp K O H v d
  | _, _, _, _, .nil, h => by simp at h
  | _, _, 0, _, .cons r t, h => by simp at h; subst h; exact ⟨_, rfl, r⟩
  | _, _, i + 1, d, .cons r t, h => by
    obtain ⟨v, h1, h2⟩ := t.get (i := i) (d := d) (by simpa using h)
    exact ⟨v, by simpa using h1, h2⟩
theorem RpAll.drop {K : PySem.W.Frag} {O : Addr → Prop} {H : Hp} : ∀ {vs : List V} {ds : List D} (n : Nat), RpAll K O H vs ds → RpAll K O H (vs.drop n) (ds.drop n)
  | _, _, 0, h => h
  | _, _, _ + 1, .nil => .nil
  | _, _, n + 1, .cons _ t => t.drop n
theorem RpAll.take {K : PySem.W.Frag} {O : Addr → Prop} {H : Hp} : ∀ {vs : List V} {ds : List D} (n : Nat), RpAll K O H vs ds → RpAll K O H (vs.take n) (ds.take n)
  | _, _, 0, _ => .nil
  | _, _, _ + 1, .nil => .nil
  | _, _, n + 1, .cons r t => .cons r (t.take n)
theorem RpAll.reverse {K : PySem.W.Frag} {O : Addr → Prop} {H : Hp} : ∀ {vs : List V} {ds : List D}, RpAll K O H vs ds → RpAll K O H vs.reverse ds.reverse
  | _, _, .nil => .nil
  | _, _, .cons r t => by rw [List.reverse_cons, List.reverse_cons]; exact t.reverse.append (.cons r .nil)
theorem RpAll.set {K : PySem.W.Frag} {O : Addr → Prop} {H : Hp} {v : V} {d : D} (r : Rp K O H v d) : ∀ {vs : List V} {ds : List D} (i : Nat), RpAll K O H vs ds → RpAll K O H (vs.set i v) (ds.set i d)
  | _, _, _, .nil => .nil
  | _, _, 0, .cons _ t => .cons r t
  | _, _, i + 1, .cons q t => .cons q (t.set r i)
structure PA3 (X : Cx) (E : XK) (es : List Expr) (t : TA3) : Prop where
  mono : Mono3 t
  pa : PA X es (lift X.K E (RpAll X.K) t)
def tNil3 : TA3 := fun _ δ Q => Q [] δ
def tCons3 (ta : T3) (tr : TA3) : TA3 := fun E δ Q => ta E δ fun x δ1 => tr E δ1 fun xs δ2 => Q (x :: xs) δ2
theorem an3 : PA3 X E [] tNil3 := ⟨fun _ _ _ _ _ _ hq q => hq _ _ q, pa_nil.imp fun σ H Q h => by
  obtain ⟨π, F, ρ, δ, rel, q⟩ := h
  exact q [] H ρ Ext.refl rel .nil⟩
theorem ac3 {e : Expr} {es : List Expr} {te : T3} {t : TA3} (ha : PE3 X E e te) (hr : PA3 X E es t) (hs : starEach (e :: es) X.env = (false, eval e X.env) :: starEach es X.env := by rfl) : PA3 X E (e :: es) (tCons3 te t) := by
  refine ⟨fun _ _ _ _ _ he hq q => ha.mono _ _ _ _ _ he (fun x δ1 => hr.mono _ _ _ _ _ he fun xs δ2 => hq _ _) q, (pa_cons ha.pe hr.pa hs).imp fun σ H Q h => ?_⟩
  obtain ⟨π, F, ρ, δ, rel, q⟩ := h
  refine ⟨π, F, ρ, δ, rel, ha.mono _ _ _ _ _ (fun _ z => z) (fun x δ1 q v H1 ρ1 e1 rel1 r1 => ?_) q⟩
  refine ⟨π, F, ρ1, δ1, rel1, hr.mono _ _ _ _ _ (liftX.mono e1) (fun y δ2 q us H2 ρ2 e2 rel2 r2 => ?_) q⟩
  exact q (v :: us) H2 ρ2 (e1.trans e2) rel2 (.cons (r1.ext (e2.frn) fun _ => .inl) r2)
def tTup3 (t : TA3) : T3 := fun E δ Q => t E δ fun xs δ1 => xs.length ≤ sizeLine ∧ Q (.tuple xs) δ1
def tLst3 (t : TA3) : T3 := fun E δ Q => t E δ fun xs δ1 => xs.length ≤ sizeLine ∧ Q (.list xs) δ1
theorem tup3 {es : List Expr} {t : TA3} {x1} (h : PA3 X E es t) : PE3 X E (.Tuple es x1 pos) (tTup3 t) := by
  refine ⟨fun _ _ _ _ _ he hq q => h.mono _ _ _ _ _ he (fun xs δ1 z => ⟨z.1, hq _ _ z.2⟩) q, (pe_tup h.pa).imp fun σ H Q q => ?_⟩
  obtain ⟨π, F, ρ, δ, rel, q⟩ := q
  refine ⟨π, F, ρ, δ, rel, h.mono _ _ _ _ _ (fun _ z => z) (fun xs δ1 q vs H1 ρ1 e1 rel1 r1 => ⟨by rw [r1.length]; exact q.1, fun p hp => ?_⟩) q⟩
  exact q.2 (.ref p) _ ρ1 (e1.trans (Ext.same (same_upd hp))) (rel1.same (same_upd hp)) (rp_tup rel1.trk hp r1)
theorem lst3 {es : List Expr} {t : TA3} (h : PA3 X E es t) : PE3 X E (.List es pos) (tLst3 t) := by
  refine ⟨fun _ _ _ _ _ he hq q => h.mono _ _ _ _ _ he (fun xs δ1 z => ⟨z.1, hq _ _ z.2⟩) q, (pe_lst h.pa).imp fun σ H Q q => ?_⟩
  obtain ⟨π, F, ρ, δ, rel, q⟩ := q
  refine ⟨π, F, ρ, δ, rel, h.mono _ _ _ _ _ (fun _ z => z) (fun xs δ1 q vs H1 ρ1 e1 rel1 r1 => ⟨by rw [r1.length]; exact q.1, fun p hp => ?_⟩) q⟩
  exact q.2 (.ref p) _ ρ1 (e1.trans (Ext.same (same_upd hp))) (rel1.same (same_upd hp)) (rp_lst rel1.trk hp r1)
def rAdd3 (x y : D) (k : D → Prop) : Prop := match x, y with
  | .int i, .int j => k (.int (i + j))
  | .tuple xs, .tuple ys => xs.length + ys.length ≤ sizeLine ∧ k (.tuple (xs ++ ys))
  | .list xs, .list ys => xs.length + ys.length ≤ sizeLine ∧ k (.list (xs ++ ys))
  | .str i, .str j => i.length + j.length ≤ sizeLine ∧ k (.str (i ++ j))
  | _, _ => False
theorem m_rAdd3 : M2 rAdd3 := fun x y k k' hk h => by
  unfold rAdd3 at h ⊢
  split at h
  · exact hk _ h
  · exact ⟨h.1, hk _ h.2⟩
  · exact ⟨h.1, hk _ h.2⟩
  · exact ⟨h.1, hk _ h.2⟩
  · exact h.elim
end
end M3
set_option Elab.async false
set_option linter.all false
set_option maxRecDepth 100000
namespace M3
open PySem L2
variable [TabsC]
section
variable {X : Cx} {E : XK} {a b c e : Expr} {ta tb tc : T3} {pos : Pos}
theorem op_addA : OpR X (binaryOp .Add) (fun x y H Q => rI0 (fun i j => .int (i + j)) x y H Q ∨ rCatA X.K x y H Q ∨ rCat x y H Q ∨ (∃ i j, x = .str i ∧ y = .str j ∧ i.length + j.length ≤ sizeLine ∧ Q (.str (i ++ j)) H)) :=
  op_add.or (op_catA.or (op_cat.or op_add_str))
theorem ok_rAdd3 {K : PySem.W.Frag} : OpOk2 K (fun x y H Q => rI0 (fun i j => .int (i + j)) x y H Q ∨ rCatA K x y H Q ∨ rCat x y H Q ∨ (∃ i j, x = .str i ∧ y = .str j ∧ i.length + j.length ≤ sizeLine ∧ Q (.str (i ++ j)) H)) rAdd3 := by
  intro O H v u x y k Q tr rx ry h hq
  unfold rAdd3 at h
  split at h
  · cases rx; cases ry
    exact .inl ⟨_, _, rfl, rfl, hq _ _ H (Same.refl H) (.int _) h⟩
  · obtain ⟨hz, h⟩ := h
    cases rx with
    | tup ht hr =>
      cases ry with
      | tup ht' hr' =>
        refine .inr (.inl ⟨_, _, _, _, rfl, rfl, ht.sq, ht'.sq, by rw [hr.length, hr'.length]; exact hz, fun e => ?_, fun _ e => ?_, fun _ _ p hp => ?_⟩)
        · subst e; cases hr
          exact hq _ _ H (Same.refl H) (.tup ht' hr') h
        · subst e; cases hr'
          exact hq _ _ H (Same.refl H) (by rw [List.append_nil]; exact .tup ht hr) h
        · exact hq _ _ _ (same_upd hp) (rp_tup tr hp (hr.append hr')) h
  · obtain ⟨hz, h⟩ := h
    cases rx with
    | lst ht hr =>
      cases ry with
      | lst ht' hr' =>
        exact .inr (.inr (.inl ⟨_, _, _, _, rfl, rfl, ht.1, ht'.1, by rw [hr.length, hr'.length]; exact hz, fun p hp => hq _ _ _ (same_upd hp) (rp_lst tr hp (hr.append hr')) h⟩))
  · obtain ⟨hz, h⟩ := h
    cases rx; cases ry
    exact .inr (.inr (.inr ⟨_, _, rfl, rfl, hz, hq _ _ H (Same.refl H) (.str _) h⟩))
  · exact h.elim
theorem add3 (ha : PE3 X E a ta) (hb : PE3 X E b tb) : PE3 X E (.BinOp a .Add b pos) (tB2 rAdd3 ta tb) := bin3 (fun _ _ h h' => pe_op op_addA h h') ok_rAdd3 m_rAdd3 ha hb
theorem mulI3 (ha : PE3 X E a ta) (hb : PE3 X E b tb) : PE3 X E (.BinOp a .Mult b pos) (tB2 (rII CMul fun i j => .int (i * j)) ta tb) := bin3 (fun _ _ h h' => pe_op op_mul h h') (ok_rII fun _ _ _ _ => .int _) m_rII ha hb
theorem gt3 (ha : PE3 X E a ta) (hb : PE3 X E b tb) : PE3 X E (.Compare a [.Gt] [b] pos) (tB2 (rII0 fun i j => .bool (decide (j < i))) ta tb) := bin3 (fun _ _ h h' => pe_cmpR op_gt h h' (nomark _)) (ok_rII0 fun _ _ _ _ => .bl _) m_rII0 ha hb
theorem ge3 (ha : PE3 X E a ta) (hb : PE3 X E b tb) : PE3 X E (.Compare a [.GtE] [b] pos) (tB2 (rII0 fun i j => .bool (decide (j ≤ i))) ta tb) := bin3 (fun _ _ h h' => pe_cmpR op_ge h h' (nomark _)) (ok_rII0 fun _ _ _ _ => .bl _) m_rII0 ha hb
theorem lt3T (ha : PE3 X E a ta) (hb : PE3 X E b tb) : PT3 X E (.Compare a [.Lt] [b] pos) (tBool (tB2 (rII0 fun i j => .bool (decide (i < j))) ta tb)) := bin3T (fun _ _ h h' => pt_cmpR op_lt h h' (nomark _)) (ok_rII0 fun _ _ _ _ => .bl _) m_rII0 ha hb
theorem gt3T (ha : PE3 X E a ta) (hb : PE3 X E b tb) : PT3 X E (.Compare a [.Gt] [b] pos) (tBool (tB2 (rII0 fun i j => .bool (decide (j < i))) ta tb)) := bin3T (fun _ _ h h' => pt_cmpR op_gt h h' (nomark _)) (ok_rII0 fun _ _ _ _ => .bl _) m_rII0 ha hb
mutual
theorem Rp.dp {K : PySem.W.Frag} {O : Addr → Prop} {H : Hp} : ∀ {v : V} {d : D}, d.plain = true → Rp K O H v d → Dp K H v d
  | _, _, _, .non => .non
  | _, _, _, .bl b => .bl b
  | _, _, _, .int i => .int i
  | _, _, _, .str x => .str x
  | _, _, p, .lst h r => .lst h.sq (RpAll.dp p r)
  | _, _, p, .tup h r => .tup h.sq (RpAll.dp p r)
  | _, _, p, .dic h n r => by cases p
theorem RpAll.dp {K : PySem.W.Frag} {O : Addr → Prop} {H : Hp} : ∀ {v : List V} {d : List D}, PyData.plainAll d = true → RpAll K O H v d → DpAll K H v d
  | _, _, _, .nil => .nil
  | _, _, p, .cons r t => by
    have p' := Bool.and_eq_true_iff.mp p
    exact .cons (Rp.dp p'.1 r) (RpAll.dp p'.2 t)
end
def rEqP (K : PySem.W.Frag) : R2 := fun x y H Q => ∃ d e, Dp K H x d ∧ Dp K H y e ∧ d.plain = true ∧ e.plain = true ∧ min d.depth e.depth ≤ 64 ∧ Q (.bl (PyData.eqv d e)) H
def rNeP (K : PySem.W.Frag) : R2 := fun x y H Q => ∃ d e, Dp K H x d ∧ Dp K H y e ∧ d.plain = true ∧ e.plain = true ∧ min d.depth e.depth ≤ 64 ∧ Q (.bl (!PyData.eqv d e)) H
theorem op_eqP (hu : X.A.units + 64 < cLine) : OpR X (compareOp .Eq) (rEqP X.K) := by
  intro pins s σ H x y v u Q I rx ry h
  obtain ⟨d, e, hd, he, sd, se, hz, q⟩ := h
  obtain ⟨as, r1⟩ := Dp.reads I d x v hd rx
  obtain ⟨bs, r2⟩ := Dp.reads I e y u he ry
  exact SeqAt.eq_plain r1 r2 sd se (by omega) ⟨.bl _, H, I, rfl, q⟩
theorem op_neP (hu : X.A.units + 64 < cLine) : OpR X (compareOp .NotEq) (rNeP X.K) := by
  intro pins s σ H x y v u Q I rx ry h
  obtain ⟨d, e, hd, he, sd, se, hz, q⟩ := h
  obtain ⟨as, r1⟩ := Dp.reads I d x v hd rx
  obtain ⟨bs, r2⟩ := Dp.reads I e y u he ry
  exact SeqAt.ne_plain r1 r2 sd se (by omega) ⟨.bl _, H, I, rfl, q⟩
def rEqNT (K : PySem.W.Frag) (f : Bool → Bool) : R2 := fun x y H Q => ∃ a b xs, x = .ref a ∧ y = .ref b ∧ SqT K H a xs ∧ SqT K H b [] ∧ Q (.bl (f xs.isEmpty)) H
theorem op_eqNT (hu : X.A.units + 64 < cLine) : OpR X (compareOp .Eq) (rEqNT X.K id) := by
  intro pins s σ H x y v u Q I rx ry h
  obtain ⟨a, b, xs, rfl, rfl, ha, hb, q⟩ := h
  cases rx; cases ry
  obtain ⟨its, r1, p1, _⟩ := I.tuple ha
  obtain ⟨its2, r2, p2, _⟩ := I.tuple hb
  cases r2
  have e : ((List.range (min its.toArray.size ([] : List Value).toArray.size)).all (fun _ => true) && its.toArray.size == ([] : List Value).toArray.size) = xs.isEmpty := by
    have hl := r1.length
    cases xs with
    | nil => cases its with
      | nil => rfl
      | cons _ _ => simp at hl
    | cons _ _ => cases its with
      | nil => simp at hl
      | cons _ _ => simp
  exact SeqAt.RcAt.tuples (e := fun _ => true) (show s.heap.IsTuple a its.toArray from p1) (show s.heap.IsTuple b ([] : List Value).toArray from p2) (by omega) (fun j _ h2 => by simp at h2) X.prog X.w X.xe _ ⟨.bl _, H, I, by rw [e]; rfl, q⟩
theorem op_neNT (hu : X.A.units + 64 < cLine) : OpR X (compareOp .NotEq) (rEqNT X.K not) := by
  intro pins s σ H x y v u Q I rx ry h
  obtain ⟨a, b, xs, rfl, rfl, ha, hb, q⟩ := h
  cases rx; cases ry
  obtain ⟨its, r1, p1, _⟩ := I.tuple ha
  obtain ⟨its2, r2, p2, _⟩ := I.tuple hb
  cases r2
  have e : ((List.range (min its.toArray.size ([] : List Value).toArray.size)).all (fun _ => true) && its.toArray.size == ([] : List Value).toArray.size) = xs.isEmpty := by
    have hl := r1.length
    cases xs with
    | nil => cases its with
      | nil => rfl
      | cons _ _ => simp at hl
    | cons _ _ => cases its with
      | nil => simp at hl
      | cons _ _ => simp
  exact SeqAt.RcNeAt.tuples (e := fun _ => true) (show s.heap.IsTuple a its.toArray from p1) (show s.heap.IsTuple b ([] : List Value).toArray from p2) (by omega) (fun j _ h2 => by simp at h2) X.prog X.w X.xe _ ⟨.bl _, H, I, by rw [e]; rfl, q⟩
theorem op_eqA (hu : X.A.units + 64 < cLine) : OpR X (compareOp .Eq) (fun x y H Q => rEqP X.K x y H Q ∨ rEqNT X.K id x y H Q) := (op_eqP hu).or (op_eqNT hu)
theorem op_neA (hu : X.A.units + 64 < cLine) : OpR X (compareOp .NotEq) (fun x y H Q => rNeP X.K x y H Q ∨ rEqNT X.K not x y H Q) := (op_neP hu).or (op_neNT hu)
def rEq3 (f : Bool → Bool) (x y : D) (k : D → Prop) : Prop := match x, y with
  | .int i, .int j => k (.bool (f (decide (i = j))))
  | .bool i, .bool j => k (.bool (f (decide (i = j))))
  | .str i, .str j => k (.bool (f (decide (i = j))))
  | .tuple xs, .tuple [] => k (.bool (f xs.isEmpty))
  | x, y => x.plain = true ∧ y.plain = true ∧ min x.depth y.depth ≤ 64 ∧ k (.bool (f (PyData.eqv x y)))
theorem rEq3.to {f : Bool → Bool} {x y : D} {k : D → Prop} (h : rEq3 f x y k) : (x.plain = true ∧ y.plain = true ∧ min x.depth y.depth ≤ 64 ∧ k (.bool (f (PyData.eqv x y)))) ∨ ∃ xs, x = .tuple xs ∧ y = .tuple [] ∧ k (.bool (f xs.isEmpty)) := by
  unfold rEq3 at h
  split at h
  · exact .inl ⟨rfl, rfl, by simp [PyData.depth], by simp only [PyData.eqv]; rw [Bool.beq_eq_decide_eq]; exact h⟩
  · exact .inl ⟨rfl, rfl, by simp [PyData.depth], by simp only [PyData.eqv]; rw [Bool.beq_eq_decide_eq]; exact h⟩
  · rename_i i j
    refine .inl ⟨rfl, rfl, by simp [PyData.depth], ?_⟩
    have e : (i == j) = decide (i = j) := by
      by_cases z : i = j
      · subst z; simp
      · rw [decide_eq_false z]; exact beq_eq_false_iff_ne.mpr z
    simp only [PyData.eqv]
    rw [e]
    exact h
  · exact .inr ⟨_, rfl, rfl, h⟩
  · exact .inl h
theorem m_rEq3 {f} : M2 (rEq3 f) := fun x y k k' hk h => by
  unfold rEq3 at h ⊢
  split at h
  · exact hk _ h
  · exact hk _ h
  · exact hk _ h
  · exact hk _ h
  · exact ⟨h.1, h.2.1, h.2.2.1, hk _ h.2.2.2⟩
theorem eq3 (hu : X.A.units + 64 < cLine) (ha : PE3 X E a ta) (hb : PE3 X E b tb) : PE3 X E (.Compare a [.Eq] [b] pos) (tB2 (rEq3 id) ta tb) := bin3 (fun _ _ h h' => pe_cmpR (op_eqA hu) h h' (nomark _)) (fun O H v u x y k Q _ rx ry h hq => by
  rcases h.to with ⟨p1, p2, z, h⟩ | ⟨xs, rfl, rfl, h⟩
  · exact .inl ⟨x, y, rx.dp p1, ry.dp p2, p1, p2, z, hq _ _ H (Same.refl H) (.bl _) h⟩
  · cases rx with
    | tup ht hr => cases ry with
      | tup ht' hr' =>
        cases hr'
        exact .inr ⟨_, _, _, rfl, rfl, ht.sq, ht'.sq, hq _ _ H (Same.refl H) (by have := hr.length; cases hr <;> exact .bl _) h⟩) m_rEq3 ha hb
theorem eq3T (hu : X.A.units + 64 < cLine) (ha : PE3 X E a ta) (hb : PE3 X E b tb) : PT3 X E (.Compare a [.Eq] [b] pos) (tBool (tB2 (rEq3 id) ta tb)) := bin3T (fun _ _ h h' => pt_cmpR (op_eqA hu) h h' (nomark _)) (fun O H v u x y k Q _ rx ry h hq => by
  rcases h.to with ⟨p1, p2, z, h⟩ | ⟨xs, rfl, rfl, h⟩
  · exact .inl ⟨x, y, rx.dp p1, ry.dp p2, p1, p2, z, hq _ _ H (Same.refl H) (.bl _) h⟩
  · cases rx with
    | tup ht hr => cases ry with
      | tup ht' hr' =>
        cases hr'
        exact .inr ⟨_, _, _, rfl, rfl, ht.sq, ht'.sq, hq _ _ H (Same.refl H) (by have := hr.length; cases hr <;> exact .bl _) h⟩) m_rEq3 ha hb
theorem ne3T (hu : X.A.units + 64 < cLine) (ha : PE3 X E a ta) (hb : PE3 X E b tb) : PT3 X E (.Compare a [.NotEq] [b] pos) (tBool (tB2 (rEq3 not) ta tb)) := bin3T (fun _ _ h h' => pt_cmpR (op_neA hu) h h' (nomark _)) (fun O H v u x y k Q _ rx ry h hq => by
  rcases h.to with ⟨p1, p2, z, h⟩ | ⟨xs, rfl, rfl, h⟩
  · exact .inl ⟨x, y, rx.dp p1, ry.dp p2, p1, p2, z, hq _ _ H (Same.refl H) (.bl _) h⟩
  · cases rx with
    | tup ht hr => cases ry with
      | tup ht' hr' =>
        cases hr'
        exact .inr ⟨_, _, _, rfl, rfl, ht.sq, ht'.sq, hq _ _ H (Same.refl H) (by have := hr.length; cases hr <;> exact .bl _) h⟩) m_rEq3 ha hb
def isNone (x : D) : Bool := match x with | .none => true | _ => false
theorem Rp.isNone {K : PySem.W.Frag} {O : Addr → Prop} {H : Hp} {v : V} {d : D} (h : Rp K O H v d) : decide (v = .non) = M3.isNone d := by
  cases h <;> simp [M3.isNone]
theorem isN3 {j pos'} (ha : PE3 X E a ta) : PE3 X E (.Compare a [.Is] [.Constant .none j pos'] pos) (tU3 (fun x k => k (.bool (isNone x))) ta) :=
  un3 (r := fun x H Q => Q (.bl (decide (x = .non))) H) (fun _ h => pe_cmp (pc_isN h)) (fun O H v x k Q _ rx h hq => by
    show Q (.bl (decide (v = .non))) H
    rw [rx.isNone]
    exact hq _ _ H (Same.refl H) (.bl _) h) (fun x k k' hk h => hk _ h) ha
theorem un3T {a e : Expr} {ta : T3} {r : V → Hp → VK → Prop} {r3} (mk : ∀ ta', PE X a ta' → PT X e (tB (tUn r ta'))) (hr : OpOk1 X.K r r3) (m : M1 r3) (ha : PE3 X E a ta) : PT3 X E e (tBool (tU3 r3 ta)) :=
  ⟨mono_tBool (mono_tU3 ha.mono m), (mk _ ha.pe).imp fun σ H Q h => lift_un (t := ta) (X := X) (E := E) ha.mono hr (lift_bool (mono_tU3 ha.mono m) h)⟩
theorem isN3T {j pos'} (ha : PE3 X E a ta) : PT3 X E (.Compare a [.Is] [.Constant .none j pos'] pos) (tBool (tU3 (fun x k => k (.bool (isNone x))) ta)) :=
  un3T (r := fun x H Q => Q (.bl (decide (x = .non))) H) (fun _ h => pt_cmp (pc_isN h)) (fun O H v x k Q _ rx h hq => by
    show Q (.bl (decide (v = .non))) H
    rw [rx.isNone]
    exact hq _ _ H (Same.refl H) (.bl _) h) (fun x k k' hk h => hk _ h) ha
theorem isNotN3T {j pos'} (ha : PE3 X E a ta) : PT3 X E (.Compare a [.IsNot] [.Constant .none j pos'] pos) (tBool (tU3 (fun x k => k (.bool (!isNone x))) ta)) :=
  un3T (r := fun x H Q => Q (.bl (!decide (x = .non))) H) (fun _ h => pt_cmp (pc_notN h)) (fun O H v x k Q _ rx h hq => by
    show Q (.bl (!decide (v = .non))) H
    rw [rx.isNone]
    exact hq _ _ H (Same.refl H) (.bl _) h) (fun x k k' hk h => hk _ h) ha
def tCh (f g : Int → Int → Bool) (ta tb tc : T3) : T3 := fun E δ Q => ta E δ fun x δ1 => tb E δ1 fun y δ2 => asI x fun i => asI y fun j => br (f i j) (tc E δ2 fun z δ3 => asI z fun k => Q (.bool (g j k)) δ3) (Q (.bool false) δ2)
theorem mono_tCh {f g} (ha : Mono3 ta) (hb : Mono3 tb) (hc : Mono3 tc) : Mono3 (tCh f g ta tb tc) := fun _ _ _ _ _ he hq q => ha _ _ _ _ _ he (fun x δ1 => hb _ _ _ _ _ he fun y δ2 z => by
  obtain ⟨i, rfl, z1⟩ := asI.to z
  obtain ⟨j, rfl, z2⟩ := asI.to z1
  exact asI.of (asI.of (z2.imp (hc _ _ _ _ _ he fun w δ3 z3 => by obtain ⟨k, rfl, z4⟩ := asI.to z3; exact asI.of (hq _ _ z4)) (hq _ _)))) q
theorem lift_ch {f g : Int → Int → Bool} (ha : Mono3 ta) (hb : Mono3 tb) (hc : Mono3 tc) {σ : St} {H : Hp} {Q : VK} (h : lift X.K E (Rp X.K) (tCh f g ta tb tc) σ H Q) :
    tChain (rI0 fun i j => .bl (f i j)) (rI0 fun i j => .bl (g i j)) (lift X.K E (Rp X.K) ta) (lift X.K E (Rp X.K) tb) (lift X.K E (Rp X.K) tc) σ H Q := by
  obtain ⟨π, F, ρ, δ, rel, q⟩ := h
  refine ⟨π, F, ρ, δ, rel, ha _ _ _ _ _ (fun _ z => z) (fun x δ1 q v H1 ρ1 e1 rel1 r1 => ?_) q⟩
  refine ⟨π, F, ρ1, δ1, rel1, hb _ _ _ _ _ (liftX.mono e1) (fun y δ2 q u H2 ρ2 e2 rel2 r2 => ?_) q⟩
  obtain ⟨i, rfl, q1⟩ := asI.to q
  obtain ⟨j, rfl, q2⟩ := asI.to q1
  cases r1; cases r2
  refine ⟨i, j, rfl, rfl, _, rfl, (q2.imp (fun q => ?_) (fun q => ?_)).ite⟩
  · refine ⟨π, F, ρ2, δ2, rel2, hc _ _ _ _ _ (liftX.mono (e1.trans e2)) (fun w δ3 q w' H3 ρ3 e3 rel3 r3 => ?_) q⟩
    obtain ⟨k, rfl, q1⟩ := asI.to q
    cases r3
    exact ⟨j, k, rfl, rfl, q1 _ H3 ρ3 ((e1.trans e2).trans e3) rel3 (.bl _)⟩
  · exact q _ H2 ρ2 (e1.trans e2) rel2 (.bl _)
theorem chLeLt3 (ha : PE3 X E a ta) (hb : PE3 X E b tb) (hc : PE3 X E c tc) (hm : lastMarks [.LtE, .Lt] [b, c] = false := by with_unfolding_all rfl) : PE3 X E (.Compare a [.LtE, .Lt] [b, c] pos) (tCh (fun i j => decide (i ≤ j)) (fun i j => decide (i < j)) ta tb tc) :=
  ⟨mono_tCh ha.mono hb.mono hc.mono, (pe_chain op_le op_lt ha.pe hb.pe hc.pe hm).imp fun _ _ _ h => lift_ch ha.mono hb.mono hc.mono h⟩
theorem chLeLe3 (ha : PE3 X E a ta) (hb : PE3 X E b tb) (hc : PE3 X E c tc) (hm : lastMarks [.LtE, .LtE] [b, c] = false := by with_unfolding_all rfl) : PE3 X E (.Compare a [.LtE, .LtE] [b, c] pos) (tCh (fun i j => decide (i ≤ j)) (fun i j => decide (i ≤ j)) ta tb tc) :=
  ⟨mono_tCh ha.mono hb.mono hc.mono, (pe_chain op_le op_le ha.pe hb.pe hc.pe hm).imp fun _ _ _ h => lift_ch ha.mono hb.mono hc.mono h⟩
theorem chLeLt3T (ha : PE3 X E a ta) (hb : PE3 X E b tb) (hc : PE3 X E c tc) (hm : lastMarks [.LtE, .Lt] [b, c] = false := by with_unfolding_all rfl) : PT3 X E (.Compare a [.LtE, .Lt] [b, c] pos) (tBool (tCh (fun i j => decide (i ≤ j)) (fun i j => decide (i < j)) ta tb tc)) :=
  ⟨mono_tBool (mono_tCh ha.mono hb.mono hc.mono), (pt_chain op_le op_lt ha.pe hb.pe hc.pe hm).imp fun _ _ _ h => lift_ch ha.mono hb.mono hc.mono (lift_bool (mono_tCh ha.mono hb.mono hc.mono) h)⟩
theorem chLeLe3T (ha : PE3 X E a ta) (hb : PE3 X E b tb) (hc : PE3 X E c tc) (hm : lastMarks [.LtE, .LtE] [b, c] = false := by with_unfolding_all rfl) : PT3 X E (.Compare a [.LtE, .LtE] [b, c] pos) (tBool (tCh (fun i j => decide (i ≤ j)) (fun i j => decide (i ≤ j)) ta tb tc)) :=
  ⟨mono_tBool (mono_tCh ha.mono hb.mono hc.mono), (pt_chain op_le op_le ha.pe hb.pe hc.pe hm).imp fun _ _ _ h => lift_ch ha.mono hb.mono hc.mono (lift_bool (mono_tCh ha.mono hb.mono hc.mono) h)⟩
variable {tA tB' : TB3} {rest : List Expr}
def tAnd3 (t u : TB3) : TB3 := fun E δ Q => t E δ fun c δ1 => br c (u E δ1 Q) (Q false δ1)
def tOr3 (t u : TB3) : TB3 := fun E δ Q => t E δ fun c δ1 => br c (Q true δ1) (u E δ1 Q)
def tNot3 (t : TB3) : TB3 := fun E δ Q => t E δ fun c δ1 => Q (!c) δ1
theorem mono_tAnd3 {t u : TB3} (h : Mono3 t) (h' : Mono3 u) : Mono3 (tAnd3 t u) := fun _ _ _ _ _ he hq q => h _ _ _ _ _ he (fun c δ1 z => z.imp (h' _ _ _ _ _ he hq) (hq _ _)) q
theorem mono_tOr3 {t u : TB3} (h : Mono3 t) (h' : Mono3 u) : Mono3 (tOr3 t u) := fun _ _ _ _ _ he hq q => h _ _ _ _ _ he (fun c δ1 z => z.imp (hq _ _) (h' _ _ _ _ _ he hq)) q
theorem mono_tNot3 {t : TB3} (h : Mono3 t) : Mono3 (tNot3 t) := fun _ _ _ _ _ he hq q => h _ _ _ _ _ he (fun c δ1 z => hq _ _ z) q
abbrev RB : (Addr → Prop) → Hp → Bool → Bool → Prop := fun _ _ x y => x = y
theorem and1_3 (ha : PT3 X E a tA) : PW3 X E (.BoolOp .And [a] pos) tA := ⟨ha.mono, pw_and1 ha.pe⟩
theorem or1_3 (ha : PT3 X E a tA) : PW3 X E (.BoolOp .Or [a] pos) tA := ⟨ha.mono, pw_or1 ha.pe⟩
theorem and3 (ha : PT3 X E a tA) (hb : PW3 X E (.BoolOp .And (b :: rest) pos) tB') : PW3 X E (.BoolOp .And (a :: b :: rest) pos) (tAnd3 tA tB') := by
  refine ⟨mono_tAnd3 ha.mono hb.mono, (pw_and ha.pe hb.pe).imp fun σ H Q h => ?_⟩
  obtain ⟨π, F, ρ, δ, rel, q⟩ := h
  refine ⟨π, F, ρ, δ, rel, ha.mono _ _ _ _ _ (fun _ z => z) (fun x δ1 q v H1 ρ1 e1 rel1 r1 => ?_) q⟩
  subst r1
  refine (q.imp (fun q => ?_) (fun q => ?_)).ite
  · exact ⟨π, F, ρ1, δ1, rel1, hb.mono _ _ _ _ _ (liftX.mono e1) (fun y δ2 q u H2 ρ2 e2 rel2 r2 => q u H2 ρ2 (e1.trans e2) rel2 r2) q⟩
  · exact q false H1 ρ1 e1 rel1 rfl
theorem or3 (ha : PT3 X E a tA) (hb : PW3 X E (.BoolOp .Or (b :: rest) pos) tB') : PW3 X E (.BoolOp .Or (a :: b :: rest) pos) (tOr3 tA tB') := by
  refine ⟨mono_tOr3 ha.mono hb.mono, (pw_or ha.pe hb.pe).imp fun σ H Q h => ?_⟩
  obtain ⟨π, F, ρ, δ, rel, q⟩ := h
  refine ⟨π, F, ρ, δ, rel, ha.mono _ _ _ _ _ (fun _ z => z) (fun x δ1 q v H1 ρ1 e1 rel1 r1 => ?_) q⟩
  subst r1
  refine (q.imp (fun q => ?_) (fun q => ?_)).ite
  · exact q true H1 ρ1 e1 rel1 rfl
  · exact ⟨π, F, ρ1, δ1, rel1, hb.mono _ _ _ _ _ (liftX.mono e1) (fun y δ2 q u H2 ρ2 e2 rel2 r2 => q u H2 ρ2 (e1.trans e2) rel2 r2) q⟩
theorem not3 (ha : PT3 X E a tA) : PT3 X E (.UnaryOp .Not a pos) (tNot3 tA) := by
  refine ⟨mono_tNot3 ha.mono, (pt_not ha.pe).imp fun σ H Q h => ?_⟩
  obtain ⟨π, F, ρ, δ, rel, q⟩ := h
  refine ⟨π, F, ρ, δ, rel, ha.mono _ _ _ _ _ (fun _ z => z) (fun x δ1 q v H1 ρ1 e1 rel1 r1 => ?_) q⟩
  subst r1
  exact q _ H1 ρ1 e1 rel1 rfl
def tAndV3 (ta tb : T3) : T3 := fun E δ Q => ta E δ fun x δ1 => asB x fun c => br c (tb E δ1 Q) (Q (.bool false) δ1)
def tOrV3 (ta tb : T3) : T3 := fun E δ Q => ta E δ fun x δ1 => asB x fun c => br c (Q (.bool true) δ1) (tb E δ1 Q)
theorem one3 {op} (h : PE3 X E a ta) : PE3 X E (.BoolOp op [a] pos) ta := ⟨h.mono, pe_one h.pe⟩
theorem andV3 (ha : PE3 X E a ta) (hb : PE3 X E (.BoolOp .And (b :: rest) pos) tb) : PE3 X E (.BoolOp .And (a :: b :: rest) pos) (tAndV3 ta tb) := by
  refine ⟨fun _ _ _ _ _ he hq q => ha.mono _ _ _ _ _ he (fun x δ1 z => by obtain ⟨c, rfl, z1⟩ := asB.to z; exact asB.of (z1.imp (hb.mono _ _ _ _ _ he hq) (hq _ _))) q, (pe_and ha.pe hb.pe).imp fun σ H Q h => ?_⟩
  obtain ⟨π, F, ρ, δ, rel, q⟩ := h
  refine ⟨π, F, ρ, δ, rel, ha.mono _ _ _ _ _ (fun _ z => z) (fun x δ1 q v H1 ρ1 e1 rel1 r1 => ?_) q⟩
  obtain ⟨c, rfl, q1⟩ := asB.to q
  cases r1
  refine ⟨c, rfl, (q1.imp (fun q => ?_) (fun q => ?_)).ite⟩
  · exact ⟨π, F, ρ1, δ1, rel1, hb.mono _ _ _ _ _ (liftX.mono e1) (fun y δ2 q u H2 ρ2 e2 rel2 r2 => q u H2 ρ2 (e1.trans e2) rel2 r2) q⟩
  · exact q _ H1 ρ1 e1 rel1 (.bl _)
theorem notV3 (ha : PE3 X E a ta) : PE3 X E (.UnaryOp .Not a pos) (tU3 (fun x k => asB x fun c => k (.bool (!c))) ta) :=
  un3 (r := fun x H Q => ∃ c, x = .bl c ∧ Q (.bl (!c)) H) (fun _ h => pe_not h) (fun O H v x k Q _ rx h hq => by
    obtain ⟨c, rfl, h1⟩ := asB.to h
    cases rx
    exact ⟨c, rfl, hq _ _ H (Same.refl H) (.bl _) h1⟩) (fun x k k' hk h => by obtain ⟨c, rfl, h1⟩ := asB.to h; exact asB.of (hk _ h1)) ha
def tIf3 (t : TB3) (ta tb : T3) : T3 := fun E δ Q => t E δ fun c δ1 => br c (ta E δ1 Q) (tb E δ1 Q)
theorem ifx3 {c : Expr} (hc : PT3 X E c tA) (ha : PE3 X E a ta) (hb : PE3 X E b tb) : PE3 X E (.IfExp c a b pos) (tIf3 tA ta tb) := by
  refine ⟨fun _ _ _ _ _ he hq q => hc.mono _ _ _ _ _ he (fun c δ1 z => z.imp (ha.mono _ _ _ _ _ he hq) (hb.mono _ _ _ _ _ he hq)) q, (pe_ifExp hc.pe ha.pe hb.pe).imp fun σ H Q h => ?_⟩
  obtain ⟨π, F, ρ, δ, rel, q⟩ := h
  refine ⟨π, F, ρ, δ, rel, hc.mono _ _ _ _ _ (fun _ z => z) (fun x δ1 q v H1 ρ1 e1 rel1 r1 => ?_) q⟩
  subst r1
  refine (q.imp (fun q => ?_) (fun q => ?_)).ite
  · exact ⟨π, F, ρ1, δ1, rel1, ha.mono _ _ _ _ _ (liftX.mono e1) (fun y δ2 q u H2 ρ2 e2 rel2 r2 => q u H2 ρ2 (e1.trans e2) rel2 r2) q⟩
  · exact ⟨π, F, ρ1, δ1, rel1, hb.mono _ _ _ _ _ (liftX.mono e1) (fun y δ2 q u H2 ρ2 e2 rel2 r2 => q u H2 ρ2 (e1.trans e2) rel2 r2) q⟩
end
end M3
set_option Elab.async false
set_option linter.all false
set_option maxRecDepth 100000
namespace M3
open PySem L2
variable [TabsC]
section
variable {X : Cx} {E : XK} {a b c e : Expr} {ta tb tc : T3} {pos : Pos}
def rIx3 (x y : D) (k : D → Prop) : Prop := match x with
  | .tuple xs => asI y fun i => ∃ d, atI xs i = some d ∧ k d
  | .list xs => asI y fun i => ∃ d, atI xs i = some d ∧ k d
  | _ => False
theorem m_rIx3 : M2 rIx3 := fun x y k k' hk h => by
  unfold rIx3 at h ⊢
  split at h
  · obtain ⟨i, rfl, d, e, z⟩ := asI.to h; exact asI.of ⟨d, e, hk _ z⟩
  · obtain ⟨i, rfl, d, e, z⟩ := asI.to h; exact asI.of ⟨d, e, hk _ z⟩
  · exact h.elim
theorem RpAll.atI {K : PySem.W.Frag} {O : Addr → Prop} {H : Hp} {vs : List V} {ds : List D} {i : Int} {d : D} (r : RpAll K O H vs ds) (h : L2.atI ds i = some d) : ∃ v, L2.atI vs i = some v ∧ Rp K O H v d := by
  unfold L2.atI at h ⊢
  rw [r.length]
  cases q : ixN ds.length i with
  | none => rw [q] at h; cases h
  | some j =>
    rw [q] at h
    exact r.get (show ds[j]? = some d from h)
theorem ok_rIx3 {K : PySem.W.Frag} : OpOk2 K (fun x y H Q => rIxL K x y H Q ∨ rIxT K x y H Q) rIx3 := by
  intro O H v u x y k Q tr rx ry h hq
  unfold rIx3 at h
  split at h
  · obtain ⟨i, rfl, d, e, z⟩ := asI.to h
    cases ry
    cases rx with
    | tup ht hr =>
      obtain ⟨w, e', r'⟩ := hr.atI e
      exact .inr ⟨_, _, i, w, rfl, rfl, ht.sq, e', hq _ _ H (Same.refl H) r' z⟩
  · obtain ⟨i, rfl, d, e, z⟩ := asI.to h
    cases ry
    cases rx with
    | lst ht hr =>
      obtain ⟨w, e', r'⟩ := hr.atI e
      exact .inl ⟨_, _, i, w, rfl, rfl, ht.sq, e', hq _ _ H (Same.refl H) r' z⟩
  · exact h.elim
theorem ix3 (ha : PE3 X E a ta) (hb : PE3 X E b tb) (hs : PlainIx b := by exact fun _ _ => rfl) : PE3 X E (.Subscript a b pos) (tB2 rIx3 ta tb) := bin3 (fun _ _ h h' => pe_ix (ix_list.or ix_tup) h h' hs) ok_rIx3 m_rIx3 ha hb
def cutG {α : Type} (xs : List α) (lo hi : Option Int) : List α := (xs.drop (HT.sIx xs.length 0 lo)).take (HT.sIx xs.length xs.length hi - HT.sIx xs.length 0 lo)
theorem RpAll.cut {K : PySem.W.Frag} {O : Addr → Prop} {H : Hp} {vs : List V} {ds : List D} (r : RpAll K O H vs ds) (lo hi : Option Int) : RpAll K O H (cutV vs lo hi) (cutG ds lo hi) := by
  unfold cutV cutG
  rw [r.length]
  exact (r.drop _).take _
def rSl3 (x : D) (lo hi : Option Int) (k : D → Prop) : Prop := match x with
  | .tuple xs => k (.tuple (cutG xs lo hi))
  | .list xs => k (.list (cutG xs lo hi))
  | _ => False
abbrev TO3 := G3 (Option Int)
structure PO3 (X : Cx) (E : XK) (e : Option Expr) (t : TO3) : Prop where
  mono : Mono3 t
  po : PO X e (lift X.K E (fun _ _ (x y : Option Int) => x = y) t)
theorem _root_.L2.PO.imp {X : Cx} {e : Option Expr} {t t' : TO} (h : PO X e t) (k : ∀ σ H Q, t' σ H Q → t σ H Q) : PO X e t' := ⟨fun pins s σ H Q I q => h.run pins s σ H Q I (k σ H Q q)⟩
def tNoP3 : TO3 := fun _ δ Q => Q none δ
def tP3 (t : T3) : TO3 := fun E δ Q => t E δ fun x δ1 => asI x fun i => Q (some i) δ1
theorem pn3 : PO3 X E none tNoP3 := ⟨fun _ _ _ _ _ _ hq q => hq _ _ q, po_none.imp fun σ H Q h => by
  obtain ⟨π, F, ρ, δ, rel, q⟩ := h
  exact q none H ρ Ext.refl rel rfl⟩
theorem ps3 (ha : PE3 X E a ta) : PO3 X E (some a) (tP3 ta) := by
  refine ⟨fun _ _ _ _ _ he hq q => ha.mono _ _ _ _ _ he (fun x δ1 z => by obtain ⟨i, rfl, z1⟩ := asI.to z; exact asI.of (hq _ _ z1)) q, (po_some ha.pe).imp fun σ H Q h => ?_⟩
  obtain ⟨π, F, ρ, δ, rel, q⟩ := h
  refine ⟨π, F, ρ, δ, rel, ha.mono _ _ _ _ _ (fun _ z => z) (fun x δ1 q v H1 ρ1 e1 rel1 r1 => ?_) q⟩
  obtain ⟨i, rfl, q1⟩ := asI.to q
  cases r1
  exact ⟨i, rfl, q1 _ H1 ρ1 e1 rel1 rfl⟩
def tSl3 (te : T3) (tl th : TO3) : T3 := fun E δ Q => te E δ fun x δ1 => tl E δ1 fun l δ2 => th E δ2 fun u δ3 => rSl3 x l u fun z => Q z δ3
theorem sl3 {lo hi : Option Expr} {tl th : TO3} {p2 : Pos} (he : PE3 X E e ta) (hl : PO3 X E lo tl) (hu : PO3 X E hi th) : PE3 X E (.Subscript e (.Slice lo hi none p2) pos) (tSl3 ta tl th) := by
  have mr : ∀ x l u k k', (∀ z, k z → k' z) → rSl3 x l u k → rSl3 x l u k' := fun x l u k k' hk h => by
    unfold rSl3 at h ⊢
    split at h
    · exact hk _ h
    · exact hk _ h
    · exact h.elim
  refine ⟨fun _ _ _ _ _ hx hq q => he.mono _ _ _ _ _ hx (fun x δ1 => hl.mono _ _ _ _ _ hx fun l δ2 => hu.mono _ _ _ _ _ hx fun u δ3 => mr _ _ _ _ _ fun z => hq _ _) q, (pe_slice (sl_tupA.or sl_list) he.pe hl.po hu.po).imp fun σ H Q h => ?_⟩
  obtain ⟨π, F, ρ, δ, rel, q⟩ := h
  refine ⟨π, F, ρ, δ, rel, he.mono _ _ _ _ _ (fun _ z => z) (fun x δ1 q v H1 ρ1 e1 rel1 r1 => ?_) q⟩
  refine ⟨π, F, ρ1, δ1, rel1, hl.mono _ _ _ _ _ (liftX.mono e1) (fun l δ2 q l' H2 ρ2 e2 rel2 r2 => ?_) q⟩
  subst r2
  refine ⟨π, F, ρ2, δ2, rel2, hu.mono _ _ _ _ _ (liftX.mono (e1.trans e2)) (fun u δ3 q u' H3 ρ3 e3 rel3 r3 => ?_) q⟩
  subst r3
  have r1' := (r1.ext (e2.frn) fun _ => .inl).ext (e3.frn) fun _ => .inl
  have e13 := (e1.trans e2).trans e3
  unfold rSl3 at q
  split at q
  · cases r1' with
    | @tup A xs ds ht hr =>
      refine .inl ⟨_, _, rfl, ht.sq, fun hw => ?_, fun _ p hp => ?_⟩
      · refine q _ H3 ρ3 e13 rel3 (.tup ht ?_)
        have z := hr.cut l' u'
        unfold cutV at z
        rw [hw.1, hw.2, List.drop_zero, Nat.sub_zero, List.take_length] at z
        exact z
      · exact q _ _ ρ3 (e13.trans (Ext.same (same_upd hp))) (rel3.same (same_upd hp)) (rp_tup rel3.trk hp (hr.cut _ _))
  · cases r1' with
    | lst ht hr => exact .inr ⟨_, _, rfl, ht.sq, fun p hp => q _ _ ρ3 (e13.trans (Ext.same (same_upd hp))) (rel3.same (same_upd hp)) (rp_lst rel3.trk hp (hr.cut _ _))⟩
  · exact q.elim
theorem mkB {id : String} {r : List V → Hp → VK → Prop} {x : Str} {p : Pos} {ta' : TE} (hc : CallR X (.builtin id) r) (hg : Gl X x) (hm : X.mg x = none) (hv : bootBuiltins x = some (.builtin id)) (h : PE X a ta') (hn : x ≠ "__name__" := by decide) (hdb : (x == ("__debug__" : Str)) = false := by decide)
    (he : starEach [a] X.env = (false, eval a X.env) :: starEach [] X.env := by rfl) : PE X (.Call (.Name x p) [a] [] pos) (tUn (fun v H Q => r [v] H Q) ta') := pe_callB hc hg hm hv (pa_cons h pa_nil he) hn hdb he rfl
theorem mkTy {T : String} {r : List V → Hp → VK → Prop} {x : Str} {p : Pos} {ta' : TE} (hc : CallR X (.type T) r) (hg : Gl X x) (hm : X.mg x = none) (hv : bootBuiltins x = some (.type T)) (h : PE X a ta') (hn : x ≠ "__name__" := by decide) (hdb : (x == ("__debug__" : Str)) = false := by decide)
    (he : starEach [a] X.env = (false, eval a X.env) :: starEach [] X.env := by rfl) : PE X (.Call (.Name x p) [a] [] pos) (tUn (fun v H Q => r [v] H Q) ta') := pe_callTy hc hg hm hv (pa_cons h pa_nil he) hn hdb he rfl
def rLen3 (x : D) (k : D → Prop) : Prop := match x with
  | .tuple xs => k (.int (xs.length : Nat))
  | .list xs => k (.int (xs.length : Nat))
  | .str z => z.length ≤ sizeLine ∧ k (.int (z.length : Nat))
  | _ => False
theorem len3 {p : Pos} (hg : Gl X "len") (hm : X.mg "len" = none) (ha : PE3 X E a ta) (he : starEach [a] X.env = (false, eval a X.env) :: starEach [] X.env := by rfl) : PE3 X E (.Call (.Name "len" p) [a] [] pos) (tU3 rLen3 ta) :=
  un3 (fun _ h => mkB (call_len_seq.or call_len_str) hg hm PySem.boot_len h (by decide) (by decide) he) (fun O H v x k Q _ rx h hq => by
    unfold rLen3 at h
    split at h
    · cases rx with
      | tup ht hr => exact .inl ⟨_, _, rfl, .inr ht.sq, hq _ _ H (Same.refl H) (by rw [hr.length]; exact .int _) h⟩
    · cases rx with
      | lst ht hr => exact .inl ⟨_, _, rfl, .inl ht.sq, hq _ _ H (Same.refl H) (by rw [hr.length]; exact .int _) h⟩
    · cases rx
      exact .inr ⟨_, rfl, h.1, hq _ _ H (Same.refl H) (.int _) h.2⟩
    · exact h.elim) (fun x k k' hk h => by
    unfold rLen3 at h ⊢
    split at h
    · exact hk _ h
    · exact hk _ h
    · exact ⟨h.1, hk _ h.2⟩
    · exact h.elim) ha
def tyN (x : D) : String := match x with
  | .none => "NoneType" | .bool _ => "bool" | .int _ => "int" | .str _ => "str" | .list _ => "list" | .tuple _ => "tuple" | .dict _ => "dict"
theorem Rp.ty {K : PySem.W.Frag} {O : Addr → Prop} {H : Hp} {v : V} {d : D} (h : Rp K O H v d) : TyX K H v (.type (tyN d)) := by
  cases h with
  | non => exact .base .non
  | bl b => exact .base (.bl b)
  | int i => exact .base (.int i)
  | str x => exact .base (.str x)
  | lst h r => exact .base (.lst h.1)
  | tup h r =>
    rcases h with ⟨h | ⟨o, h⟩, _⟩ | h
    · exact .base (.tup h)
    · exact .fTuple h
    · rcases h with (h | ⟨o, h⟩) | ⟨o, its, n, h1, h2, _⟩
      · cases h
      · cases h
      · exact .kTuple h1 h2
  | dic h n r => exact .fDict h
def isInt (x : D) : Bool := match x with | .int _ => true | .bool _ => true | _ => false
def isBool (x : D) : Bool := match x with | .bool _ => true | _ => false
def isStr (x : D) : Bool := match x with | .str _ => true | _ => false
def isTup (x : D) : Bool := match x with | .tuple _ => true | _ => false
def isLst (x : D) : Bool := match x with | .list _ => true | _ => false
def isDct (x : D) : Bool := match x with | .dict _ => true | _ => false
theorem kit_int (x : D) : kitB (tyN x) "int" = some (isInt x) := by cases x <;> (simp only [tyN, isInt]; decide +kernel)
theorem kit_bool (x : D) : kitB (tyN x) "bool" = some (isBool x) := by cases x <;> (simp only [tyN, isBool]; decide +kernel)
theorem kit_str (x : D) : kitB (tyN x) "str" = some (isStr x) := by cases x <;> (simp only [tyN, isStr]; decide +kernel)
theorem kit_tuple (x : D) : kitB (tyN x) "tuple" = some (isTup x) := by cases x <;> (simp only [tyN, isTup]; decide +kernel)
def rIsA (f : D → Bool) (x : D) (k : D → Prop) : Prop := k (.bool (f x))
theorem isi3 {T : String} {f : D → Bool} {x : Str} {p p' : Pos} (hk : ∀ x, kitB (tyN x) T = some (f x)) (hv : bootBuiltins x = some (.type T)) (hg : Gl X "isinstance") (hm : X.mg "isinstance" = none) (hgT : Gl X x) (hmT : X.mg x = none)
    (ha : PE3 X E a ta) (hn : x ≠ "__name__" := by decide) (hd : (x == ("__debug__" : Str)) = false := by decide) (he : starEach [a, .Name x p'] X.env = (false, eval a X.env) :: starEach [.Name x p'] X.env := by rfl) (he2 : starEach [.Name x p'] X.env = (false, eval (.Name x p') X.env) :: starEach [] X.env := by rfl)
    (hpl : (backTo pos (starEach [.Name x p'] X.env)).any (·.1) = false := by rfl) : PE3 X E (.Call (.Name "isinstance" p) [a, .Name x p'] [] pos) (tU3 (rIsA f) ta) :=
  un3 (r := fun v H Q => rIsi X.K [v, .ty T] H Q) (fun _ h => pe_callB call_isi hg hm (by decide +kernel) (pa_cons h (pa_cons (pe_bltn (v := .ty T) hgT hmT hv rfl hn hd) pa_nil he2) he) (by decide) (by decide) he hpl) (fun O H v x k Q _ rx h hq =>
    ⟨v, .ty T, _, _, _, rfl, .ty T, rx.ty, kit_ty (hk x), hq _ _ H (Same.refl H) (.bl _) h⟩) (fun x k k' hk h => hk _ h) ha
theorem abs3 {p : Pos} (hg : Gl X "abs") (hm : X.mg "abs" = none) (ha : PE3 X E a ta) (he : starEach [a] X.env = (false, eval a X.env) :: starEach [] X.env := by rfl) : PE3 X E (.Call (.Name "abs" p) [a] [] pos) (tU3 (fun x k => asI x fun i => k (.int (if i < 0 then -i else i))) ta) :=
  un3 (fun _ h => mkB call_abs hg hm (by decide +kernel) h (by decide) (by decide) he) (fun O H v x k Q _ rx h hq => by
    obtain ⟨i, rfl, h1⟩ := asI.to h
    cases rx
    exact ⟨i, rfl, hq _ _ H (Same.refl H) (.int _) h1⟩) (fun x k k' hk h => by obtain ⟨i, rfl, h1⟩ := asI.to h; exact asI.of (hk _ h1)) ha
def rInt3 (x : D) (k : D → Prop) : Prop := match x with
  | .int i => k (.int i)
  | .bool b => k (.int (if b then 1 else 0))
  | _ => False
theorem int3c {p : Pos} (hg : Gl X "int") (hm : X.mg "int" = none) (ha : PE3 X E a ta) (he : starEach [a] X.env = (false, eval a X.env) :: starEach [] X.env := by rfl) : PE3 X E (.Call (.Name "int" p) [a] [] pos) (tU3 rInt3 ta) :=
  un3 (fun _ h => mkTy call_int1 hg hm (by decide +kernel) h (by decide) (by decide) he) (fun O H v x k Q _ rx h hq => by
    unfold rInt3 at h
    split at h
    · cases rx
      exact .inl ⟨_, rfl, hq _ _ H (Same.refl H) (.int _) h⟩
    · cases rx
      exact .inr ⟨_, rfl, hq _ _ H (Same.refl H) (.int _) h⟩
    · exact h.elim) (fun x k k' hk h => by
    unfold rInt3 at h ⊢
    split at h
    · exact hk _ h
    · exact hk _ h
    · exact h.elim) ha
theorem mk2 {id : String} {r : List V → Hp → VK → Prop} {x : Str} {p : Pos} {ta' tb' : TE} (hc : CallR X (.builtin id) r) (hg : Gl X x) (hm : X.mg x = none) (hv : bootBuiltins x = some (.builtin id)) (h : PE X a ta') (h' : PE X b tb') (hn : x ≠ "__name__") (hdb : (x == ("__debug__" : Str)) = false)
    (he : starEach [a, b] X.env = (false, eval a X.env) :: starEach [b] X.env) (he2 : starEach [b] X.env = (false, eval b X.env) :: starEach [] X.env) (hpl : (backTo pos (starEach [b] X.env)).any (·.1) = false) : PE X (.Call (.Name x p) [a, b] [] pos) (tOp (fun v u H Q => r [v, u] H Q) ta' tb') :=
  pe_callB hc hg hm hv (pa_cons h (pa_cons h' pa_nil he2) he) hn hdb he hpl
theorem max3 {p : Pos} (hc : X.calm = true) (hg : Gl X "max") (hm : X.mg "max" = none) (ha : PE3 X E a ta) (hb : PE3 X E b tb) (he : starEach [a, b] X.env = (false, eval a X.env) :: starEach [b] X.env := by rfl) (he2 : starEach [b] X.env = (false, eval b X.env) :: starEach [] X.env := by rfl)
    (hpl : (backTo pos (starEach [b] X.env)).any (·.1) = false := by rfl) : PE3 X E (.Call (.Name "max" p) [a, b] [] pos) (tB2 (rII0 fun i j => .int (max i j)) ta tb) :=
  bin3 (fun _ _ h h' => mk2 (call_max2 hc) hg hm (by decide +kernel) h h' (by decide) (by decide) he he2 hpl) (fun O H v u x y k Q _ rx ry h hq => by
    obtain ⟨i, rfl, h1⟩ := asI.to h
    obtain ⟨j, rfl, h2⟩ := asI.to h1
    cases rx; cases ry
    refine ⟨i, j, rfl, hq _ _ H (Same.refl H) ?_ h2⟩
    have z : (if j > i then j else i) = max i j := by omega
    rw [z]; exact .int _) m_rII0 ha hb
theorem min3 {p : Pos} (hc : X.calm = true) (hg : Gl X "min") (hm : X.mg "min" = none) (ha : PE3 X E a ta) (hb : PE3 X E b tb) (he : starEach [a, b] X.env = (false, eval a X.env) :: starEach [b] X.env := by rfl) (he2 : starEach [b] X.env = (false, eval b X.env) :: starEach [] X.env := by rfl)
    (hpl : (backTo pos (starEach [b] X.env)).any (·.1) = false := by rfl) : PE3 X E (.Call (.Name "min" p) [a, b] [] pos) (tB2 (rII0 fun i j => .int (min i j)) ta tb) :=
  bin3 (fun _ _ h h' => mk2 (call_min2 hc) hg hm (by decide +kernel) h h' (by decide) (by decide) he he2 hpl) (fun O H v u x y k Q _ rx ry h hq => by
    obtain ⟨i, rfl, h1⟩ := asI.to h
    obtain ⟨j, rfl, h2⟩ := asI.to h1
    cases rx; cases ry
    refine ⟨i, j, rfl, hq _ _ H (Same.refl H) ?_ h2⟩
    have z : (if j < i then j else i) = min i j := by omega
    rw [z]; exact .int _) m_rII0 ha hb
def rTup3 (x : D) (k : D → Prop) : Prop := match x with
  | .tuple xs => k (.tuple xs)
  | .list xs => k (.tuple xs)
  | _ => False
def rLst3 (x : D) (k : D → Prop) : Prop := match x with
  | .tuple xs => k (.list xs)
  | .list xs => k (.list xs)
  | _ => False
theorem tuple3 {p : Pos} (hg : Gl X "tuple") (hm : X.mg "tuple" = none) (ha : PE3 X E a ta) (he : starEach [a] X.env = (false, eval a X.env) :: starEach [] X.env := by rfl) : PE3 X E (.Call (.Name "tuple" p) [a] [] pos) (tU3 rTup3 ta) :=
  un3 (fun _ h => mkTy call_tuple_of hg hm (by decide +kernel) h (by decide) (by decide) he) (fun O H v x k Q tr rx h hq => by
    unfold rTup3 at h
    split at h
    · cases rx with
      | tup ht hr => exact ⟨_, _, rfl, .inr ⟨ht.sq, hq _ _ H (Same.refl H) (.tup ht hr) h⟩⟩
    · cases rx with
      | lst ht hr => exact ⟨_, _, rfl, .inl ⟨ht.sq, fun p hp => hq _ _ _ (same_upd hp) (rp_tup tr hp hr) h⟩⟩
    · exact h.elim) (fun x k k' hk h => by
    unfold rTup3 at h ⊢
    split at h
    · exact hk _ h
    · exact hk _ h
    · exact h.elim) ha
theorem list3 {p : Pos} (hg : Gl X "list") (hm : X.mg "list" = none) (ha : PE3 X E a ta) (he : starEach [a] X.env = (false, eval a X.env) :: starEach [] X.env := by rfl) : PE3 X E (.Call (.Name "list" p) [a] [] pos) (tU3 rLst3 ta) :=
  un3 (fun _ h => mkTy call_list_of hg hm (by decide +kernel) h (by decide) (by decide) he) (fun O H v x k Q tr rx h hq => by
    unfold rLst3 at h
    split at h
    · cases rx with
      | tup ht hr => exact ⟨_, _, rfl, .inr ht.sq, fun p hp => hq _ _ _ (same_upd hp) (rp_lst tr hp hr) h⟩
    · cases rx with
      | lst ht hr => exact ⟨_, _, rfl, .inl ht.sq, fun p hp => hq _ _ _ (same_upd hp) (rp_lst tr hp hr) h⟩
    · exact h.elim) (fun x k k' hk h => by
    unfold rLst3 at h ⊢
    split at h
    · exact hk _ h
    · exact hk _ h
    · exact h.elim) ha
def bools : List D → Option (List Bool)
  | [] => some []
  | .bool b :: r => (bools r).map (b :: ·)
  | _ :: _ => none
def rAll3 (f : List Bool → Bool) (x : D) (k : D → Prop) : Prop := match x with
  | .list xs => ∃ bs : List Bool, xs = bs.map PyData.bool ∧ k (.bool (f bs))
  | _ => False
theorem rpall_bools {K : PySem.W.Frag} {O : Addr → Prop} {H : Hp} : ∀ {bs : List Bool} {vs : List V}, RpAll K O H vs (bs.map PyData.bool) → vs = bs.map V.bl
  | [], _, .nil => rfl
  | b :: r, _, .cons h t => by cases h; rw [List.map_cons, rpall_bools t]
theorem m_rAll3 {f} : M1 (rAll3 f) := fun x k k' hk h => by
  unfold rAll3 at h ⊢
  split at h
  · obtain ⟨bs, e, h⟩ := h; exact ⟨bs, e, hk _ h⟩
  · exact h.elim
theorem all3 {p : Pos} (hc : X.calm = true) (hg : Gl X "all") (hm : X.mg "all" = none) (ha : PE3 X E a ta) (he : starEach [a] X.env = (false, eval a X.env) :: starEach [] X.env := by rfl) : PE3 X E (.Call (.Name "all" p) [a] [] pos) (tU3 (rAll3 fun bs => bs.all id) ta) :=
  un3 (fun _ h => mkB (cr_all hc) hg hm (by decide +kernel) h (by decide) (by decide) he) (fun O H v x k Q tr rx h hq => by
    unfold rAll3 at h
    split at h
    · obtain ⟨bs, rfl, h⟩ := h
      cases rx with
      | lst ht hr => exact ⟨_, bs, rfl, by rw [← rpall_bools hr]; exact ht.sq, hq _ _ H (Same.refl H) (.bl _) h⟩
    · exact h.elim) m_rAll3 ha
theorem any3 {p : Pos} (hc : X.calm = true) (hg : Gl X "any") (hm : X.mg "any" = none) (ha : PE3 X E a ta) (he : starEach [a] X.env = (false, eval a X.env) :: starEach [] X.env := by rfl) : PE3 X E (.Call (.Name "any" p) [a] [] pos) (tU3 (rAll3 fun bs => bs.any id) ta) :=
  un3 (fun _ h => mkB (cr_any hc) hg hm (by decide +kernel) h (by decide) (by decide) he) (fun O H v x k Q tr rx h hq => by
    unfold rAll3 at h
    split at h
    · obtain ⟨bs, rfl, h⟩ := h
      cases rx with
      | lst ht hr => exact ⟨_, bs, rfl, by rw [← rpall_bools hr]; exact ht.sq, hq _ _ H (Same.refl H) (.bl _) h⟩
    · exact h.elim) m_rAll3 ha
end
end M3
set_option Elab.async false
set_option linter.all false
set_option maxRecDepth 100000
namespace M3
open PySem L2
variable [TabsC]
section
variable {K : PySem.W.Frag}
theorem TL.mono {O O' : Addr → Prop} {H : Hp} {a : Addr} {xs : List V} (le : ∀ b, O' b → O b) (h : TL K O H a xs) : TL K O' H a xs := ⟨h.1, fun z => h.2 (le _ z)⟩
theorem TT.mono {O O' : Addr → Prop} {H : Hp} {a : Addr} {xs : List V} (le : ∀ b, O' b → O b) (h : TT K O H a xs) : TT K O' H a xs := h.imp (fun h => ⟨h.1, fun z => h.2 (le _ z)⟩) fun h => h
mutual
theorem Rp.mono {O O' : Addr → Prop} {H : Hp} (le : ∀ b, O' b → O b) : ∀ {v : V} {d : D}, Rp K O H v d → Rp K O' H v d
  | _, _, .non => .non
  | _, _, .bl b => .bl b
  | _, _, .int i => .int i
  | _, _, .str x => .str x
  | _, _, .lst h r => .lst (h.mono le) (RpAll.mono le r)
  | _, _, .tup h r => .tup (h.mono le) (RpAll.mono le r)
  | _, _, .dic h n r => .dic h (fun z => n (le _ z)) (RpKV.mono le r)
theorem RpAll.mono {O O' : Addr → Prop} {H : Hp} (le : ∀ b, O' b → O b) : ∀ {v : List V} {d : List D}, RpAll K O H v d → RpAll K O' H v d
  | _, _, .nil => .nil
  | _, _, .cons r t => .cons (Rp.mono le r) (RpAll.mono le t)
theorem RpKV.mono {O O' : Addr → Prop} {H : Hp} (le : ∀ b, O' b → O b) : ∀ {v : List (Key × V)} {d : List (D × D)}, RpKV K O H v d → RpKV K O' H v d
  | _, _, .nil => .nil
  | _, _, .cons r t => .cons (Rp.mono le r) (RpKV.mono le t)
end
theorem RpTX.mono {O O' : Addr → Prop} {H : Hp} (le : ∀ b, O' b → O b) : ∀ {v : List (Row × Addr × V)} {d : List (D × D)}, RpTX K O H v d → RpTX K O' H v d
  | _, _, .nil => .nil
  | _, _, .cons h r t => .cons (h.mono le) (r.mono le) (RpTX.mono le t)
theorem ObOk.mono {O O' : Addr → Prop} {H : Hp} {a : Addr} {o : Ob} (le : ∀ b, O' b → O b) (h : ObOk K O H a o) : ObOk K O' H a o := by
  cases o with
  | lst xs => obtain ⟨vs, h, r⟩ := h; exact ⟨vs, h, r.mono le⟩
  | dct ds =>
    obtain ⟨kvs, h, r⟩ := h
    exact ⟨kvs, h, r.mono le⟩
  | dcT ds =>
    obtain ⟨kvs, h, r⟩ := h
    exact ⟨kvs, h, r.mono le⟩
theorem RpV.mono {O O' : Addr → Prop} {H : Hp} {v : V} {x : DV} (le : ∀ b, O' b → O b) (h : RpV K O H v x) : RpV K O' H v x := by
  cases x with
  | d x => exact Rp.mono le h
  | ro xs => obtain ⟨a, vs, h1, h2, h3⟩ := h; exact ⟨a, vs, h1, h2.imp (fun h => ⟨h.1, fun z => h.2 (le _ z)⟩) (fun h => h), h3.mono le⟩
  | ad a => exact h
  | lk a ds => obtain ⟨h1, o, kvs, h, n, r⟩ := h; exact ⟨h1, o, kvs, h, fun z => n (le _ z), r.mono le⟩
  | cl f F => exact ⟨h.1, h.2.1, fun z => h.2.2.1 (le _ z), h.2.2.2⟩
  | fv a I => exact ⟨h.1, h.2.2.2 _ _ _ le h.2.1, h.2.2⟩
def drop (ρ : Rho) (i : Nat) : Rho := fun j => if j = i then none else ρ j
theorem drop_le {ρ : Rho} {i : Nat} : ∀ b, Ow (drop ρ i) b → Ow ρ b := fun b ⟨j, h⟩ => by
  unfold drop at h
  split at h
  · cases h
  · exact ⟨j, h⟩
theorem dropx_le {F : Addr → Prop} {ρ : Rho} {i : Nat} : ∀ b, Ox F (drop ρ i) b → Ox F ρ b := fun b z => z.imp (drop_le b) id
theorem drop_ne {ρ : Rho} {i j : Nat} {a : Addr} (h : ρ j = some a) (n : j ≠ i) : drop ρ i j = some a := by unfold drop; rw [if_neg n]; exact h
theorem drop_some {ρ : Rho} {i j : Nat} {a : Addr} (h : drop ρ i j = some a) : j ≠ i ∧ ρ j = some a := by
  unfold drop at h
  split at h
  · cases h
  · exact ⟨by assumption, h⟩
theorem Ext.drop {ρ : Rho} {i : Nat} {H : Hp} : Ext (Ow ρ) (Ow ρ) H (Ow (M3.drop ρ i)) H := ⟨fun _ _ h _ _ => h, fun b z => .inl (drop_le b z), fun _ o h => ⟨o, h⟩, Tb.refl⟩
variable {π : Rho} {F : Addr → Prop} {ρ : Rho} {H : Hp} {σ : St} {δ : Sl}
theorem Rel.setD (r : Rel K π F ρ H σ δ) {i : Nat} {v : V} {x : D} (h : Rp K (Ox F ρ) H v x) : Rel K π F (drop ρ i) H (σ.set i (some v)) (δ.set i (some (.d x))) where
  len := by rw [List.length_set, List.length_set]; exact r.len
  dat := fun j y e => by
    by_cases hj : i = j
    · subst hj
      by_cases hl : i < δ.length
      · rw [List.getElem?_set_self hl] at e
        cases y <;> cases e
        exact ⟨v, by rw [List.getElem?_set_self (by rw [r.len]; exact hl)], h.mono dropx_le⟩
      · rw [List.getElem?_eq_none (by rw [List.length_set]; omega)] at e; cases e
    · rw [List.getElem?_set_ne hj] at e
      obtain ⟨u, h1, h2⟩ := r.dat j y e
      exact ⟨u, by rw [List.getElem?_set_ne hj]; exact h1, h2.mono dropx_le⟩
  own := fun j t o e => by
    by_cases hj : i = j
    · subst hj
      by_cases hl : i < δ.length
      · rw [List.getElem?_set_self hl] at e; cases e
      · rw [List.getElem?_eq_none (by rw [List.length_set]; omega)] at e; cases e
    · rw [List.getElem?_set_ne hj] at e
      obtain ⟨a, h1, h2, h3, h4⟩ := r.own j t o e
      exact ⟨a, drop_ne h1 (Ne.symm hj), by rw [List.getElem?_set_ne hj]; exact h2, h3.mono dropx_le, h4⟩
  inj := fun j k a h1 h2 => r.inj j k a (drop_some h1).2 (drop_some h2).2
  trk := fun a z => r.trk a (dropx_le a z)
  dis := fun a z q => r.dis a z (drop_le a q)
  pit := r.pit
  ln := r.ln.set fun p z => by cases x <;> cases z
  tab := r.tab
theorem Rel.setN (r : Rel K π F ρ H σ δ) {i : Nat} {w : Option V} : Rel K π F (drop ρ i) H (σ.set i w) (δ.set i none) where
  len := by rw [List.length_set, List.length_set]; exact r.len
  dat := fun j y e => by
    by_cases hj : i = j
    · subst hj
      by_cases hl : i < δ.length
      · rw [List.getElem?_set_self hl] at e; cases y <;> cases e
      · rw [List.getElem?_eq_none (by rw [List.length_set]; omega)] at e; cases e
    · rw [List.getElem?_set_ne hj] at e
      obtain ⟨u, h1, h2⟩ := r.dat j y e
      exact ⟨u, by rw [List.getElem?_set_ne hj]; exact h1, h2.mono dropx_le⟩
  own := fun j t o e => by
    by_cases hj : i = j
    · subst hj
      by_cases hl : i < δ.length
      · rw [List.getElem?_set_self hl] at e; cases e
      · rw [List.getElem?_eq_none (by rw [List.length_set]; omega)] at e; cases e
    · rw [List.getElem?_set_ne hj] at e
      obtain ⟨a, h1, h2, h3, h4⟩ := r.own j t o e
      exact ⟨a, drop_ne h1 (Ne.symm hj), by rw [List.getElem?_set_ne hj]; exact h2, h3.mono dropx_le, h4⟩
  inj := fun j k a h1 h2 => r.inj j k a (drop_some h1).2 (drop_some h2).2
  trk := fun a z => r.trk a (dropx_le a z)
  dis := fun a z q => r.dis a z (drop_le a q)
  pit := r.pit
  ln := r.ln.set fun p z => by cases z
  tab := r.tab
theorem Rel.setO (r : Rel K π F ρ H σ δ) {i : Nat} {t : Nat} {o o' : Ob} {a : Addr} {u : HO} (e : δ[i]? = some (some (.own t o))) (ha : ρ i = some a) (h : ∀ H', H' a = some u → (∀ b v, b ≠ a → H b = some v → H' b = some v) → Tb H H' → ObOk K (Ox F ρ) H' a o') :
    Rel K π F ρ (upd H a u) σ (δ.set i (some (.own t o'))) ∧ Ext (Ow ρ) (Ow ρ) H (Ow ρ) (upd H a u) := by
  have hl : i < δ.length := (List.getElem?_eq_some_iff.mp e).1
  have ow : Ow ρ a := ⟨i, ha⟩
  have ex : Ext (Ow ρ) (Ow ρ) H (Ow ρ) (upd H a u) := ⟨fun b v hb n _ => by rw [upd_ne fun z => n (by rw [z]; exact ow)]; exact hb, fun _ z => .inl z, fun b v hb => by
    by_cases z : b = a
    · subst z; exact ⟨u, upd_same⟩
    · exact ⟨v, by rw [upd_ne z]; exact hb⟩, by
    obtain ⟨b, h1, _, h3, _⟩ := r.own i _ o e
    rw [ha] at h1; cases h1
    obtain ⟨v, hv, hv2⟩ := h3.ord
    exact Tb.upd hv hv2⟩
  have ex' := ex.frn (F := F)
  refine ⟨⟨by rw [List.length_set]; exact r.len, fun j y q => ?_, fun j t' o2 q => ?_, r.inj, fun b z => ?_, r.dis, fun p b z => ?_, r.ln.setδ (fun p z => by cases z), ex.tb.t r.tab⟩, ex⟩
  · by_cases hj : i = j
    · subst hj; rw [List.getElem?_set_self hl] at q; cases y <;> cases q
    · rw [List.getElem?_set_ne hj] at q
      obtain ⟨w, h1, h2⟩ := r.dat j y q
      exact ⟨w, h1, h2.ext ex' fun _ => .inl⟩
  · by_cases hj : i = j
    · subst hj
      rw [List.getElem?_set_self hl] at q; cases q
      obtain ⟨b, h1, h2, h3, h4⟩ := r.own i _ o e
      rw [ha] at h1; cases h1
      exact ⟨a, ha, h2, h _ upd_same (fun b v hb hv => by rw [upd_ne hb]; exact hv) ex.tb, h4⟩
    · rw [List.getElem?_set_ne hj] at q
      obtain ⟨b, h1, h2, h3, h4⟩ := r.own j t' o2 q
      exact ⟨b, h1, h2, h3.ext ex fun v hv _ => by rw [upd_ne fun z => hj (r.inj i j a ha (by rw [← z]; exact h1))]; exact hv, h4⟩
  · obtain ⟨v, hv⟩ := r.trk b z
    exact ex.tk b v hv
  · obtain ⟨v, hv⟩ := r.pit p b z
    exact ex.tk b v hv
def own1 (ρ : Rho) (i : Nat) (a : Addr) : Rho := fun j => if j = i then some a else ρ j
theorem own1_le {ρ : Rho} {i : Nat} {a : Addr} : ∀ b, Ow (own1 ρ i a) b → Ow ρ b ∨ b = a := fun b ⟨j, h⟩ => by
  unfold own1 at h
  split at h
  · cases h; exact .inr rfl
  · exact .inl ⟨j, h⟩
end
structure End3 where
  nx : Sl → Prop
  rt : R3 → Sl → Prop
  bk : Sl → Prop := fun _ => False
  ct : Sl → Prop := fun _ => False
structure End3.le (D D' : End3) : Prop where
  nx : ∀ δ, D.nx δ → D'.nx δ
  rt : ∀ r δ, D.rt r δ → D'.rt r δ
  bk : ∀ δ, D.bk δ → D'.bk δ
  ct : ∀ δ, D.ct δ → D'.ct δ
abbrev TS3 := (Ex3 → Prop) → End3 → Sl → Prop
def MonoS (t : TS3) : Prop := ∀ E E' D D' δ, (∀ e, E e → E' e) → End3.le D D' → t E D δ → t E' D' δ
def RpR (K : PySem.W.Frag) (π : Rho) (F : Addr → Prop) (ρ : Rho) (H : Hp) (v : V) : R3 → Prop
  | .d x => Rp K (Ox F ρ) H v x
  | .own o => ∃ a, v = .ref a ∧ Ow ρ a ∧ (∀ p, π p ≠ some a) ∧ ObOk K (Ox F ρ) H a o
def liftD (D : Ends) (K : PySem.W.Frag) (π : Rho) (F : Addr → Prop) (ρ : Rho) (H : Hp) : End3 where
  nx := fun δ' => ∀ σ' H' ρ', Ex F ρ H ρ' H' → Rel K π F ρ' H' σ' δ' → D.nx σ' H'
  rt := fun r δ' => ∀ v σ' H' ρ', Ex F ρ H ρ' H' → Rel K π F ρ' H' σ' δ' → RpR K π F ρ' H' v r → D.rt v H'
  bk := fun δ' => ∀ σ' H' ρ', Ex F ρ H ρ' H' → Rel K π F ρ' H' σ' δ' → D.bk σ' H'
  ct := fun δ' => ∀ σ' H' ρ', Ex F ρ H ρ' H' → Rel K π F ρ' H' σ' δ' → D.ct σ' H'
theorem liftD.mono {D : Ends} {K : PySem.W.Frag} {π : Rho} {F : Addr → Prop} {ρ ρ1 : Rho} {H H1 : Hp} (e : Ex F ρ H ρ1 H1) : (liftD D K π F ρ H).le (liftD D K π F ρ1 H1) :=
  ⟨fun _ h σ' H' ρ' e' => h σ' H' ρ' (e.trans e'), fun _ _ h v σ' H' ρ' e' => h v σ' H' ρ' (e.trans e'), fun _ h σ' H' ρ' e' => h σ' H' ρ' (e.trans e'), fun _ h σ' H' ρ' e' => h σ' H' ρ' (e.trans e')⟩
theorem End3.le.refl (D : End3) : D.le D := ⟨fun _ h => h, fun _ _ h => h, fun _ h => h, fun _ h => h⟩
def liftS (K : PySem.W.Frag) (E : XK) (t : TS3) : TS := fun D σ H => ∃ π F ρ δ, Rel K π F ρ H σ δ ∧ t (liftX K E F ρ H) (liftD D K π F ρ H) δ
structure PS3 (X : Cx) (E : XK) (st : Stmt) (t : TS3) : Prop where
  mono : MonoS t
  ps : PS X st (liftS X.K E t)
structure PSs3 (X : Cx) (E : XK) (st : List Stmt) (t : TS3) : Prop where
  mono : MonoS t
  ps : PSs X st (liftS X.K E t)
section
variable {X : Cx} {E : XK} {st : Stmt} {rest : List Stmt} {t u : TS3} {e : Expr} {te : T3} {pos : Pos}
def tNext3 : TS3 := fun _ D δ => D.nx δ
def tSeq3 (t u : TS3) : TS3 := fun E D δ => t E { nx := fun δ' => u E D δ', rt := D.rt, bk := D.bk, ct := D.ct } δ
theorem sn3 : PSs3 X E [] tNext3 := ⟨fun _ _ _ _ _ _ h q => h.nx _ q, pss_nil.imp fun D σ H h => by
  obtain ⟨π, F, ρ, δ, rel, q⟩ := h
  exact q σ H ρ Ext.refl rel⟩
theorem sc3 (h1 : PS3 X E st t) (h2 : PSs3 X E rest u) : PSs3 X E (st :: rest) (tSeq3 t u) := by
  refine ⟨fun E E' D D' δ he hd q => h1.mono E E' { nx := fun δ' => u E D δ', rt := D.rt, bk := D.bk, ct := D.ct } _ _ he ⟨fun δ => h2.mono _ _ _ _ _ he hd, hd.rt, hd.bk, hd.ct⟩ q, (pss_cons h1.ps h2.ps).imp fun D σ H h => ?_⟩
  obtain ⟨π, F, ρ, δ, rel, q⟩ := h
  refine ⟨π, F, ρ, δ, rel, h1.mono _ _ { nx := fun δ' => u (liftX X.K E F ρ H) (liftD D X.K π F ρ H) δ', rt := (liftD D X.K π F ρ H).rt, bk := (liftD D X.K π F ρ H).bk, ct := (liftD D X.K π F ρ H).ct } _ _ (fun _ z => z) ⟨fun δ' q σ' H' ρ' e' rel' => ?_, fun _ _ z => z, fun _ z => z, fun _ z => z⟩ q⟩
  exact ⟨π, F, ρ', δ', rel', h2.mono _ _ _ _ _ (liftX.mono e') (liftD.mono e') q⟩
theorem s13 (h1 : PS3 X E st t) : PSs3 X E [st] t := ⟨h1.mono, pss_one h1.ps⟩
theorem expr3 (he : PE3 X E e te) (hs : swapsWith e none pos.line X.env = pure false := by rfl) : PS3 X E (.Expr e pos) (fun E D δ => te E δ fun _ δ1 => D.nx δ1) := by
  refine ⟨fun _ _ _ _ _ hx hd q => he.mono _ _ _ _ _ hx (fun _ δ1 => hd.nx δ1) q, (ps_expr he.pe hs).imp fun D σ H h => ?_⟩
  obtain ⟨π, F, ρ, δ, rel, q⟩ := h
  exact ⟨π, F, ρ, δ, rel, he.mono _ _ _ _ _ (fun _ z => z) (fun x δ1 q v H1 ρ1 e1 rel1 r1 => q σ H1 ρ1 e1 rel1) q⟩
def tRet3 (te : T3) : TS3 := fun E D δ => te E δ fun x δ1 => D.rt (.d x) δ1
theorem ret3 (he : PE3 X E e te) : PS3 X E (.Return (some e) pos) (tRet3 te) := by
  refine ⟨fun _ _ _ _ _ hx hd q => he.mono _ _ _ _ _ hx (fun _ δ1 => hd.rt _ δ1) q, (ps_ret he.pe).imp fun D σ H h => ?_⟩
  obtain ⟨π, F, ρ, δ, rel, q⟩ := h
  exact ⟨π, F, ρ, δ, rel, he.mono _ _ _ _ _ (fun _ z => z) (fun x δ1 q v H1 ρ1 e1 rel1 r1 => q v σ H1 ρ1 e1 rel1 r1) q⟩
def tIfS3 (c : TB3) (t u : TS3) : TS3 := fun E D δ => c E δ fun b δ1 => br b (t E D δ1) (u E D δ1)
theorem if3 {c : Expr} {a b : List Stmt} {tc : TB3} (hc : PT3 X E c tc) (ha : PSs3 X E a t) (hb : PSs3 X E b u) : PS3 X E (.If c a b pos) (tIfS3 tc t u) := by
  refine ⟨fun _ _ _ _ _ hx hd q => hc.mono _ _ _ _ _ hx (fun c δ1 z => z.imp (ha.mono _ _ _ _ _ hx hd) (hb.mono _ _ _ _ _ hx hd)) q, (ps_if hc.pe ha.ps hb.ps).imp fun D σ H h => ?_⟩
  obtain ⟨π, F, ρ, δ, rel, q⟩ := h
  refine ⟨π, F, ρ, δ, rel, hc.mono _ _ _ _ _ (fun _ z => z) (fun x δ1 q v H1 ρ1 e1 rel1 r1 => ?_) q⟩
  subst r1
  refine (q.imp (fun q => ?_) (fun q => ?_)).ite
  · exact ⟨π, F, ρ1, δ1, rel1, ha.mono _ _ _ _ _ (liftX.mono e1) (liftD.mono e1) q⟩
  · exact ⟨π, F, ρ1, δ1, rel1, hb.mono _ _ _ _ _ (liftX.mono e1) (liftD.mono e1) q⟩
theorem wipe_set (σ : St) (i : Nat) (v : Option V) : ∀ vs : List Nat, i ∈ vs → wipe (σ.set i v) vs = wipe σ vs
  | [], h => by cases h
  | w :: vs, h => by
    unfold wipe
    by_cases hw : i ∈ vs
    · rw [wipe_set σ i v vs hw]
    · have e : i = w := by
        rcases List.mem_cons.mp h with h | h
        · exact h
        · exact absurd h hw
      subst e
      have comm : ∀ us : List Nat, i ∉ us → wipe (σ.set i v) us = (wipe σ us).set i v := by
        intro us
        induction us with
        | nil => intro _; rfl
        | cons u us ih =>
          intro hn
          have h1 : i ≠ u := fun z => hn (by rw [z]; exact List.mem_cons_self)
          have h2 : i ∉ us := fun z => hn (List.mem_cons_of_mem _ z)
          unfold wipe
          rw [ih h2, List.set_comm _ _ h1]
      rw [comm vs hw, List.set_set]
abbrev TG3 := D → Sl → (Sl → Prop) → Prop
def MonoG (g : TG3) : Prop := ∀ x δ Q Q', (∀ δ', Q δ' → Q' δ') → g x δ Q → g x δ Q'
def liftG (K : PySem.W.Frag) (vs : List Nat) (g : TG3) : TG := fun v σ H Q => ∃ π F ρ δ x, Rel K π F ρ H σ δ ∧ Rp K (Ox F ρ) H v x ∧ g x δ fun δ' => ∀ σ' H' ρ', Ex F ρ H ρ' H' → Rel K π F ρ' H' σ' δ' → wipe σ' vs = wipe σ vs → Same H H' → Q σ' H'
structure PG3 (X : Cx) (vs : List Nat) (tg : Expr) (g : TG3) : Prop where
  mono : MonoG g
  pg : PG X tg (liftG X.K vs g)
def gName3 (i : Nat) : TG3 := fun x δ Q => Q (δ.set i (some (.d x)))
theorem gn3 (i : Nat) {vs : List Nat} {x : Str} {pos : Pos} (hN : X.N.Nodup) (hi : X.N[i]? = some x := by rfl) (hx : Loc X.env.scope x := by first | exact Or.inl rfl | exact Or.inr rfl) (hf : X.fn x = true ∨ X.env.scope.names.lookup x = some .local := by first | exact .inl rfl | exact .inr rfl | assumption) (hv : i ∈ vs := by decide) : PG3 X vs (.Name x pos) (gName3 i) := by
  refine ⟨fun _ _ _ _ hq q => hq _ q, (pg_name hN hi hx hf).imp fun v σ H Q h => ?_⟩
  obtain ⟨π, F, ρ, δ, x, rel, r, q⟩ := h
  exact q _ H _ Ext.drop (rel.setD r) (wipe_set _ _ _ _ hv) (Same.refl H)
abbrev TGs3 := List D → Sl → (Sl → Prop) → Prop
structure PGs3 (X : Cx) (ws : List Nat) (tgs : List Expr) (g : TGs3) : Prop where
  mono : ∀ x δ Q Q', (∀ δ', Q δ' → Q' δ') → g x δ Q → g x δ Q'
  pg : PGs X tgs fun vs σ H Q => ∃ π F ρ δ xs, Rel X.K π F ρ H σ δ ∧ RpAll X.K (Ox F ρ) H vs xs ∧ g xs δ fun δ' => ∀ σ' H' ρ', Ex F ρ H ρ' H' → Rel X.K π F ρ' H' σ' δ' → wipe σ' ws = wipe σ ws → Same H H' → Q σ' H'
theorem _root_.L2.PGs.imp {X : Cx} {e : List Expr} {t t' : TGs} (h : PGs X e t) (k : ∀ v σ H Q, t' v σ H Q → t v σ H Q) : PGs X e t' := ⟨fun pins s σ H v u Q I r q => h.run pins s σ H v u Q I r (k v σ H Q q)⟩
theorem gs0 {ws : List Nat} : PGs3 X ws [] (fun xs δ Q => xs = [] ∧ Q δ) := ⟨fun _ _ _ _ hq q => ⟨q.1, hq _ q.2⟩, pgs_nil.imp fun v σ H Q h => by
  obtain ⟨π, F, ρ, δ, x, rel, r, e, q⟩ := h
  subst e
  cases r
  exact ⟨rfl, q σ H ρ Ext.refl rel rfl (Same.refl H)⟩⟩
def gCons3 (g : TG3) (gs : TGs3) : TGs3 := fun xs δ Q => match xs with
  | x :: r => g x δ fun δ' => gs r δ' Q
  | [] => False
theorem gs1 {ws : List Nat} {tg : Expr} {tgs : List Expr} {g : TG3} {gs : TGs3} (h1 : PG3 X ws tg g) (h2 : PGs3 X ws tgs gs) (hs : (assignEach (tg :: tgs) X.env).map (·.2) = assign tg X.env :: (assignEach tgs X.env).map (·.2) := by rfl) : PGs3 X ws (tg :: tgs) (gCons3 g gs) := by
  refine ⟨fun xs δ Q Q' hq q => ?_, (pgs_cons h1.pg h2.pg hs).imp fun vs σ H Q h => ?_⟩
  · cases xs with
    | nil => exact q
    | cons x r => exact h1.mono _ _ _ _ (fun δ' => h2.mono _ _ _ _ hq) q
  · obtain ⟨π, F, ρ, δ, xs, rel, r, q⟩ := h
    cases r with
    | nil => exact q.elim
    | cons r rr =>
      refine ⟨_, _, rfl, π, F, ρ, δ, _, rel, r, h1.mono _ _ _ _ (fun δ' q σ' H' ρ' e' rel' w' s' => ?_) q⟩
      exact ⟨π, F, ρ', δ', _, rel', rr.ext (e'.frn) fun _ => .inl, h2.mono _ _ _ _ (fun δ2 q σ2 H2 ρ2 e2 rel2 w2 s2 => q σ2 H2 ρ2 (e'.trans e2) rel2 (w2.trans w') (s'.trans s2)) q⟩
def gTup3 (n : Nat) (gs : TGs3) : TG3 := fun x δ Q => match x with
  | .tuple xs => xs.length = n ∧ gs xs δ Q
  | _ => False
def tAsg3 (te : T3) (g : TG3) : TS3 := fun E D δ => te E δ fun x δ1 => g x δ1 D.nx
theorem asg3 {ws : List Nat} {tg : Expr} {g : TG3} (he : PE3 X E e te) (hg : PG3 X ws tg g) (hs : swapsWithSole [tg] e pos.line X.env = pure false := by rfl) (hw : swappedStores [tg] e X.env = pure none := by rfl)
    (h1 : (assignEach [tg] X.env).map (·.2) = [assign tg X.env] := by rfl) : PS3 X E (.Assign [tg] e pos) (tAsg3 te g) := by
  refine ⟨fun _ _ _ _ _ hx hd q => he.mono _ _ _ _ _ hx (fun x δ1 => hg.mono _ _ _ _ hd.nx) q, (ps_asg he.pe hg.pg hs hw h1).imp fun D σ H h => ?_⟩
  obtain ⟨π, F, ρ, δ, rel, q⟩ := h
  refine ⟨π, F, ρ, δ, rel, he.mono _ _ _ _ _ (fun _ z => z) (fun x δ1 q v H1 ρ1 e1 rel1 r1 => ?_) q⟩
  exact ⟨π, F, ρ1, δ1, x, rel1, r1, hg.mono _ _ _ _ (fun δ' q σ' H' ρ' e' rel' _ _ => q σ' H' ρ' (e1.trans e') rel') q⟩
theorem set3 (i : Nat) {x : Str} {pos' : Pos} (hN : X.N.Nodup) (he : PE3 X E e te) (hi : X.N[i]? = some x := by rfl) (hx : Loc X.env.scope x := by first | exact Or.inl rfl | exact Or.inr rfl) (hs : swapsWith e (some (.Name x pos')) pos.line X.env = pure false := by rfl)
    (hf : X.fn x = true ∨ X.env.scope.names.lookup x = some .local := by first | exact .inl rfl | exact .inr rfl | assumption) : PS3 X E (.Assign [.Name x pos'] e pos) (tAsg3 te (gName3 i)) := by
  refine ⟨fun _ _ _ _ _ hx hd q => he.mono _ _ _ _ _ hx (fun x δ1 => hd.nx _) q, (ps_set hN hi hx he.pe hs hf).imp fun D σ H h => ?_⟩
  obtain ⟨π, F, ρ, δ, rel, q⟩ := h
  refine ⟨π, F, ρ, δ, rel, he.mono _ _ _ _ _ (fun _ z => z) (fun x δ1 q v H1 ρ1 e1 rel1 r1 => ?_) q⟩
  exact q _ H1 _ (e1.trans Ext.drop) (rel1.setD r1)
end
end M3
set_option Elab.async false
set_option linter.all false
set_option maxRecDepth 100000
namespace M3
open PySem L2
variable [TabsC]
section
variable {K : PySem.W.Frag} {π : Rho} {F : Addr → Prop} {ρ : Rho} {H : Hp} {σ : St} {δ : Sl}
theorem Rel.tmpO (r : Rel K π F ρ H σ δ) {k : Nat} {a : Addr} {H' : Hp} (hn : H a = none) (s : Same H H') (ht : ∃ u, H' a = some u) (hk : δ.length ≤ k) :
    Rel K π F (own1 ρ k a) H' σ δ ∧ Ext (Ow ρ) (Ow ρ) H (Ow (own1 ρ k a)) H' ∧ ∀ p, π p ≠ some a := by
  have ex : Ext (Ow ρ) (Ow ρ) H (Ow (own1 ρ k a)) H' := ⟨fun b v hb _ _ => s b v hb, fun b z => (own1_le b z).imp id fun z => by rw [z]; exact hn, fun b v hb => ⟨v, s b v hb⟩, Tb.same s⟩
  have ex' := ex.frn (F := F)
  have nr : ∀ j, ρ j ≠ some a := fun j h => by
    obtain ⟨u, q⟩ := r.trk a (.inl ⟨j, h⟩)
    rw [hn] at q; cases q
  refine ⟨⟨r.len, fun j y q => ?_, fun j t' o2 q => ?_, fun j l b h1 h2 => ?_, fun b z => ?_, fun b z q => ?_, fun p b z => ?_, r.ln, r.tab.same s⟩, ex, fun p z => ?_⟩
  · obtain ⟨w, h1, h2⟩ := r.dat j y q
    exact ⟨w, h1, h2.ext ex' fun _ => .inl⟩
  · obtain ⟨b, h1, h2, h3, h4⟩ := r.own j t' o2 q
    have hj : j < δ.length := (List.getElem?_eq_some_iff.mp q).1
    exact ⟨b, by unfold own1; rw [if_neg (by omega)]; exact h1, h2, h3.ext ex fun v hv _ => s _ _ hv, h4⟩
  · unfold own1 at h1 h2
    split at h1
    · cases h1
      split at h2
      · rename_i z1 z2; rw [z1, z2]
      · exact absurd h2 (nr l)
    · split at h2
      · cases h2; exact absurd h1 (nr j)
      · exact r.inj j l b h1 h2
  · rcases z with z | z
    · rcases own1_le b z with z | z
      · obtain ⟨u, q⟩ := r.trk b (.inl z); exact ⟨u, s _ _ q⟩
      · rw [z]; exact ht
    · obtain ⟨u, q⟩ := r.trk b (.inr z); exact ⟨u, s _ _ q⟩
  · rcases own1_le b q with q | q
    · exact r.dis b z q
    · obtain ⟨u, q'⟩ := r.trk b (.inr z); rw [q, hn] at q'; cases q'
  · obtain ⟨u, q⟩ := r.pit p b z; exact ⟨u, s _ _ q⟩
  · obtain ⟨u, q⟩ := r.pit p a z
    rw [hn] at q; cases q
theorem Rel.move (r : Rel K π F ρ H σ δ) {k i : Nat} {a : Addr} {o : Ob} (hk : δ.length ≤ k) (ha : ρ k = some a) (ho : ObOk K (Ox F ρ) H a o) (np : ∀ p, π p ≠ some a) :
    ∃ ρ', Rel K π F ρ' H (σ.set i (some (.ref a))) (δ.set i (some (.own 0 o))) ∧ Ext (Ow ρ) (Ow ρ) H (Ow ρ') H := by
  by_cases hi : i < δ.length
  · let ρ' : Rho := fun j => if j = i then some a else if j = k then none else ρ j
    have le : ∀ b, Ow ρ' b → Ow ρ b := fun b ⟨j, h⟩ => by
      simp only [ρ'] at h
      split at h
      · cases h; exact ⟨k, ha⟩
      · split at h
        · cases h
        · exact ⟨j, h⟩
    have lex : ∀ b, Ox F ρ' b → Ox F ρ b := fun b z => z.imp (le b) id
    have at_ : ∀ j b, ρ' j = some b → (j = i ∧ b = a) ∨ (j ≠ i ∧ j ≠ k ∧ ρ j = some b) := fun j b h => by
      simp only [ρ'] at h
      split at h
      · cases h; exact .inl ⟨by assumption, rfl⟩
      · split at h
        · cases h
        · exact .inr ⟨by assumption, by assumption, h⟩
    refine ⟨ρ', ⟨by rw [List.length_set, List.length_set]; exact r.len, fun j y q => ?_, fun j t' o2 q => ?_, fun j l b h1 h2 => ?_, fun b z => r.trk b (lex b z), fun b z q => r.dis b z (le b q), r.pit, r.ln.set (fun p z => by cases z), r.tab⟩, ⟨fun _ _ h _ _ => h, fun b z => .inl (le b z), fun _ u h => ⟨u, h⟩, Tb.refl⟩⟩
    · by_cases hj : i = j
      · subst hj; rw [List.getElem?_set_self hi] at q; cases y <;> cases q
      · rw [List.getElem?_set_ne hj] at q
        obtain ⟨w, h1, h2⟩ := r.dat j y q
        exact ⟨w, by rw [List.getElem?_set_ne hj]; exact h1, h2.mono lex⟩
    · by_cases hj : i = j
      · subst hj
        rw [List.getElem?_set_self hi] at q; cases q
        exact ⟨a, by simp only [ρ', if_pos], by rw [List.getElem?_set_self (by rw [r.len]; exact hi)], ho.mono lex, fun p z => (nomatch z), fun _ => np⟩
      · rw [List.getElem?_set_ne hj] at q
        obtain ⟨b, h1, h2, h3, h4⟩ := r.own j t' o2 q
        have hjl : j < δ.length := (List.getElem?_eq_some_iff.mp q).1
        refine ⟨b, ?_, by rw [List.getElem?_set_ne hj]; exact h2, h3.mono lex, h4⟩
        simp only [ρ']
        rw [if_neg (Ne.symm hj), if_neg (by omega)]
        exact h1
    · rcases at_ _ _ h1 with ⟨e1, e2⟩ | ⟨e1, e2, e3⟩
      · rcases at_ _ _ h2 with ⟨f1, f2⟩ | ⟨f1, f2, f3⟩
        · rw [e1, f1]
        · subst e2; exact absurd (r.inj _ _ _ f3 ha) f2
      · rcases at_ _ _ h2 with ⟨f1, f2⟩ | ⟨f1, f2, f3⟩
        · subst f2; exact absurd (r.inj _ _ _ e3 ha) e2
        · exact r.inj _ _ _ e3 f3
  · refine ⟨ρ, ?_, Ext.refl⟩
    rw [List.set_eq_of_length_le (by rw [r.len]; omega), List.set_eq_of_length_le (by omega)]
    exact r
theorem Rel.freeze (r : Rel K π F ρ H σ δ) {i t : Nat} {xs : List D} (e : δ[i]? = some (some (.own t (.lst xs)))) : Rel K π F (drop ρ i) H σ (δ.set i (some (.d (.list xs)))) := by
  obtain ⟨a, h1, h2, ⟨vs, h3, h4⟩, h5⟩ := r.own i _ _ e
  have nd : ¬ Ox F (drop ρ i) a := fun z => by
    rcases z with ⟨j, z⟩ | z
    · obtain ⟨z1, z2⟩ := drop_some z
      exact z1 (r.inj _ _ _ z2 h1)
    · exact r.dis a z ⟨i, h1⟩
  have hl : i < δ.length := (List.getElem?_eq_some_iff.mp e).1
  refine ⟨by rw [List.length_set]; exact r.len, fun j y q => ?_, fun j t' o2 q => ?_, fun j k a h1 h2 => r.inj j k a (drop_some h1).2 (drop_some h2).2, fun b z => r.trk b (dropx_le b z), fun b z q => r.dis b z (drop_le b q), r.pit, r.ln.setδ (fun p z => by cases z), r.tab⟩
  · by_cases hj : i = j
    · subst hj
      rw [List.getElem?_set_self hl] at q; cases y <;> cases q
      exact ⟨_, h2, Rp.lst ⟨h3, nd⟩ (h4.mono dropx_le)⟩
    · rw [List.getElem?_set_ne hj] at q
      obtain ⟨w, k1, k2⟩ := r.dat j y q
      exact ⟨w, k1, k2.mono dropx_le⟩
  · by_cases hj : i = j
    · subst hj
      rw [List.getElem?_set_self hl] at q; cases q
    · rw [List.getElem?_set_ne hj] at q
      obtain ⟨b, k1, k2, k3, k4⟩ := r.own j t' o2 q
      exact ⟨b, drop_ne k1 (Ne.symm hj), k2, k3.mono dropx_le, k4⟩
end
abbrev TW3 := G3 Ob
def liftO (K : PySem.W.Frag) (E : XK) (t : TW3) : TE := fun σ H Q =>
  ∃ π F ρ δ, Rel K π F ρ H σ δ ∧ t (liftX K E F ρ H) δ fun o δ' => ∀ a H' ρ' k, Ex F ρ H ρ' H' → Rel K π F ρ' H' σ δ' → δ'.length ≤ k → ρ' k = some a → (∀ p, π p ≠ some a) → ObOk K (Ox F ρ') H' a o → Q (.ref a) H'
structure POw (X : Cx) (E : XK) (e : Expr) (t : TW3) : Prop where
  mono : Mono3 t
  pe : PE X e (liftO X.K E t)
section
variable {X : Cx} {E : XK} {a b c e : Expr} {ta tb tc te : T3} {pos : Pos}
theorem setO3 (i : Nat) {to : TW3} {x : Str} {pos' : Pos} (hN : X.N.Nodup) (he : POw X E e to) (hi : X.N[i]? = some x := by rfl) (hx : Loc X.env.scope x := by first | exact Or.inl rfl | exact Or.inr rfl) (hs : swapsWith e (some (.Name x pos')) pos.line X.env = pure false := by rfl)
    (hf : X.fn x = true ∨ X.env.scope.names.lookup x = some .local := by first | exact .inl rfl | exact .inr rfl | assumption) : PS3 X E (.Assign [.Name x pos'] e pos) (fun E D δ => to E δ fun o δ1 => D.nx (δ1.set i (some (.own 0 o)))) := by
  refine ⟨fun _ _ _ _ _ hx hd q => he.mono _ _ _ _ _ hx (fun x δ1 => hd.nx _) q, (ps_set hN hi hx he.pe hs hf).imp fun D σ H h => ?_⟩
  obtain ⟨π, F, ρ, δ, rel, q⟩ := h
  refine ⟨π, F, ρ, δ, rel, he.mono _ _ _ _ _ (fun _ z => z) (fun o δ1 q a H1 ρ1 k e1 rel1 hk ha np ho => ?_) q⟩
  obtain ⟨ρ', r', e'⟩ := rel1.move (i := i) hk ha ho np
  exact q _ H1 ρ' (e1.trans e') r'
theorem retO3 {to : TW3} (he : POw X E e to) : PS3 X E (.Return (some e) pos) (fun E D δ => to E δ fun o δ1 => D.rt (.own o) δ1) := by
  refine ⟨fun _ _ _ _ _ hx hd q => he.mono _ _ _ _ _ hx (fun _ δ1 => hd.rt _ δ1) q, (ps_ret he.pe).imp fun D σ H h => ?_⟩
  obtain ⟨π, F, ρ, δ, rel, q⟩ := h
  exact ⟨π, F, ρ, δ, rel, he.mono _ _ _ _ _ (fun _ z => z) (fun o δ1 q a H1 ρ1 k e1 rel1 hk ha np ho => q _ σ H1 ρ1 e1 rel1 ⟨a, rfl, ⟨k, ha⟩, np, ho⟩) q⟩
def onOwn (δ : Sl) (i : Nat) (k : Nat → Ob → Prop) : Prop := match δ[i]? with | some (some (.own t o)) => k t o | _ => False
theorem onOwn.to {δ : Sl} {i : Nat} {k : Nat → Ob → Prop} (h : onOwn δ i k) : ∃ t o, δ[i]? = some (some (.own t o)) ∧ k t o := by
  unfold onOwn at h
  split at h
  · exact ⟨_, _, by assumption, h⟩
  · exact h.elim
theorem onOwn.of {δ : Sl} {i t : Nat} {o : Ob} {k : Nat → Ob → Prop} (e : δ[i]? = some (some (.own t o))) (h : k t o) : onOwn δ i k := by
  unfold onOwn
  rw [e]
  exact h
theorem olst3 {es : List Expr} {t : TA3} (h : PA3 X E es t) : POw X E (.List es pos) (fun E δ Q => t E δ fun xs δ1 => xs.length ≤ sizeLine ∧ Q (.lst xs) δ1) := by
  refine ⟨fun _ _ _ _ _ he hq q => h.mono _ _ _ _ _ he (fun xs δ1 z => ⟨z.1, hq _ _ z.2⟩) q, (pe_lst h.pa).imp fun σ H Q q => ?_⟩
  obtain ⟨π, F, ρ, δ, rel, q⟩ := q
  refine ⟨π, F, ρ, δ, rel, h.mono _ _ _ _ _ (fun _ z => z) (fun xs δ1 q vs H1 ρ1 e1 rel1 r1 => ⟨by rw [r1.length]; exact q.1, fun p hp => ?_⟩) q⟩
  obtain ⟨r2, e2, np⟩ := rel1.tmpO (k := δ1.length) (a := p) hp (same_upd (o := .lst vs) hp) ⟨_, upd_same⟩ (Nat.le_refl _)
  exact q.2 p _ _ δ1.length (e1.trans e2) r2 (Nat.le_refl _) (by unfold own1; rw [if_pos rfl]) np ⟨vs, upd_same, r1.ext (e2.frn) fun _ => .inl⟩
def onLst (δ : Sl) (i : Nat) (k : List D → Prop) : Prop := match δ[i]? with | some (some (.own _ (.lst xs))) => k xs | some (some (.ro xs)) => k xs | _ => False
theorem Rel.onLst {K : PySem.W.Frag} {π : Rho} {F : Addr → Prop} {ρ : Rho} {H : Hp} {σ : St} {δ : Sl} {i : Nat} {k : List D → Prop} (r : Rel K π F ρ H σ δ) (h : M3.onLst δ i k) : ∃ a vs xs, σ[i]? = some (some (.ref a)) ∧ SqL K H a vs ∧ RpAll K (Ox F ρ) H vs xs ∧ k xs := by
  unfold M3.onLst at h
  split at h
  · rename_i q
    obtain ⟨a, h1, h2, ⟨vs, h3, h4⟩, _⟩ := r.own i _ _ q
    exact ⟨a, vs, _, h2, SqL.of h3, h4, h⟩
  · rename_i xs q
    obtain ⟨v, h1, a, vs, rfl, h2, h3⟩ := r.dat i (.ro xs) q
    exact ⟨a, vs, _, h1, h2.sq, h3, h⟩
  · exact h.elim
theorem onLst.imp {δ : Sl} {i : Nat} {k k' : List D → Prop} (h : onLst δ i k) (f : ∀ xs, k xs → k' xs) : onLst δ i k' := by
  unfold onLst at h ⊢
  split at h
  · exact f _ h
  · exact f _ h
  · exact h.elim
def tIxO (i : Nat) (tb : T3) : T3 := fun E δ Q => onLst δ i fun _ => tb E δ fun y δ1 => asI y fun j => onLst δ1 i fun xs => ∃ d, atI xs j = some d ∧ Q d δ1
theorem ixO3 (i : Nat) {x : Str} {pos' : Pos} (hb : PE3 X E b tb) (hs : PlainIx b := by exact fun _ _ => rfl) (hN : X.N[i]? = some x := by rfl) (hv : Vis X.env.scope x := by first | exact Or.inl rfl | exact Or.inr (Or.inl rfl) | exact Or.inr (Or.inr rfl)) (hd : (x == ("__debug__" : Str)) = false := by decide)
    (hcd : (x == ("__classdict__" : Str)) = false := by decide) : PE3 X E (.Subscript (.Name x pos') b pos) (tIxO i tb) := by
  refine ⟨fun _ _ _ _ _ hx hq q => ?_, (pe_ix ix_list (pe_var hN hv hd hcd) hb.pe hs).imp fun σ H Q h => ?_⟩
  · refine q.imp fun _ q => hb.mono _ _ _ _ _ hx (fun y δ1 z => ?_) q
    obtain ⟨j, rfl, z1⟩ := asI.to z
    exact asI.of (z1.imp fun xs ⟨d, e, q⟩ => ⟨d, e, hq _ _ q⟩)
  · obtain ⟨π, F, ρ, δ, rel, q⟩ := h
    obtain ⟨v, _, _, hσ, _, _, q⟩ := rel.onLst q
    refine ⟨_, hσ, π, F, ρ, δ, rel, hb.mono _ _ _ _ _ (fun _ z => z) (fun y δ1 q w H1 ρ1 e1 rel1 r1 => ?_) q⟩
    obtain ⟨j, rfl, q⟩ := asI.to q
    obtain ⟨a, vs, xs, h1, h2, h3, d, h4, h5⟩ := rel1.onLst q
    rw [hσ] at h1; cases h1
    cases r1
    obtain ⟨u, h6, h7⟩ := h3.atI h4
    exact ⟨_, vs, j, u, rfl, rfl, h2, h6, h5 u H1 ρ1 e1 rel1 h7⟩
def tUO (i : Nat) (r3 : List D → (D → Prop) → Prop) : T3 := fun _ δ Q => onLst δ i fun xs => r3 xs fun z => Q z δ
theorem unO3 (i : Nat) {x : Str} {pos' : Pos} {r : V → Hp → VK → Prop} {r3 : List D → (D → Prop) → Prop} (mk : ∀ ta', PE X (.Name x pos') ta' → PE X e (tUn r ta'))
    (hr : ∀ (O : Addr → Prop) (H : Hp) (a : Addr) (vs : List V) (xs : List D) (k : D → Prop) (Q : VK), Trk O H → SqL X.K H a vs → RpAll X.K O H vs xs → r3 xs k → (∀ z w H', Same H H' → Rp X.K O H' w z → k z → Q w H') → r (.ref a) H Q)
    (m : ∀ xs k k', (∀ z, k z → k' z) → r3 xs k → r3 xs k') (hN : X.N[i]? = some x := by rfl) (hv : Vis X.env.scope x := by first | exact Or.inl rfl | exact Or.inr (Or.inl rfl) | exact Or.inr (Or.inr rfl)) (hd : (x == ("__debug__" : Str)) = false := by decide)
    (hcd : (x == ("__classdict__" : Str)) = false := by decide) : PE3 X E e (tUO i r3) := by
  refine ⟨fun _ _ _ _ _ hx hq q => q.imp fun xs => m _ _ _ fun z => hq _ _, (mk _ (pe_var hN hv hd hcd)).imp fun σ H Q h => ?_⟩
  obtain ⟨π, F, ρ, δ, rel, q⟩ := h
  obtain ⟨a, vs, xs, h1, h2, h3, q⟩ := rel.onLst q
  exact ⟨_, h1, hr _ H a vs xs _ Q rel.trk h2 h3 q fun z w H' s r q => q w H' ρ (Ext.same s) (rel.same s) r⟩
theorem lenO3 (i : Nat) {x : Str} {pos' p : Pos} (hg : Gl X "len") (hm : X.mg "len" = none) (he : starEach [.Name x pos'] X.env = (false, eval (.Name x pos') X.env) :: starEach [] X.env := by rfl) (hN : X.N[i]? = some x := by rfl) (hv : Vis X.env.scope x := by first | exact Or.inl rfl | exact Or.inr (Or.inl rfl) | exact Or.inr (Or.inr rfl)) (hd : (x == ("__debug__" : Str)) = false := by decide)
    (hcd : (x == ("__classdict__" : Str)) = false := by decide) : PE3 X E (.Call (.Name "len" p) [.Name x pos'] [] pos) (tUO i fun xs k => k (.int (xs.length : Nat))) :=
  unO3 i (fun _ h => mkB call_len_seq hg hm PySem.boot_len h (by decide) (by decide) he) (fun O H a vs xs k Q tr hs hr h hq => ⟨_, _, rfl, .inl hs, hq _ _ H (Same.refl H) (by rw [hr.length]; exact .int _) h⟩) (fun _ _ _ hk h => hk _ h) hN hv hd hcd
def onL (δ : Sl) (i : Nat) (k : Nat → List D → Prop) : Prop := match δ[i]? with | some (some (.own t (.lst xs))) => k t xs | _ => False
theorem onL.to {δ : Sl} {i : Nat} {k : Nat → List D → Prop} (h : onL δ i k) : ∃ t xs, δ[i]? = some (some (.own t (.lst xs))) ∧ k t xs := by
  unfold onL at h
  split at h
  · exact ⟨_, _, by assumption, h⟩
  · exact h.elim
theorem onL.of {δ : Sl} {i t : Nat} {xs : List D} {k : Nat → List D → Prop} (e : δ[i]? = some (some (.own t (.lst xs)))) (h : k t xs) : onL δ i k := by
  unfold onL
  rw [e]
  exact h
theorem app3 (i : Nat) {x : Str} {pos' p' pos2 : Pos} (he : PE3 X E e te) (hs : starEach [e] X.env = (false, eval e X.env) :: starEach [] X.env := by rfl) (hN : X.N[i]? = some x := by rfl) (hv : Vis X.env.scope x := by first | exact Or.inl rfl | exact Or.inr (Or.inl rfl) | exact Or.inr (Or.inr rfl)) (hd : (x == ("__debug__" : Str)) = false := by decide)
    (hcd : (x == ("__classdict__" : Str)) = false := by decide) (hw : swapsWith (.Call (.Attribute (.Name x pos') "append" p') [e] [] pos) none pos2.line X.env = pure false := by rfl)
    (hfew : ((backTo pos (starEach [e] X.env)).all (fun x => !x.1) && (backToKw pos (keywordEach [] X.env)).all (fun x => x.1.isSome)
      && decide (([e] : List Expr).length + ([] : List Keyword).length + (if ([] : List Keyword).isEmpty then 0 else 1) < 30)) = true := by rfl)
    (hline : (p'.endLine == pos.line) = true := by rfl) : PS3 X E (.Expr (.Call (.Attribute (.Name x pos') "append" p') [e] [] pos) pos2) (fun E D δ => onL δ i fun _ _ => te E δ fun y δ1 => onL δ1 i fun t xs => xs.length < sizeLine ∧ D.nx (δ1.set i (some (.own t (.lst (xs ++ [y])))))) := by
  refine ⟨fun _ _ _ _ _ hx hd q => ?_, (ps_expr (pe_bm PySem.F.plainAttrs_list PySem.F.slot_list_append PySem.F.type_list_append mt_append (pe_var hN hv hd hcd) (pa_cons he.pe pa_nil hs) rfl hfew hline hs rfl) hw).imp fun D σ H h => ?_⟩
  · obtain ⟨t, xs, e, q⟩ := q.to
    refine onL.of e (he.mono _ _ _ _ _ hx (fun y δ1 z => ?_) q)
    obtain ⟨t, xs, e, q1, q2⟩ := z.to
    exact onL.of e ⟨q1, hd.nx _ q2⟩
  · obtain ⟨π, F, ρ, δ, rel, q⟩ := h
    obtain ⟨t, xs, e, q⟩ := q.to
    obtain ⟨a, _, hσ, ⟨vs, h3, _⟩, _⟩ := rel.own i _ _ e
    refine ⟨_, hσ, .inl ⟨rfl, _, .inl (.inl h3)⟩, π, F, ρ, δ, rel, he.mono _ _ _ _ _ (fun _ z => z) (fun y δ1 q w H1 ρ1 e1 rel1 r1 => ?_) q⟩
    obtain ⟨t, xs, e', q1, q2⟩ := q.to
    obtain ⟨a', ha', hσ', ⟨vs', h3', h4'⟩, _⟩ := rel1.own i _ _ e'
    rw [hσ] at hσ'; cases hσ'
    refine ⟨_, vs', w, rfl, rfl, h3', by rw [h4'.length]; exact q1, ?_⟩
    obtain ⟨r2, e2⟩ := rel1.setO (o' := .lst (xs ++ [y])) (u := .lst (vs' ++ [w])) e' ha' fun H' hH' keep ktb => ⟨_, hH', (h4'.append (.cons r1 .nil)).ext (P := Ow ρ1) ⟨fun b o hb n _ => keep b o (fun z => n (by rw [z]; exact ⟨i, ha'⟩)) hb, fun _ z => .inl z, fun b o hb => by
      by_cases z : b = a
      · rw [z]; exact ⟨_, hH'⟩
      · exact ⟨o, keep b o z hb⟩, ktb⟩ fun _ => .inl⟩
    exact q2 σ _ ρ1 (e1.trans e2) r2
theorem setIx3 (i : Nat) {x : Str} {pos' p' : Pos} (he : PE3 X E e te) (hb : PE3 X E b tb) (hN : X.N[i]? = some x := by rfl) (hv : Vis X.env.scope x := by first | exact Or.inl rfl | exact Or.inr (Or.inl rfl) | exact Or.inr (Or.inr rfl)) (hd : (x == ("__debug__" : Str)) = false := by decide)
    (hcd : (x == ("__classdict__" : Str)) = false := by decide) (ha : ∀ v, assign (.Subscript (.Name x pos') b p') X.env v = (do
      let ov ← holding [v] (eval (.Name x pos') X.env)
      let iv ← holding [v, ov] (eval b X.env)
      standAt p'
      holding [v, ov, iv] (setItem ov iv v)
      release [v, ov, iv] []) := by intro _; rfl) (hs : swapsWithSole [.Subscript (.Name x pos') b p'] e pos.line X.env = pure false := by rfl) (hw : swappedStores [.Subscript (.Name x pos') b p'] e X.env = pure none := by rfl)
    (h1 : (assignEach [.Subscript (.Name x pos') b p'] X.env).map (·.2) = [assign (.Subscript (.Name x pos') b p') X.env] := by rfl) :
    PS3 X E (.Assign [.Subscript (.Name x pos') b p'] e pos) (fun E D δ => te E δ fun y δ1 => onL δ1 i fun _ _ => tb E δ1 fun z δ2 => asI z fun j => onL δ2 i fun t xs => ∃ n, ixN xs.length j = some n ∧ D.nx (δ2.set i (some (.own t (.lst (xs.set n y)))))) := by
  refine ⟨fun _ _ _ _ _ hx hd q => he.mono _ _ _ _ _ hx (fun y δ1 z => ?_) q, (ps_asg he.pe (pg_sub (pe_var hN hv hd hcd) hb.pe set_list ha) hs hw h1).imp fun D σ H h => ?_⟩
  · obtain ⟨t, xs, e, z⟩ := z.to
    refine onL.of e (hb.mono _ _ _ _ _ hx (fun w δ2 z => ?_) z)
    obtain ⟨j, rfl, z1⟩ := asI.to z
    obtain ⟨t, xs, e, n, q1, q2⟩ := z1.to
    exact asI.of (onL.of e ⟨n, q1, hd.nx _ q2⟩)
  · obtain ⟨π, F, ρ, δ, rel, q⟩ := h
    refine ⟨π, F, ρ, δ, rel, he.mono _ _ _ _ _ (fun _ z => z) (fun y δ1 q w H1 ρ1 e1 rel1 r1 => ?_) q⟩
    obtain ⟨t, xs, e, q⟩ := q.to
    obtain ⟨a, _, hσ, ⟨vs, h3, _⟩, _⟩ := rel1.own i _ _ e
    refine ⟨_, hσ, π, F, ρ1, δ1, rel1, hb.mono _ _ _ _ _ (liftX.mono e1) (fun z δ2 q w2 H2 ρ2 e2 rel2 r2 => ?_) q⟩
    obtain ⟨j, rfl, qj⟩ := asI.to q
    obtain ⟨t, xs, e', n, q1, q2⟩ := qj.to
    obtain ⟨a', ha', hσ', ⟨vs', h3', h4'⟩, _⟩ := rel2.own i _ _ e'
    rw [hσ] at hσ'; cases hσ'
    cases r2
    refine ⟨_, vs', j, n, rfl, rfl, h3', by rw [h4'.length]; exact q1, ?_⟩
    have r1' := r1.ext (e2.frn) fun _ => .inl
    obtain ⟨r3, e3⟩ := rel2.setO (o' := .lst (xs.set n y)) (u := .lst (vs'.set n w)) e' ha' fun H' hH' keep ktb => ⟨_, hH', (RpAll.set r1' n h4').ext (P := Ow ρ2) ⟨fun b o hb n _ => keep b o (fun z => n (by rw [z]; exact ⟨i, ha'⟩)) hb, fun _ z => .inl z, fun b o hb => by
      by_cases z : b = a
      · rw [z]; exact ⟨_, hH'⟩
      · exact ⟨o, keep b o z hb⟩, ktb⟩ fun _ => .inl⟩
    exact q2 σ _ ρ2 ((e1.trans e2).trans e3) r3
theorem frz3 (i : Nat) {sts : List Stmt} {t : TS3} (h : PSs3 X E sts t) : PSs3 X E sts (fun E D δ => onL δ i fun _ xs => t E D (δ.set i (some (.d (.list xs))))) := by
  refine ⟨fun _ _ _ _ _ hx hd q => ?_, h.ps.imp fun D σ H q => ?_⟩
  · obtain ⟨t, xs, e, q⟩ := q.to
    exact onL.of e (h.mono _ _ _ _ _ hx hd q)
  · obtain ⟨π, F, ρ, δ, rel, q⟩ := q
    obtain ⟨t, xs, e, q⟩ := q.to
    exact ⟨π, F, _, _, rel.freeze e, h.mono _ _ _ _ _ (liftX.mono Ext.drop) (liftD.mono Ext.drop) q⟩
end
end M3
set_option Elab.async false
set_option linter.all false
set_option maxRecDepth 100000
namespace M3
open PySem L2
variable [TabsC]
def JOk (K : PySem.W.Frag) (F : Addr → Prop) (ρ0 : Rho) (H0 : Hp) (J : It) (ds : List D) : Prop :=
  ∀ (i : Nat) (F' : Addr → Prop) (ρ : Rho) (H : Hp) (P : Addr → Prop), (∀ b, P b → Ox F ρ0 b) → Ext P (Ox F ρ0) H0 (Ox F' ρ) H → Trk (Ox F' ρ) H →
    (∀ x, ds[i]? = some x → J.go i H ∧ ∀ v H', J.yld i H v H' → Same H H' ∧ Rp K (Ox F' ρ) H' v x) ∧ (ds.length ≤ i → J.stop i H)
def liftI (K : PySem.W.Frag) (E : XK) (t : TA3) : TI := fun σ H R => ∃ π F ρ δ, Rel K π F ρ H σ δ ∧ t (liftX K E F ρ H) δ fun ds δ' => ∀ J H' ρ', Ex F ρ H ρ' H' → Rel K π F ρ' H' σ δ' → JOk K F ρ' H' J ds → R J H'
structure PI3 (X : Cx) (E : XK) (tg iter : Expr) (t : TA3) : Prop where
  mono : Mono3 t
  pi : PI X tg iter (liftI X.K E t)
section
variable {X : Cx} {E : XK} {tg a b c e iter : Expr} {ta tb tc te : T3} {ti : TA3} {pos : Pos}
def rngD (lo : Int) (n : Nat) : List D := (List.range n).map fun i => .int (lo + (i : Nat))
theorem rngD_get {lo : Int} {n i : Nat} {x : D} (h : (rngD lo n)[i]? = some x) : i < n ∧ x = .int (lo + (i : Nat)) := by
  unfold rngD at h
  rw [List.getElem?_map] at h
  by_cases hi : i < n
  · rw [List.getElem?_range hi] at h
    exact ⟨hi, by simpa using h.symm⟩
  · rw [List.getElem?_eq_none (by rw [List.length_range]; omega)] at h; cases h
theorem rngD_length {lo : Int} {n : Nat} : (rngD lo n).length = n := by unfold rngD; rw [List.length_map, List.length_range]
theorem jok_range {K : PySem.W.Frag} {F : Addr → Prop} {ρ0 : Rho} {H0 : Hp} (lo : Int) (n : Nat) : JOk K F ρ0 H0 (Itr lo n) (rngD lo n) := by
  intro i F' ρ H P po ex tr
  refine ⟨fun x h => ?_, fun h => ?_⟩
  · obtain ⟨h1, rfl⟩ := rngD_get h
    refine ⟨h1, fun v H' y => ?_⟩
    obtain ⟨e1, e2⟩ := y
    subst e1 e2
    exact ⟨Same.refl _, .int _⟩
  · rw [rngD_length] at h; exact h
def tRng1 (ta : T3) : TA3 := fun E δ Q => ta E δ fun x δ1 => asI x fun j => j < 2 ^ 62 ∧ -(2 ^ 62) ≤ j ∧ Q (rngD 0 j.toNat) δ1
theorem range3 {p : Pos} (hg : Gl X "range") (hm : X.mg "range" = none) (ha : PE3 X E a ta) (hs : starEach [a] X.env = [(false, eval a X.env)] := by rfl) (hs' : starEach [a] X.env = (false, eval a X.env) :: starEach [] X.env := by rfl) : PI3 X E tg (.Call (.Name "range" p) [a] [] pos) (tRng1 ta) := by
  refine ⟨fun _ _ _ _ _ hx hq q => ha.mono _ _ _ _ _ hx (fun x δ1 z => by obtain ⟨j, rfl, z1, z2, z3⟩ := asI.to z; exact asI.of ⟨z1, z2, hq _ _ z3⟩) q, (pi_range1 hg hm (pa_cons ha.pe pa_nil hs') hs).imp fun σ H R h => ?_⟩
  obtain ⟨π, F, ρ, δ, rel, q⟩ := h
  refine ⟨π, F, ρ, δ, rel, ha.mono _ _ _ _ _ (fun _ z => z) (fun x δ1 q v H1 ρ1 e1 rel1 r1 => ?_) q⟩
  obtain ⟨j, rfl, q1, q2, q3⟩ := asI.to q
  cases r1
  exact ⟨j, rfl, q2, q1, q3 _ H1 ρ1 e1 rel1 (jok_range 0 _)⟩
def tRng2 (ta tb : T3) : TA3 := fun E δ Q => ta E δ fun x δ1 => tb E δ1 fun y δ2 => asI x fun i => asI y fun j => (-(2 ^ 62) ≤ i ∧ i < 2 ^ 62 ∧ -(2 ^ 62) ≤ j ∧ j < 2 ^ 62) ∧ Q (rngD i (j - i).toNat) δ2
def iSeq (K : PySem.W.Frag) (tl : TE) : TI := fun σ H R => tl σ H fun x H1 => ∃ a, x = .ref a ∧ (((∃ xs, SqL K H1 a xs) ∧ R (Itl K a) H1) ∨ ((∃ xs, SqT K H1 a xs) ∧ R (Itt K a) H1))
theorem pi_seq {l : Expr} {tl : TE} (hl : PE X l tl) : PI X tg l (iSeq X.K tl) := by
  refine ⟨fun pins s σ H R I h => ?_⟩
  refine thn (hl.run pins s σ H _ I h) fun v s1 ⟨x, H1, I1, r1, q1⟩ => ?_
  obtain ⟨a, e, q1⟩ := q1
  subst e
  cases r1
  rcases q1 with ⟨⟨xs, hq⟩, q⟩ | ⟨⟨xs, hq⟩, q⟩
  · obtain ⟨its, rv, p, hz⟩ := I1.list hq
    refine wpAny_pyIter_list p.isList ?_
    refine ⟨s1.heap.objs.size, [s1.heap.objs.size], _, _, H1, rfl, I1.kept (t' := s1.toks) fun b o e => Heap.get?_push_of_some _ e, turn_list a _, ⟨_, Heap.get?_push_size _ rfl, rfl, rfl⟩, fun b hb => ?_, q⟩
    have e : b = s1.heap.objs.size := by simpa using hb
    subst e
    exact I1.fpOk (Nat.le_refl _) (I1.hok.fresh (Nat.le_refl _))
  · obtain ⟨its, rv, p, hz⟩ := I1.tuple hq
    refine wpAny_pyIter_tuple (show s1.heap.IsTuple a its.toArray from p) ?_
    refine ⟨s1.heap.objs.size, [s1.heap.objs.size], _, _, H1, rfl, I1.kept (t' := s1.toks) fun b o e => Heap.get?_push_of_some _ e, turn_tuple a _, ⟨_, Heap.get?_push_size _ rfl, rfl, rfl⟩, fun b hb => ?_, q⟩
    have e : b = s1.heap.objs.size := by simpa using hb
    subst e
    exact I1.fpOk (Nat.le_refl _) (I1.hok.fresh (Nat.le_refl _))
theorem jok_list {K : PySem.W.Frag} {F : Addr → Prop} {ρ0 : Rho} {H0 : Hp} {a : Addr} {vs : List V} {ds : List D} (h : TL K (Ox F ρ0) H0 a vs) (r : RpAll K (Ox F ρ0) H0 vs ds) : JOk K F ρ0 H0 (Itl K a) ds := by
  intro i F' ρ H P po ex tr
  have h' := h.ext ex po
  have r' := r.ext ex po
  refine ⟨fun x hx => ?_, fun hx => ⟨vs, h'.sq, by rw [r'.length]; exact hx⟩⟩
  obtain ⟨v, hv, rv⟩ := r'.get hx
  refine ⟨⟨vs, v, h'.sq, hv⟩, fun u H' y => ?_⟩
  obtain ⟨e, y⟩ := y
  subst e
  have z := y vs h'.sq
  rw [hv] at z; cases z
  exact ⟨Same.refl _, rv⟩
theorem jok_tup {K : PySem.W.Frag} {F : Addr → Prop} {ρ0 : Rho} {H0 : Hp} {a : Addr} {vs : List V} {ds : List D} (h : TT K (Ox F ρ0) H0 a vs) (r : RpAll K (Ox F ρ0) H0 vs ds) : JOk K F ρ0 H0 (Itt K a) ds := by
  intro i F' ρ H P po ex tr
  have h' := h.ext ex po
  have r' := r.ext ex po
  refine ⟨fun x hx => ?_, fun hx => ⟨vs, h'.sq, by rw [r'.length]; exact hx⟩⟩
  obtain ⟨v, hv, rv⟩ := r'.get hx
  refine ⟨⟨vs, v, h'.sq, hv⟩, fun u H' y => ?_⟩
  obtain ⟨e, y⟩ := y
  subst e
  have z := y vs h'.sq
  rw [hv] at z; cases z
  exact ⟨Same.refl _, rv⟩
def asSeq (x : D) (k : List D → Prop) : Prop := match x with | .tuple xs => k xs | .list xs => k xs | _ => False
theorem asSeq.imp {x : D} {k k' : List D → Prop} (h : asSeq x k) (f : ∀ xs, k xs → k' xs) : asSeq x k' := by
  unfold asSeq at h ⊢
  split at h
  · exact f _ h
  · exact f _ h
  · exact h.elim
def tSeqI (ta : T3) : TA3 := fun E δ Q => ta E δ fun x δ1 => asSeq x fun xs => Q xs δ1
theorem seq3 (ha : PE3 X E a ta) : PI3 X E tg a (tSeqI ta) := by
  refine ⟨fun _ _ _ _ _ hx hq q => ha.mono _ _ _ _ _ hx (fun x δ1 z => z.imp fun xs => hq _ _) q, (pi_seq ha.pe).imp fun σ H R h => ?_⟩
  obtain ⟨π, F, ρ, δ, rel, q⟩ := h
  refine ⟨π, F, ρ, δ, rel, ha.mono _ _ _ _ _ (fun _ z => z) (fun x δ1 q v H1 ρ1 e1 rel1 r1 => ?_) q⟩
  unfold asSeq at q
  split at q
  · cases r1 with
    | tup ht hr => exact ⟨_, rfl, .inr ⟨⟨_, ht.sq⟩, q _ H1 ρ1 e1 rel1 (jok_tup ht hr)⟩⟩
  · cases r1 with
    | lst ht hr => exact ⟨_, rfl, .inl ⟨⟨_, ht.sq⟩, q _ H1 ρ1 e1 rel1 (jok_list ht hr)⟩⟩
  · exact q.elim
def tFor3 (ti : TA3) (g : TG3) (tb : TS3) : TS3 := fun E D δ => ti E δ fun ds δ1 => ∃ Pv : Nat → Sl → Prop, Pv 0 δ1 ∧
  (∀ i x δ2, ds[i]? = some x → Pv i δ2 → g x δ2 fun δ3 => tb E { nx := Pv (i + 1), ct := Pv (i + 1), bk := D.nx, rt := D.rt } δ3) ∧ ∀ δ2, Pv ds.length δ2 → D.nx δ2
theorem for3 {ws : List Nat} {body : List Stmt} {g : TG3} {tb : TS3} (hp : PassesOwn (model X.prog X.w) X.A X.env X.xe) (hc : X.calm = true) (hi : PI3 X E tg iter ti) (hg : PG3 X ws tg g) (hb : PSs3 X E body tb)
    (hs : ∀ x, foldedSetIterable iter X.env x = pure x := by intro _; rfl) : PS3 X E (.For tg iter body [] pos) (tFor3 ti g tb) := by
  refine ⟨fun E1 E2 D1 D2 _ hx hd q => hi.mono _ _ _ _ _ hx (fun ds δ1 ⟨Pv, h0, h1, h2⟩ => ⟨Pv, h0, fun i x δ2 e p => hg.mono _ _ _ _ (fun δ3 => hb.mono E1 E2 { nx := Pv (i + 1), ct := Pv (i + 1), bk := D1.nx, rt := D1.rt } _ _ hx ⟨fun _ z => z, hd.rt, hd.nx, fun _ z => z⟩) (h1 i x δ2 e p), fun δ2 p => hd.nx _ (h2 δ2 p)⟩) q,
    (ps_for hp hc hi.pi hg.pg hb.ps hs).imp fun D σ H h => ?_⟩
  obtain ⟨π, F, ρ, δ, rel, q⟩ := h
  refine ⟨π, F, ρ, δ, rel, hi.mono _ _ _ _ _ (fun _ z => z) (fun ds δ1 ⟨Pv, h0, h1, h2⟩ J H1 ρ1 e1 rel1 jok => ?_) q⟩
  refine ⟨fun i m σ2 H2 => m = ds.length - i ∧ i ≤ ds.length ∧ ∃ ρ2 δ2, Ex F ρ1 H1 ρ2 H2 ∧ Rel X.K π F ρ2 H2 σ2 δ2 ∧ Pv i δ2, ⟨ds.length, by simp, Nat.zero_le _, ρ1, δ1, Ext.refl, rel1, h0⟩, ?_⟩
  rintro i m σ2 H2 ⟨rfl, hil, ρ2, δ2, e2, rel2, p⟩
  obtain ⟨j1, j2⟩ := jok i F ρ2 H2 _ (fun _ => .inl) e2.frn rel2.trk
  by_cases hlt : i < ds.length
  · obtain ⟨go, y⟩ := j1 ds[i] (by simp [hlt])
    refine .inr ⟨go, fun σ' H' => i + 1 ≤ ds.length ∧ ∃ ρ2 δ2, Ex F ρ1 H1 ρ2 H' ∧ Rel X.K π F ρ2 H' σ' δ2 ∧ Pv (i + 1) δ2, fun σ' H' ⟨hl, z⟩ => ⟨ds.length - (i + 1), by omega, rfl, hl, z⟩, fun v H' yl => ?_⟩
    obtain ⟨sm, rp⟩ := y v H' yl
    refine ⟨π, F, ρ2, δ2, _, rel2.same sm, rp, hg.mono _ _ _ _ (fun δ3 q σ3 H3 ρ3 e3 rel3 _ _ => ?_) (h1 i _ δ2 (by simp [hlt]) p)⟩
    have e23 : Ex F ρ1 H1 ρ3 H3 := (e2.trans (Ext.same sm)).trans e3
    refine ⟨π, F, ρ3, δ3, rel3, hb.mono _ _ { nx := Pv (i + 1), ct := Pv (i + 1), bk := (liftD D X.K π F ρ H).nx, rt := (liftD D X.K π F ρ H).rt } _ _ (liftX.mono (e1.trans e23)) ⟨fun δ4 q σ4 H4 ρ4 e4 rel4 => ?_, fun r δ4 q v4 σ4 H4 ρ4 e4 rel4 r4 => ?_, fun δ4 q σ4 H4 ρ4 e4 rel4 => ?_, fun δ4 q σ4 H4 ρ4 e4 rel4 => ?_⟩ q⟩
    · exact ⟨hlt, ρ4, δ4, e23.trans e4, rel4, q⟩
    · exact q v4 σ4 H4 ρ4 ((e1.trans e23).trans e4) rel4 r4
    · exact q σ4 H4 ρ4 ((e1.trans e23).trans e4) rel4
    · exact ⟨hlt, ρ4, δ4, e23.trans e4, rel4, q⟩
  · have e : i = ds.length := by omega
    subst e
    exact .inl ⟨j2 (Nat.le_refl _), h2 δ2 p σ2 H2 ρ2 (e1.trans e2) rel2⟩
def tWhile3 (c : TB3) (tb : TS3) : TS3 := fun E D δ => ∃ Pv : Nat → Sl → Prop, (∃ m, Pv m δ) ∧
  ∀ m δ2, Pv m δ2 → c E δ2 fun b δ3 => br b (tb E { nx := fun δ4 => ∃ m', m' < m ∧ Pv m' δ4, ct := fun δ4 => ∃ m', m' < m ∧ Pv m' δ4, bk := D.nx, rt := D.rt } δ3) (D.nx δ3)
theorem while3 {body : List Stmt} {tc : TB3} {tb : TS3} (hp : PassesOwn (model X.prog X.w) X.A X.env X.xe) (hc : PT3 X E c tc) (hb : PSs3 X E body tb) : PS3 X E (.While c body [] pos) (tWhile3 tc tb) := by
  refine ⟨fun E1 E2 D1 D2 _ hx hd ⟨Pv, h0, h1⟩ => ⟨Pv, h0, fun m δ2 p => hc.mono _ _ _ _ _ hx (fun b δ3 z => z.imp (hb.mono E1 E2 { nx := fun δ4 => ∃ m', m' < m ∧ Pv m' δ4, ct := fun δ4 => ∃ m', m' < m ∧ Pv m' δ4, bk := D1.nx, rt := D1.rt } _ _ hx ⟨fun _ z => z, hd.rt, hd.nx, fun _ z => z⟩) (hd.nx _)) (h1 m δ2 p)⟩,
    (ps_while hp hc.pe hb.ps).imp fun D σ H h => ?_⟩
  obtain ⟨π, F, ρ, δ, rel, Pv, ⟨m0, h0⟩, h1⟩ := h
  refine ⟨fun m σ2 H2 => ∃ ρ2 δ2, Ex F ρ H ρ2 H2 ∧ Rel X.K π F ρ2 H2 σ2 δ2 ∧ Pv m δ2, ⟨m0, ρ, δ, Ext.refl, rel, h0⟩, ?_⟩
  rintro m σ2 H2 ⟨ρ2, δ2, e2, rel2, p⟩
  refine ⟨π, F, ρ2, δ2, rel2, hc.mono _ _ _ _ _ (liftX.mono e2) (fun b δ3 q b' H3 ρ3 e3 rel3 eb => ?_) (h1 m δ2 p)⟩
  subst eb
  have e23 := e2.trans e3
  refine (q.imp (fun q => ?_) (fun q => ?_)).ite
  · refine ⟨fun σ4 H4 => ∃ m', m' < m ∧ ∃ ρ2 δ2, Ex F ρ H ρ2 H4 ∧ Rel X.K π F ρ2 H4 σ4 δ2 ∧ Pv m' δ2, fun σ4 H4 ⟨m', hm, z⟩ => ⟨m', hm, z⟩, π, F, ρ3, δ3, rel3, hb.mono _ _ { nx := fun δ4 => ∃ m', m' < m ∧ Pv m' δ4, ct := fun δ4 => ∃ m', m' < m ∧ Pv m' δ4, bk := (liftD D X.K π F ρ H).nx, rt := (liftD D X.K π F ρ H).rt } _ _ (liftX.mono e23) ⟨fun δ4 ⟨m', hm, q⟩ σ4 H4 ρ4 e4 rel4 => ?_, fun r δ4 q v4 σ4 H4 ρ4 e4 rel4 r4 => ?_, fun δ4 q σ4 H4 ρ4 e4 rel4 => ?_, fun δ4 ⟨m', hm, q⟩ σ4 H4 ρ4 e4 rel4 => ?_⟩ q⟩
    · exact ⟨m', hm, ρ4, δ4, e23.trans e4, rel4, q⟩
    · exact q v4 σ4 H4 ρ4 (e23.trans e4) rel4 r4
    · exact q σ4 H4 ρ4 (e23.trans e4) rel4
    · exact ⟨m', hm, ρ4, δ4, e23.trans e4, rel4, q⟩
  · exact q σ2 H3 ρ3 e23 rel3
end
end M3
set_option Elab.async false
set_option linter.all false
set_option maxRecDepth 100000
namespace M3
open PySem L2
variable [TabsC]
def wipeS (δ : Sl) : List Nat → Sl
  | [] => δ
  | v :: vs => (wipeS δ vs).set v none
def kd (δ : Sl) (i : Nat) : Option W := match δ[i]? with | some (some (.d x)) => some (.d x) | _ => none
def backS (δ0 δ' : Sl) : List Nat → Sl
  | [] => δ'
  | v :: vs => (backS δ0 δ' vs).set v (kd δ0 v)
theorem wipe_wipe (σ : St) (vs : List Nat) : wipe (wipe σ vs) vs = wipe σ vs := by
  refine List.ext_getElem? fun i => ?_
  by_cases h : i ∈ vs
  · have e : ∀ τ : St, (wipe τ vs)[i]? = if i < τ.length then some none else none := fun τ => by
      cases q : (wipe τ vs)[i]? with
      | none =>
        have := List.getElem?_eq_none_iff.mp q
        rw [wipe_length] at this
        rw [if_neg (by omega)]
      | some o =>
        have hl := (List.getElem?_eq_some_iff.mp q).1
        rw [wipe_length] at hl
        rw [if_pos hl]
        cases o with
        | none => rfl
        | some v => exact absurd h (wipe_some q).2
    rw [e, e, wipe_length]
  · rw [wipe_out h]
theorem backS_length (δ0 δ' : Sl) : ∀ vs : List Nat, (backS δ0 δ' vs).length = δ'.length
  | [] => rfl
  | v :: vs => by unfold backS; rw [List.length_set, backS_length δ0 δ' vs]
theorem backS_out {δ0 δ' : Sl} {j : Nat} : ∀ {vs : List Nat}, j ∉ vs → (backS δ0 δ' vs)[j]? = δ'[j]?
  | [], _ => rfl
  | v :: vs, h => by
    unfold backS
    rw [List.getElem?_set_ne (fun z => h (by rw [z]; exact List.mem_cons_self)), backS_out fun z => h (List.mem_cons_of_mem _ z)]
theorem backS_in {δ0 δ' : Sl} {j : Nat} {w : Option W} : ∀ {vs : List Nat}, j ∈ vs → (backS δ0 δ' vs)[j]? = some w → w = kd δ0 j
  | [], h, _ => by cases h
  | v :: vs, h, e => by
    unfold backS at e
    by_cases hv : v = j
    · subst hv
      by_cases hl : v < (backS δ0 δ' vs).length
      · rw [List.getElem?_set_self hl] at e; cases e; rfl
      · rw [List.getElem?_eq_none (by rw [List.length_set]; omega)] at e; cases e
    · rw [List.getElem?_set_ne hv] at e
      rcases List.mem_cons.mp h with z | z
      · exact absurd z.symm hv
      · exact backS_in z e
theorem kd_d {δ : Sl} {i : Nat} {w : W} (h : kd δ i = some w) : ∃ x, w = .d x ∧ δ[i]? = some (some (.d x)) := by
  unfold kd at h
  split at h
  · cases h; exact ⟨_, rfl, by assumption⟩
  · cases h
section
variable {K : PySem.W.Frag} {π : Rho} {F : Addr → Prop} {ρ : Rho} {H : Hp} {σ : St} {δ : Sl}
theorem Rel.wipe (r : Rel K π F ρ H σ δ) : ∀ vs : List Nat, ∃ ρ', Rel K π F ρ' H (L2.wipe σ vs) (wipeS δ vs) ∧ ∀ b, Ow ρ' b → Ow ρ b
  | [] => ⟨ρ, r, fun _ h => h⟩
  | v :: vs => by
    obtain ⟨ρ', r', le⟩ := r.wipe vs
    exact ⟨_, r'.setN, fun b z => le b (drop_le b z)⟩
theorem Rel.backG {ρ0 : Rho} {H0 : Hp} {σ2 : St} {δ0 δ' : Sl} {vs : List Nat} (r : Rel K π F ρ H σ2 δ') (r0 : Rel K π F ρ0 H0 σ δ0) (e : ∀ v d, Rp K (Ox F ρ0) H0 v d → Rp K (Ox F ρ) H v d) (hw : L2.wipe σ2 vs = L2.wipe σ vs) :
    ∃ ρ', Rel K π F ρ' H σ (backS δ0 δ' vs) ∧ ∀ b, Ow ρ' b → Ow ρ b := by
  have out : ∀ j, j ∉ vs → σ2[j]? = σ[j]? := fun j hj => by
    have z : (L2.wipe σ2 vs)[j]? = (L2.wipe σ vs)[j]? := by rw [hw]
    rw [wipe_out hj, wipe_out hj] at z
    exact z
  have hl : σ2.length = σ.length := by
    have z := congrArg List.length hw
    rw [wipe_length, wipe_length] at z
    exact z
  let ρ' : Rho := fun j => if j ∈ vs then none else ρ j
  have at_ : ∀ j b, ρ' j = some b → j ∉ vs ∧ ρ j = some b := fun j b h => by
    simp only [ρ'] at h
    split at h
    · cases h
    · exact ⟨by assumption, h⟩
  have le : ∀ b, Ow ρ' b → Ow ρ b := fun b ⟨j, h⟩ => ⟨j, (at_ j b h).2⟩
  have lex : ∀ b, Ox F ρ' b → Ox F ρ b := fun b z => z.imp (le b) id
  refine ⟨ρ', ⟨by rw [backS_length, ← hl]; exact r.len, fun j y q => ?_, fun j t o q => ?_, fun j l b h1 h2 => r.inj j l b (at_ _ _ h1).2 (at_ _ _ h2).2, fun b z => r.trk b (lex b z), fun b z q => r.dis b z (le b q), r.pit, fun j p q => by
    by_cases hj : j ∈ vs
    · obtain ⟨x, e1, e2⟩ := kd_d (backS_in hj q).symm
      cases e1
    · rw [backS_out hj] at q
      obtain ⟨a, h1, h2⟩ := r.ln j p q
      exact ⟨a, h1, by rw [← out j hj]; exact h2⟩, r.tab⟩, le⟩
  · by_cases hj : j ∈ vs
    · obtain ⟨x, e1, e2⟩ := kd_d (backS_in hj q).symm
      cases y <;> cases e1
      obtain ⟨v, h1, h2⟩ := r0.dat j (.d x) e2
      exact ⟨v, h1, (e _ _ h2).mono lex⟩
    · rw [backS_out hj] at q
      obtain ⟨v, h1, h2⟩ := r.dat j y q
      exact ⟨v, by rw [← out j hj]; exact h1, h2.mono lex⟩
  · by_cases hj : j ∈ vs
    · obtain ⟨x, e1, e2⟩ := kd_d (backS_in hj q).symm
      cases e1
    · rw [backS_out hj] at q
      obtain ⟨a, h1, h2, h3, h4⟩ := r.own j t o q
      exact ⟨a, by simp only [ρ']; rw [if_neg hj]; exact h1, by rw [← out j hj]; exact h2, h3.mono lex, h4⟩
theorem Rel.back {ρ0 : Rho} {H0 : Hp} {σ2 : St} {δ0 δ' : Sl} {vs : List Nat} (r : Rel K π F ρ H σ2 δ') (r0 : Rel K π F ρ0 H0 σ δ0) (e : Ex F ρ0 H0 ρ H) (hw : L2.wipe σ2 vs = L2.wipe σ vs) :
    ∃ ρ', Rel K π F ρ' H σ (backS δ0 δ' vs) ∧ ∀ b, Ow ρ' b → Ow ρ b := r.backG r0 (fun _ _ h => h.ext (e.frn) fun _ => .inl) hw
theorem ObOk.extG {P O O' : Addr → Prop} {H' : Hp} {a : Addr} {o : Ob} (e : Ext P O H O' H') (po : ∀ b, P b → O b) (ha : ∀ u, H a = some u → Ord u → H' a = some u) (h : ObOk K O H a o) : ObOk K O' H' a o := by
  cases o with
  | lst xs => obtain ⟨vs, h, r⟩ := h; exact ⟨vs, ha _ h ⟨rfl, rfl⟩, r.ext e po⟩
  | dct ds =>
    obtain ⟨kvs, h, r⟩ := h
    exact ⟨kvs, ha _ h ⟨rfl, rfl⟩, r.ext e po⟩
  | dcT ds =>
    obtain ⟨kvs, h, r⟩ := h
    exact ⟨kvs, ha _ h ⟨rfl, rfl⟩, r.ext e po⟩
def FD (F : Addr → Prop) (d : Addr) : Addr → Prop := fun b => F b ∨ b = d
theorem Rel.addF (r : Rel K π F ρ H σ δ) {d : Addr} {o : HO} (hd : H d = none) : Rel K π (FD F d) ρ (upd H d o) σ δ := by
  have sm : Same H (upd H d o) := same_upd hd
  have nd : ¬ Ox F ρ d := r.fresh hd
  have ex : Ext (Ow ρ) (Ox F ρ) H (Ox (FD F d) ρ) (upd H d o) := ⟨fun b u h _ _ => sm b u h, fun b z => by
    rcases z with z | z | z
    · exact .inl (.inl z)
    · exact .inl (.inr z)
    · exact .inr (by rw [z]; exact hd), fun b u h => ⟨u, sm b u h⟩, Tb.same sm⟩
  refine ⟨r.len, fun j y q => ?_, fun j t o2 q => ?_, r.inj, fun b z => ?_, fun b z q => ?_, fun p b z => ?_, r.ln, r.tab.same sm⟩
  · obtain ⟨v, h1, h2⟩ := r.dat j y q
    exact ⟨v, h1, h2.ext ex fun _ => .inl⟩
  · obtain ⟨a, h1, h2, h3, h4⟩ := r.own j t o2 q
    exact ⟨a, h1, h2, h3.extG ex (fun _ => .inl) (fun u z _ => sm _ _ z), h4⟩
  · rcases z with z | z | z
    · obtain ⟨u, h⟩ := r.trk b (.inl z); exact ⟨u, sm _ _ h⟩
    · obtain ⟨u, h⟩ := r.trk b (.inr z); exact ⟨u, sm _ _ h⟩
    · rw [z]; exact ⟨_, upd_same⟩
  · rcases z with z | z
    · exact r.dis b z q
    · subst z; exact nd (.inl q)
  · obtain ⟨u, h⟩ := r.pit p b z; exact ⟨u, sm _ _ h⟩
theorem Rel.updF (r : Rel K π F ρ H σ δ) {d : Addr} {o u0 : HO} (hd : F d) (hu : H d = some u0) (ho : Ord u0) : Rel K π F ρ (upd H d o) σ δ ∧ Ext (fun b => b = d) (Ox F ρ) H (Ox F ρ) (upd H d o) := by
  have ex : Ext (fun b => b = d) (Ox F ρ) H (Ox F ρ) (upd H d o) := ⟨fun b u h n _ => by rw [upd_ne n]; exact h, fun b z => .inl z, fun b u h => by
    by_cases z : b = d
    · rw [z]; exact ⟨_, upd_same⟩
    · exact ⟨u, by rw [upd_ne z]; exact h⟩, Tb.upd hu ho⟩
  have po : ∀ b, b = d → Ox F ρ b := fun b z => by rw [z]; exact .inr hd
  refine ⟨⟨r.len, fun j y q => ?_, fun j t o2 q => ?_, r.inj, fun b z => ?_, r.dis, fun p b z => ?_, r.ln, ex.tb.t r.tab⟩, ex⟩
  · obtain ⟨v, h1, h2⟩ := r.dat j y q
    exact ⟨v, h1, h2.ext ex po⟩
  · obtain ⟨a, h1, h2, h3, h4⟩ := r.own j t o2 q
    refine ⟨a, h1, h2, h3.extG ex po (fun u h _ => ?_), h4⟩
    rw [upd_ne fun z => r.dis d hd ⟨j, by rw [← z]; exact h1⟩]
    exact h
  · obtain ⟨u, h⟩ := r.trk b z; exact ex.tk b u h
  · obtain ⟨u, h⟩ := r.pit p b z; exact ex.tk b u h
theorem Rel.calm {H' : Hp} (r : Rel K π F ρ H σ δ) (fr : ∀ b o, H b = some o → isTbl o = false → H' b = some o) (tk : ∀ b o, H b = some o → ∃ o', H' b = some o') (tb : Tb H H') : Rel K π F ρ H' σ δ ∧ Ex F ρ H ρ H' := by
  have ex : Ex F ρ H ρ H' := ⟨fun b o hb _ t => fr b o hb t, fun _ z => .inl z, tk, tb⟩
  refine ⟨⟨r.len, fun j y q => ?_, fun j t o2 q => ?_, r.inj, fun b z => ?_, r.dis, fun p b z => ?_, r.ln, tb.t r.tab⟩, ex⟩
  · obtain ⟨v, h1, h2⟩ := r.dat j y q
    exact ⟨v, h1, h2.ext ex.frn fun _ => .inl⟩
  · obtain ⟨a, h1, h2, h3, h4⟩ := r.own j t o2 q
    exact ⟨a, h1, h2, h3.ext ex (fun u hu ho => fr a u hu ho.1), h4⟩
  · obtain ⟨u, h⟩ := r.trk b z; exact tk b u h
  · obtain ⟨u, h⟩ := r.pit p b z; exact tk b u h
theorem Rel.lessF {F' : Addr → Prop} (r : Rel K π F' ρ H σ δ) (le : ∀ b, F b → F' b) : Rel K π F ρ H σ δ := by
  have lex : ∀ b, Ox F ρ b → Ox F' ρ b := fun b z => z.imp id (le b)
  refine ⟨r.len, fun j y q => ?_, fun j t o2 q => ?_, r.inj, fun b z => r.trk b (lex b z), fun b z => r.dis b (le b z), r.pit, r.ln, r.tab⟩
  · obtain ⟨v, h1, h2⟩ := r.dat j y q
    exact ⟨v, h1, h2.mono lex⟩
  · obtain ⟨a, h1, h2, h3, h4⟩ := r.own j t o2 q
    exact ⟨a, h1, h2, h3.mono lex, h4⟩
end
abbrev RBl : (Addr → Prop) → Hp → Bool → Bool → Prop := fun _ _ x y => x = y
structure PTs3 (X : Cx) (E : XK) (ifs : List Expr) (t : TB3) : Prop where
  mono : Mono3 t
  pts : PTs X ifs (lift X.K E RBl t)
abbrev XF : XK := fun _ _ _ => False
def tYes3 : TB3 := fun _ δ Q => Q true δ
theorem _root_.L2.PTs.imp {X : Cx} {e : List Expr} {t t' : L2.TT} (h : PTs X e t) (k : ∀ σ H Q, t' σ H Q → t σ H Q) : PTs X e t' := ⟨fun pins s σ H Q I q => h.run pins s σ H Q I (k σ H Q q)⟩
section
variable {X : Cx} {E : XK} {tg a b c e iter elt : Expr} {ifs : List Expr} {ta tb tc te : T3} {ti : TA3} {tt : TB3} {g : TG3} {vs : List Nat} {pos : Pos}
theorem yes3 : PTs3 X E [] tYes3 := ⟨fun _ _ _ _ _ _ hq q => hq _ _ q, pts_nil.imp fun σ H Q h => by
  obtain ⟨π, F, ρ, δ, rel, q⟩ := h
  exact q true H ρ Ext.refl rel rfl⟩
theorem test3 (h : PT3 X E c tt) : PTs3 X E [c] tt := ⟨h.mono, pts_one h.pe⟩
def tLc3 (ti : TA3) (g : TG3) (tt : TB3) (te : T3) (vs : List Nat) : T3 := fun E δ Q => ti E δ fun ds δ1 => ds.length ≤ sizeLine ∧ ∃ Pv : Nat → List D → Sl → Prop, Pv 0 [] δ1 ∧
  (∀ i x acc δ2, ds[i]? = some x → Pv i acc δ2 → g x (wipeS δ2 vs) fun δ3 => tt (fun _ => False) δ3 fun b δ4 => br b (te (fun _ => False) δ4 fun y δ5 => Pv (i + 1) (acc ++ [y]) (backS δ2 δ5 vs)) (Pv (i + 1) acc (backS δ2 δ4 vs))) ∧
  ∀ acc δ2, Pv ds.length acc δ2 → Q (.list acc) δ2
theorem mono_tLc3 (hi : Mono3 ti) : Mono3 (tLc3 ti g tt te vs) := fun _ _ _ _ _ hx hq q => hi _ _ _ _ _ hx (fun ds δ1 ⟨h1, Pv, h2, h3, h4⟩ => ⟨h1, Pv, h2, h3, fun acc δ2 p => hq _ _ (h4 acc δ2 p)⟩) q
theorem lift_lc (hi : Mono3 ti) (hg : MonoG g) (ht : Mono3 tt) (he : Mono3 te) {σ : St} {H : Hp} {Q : VK} (h : lift X.K E (Rp X.K) (tLc3 ti g tt te vs) σ H Q) :
    tLc (liftI X.K E ti) (liftG X.K vs g) (lift X.K XF RBl tt) (lift X.K XF (Rp X.K) te) vs σ H Q := by
  obtain ⟨π, F, ρ, δ, rel, q⟩ := h
  refine ⟨π, F, ρ, δ, rel, hi _ _ _ _ _ (fun _ z => z) (fun ds δ1 ⟨hz, Pv, h0, hs, hd⟩ J H1 ρ1 e1 rel1 jok => ?_) q⟩
  intro L hL
  have nL : ¬ Ox F ρ1 L := rel1.fresh hL
  have exJ : ∀ {ρ2 : Rho} {H2 : Hp}, Ex F ρ1 H1 ρ2 H2 → Ext (Ow ρ1) (Ox F ρ1) H1 (Ox (FD F L) ρ2) H2 := fun {ρ2 H2} e => ⟨e.fr, fun b z => by
    rcases z with z | z | z
    · exact (e.ow b z).imp .inl id
    · exact .inl (.inr z)
    · exact .inr (by rw [z]; exact hL), e.tk, e.tb⟩
  refine ⟨fun i m H2 => m = ds.length - i ∧ i ≤ ds.length ∧ ∃ acc accV ρ2 δ2, Ex F ρ1 H1 ρ2 H2 ∧ Rel X.K π (FD F L) ρ2 H2 σ δ2 ∧ H2 L = some (.lst accV) ∧ RpAll X.K (Ox (FD F L) ρ2) H2 accV acc ∧ acc.length ≤ i ∧ Pv i acc δ2, ⟨ds.length, by simp, Nat.zero_le _, [], [], ρ1, δ1, Ext.same (same_upd hL), rel1.addF hL, upd_same, .nil, Nat.zero_le _, h0⟩, ?_⟩
  rintro i m H2 ⟨rfl, hil, acc, accV, ρ2, δ2, e2, rel2, hH2, ra, hal, p⟩
  obtain ⟨j1, j2⟩ := jok i (FD F L) ρ2 H2 _ (fun _ => .inl) (exJ e2) rel2.trk
  by_cases hlt : i < ds.length
  · obtain ⟨go, y⟩ := j1 ds[i] (by simp [hlt])
    refine .inr ⟨go, fun H' => i + 1 ≤ ds.length ∧ ∃ acc accV ρ2 δ2, Ex F ρ1 H1 ρ2 H' ∧ Rel X.K π (FD F L) ρ2 H' σ δ2 ∧ H' L = some (.lst accV) ∧ RpAll X.K (Ox (FD F L) ρ2) H' accV acc ∧ acc.length ≤ i + 1 ∧ Pv (i + 1) acc δ2, fun H' ⟨hl, z⟩ => ⟨ds.length - (i + 1), by omega, rfl, hl, z⟩, fun v H' yl => ?_⟩
    obtain ⟨sm, rp⟩ := y v H' yl
    have rel2' := rel2.same sm
    obtain ⟨ρw, relw, lew⟩ := rel2'.wipe vs
    have lewx : ∀ b, Ox (FD F L) ρw b → Ox (FD F L) ρ2 b := fun b z => z.imp (lew b) id
    have e2w : Ex (FD F L) ρ2 H2 ρw H' := ⟨fun b u h _ _ => sm b u h, fun b z => .inl (lew b z), fun b u h => ⟨u, sm b u h⟩, Tb.same sm⟩
    refine ⟨π, FD F L, ρw, _, _, relw, rp.mono lewx, hg _ _ _ _ (fun δ3 q σ3 H3 ρ3 e3 rel3 w3 s3 => ?_) (hs i _ acc δ2 (by simp [hlt]) p)⟩
    rw [wipe_wipe] at w3
    refine ⟨w3, π, FD F L, ρ3, δ3, rel3, ht _ _ _ _ _ (fun _ z => z.elim) (fun b δ4 q b' H4 ρ4 e4 rel4 eb => ?_) q⟩
    subst eb
    have e24 : Ex (FD F L) ρ2 H2 ρ4 H4 := (e2w.trans e3).trans e4
    have e14 : Ex F ρ1 H1 ρ4 H4 := e2.trans e24
    refine (q.imp (fun q => ?_) (fun q => ?_)).ite
    · refine ⟨π, FD F L, ρ4, δ4, rel4, he _ _ _ _ _ (fun _ z => z.elim) (fun y δ5 q u H5 ρ5 e5 rel5 r5 => ?_) q⟩
      have e25 := e24.trans e5
      have e15 := e14.trans e5
      have hLo : ¬ Ow ρ2 L := rel2.dis L (.inr rfl)
      have hH5 : H5 L = some (.lst accV) := e25.fr L _ hH2 hLo rfl
      have ra5 := ra.ext (e25.frn) fun _ => .inl
      refine ⟨accV, hH5, by rw [ra5.length]; omega, hlt, ?_⟩
      obtain ⟨ρ6, rel6, le6⟩ := rel5.back rel2 e25 w3
      obtain ⟨rel7, ex7⟩ := rel6.updF (d := L) (o := .lst (accV ++ [u])) (.inr rfl) hH5 ⟨rfl, rfl⟩
      have le6x : ∀ b, Ox (FD F L) ρ6 b → Ox (FD F L) ρ5 b := fun b z => z.imp (le6 b) id
      have po : ∀ b, b = L → Ox (FD F L) ρ6 b := fun b z => by rw [z]; exact .inr (.inr rfl)
      refine ⟨acc ++ [y], accV ++ [u], ρ6, _, ⟨fun b o hb n ht => ?_, fun b z => e15.ow b (le6 b z), fun b o hb => ?_, e15.tb.trans ex7.tb⟩, rel7, upd_same, ((ra5.append (.cons r5 .nil)).mono le6x).ext ex7 po, ?_, q⟩
      · rw [upd_ne fun z => by rw [z, hL] at hb; cases hb]
        exact e15.fr b o hb n ht
      · obtain ⟨o', h'⟩ := e15.tk b o hb
        exact ex7.tk b o' h'
      · rw [List.length_append, List.length_singleton]; omega
    · have hLo : ¬ Ow ρ2 L := rel2.dis L (.inr rfl)
      obtain ⟨ρ6, rel6, le6⟩ := rel4.back rel2 e24 w3
      have le6x : ∀ b, Ox (FD F L) ρ6 b → Ox (FD F L) ρ4 b := fun b z => z.imp (le6 b) id
      exact ⟨hlt, acc, accV, ρ6, _, ⟨e14.fr, fun b z => e14.ow b (le6 b z), e14.tk, e14.tb⟩, rel6, e24.fr L _ hH2 hLo rfl, (ra.ext (e24.frn) fun _ => .inl).mono le6x, by omega, q⟩
  · have e : i = ds.length := by omega
    subst e
    have hLo : ¬ Ow ρ2 L := rel2.dis L (.inr rfl)
    have nL2 : ¬ Ox F ρ2 L := fun z => z.elim hLo fun z => nL (.inr z)
    have lex : ∀ b, Ox F ρ2 b → Ox (FD F L) ρ2 b := fun b z => z.imp id .inl
    exact .inl ⟨j2 (Nat.le_refl _), hd acc δ2 p _ H2 ρ2 (e1.trans e2) (rel2.lessF fun _ => .inl) (.lst ⟨hH2, nL2⟩ (ra.mono lex))⟩
theorem lc3 {scope : Scope} {own : List (Str × Nat)} (hc : X.calm = true) (hN : X.N.Nodup) (hi : PI3 X E tg iter ti) (ok : BlkOk X.N X.env.scope scope own)
    (hg : ∀ (s : Shared) (H : Hp) (C : Addr) (cl : List (Str × Addr)) (fp : List Addr), PG3 (X.blk s H scope (compEnvC scope cl C X.env) fp) (own.map (·.2)) tg g)
    (ht : ∀ (s : Shared) (H : Hp) (C : Addr) (cl : List (Str × Addr)) (fp : List Addr), PTs3 (X.blk s H scope (compEnvC scope cl C X.env) fp) XF ifs tt)
    (he : ∀ (s : Shared) (H : Hp) (C : Addr) (cl : List (Str × Addr)) (fp : List Addr), PE3 (X.blk s H scope (compEnvC scope cl C X.env) fp) XF elt te) (hs : ∀ x, foldedSetIterable iter X.env x = pure x := by intro _; rfl) (s0 : Shared) :
    PE3 X E (.ListComp elt [⟨tg, iter, ifs, 0⟩] scope pos) (tLc3 ti g tt te (own.map (·.2))) :=
  ⟨mono_tLc3 hi.mono, (pe_lc (g := liftG X.K (own.map (·.2)) g) (tt := lift X.K XF RBl tt) (te := lift X.K XF (Rp X.K) te) hc hN hi.pi ok (fun s H C cl fp => (hg s H C cl fp).pg) (fun s H C cl fp => (ht s H C cl fp).pts) (fun s H C cl fp => (he s H C cl fp).pe) hs).imp fun σ H Q h =>
    lift_lc hi.mono (hg s0 (fun _ => none) 0 [] []).mono (ht s0 (fun _ => none) 0 [] []).mono (he s0 (fun _ => none) 0 [] []).mono h⟩
theorem setLc3 (i : Nat) {y : Str} {py : Pos} {scope : Scope} {own : List (Str × Nat)} {spos : Pos} (hc : X.calm = true) (hN : X.N.Nodup) (hi : PI3 X E tg iter ti) (ok : BlkOk X.N X.env.scope scope own)
    (hg : ∀ (s : Shared) (H : Hp) (C : Addr) (cl : List (Str × Addr)) (fp : List Addr), PG3 (X.blk s H scope (compEnvC scope cl C X.env) fp) (own.map (·.2)) tg g)
    (ht : ∀ (s : Shared) (H : Hp) (C : Addr) (cl : List (Str × Addr)) (fp : List Addr), PTs3 (X.blk s H scope (compEnvC scope cl C X.env) fp) XF ifs tt)
    (he : ∀ (s : Shared) (H : Hp) (C : Addr) (cl : List (Str × Addr)) (fp : List Addr), PE3 (X.blk s H scope (compEnvC scope cl C X.env) fp) XF elt te) (s0 : Shared)
    (hsw : swapsWith (.ListComp elt [⟨tg, iter, ifs, 0⟩] scope pos) (some (.Name y py)) spos.line X.env = pure true) (hy : X.N[i]? = some y := by rfl) (hyl : X.env.scope.names.lookup y = some .local := by rfl) (hs : ∀ x, foldedSetIterable iter X.env x = pure x := by intro _; rfl) :
    PS3 X E (.Assign [.Name y py] (.ListComp elt [⟨tg, iter, ifs, 0⟩] scope pos) spos) (tAsg3 (tLc3 ti g tt te (own.map (·.2))) (gName3 i)) := by
  refine ⟨fun _ _ _ _ _ hx hd q => mono_tLc3 hi.mono _ _ _ _ _ hx (fun x δ1 => hd.nx _) q, (ps_setLc (g := liftG X.K (own.map (·.2)) g) (tt := lift X.K XF RBl tt) (te := lift X.K XF (Rp X.K) te) hc hN hy hyl hsw hi.pi ok (fun s H C cl fp => (hg s H C cl fp).pg) (fun s H C cl fp => (ht s H C cl fp).pts) (fun s H C cl fp => (he s H C cl fp).pe) hs).imp fun D σ H h => ?_⟩
  refine lift_lc hi.mono (hg s0 (fun _ => none) 0 [] []).mono (ht s0 (fun _ => none) 0 [] []).mono (he s0 (fun _ => none) 0 [] []).mono ?_
  obtain ⟨π, F, ρ, δ, rel, q⟩ := h
  exact ⟨π, F, ρ, δ, rel, mono_tLc3 hi.mono _ _ _ _ _ (fun _ z => z) (fun x δ1 q v H1 ρ1 e1 rel1 r1 => q _ H1 _ (e1.trans Ext.drop) (rel1.setD r1)) q⟩
end
end M3
set_option Elab.async false
set_option linter.all false
set_option maxRecDepth 100000
namespace M3
open PySem L2
variable [TabsC]
abbrev Sp3 := List W → (R3 → List Ob → Prop) → (Ex3 → Prop) → Prop
def MonoP (sp : Sp3) : Prop := ∀ ws Q Q' E E', (∀ r os, Q r os → Q' r os) → (∀ e, E e → E' e) → sp ws Q E → sp ws Q' E'
def tagged : Nat → List W → Prop
  | _, [] => True
  | p, .d _ :: r => tagged (p + 1) r
  | p, .ro _ :: r => tagged (p + 1) r
  | p, .own t _ :: r => t = p + 1 ∧ tagged (p + 1) r
  | p, .ad _ :: r => tagged (p + 1) r
  | p, .lk _ _ :: r => tagged (p + 1) r
  | p, .cl _ _ :: r => tagged (p + 1) r
  | p, .fv _ _ :: r => tagged (p + 1) r
  | _, .lnt _ :: _ => False
def outs : Nat → List W → Sl → (List Ob → Prop) → Prop
  | _, [], _, k => k []
  | p, .d _ :: r, δ, k => outs (p + 1) r δ k
  | p, .ro _ :: r, δ, k => outs (p + 1) r δ k
  | p, .own _ _ :: r, δ, k => match δ[p]? with
    | some (some (.own t o)) => t = p + 1 ∧ outs (p + 1) r δ fun os => k (o :: os)
    | _ => False
  | p, .ad _ :: r, δ, k => outs (p + 1) r δ k
  | p, .lk _ _ :: r, δ, k => outs (p + 1) r δ k
  | p, .cl _ _ :: r, δ, k => outs (p + 1) r δ k
  | p, .fv _ _ :: r, δ, k => outs (p + 1) r δ k
  | _, .lnt _ :: _, _, _ => False
def OutsOk (K : PySem.W.Frag) (π : Rho) (F : Addr → Prop) (ρ' : Rho) (H' : Hp) : Nat → List W → List Ob → Prop
  | _, [], os => os = []
  | p, .d _ :: r, os => OutsOk K π F ρ' H' (p + 1) r os
  | p, .ro _ :: r, os => OutsOk K π F ρ' H' (p + 1) r os
  | p, .own _ _ :: r, os => ∃ o os' a, os = o :: os' ∧ π p = some a ∧ Ow ρ' a ∧ ObOk K (Ox F ρ') H' a o ∧ OutsOk K π F ρ' H' (p + 1) r os'
  | p, .ad _ :: r, os => OutsOk K π F ρ' H' (p + 1) r os
  | p, .lk _ _ :: r, os => OutsOk K π F ρ' H' (p + 1) r os
  | p, .cl _ _ :: r, os => OutsOk K π F ρ' H' (p + 1) r os
  | p, .fv _ _ :: r, os => OutsOk K π F ρ' H' (p + 1) r os
  | _, .lnt _ :: _, _ => False
def liftF (K : PySem.W.Frag) (sp : Sp3) : Sp := fun vs H Q E => ∃ π F ρ ws, Rel K π F ρ H (vs.map some) (ws.map some) ∧ tagged 0 ws ∧ (∀ k, ws.length ≤ k → ρ k = none) ∧
  sp ws (fun r os => ∀ v H' ρ', Ex F ρ H ρ' H' → OutsOk K π F ρ' H' 0 ws os → (∀ a, Ox F ρ' a → ∃ o, H' a = some o) → (∀ a, F a → ¬ Ow ρ' a) → RpR K π F ρ' H' v r → Q v H') (liftX K E F ρ H)
theorem outs_ok {K : PySem.W.Frag} {π : Rho} {F : Addr → Prop} {ρ' : Rho} {H' : Hp} {σ' : St} {δ' : Sl} (rel : Rel K π F ρ' H' σ' δ') : ∀ (ws : List W) (p : Nat) (k : List Ob → Prop), outs p ws δ' k → ∃ os, k os ∧ OutsOk K π F ρ' H' p ws os
  | [], p, k, h => ⟨[], h, rfl⟩
  | .d _ :: r, p, k, h => outs_ok rel r (p + 1) k h
  | .ro _ :: r, p, k, h => outs_ok rel r (p + 1) k h
  | .own _ _ :: r, p, k, h => by
    unfold outs at h
    split at h
    · rename_i t o e
      obtain ⟨ht, h⟩ := h
      obtain ⟨os, h1, h2⟩ := outs_ok rel r (p + 1) _ h
      obtain ⟨a, k1, k2, k3, k4, k5⟩ := rel.own p t o e
      exact ⟨o :: os, h1, o, os, a, rfl, k4 p ht, ⟨p, k1⟩, k3, h2⟩
    · exact h.elim
  | .ad _ :: r, p, k, h => outs_ok rel r (p + 1) k h
  | .lk _ _ :: r, p, k, h => outs_ok rel r (p + 1) k h
  | .cl _ _ :: r, p, k, h => outs_ok rel r (p + 1) k h
  | .fv _ _ :: r, p, k, h => outs_ok rel r (p + 1) k h
  | .lnt _ :: r, p, k, h => h.elim
def start3 (N : List Str) (ws : List W) : Sl := ws.map some ++ List.replicate (N.length - ws.length) none
theorem Rel.start {K : PySem.W.Frag} {π : Rho} {F : Addr → Prop} {ρ : Rho} {H : Hp} {vs : List V} {ws : List W} (N : List Str) (r : Rel K π F ρ H (vs.map some) (ws.map some)) : Rel K π F ρ H (L2.start N vs) (start3 N ws) := by
  have hl : vs.length = ws.length := by have := r.len; simpa using this
  have get : ∀ (j : Nat) w, (start3 N ws)[j]? = some (some w) → (ws.map some)[j]? = some (some w) := fun j w e => by
    unfold start3 at e
    by_cases hj : j < ws.length
    · rw [List.getElem?_append_left (by simpa using hj)] at e; exact e
    · rw [List.getElem?_append_right (by simp; omega)] at e
      have := List.mem_of_getElem? e
      rw [List.mem_replicate] at this
      exact absurd this.2 (by simp)
  have back : ∀ (j : Nat) v, (vs.map some)[j]? = some (some v) → (L2.start N vs)[j]? = some (some v) := fun j v e => by
    unfold L2.start
    have hj := (List.getElem?_eq_some_iff.mp e).1
    rw [List.getElem?_append_left hj]; exact e
  refine ⟨by unfold L2.start start3; simp [hl], fun j y e => ?_, fun j t o e => ?_, r.inj, r.trk, r.dis, r.pit, fun j p e => by
    obtain ⟨a, h1, h2⟩ := r.ln j p (get j _ e)
    exact ⟨a, h1, back j _ h2⟩, r.tab⟩
  · obtain ⟨v, h1, h2⟩ := r.dat j y (get j _ e)
    exact ⟨v, back j v h1, h2⟩
  · obtain ⟨a, h1, h2, h3⟩ := r.own j t o (get j _ e)
    exact ⟨a, h1, back j _ h2, h3⟩
theorem fn3 {P : Program} {w : World} {K : PySem.W.Frag} {mg : Str → Option Value} {base : Heap} {x qual : Str} {st : Stmt} {f : Addr} {fd : FuncData} {N ps : List Str} {k : Nat} {sp : Sp3} (F : Fun K x qual st f fd) (S : FnScope N ps (defScope st)) (len : ∀ ws Q E, sp ws Q E → ws.length = ps.length)
    (hbody : ∀ (cdv : Value) (A : Around) (outer : List Env) (s : Shared) (H : Hp) (E : XK), Room k (A.deeper (PyProof.Rows.envOfC qual (defScope st) s.heap.objs.size f cdv)) →
      ∃ t, PSs3 (cxOf CX0 P w K mg base N qual (defScope st) f cdv A outer s H E).nox XF (defBody st) t ∧ ∀ ws Q, sp ws Q (fun _ => False) → tagged 0 ws → t (fun _ => False) { nx := fun δ => outs 0 ws δ (Q (.d .none)), rt := fun r δ => outs 0 ws δ (Q r) } (start3 N ws))
    (mp : MonoP sp) : FnOk P w K mg base CX0 (k + 1) f fd ps (liftF K (fun ws Q E => sp ws Q (fun _ => False))) := by
  refine F.ok S (fun vs H Q E h => ?_) (fun cdv A outer s H vs Q E hr h => ?_)
  · obtain ⟨π, Fo, ρ, ws, rel, _, _, h⟩ := h
    rw [← len ws _ _ h]
    simpa using rel.len
  · obtain ⟨π, Fo, ρ, ws, rel, tg, hk, h⟩ := h
    obtain ⟨t, h1, h2⟩ := hbody cdv A outer s H E hr
    refine ⟨_, h1.ps, π, Fo, ρ, _, rel.start N, h1.mono _ _ _ _ _ (fun _ z => z.elim) ⟨fun δ q σ' H' ρ' e' rel' => ?_, fun r δ q v σ' H' ρ' e' rel' rr => ?_, fun _ (z : False) => z.elim, fun _ (z : False) => z.elim⟩ (h2 ws _ h tg)⟩
    · obtain ⟨os, q1, q2⟩ := outs_ok rel' ws 0 _ q
      exact q1 .non H' ρ' e' q2 rel'.trk rel'.dis .non
    · obtain ⟨os, q1, q2⟩ := outs_ok rel' ws 0 _ q
      exact q1 v H' ρ' e' q2 rel'.trk rel'.dis rr
inductive ArgOk (K : PySem.W.Frag) (O : Addr → Prop) (H : Hp) (σ : St) : List (Option Nat) → List V → List DV → Prop
  | nil : ArgOk K O H σ [] [] []
  | d {v : V} {x : DV} {pat : List (Option Nat)} {vs : List V} {ds : List DV} : RpV K O H v x → ArgOk K O H σ pat vs ds → ArgOk K O H σ (none :: pat) (v :: vs) (x :: ds)
  | r {v : V} {i : Nat} {pat : List (Option Nat)} {vs : List V} {ds : List DV} : σ[i]? = some (some v) → ArgOk K O H σ pat vs ds → ArgOk K O H σ (some i :: pat) (v :: vs) ds
theorem ArgOk.ext {K : PySem.W.Frag} {P O O' : Addr → Prop} {H H' : Hp} {σ : St} {pat : List (Option Nat)} {vs : List V} {ds : List DV} (e : Ext P O H O' H') (po : ∀ b, P b → O b) (h : ArgOk K O H σ pat vs ds) : ArgOk K O' H' σ pat vs ds := by
  induction h with
  | nil => exact .nil
  | d r _ ih => exact .d (r.ext e po) ih
  | r q _ ih => exact .r q ih
abbrev TV3 := G3 (List DV)
def liftA (K : PySem.W.Frag) (E : XK) (pat : List (Option Nat)) (t : TV3) : TA := fun σ H Q =>
  ∃ π F ρ δ, Rel K π F ρ H σ δ ∧ t (liftX K E F ρ H) δ fun ds δ' => ∀ vs H' ρ', Ex F ρ H ρ' H' → Rel K π F ρ' H' σ δ' → ArgOk K (Ox F ρ') H' σ pat vs ds → Q vs H'
structure PAr (X : Cx) (E : XK) (es : List Expr) (pat : List (Option Nat)) (t : TV3) : Prop where
  mono : Mono3 t
  pa : PA X es (liftA X.K E pat t)
section
variable {X : Cx} {E : XK} {a b c e : Expr} {es : List Expr} {te : T3} {t : TV3} {pat : List (Option Nat)} {pos : Pos}
def tNilV : TV3 := fun _ δ Q => Q [] δ
def tConsV (ta : T3) (tr : TV3) : TV3 := fun E δ Q => ta E δ fun x δ1 => tr E δ1 fun xs δ2 => Q (.d x :: xs) δ2
theorem rn3 : PAr X E [] [] tNilV := ⟨fun _ _ _ _ _ _ hq q => hq _ _ q, pa_nil.imp fun σ H Q h => by
  obtain ⟨π, F, ρ, δ, rel, q⟩ := h
  exact q [] H ρ Ext.refl rel .nil⟩
theorem rd3 (ha : PE3 X E e te) (hr : PAr X E es pat t) (hs : starEach (e :: es) X.env = (false, eval e X.env) :: starEach es X.env := by rfl) : PAr X E (e :: es) (none :: pat) (tConsV te t) := by
  refine ⟨fun _ _ _ _ _ he hq q => ha.mono _ _ _ _ _ he (fun x δ1 => hr.mono _ _ _ _ _ he fun xs δ2 => hq _ _) q, (pa_cons ha.pe hr.pa hs).imp fun σ H Q h => ?_⟩
  obtain ⟨π, F, ρ, δ, rel, q⟩ := h
  refine ⟨π, F, ρ, δ, rel, ha.mono _ _ _ _ _ (fun _ z => z) (fun x δ1 q v H1 ρ1 e1 rel1 r1 => ?_) q⟩
  refine ⟨π, F, ρ1, δ1, rel1, hr.mono _ _ _ _ _ (liftX.mono e1) (fun y δ2 q us H2 ρ2 e2 rel2 r2 => ?_) q⟩
  exact q (v :: us) H2 ρ2 (e1.trans e2) rel2 (.d (x := .d x) (r1.ext (e2.frn) fun _ => .inl) r2)
theorem ro3 (i : Nat) {x : Str} {pos' : Pos} (hr : PAr X E es pat t) (hN : X.N[i]? = some x := by rfl) (hv : Vis X.env.scope x := by first | exact Or.inl rfl | exact Or.inr (Or.inl rfl) | exact Or.inr (Or.inr rfl)) (hd : (x == ("__debug__" : Str)) = false := by decide)
    (hcd : (x == ("__classdict__" : Str)) = false := by decide) (hs : starEach (.Name x pos' :: es) X.env = (false, eval (.Name x pos') X.env) :: starEach es X.env := by rfl) : PAr X E (.Name x pos' :: es) (some i :: pat) (fun E δ Q => onOwn δ i fun _ _ => t E δ Q) := by
  refine ⟨fun _ _ _ _ _ he hq q => ?_, (pa_cons (pe_var hN hv hd hcd) hr.pa hs).imp fun σ H Q h => ?_⟩
  · obtain ⟨t, o, e, q⟩ := q.to
    exact onOwn.of e (hr.mono _ _ _ _ _ he hq q)
  · obtain ⟨π, F, ρ, δ, rel, q⟩ := h
    obtain ⟨t, o, e, q⟩ := q.to
    obtain ⟨a, _, hσ, _⟩ := rel.own i _ _ e
    refine ⟨_, hσ, π, F, ρ, δ, rel, hr.mono _ _ _ _ _ (fun _ z => z) (fun y δ2 q us H2 ρ2 e2 rel2 r2 => ?_) q⟩
    exact q (_ :: us) H2 ρ2 e2 rel2 (.r hσ r2)
def onRo (δ : Sl) (i : Nat) (k : List D → Prop) : Prop := match δ[i]? with | some (some (.ro xs)) => k xs | _ => False
theorem onRo.to {δ : Sl} {i : Nat} {k : List D → Prop} (h : onRo δ i k) : ∃ xs, δ[i]? = some (some (.ro xs)) ∧ k xs := by
  unfold onRo at h
  split at h
  · exact ⟨_, by assumption, h⟩
  · exact h.elim
theorem onRo.of {δ : Sl} {i : Nat} {xs : List D} {k : List D → Prop} (e : δ[i]? = some (some (.ro xs))) (h : k xs) : onRo δ i k := by
  unfold onRo
  rw [e]
  exact h
theorem rr3 (i : Nat) {x : Str} {pos' : Pos} (hr : PAr X E es pat t) (hN : X.N[i]? = some x := by rfl) (hv : Vis X.env.scope x := by first | exact Or.inl rfl | exact Or.inr (Or.inl rfl) | exact Or.inr (Or.inr rfl)) (hd : (x == ("__debug__" : Str)) = false := by decide)
    (hcd : (x == ("__classdict__" : Str)) = false := by decide) (hs : starEach (.Name x pos' :: es) X.env = (false, eval (.Name x pos') X.env) :: starEach es X.env := by rfl) : PAr X E (.Name x pos' :: es) (none :: pat) (fun E δ Q => onRo δ i fun xs => t E δ fun ys δ1 => Q (.ro xs :: ys) δ1) := by
  refine ⟨fun _ _ _ _ _ he hq q => ?_, (pa_cons (pe_var hN hv hd hcd) hr.pa hs).imp fun σ H Q h => ?_⟩
  · obtain ⟨xs, e, q⟩ := q.to
    exact onRo.of e (hr.mono _ _ _ _ _ he (fun ys δ1 => hq _ _) q)
  · obtain ⟨π, F, ρ, δ, rel, q⟩ := h
    obtain ⟨xs, e, q⟩ := q.to
    obtain ⟨v, hσ, rv⟩ := rel.dat i (.ro xs) e
    refine ⟨_, hσ, π, F, ρ, δ, rel, hr.mono _ _ _ _ _ (fun _ z => z) (fun y δ2 q us H2 ρ2 e2 rel2 r2 => ?_) q⟩
    exact q (_ :: us) H2 ρ2 e2 rel2 (.d (x := .ro xs) (rv.ext (e2.frn) fun _ => .inl) r2)
end
def mkW : List (Option Nat) → List DV → Sl → Nat → (List W → Prop) → Prop
  | [], [], _, _, k => k []
  | none :: ps, x :: xs, δ, p, k => mkW ps xs δ (p + 1) fun ws => k (x.w :: ws)
  | some i :: ps, xs, δ, p, k => match δ[i]? with
    | some (some (.own _ o)) => mkW ps xs δ (p + 1) fun ws => k (.own (p + 1) o :: ws)
    | _ => False
  | _, _, _, _, _ => False
def putO : Sl → Nat → Ob → Sl
  | [], _, _ => []
  | x :: r, 0, o => (match x with | some (.own t _) => some (.own t o) | y => y) :: r
  | x :: r, n + 1, o => x :: putO r n o
theorem putO_eq : ∀ (δ : Sl) (i : Nat) (o : Ob), putO δ i o = (match δ[i]? with | some (some (.own t _)) => δ.set i (some (.own t o)) | _ => δ)
  | [], i, o => by simp [putO]
  | x :: r, 0, o => by
    simp only [putO, List.getElem?_cons_zero, List.set_cons_zero]
    cases x with
    | none => rfl
    | some w => cases w <;> rfl
  | x :: r, n + 1, o => by
    simp only [putO, List.getElem?_cons_succ, List.set_cons_succ]
    rw [putO_eq r n o]
    rcases r[n]? with _ | _ | _ <;> first | rfl | (rename_i z; cases z <;> rfl)
def putB : List (Option Nat) → Sl → List Ob → Sl
  | [], δ, _ => δ
  | none :: ps, δ, os => putB ps δ os
  | some i :: ps, δ, o :: os => putB ps (putO δ i o) os
  | some _ :: _, δ, [] => δ
theorem LN.putO {π : Rho} {σ : St} {δ : Sl} (h : LN π σ δ) (i : Nat) (o : Ob) : LN π σ (M3.putO δ i o) := by
  rw [putO_eq]
  split
  · exact h.setδ fun p z => by cases z
  · exact h
theorem LN.putB {π : Rho} {σ : St} : ∀ (pat : List (Option Nat)) (os : List Ob) {δ : Sl}, LN π σ δ → LN π σ (M3.putB pat δ os)
  | [], _, _, h => h
  | none :: ps, os, _, h => LN.putB ps os h
  | some i :: ps, o :: os, _, h => LN.putB ps os (h.putO i o)
  | some _ :: _, [], _, h => h
def retD (r : R3) (k : D → Prop) : Prop := match r with
  | .d x => k x
  | .own (.lst xs) => k (.list xs)
  | _ => False
def tCall3 (sp : Sp3) (pat : List (Option Nat)) (t : TV3) : T3 := fun E δ Q => t E δ fun ds δ1 => mkW pat ds δ1 0 fun ws => sp ws (fun r os => retD r fun x => Q x (putB pat δ1 os)) E
def tCallO (sp : Sp3) (pat : List (Option Nat)) (t : TV3) : TW3 := fun E δ Q => t E δ fun ds δ1 => mkW pat ds δ1 0 fun ws => sp ws (fun r os => match r with | .own o => Q o (putB pat δ1 os) | _ => False) E
end M3
set_option Elab.async false
set_option linter.all false
set_option maxRecDepth 100000
namespace M3
open PySem L2
variable [TabsC]
inductive Args (K : PySem.W.Frag) (O : Addr → Prop) (H : Hp) (σ : St) (δ : Sl) : Nat → List (Option Nat) → List V → List W → Prop
  | nil {p : Nat} : Args K O H σ δ p [] [] []
  | d {p : Nat} {v : V} {x : DV} {pat : List (Option Nat)} {vs : List V} {ws : List W} : RpV K O H v x → Args K O H σ δ (p + 1) pat vs ws → Args K O H σ δ p (none :: pat) (v :: vs) (x.w :: ws)
  | r {p : Nat} {v : V} {i t : Nat} {o : Ob} {pat : List (Option Nat)} {vs : List V} {ws : List W} : σ[i]? = some (some v) → δ[i]? = some (some (.own t o)) → Args K O H σ δ (p + 1) pat vs ws → Args K O H σ δ p (some i :: pat) (v :: vs) (.own (p + 1) o :: ws)
theorem args_of {K : PySem.W.Frag} {O : Addr → Prop} {H : Hp} {σ : St} {δ : Sl} {pat : List (Option Nat)} {vs : List V} {ds : List DV} (h : ArgOk K O H σ pat vs ds) : ∀ (p : Nat) (k : List W → Prop), mkW pat ds δ p k → ∃ ws, k ws ∧ Args K O H σ δ p pat vs ws := by
  induction h with
  | nil => intro p k h; exact ⟨[], h, .nil⟩
  | d r _ ih =>
    intro p k h
    obtain ⟨ws, h1, h2⟩ := ih (p + 1) _ h
    exact ⟨_, h1, .d r h2⟩
  | @r v i pat vs ds hσ _ ih =>
    intro p k h
    unfold mkW at h
    split at h
    · rename_i t o e
      obtain ⟨ws, h1, h2⟩ := ih (p + 1) _ h
      exact ⟨_, h1, .r hσ e h2⟩
    · exact h.elim
section
variable {K : PySem.W.Frag} {O : Addr → Prop} {H : Hp} {σ : St} {δ : Sl} {p : Nat} {pat : List (Option Nat)} {vs : List V} {ws : List W}
theorem Args.len (h : Args K O H σ δ p pat vs ws) : vs.length = ws.length ∧ pat.length = ws.length := by
  induction h with
  | nil => exact ⟨rfl, rfl⟩
  | d _ _ ih => exact ⟨congrArg (· + 1) ih.1, congrArg (· + 1) ih.2⟩
  | r _ _ _ ih => exact ⟨congrArg (· + 1) ih.1, congrArg (· + 1) ih.2⟩
theorem Args.tagged (h : Args K O H σ δ p pat vs ws) : M3.tagged p ws := by
  induction h with
  | nil => trivial
  | @d _ _ x _ _ _ _ _ ih => cases x <;> exact ih
  | r _ _ _ ih => exact ⟨rfl, ih⟩
theorem Args.dat (h : Args K O H σ δ p pat vs ws) : ∀ (j : Nat) (x : DV), ws[j]? = some x.w → ∃ v, vs[j]? = some v ∧ RpV K O H v x := by
  induction h with
  | nil => intro j x e; simp at e
  | @d _ _ y _ _ _ r _ ih =>
    intro j x e
    cases j with
    | zero =>
      have e' : y = x := by cases y <;> cases x <;> simp [DV.w] at e <;> simp [e]
      subst e'; exact ⟨_, rfl, r⟩
    | succ j => obtain ⟨v, h1, h2⟩ := ih j x (by simpa using e); exact ⟨v, by simpa using h1, h2⟩
  | r _ _ _ ih =>
    intro j x e
    cases j with
    | zero => cases x <;> simp [DV.w] at e
    | succ j => obtain ⟨v, h1, h2⟩ := ih j x (by simpa using e); exact ⟨v, by simpa using h1, h2⟩
theorem Args.own (h : Args K O H σ δ p pat vs ws) : ∀ (j : Nat) t o, ws[j]? = some (.own t o) → ∃ i v t0, pat[j]? = some (some i) ∧ t = p + j + 1 ∧ vs[j]? = some v ∧ σ[i]? = some (some v) ∧ δ[i]? = some (some (.own t0 o)) := by
  induction h with
  | nil => intro j t o e; simp at e
  | @d _ _ y _ _ _ r _ ih =>
    intro j t o e
    cases j with
    | zero => cases y <;> simp [DV.w] at e
    | succ j => obtain ⟨i, v, t0, h1, h2, h3⟩ := ih j t o (by simpa using e); exact ⟨i, v, t0, by simpa using h1, by omega, by simpa using h3⟩
  | r hσ hδ _ ih =>
    intro j t o e
    cases j with
    | zero => simp at e; obtain ⟨rfl, rfl⟩ := e; exact ⟨_, _, _, rfl, rfl, rfl, hσ, hδ⟩
    | succ j => obtain ⟨i, v, t0, h1, h2, h3⟩ := ih j t o (by simpa using e); exact ⟨i, v, t0, by simpa using h1, by omega, by simpa using h3⟩
end
def piC (pat : List (Option Nat)) (ρ : Rho) : Rho := fun j => (pat[j]?).join.bind ρ
theorem piC_some {pat : List (Option Nat)} {ρ : Rho} {j : Nat} {a : Addr} (h : piC pat ρ j = some a) : ∃ i, pat[j]? = some (some i) ∧ ρ i = some a := by
  unfold piC at h
  cases q : pat[j]? with
  | none => rw [q] at h; cases h
  | some o =>
    rw [q] at h
    cases o with
    | none => cases h
    | some i => exact ⟨i, rfl, h⟩
theorem refs_inj : ∀ {pat : List (Option Nat)}, (pat.filterMap id).Nodup → ∀ {j l i : Nat}, pat[j]? = some (some i) → pat[l]? = some (some i) → j = l
  | [], _, _, _, _, h, _ => by simp at h
  | none :: r, nd, j, l, i, h1, h2 => by
    cases j with
    | zero => simp at h1
    | succ j => cases l with
      | zero => simp at h2
      | succ l => exact congrArg (· + 1) (refs_inj (pat := r) (by simpa using nd) (i := i) (by simpa using h1) (by simpa using h2))
  | some k :: r, nd, j, l, i, h1, h2 => by
    have nd' : k ∉ r.filterMap id ∧ (r.filterMap id).Nodup := by simpa using nd
    have mem : ∀ {m : Nat}, r[m]? = some (some i) → i ∈ r.filterMap id := fun h => List.mem_filterMap.mpr ⟨some i, List.mem_of_getElem? h, rfl⟩
    cases j with
    | zero => cases l with
      | zero => rfl
      | succ l =>
        simp at h1 h2
        subst h1
        exact absurd (mem h2) nd'.1
    | succ j => cases l with
      | zero =>
        simp at h1 h2
        subst h2
        exact absurd (mem h1) nd'.1
      | succ l => exact congrArg (· + 1) (refs_inj (pat := r) nd'.2 (i := i) (by simpa using h1) (by simpa using h2))
section
variable {K : PySem.W.Frag} {π : Rho} {F : Addr → Prop} {ρ : Rho} {H H' : Hp} {σ : St} {δ : Sl} {pat : List (Option Nat)} {vs : List V} {ws : List W}
def FC (F : Addr → Prop) (ρ : Rho) (pat : List (Option Nat)) : Addr → Prop := fun b => F b ∨ (Ow ρ b ∧ ¬ Ow (piC pat ρ) b)
theorem piC_le : ∀ b, Ow (piC pat ρ) b → Ow ρ b := fun b ⟨j, h⟩ => let ⟨i, _, h2⟩ := piC_some h; ⟨i, h2⟩
theorem oxC_iff {b : Addr} : Ox (FC F ρ pat) (piC pat ρ) b ↔ Ox F ρ b := by
  constructor
  · rintro (h | h | h)
    · exact .inl (piC_le b h)
    · exact .inr h
    · exact .inl h.1
  · rintro (h | h)
    · by_cases z : Ow (piC pat ρ) b
      · exact .inl z
      · exact .inr (.inr ⟨h, z⟩)
    · exact .inr (.inl h)
theorem Args.noLnt {K : PySem.W.Frag} {O : Addr → Prop} {H : Hp} {σ : St} {δ : Sl} {p : Nat} {pat : List (Option Nat)} {vs : List V} {ws : List W} (h : Args K O H σ δ p pat vs ws) : ∀ (j q : Nat), ws[j]? ≠ some (.lnt q) := by
  induction h with
  | nil => intro j q e; simp at e
  | @d _ _ x _ _ _ _ _ ih => intro j q e; cases j with
    | zero => cases x <;> cases e
    | succ j => exact ih j q (by simpa using e)
  | r _ _ _ ih => intro j q e; cases j with
    | zero => cases e
    | succ j => exact ih j q (by simpa using e)
theorem Args.rel (h : Args K (Ox F ρ) H σ δ 0 pat vs ws) (r : Rel K π F ρ H σ δ) (nd : (pat.filterMap id).Nodup) : Rel K (piC pat ρ) (FC F ρ pat) (piC pat ρ) H (vs.map some) (ws.map some) := by
  have le : ∀ b, Ox (FC F ρ pat) (piC pat ρ) b → Ox F ρ b := fun b => oxC_iff.mp
  refine ⟨by simp [h.len.1], fun j x e => ?_, fun j t o e => ?_, fun j l a h1 h2 => ?_, fun b z => r.trk b (le b z), fun b z q => ?_, fun p a z => ?_, fun j p e => ?_, r.tab⟩
  · have e' : ws[j]? = some x.w := by simpa using e
    obtain ⟨v, h1, h2⟩ := h.dat j x e'
    exact ⟨v, by simp [h1], h2.mono le⟩
  · have e' : ws[j]? = some (.own t o) := by simpa using e
    obtain ⟨i, v, t0, h1, h2, h3, h4, h5⟩ := h.own j t o e'
    obtain ⟨a, k1, k2, k3, k4⟩ := r.own i t0 o h5
    rw [h4] at k2; cases k2
    have pj : piC pat ρ j = some a := by unfold piC; rw [h1]; exact k1
    refine ⟨a, pj, by simp [h3], k3.mono le, fun p z => ?_, fun z => by omega⟩
    have : p = j := by omega
    rw [this]; exact pj
  · obtain ⟨i, p1, q1⟩ := piC_some h1
    obtain ⟨i', p2, q2⟩ := piC_some h2
    have := r.inj i i' a q1 q2
    subst this
    exact refs_inj nd p1 p2
  · rcases z with z | z
    · exact r.dis b z (piC_le b q)
    · exact z.2 q
  · exact r.trk a (.inl (piC_le a ⟨p, z⟩))
  · have e' : ws[j]? = some (.lnt p) := by simpa using e
    exact (h.noLnt j p e').elim
structure RelX (K : PySem.W.Frag) (π : Rho) (F : Addr → Prop) (ρ : Rho) (H : Hp) (σ : St) (S : Nat → Prop) (δ : Sl) : Prop where
  len : σ.length = δ.length
  dat : ∀ (i : Nat) (x : DV), δ[i]? = some (some x.w) → ∃ v, σ[i]? = some (some v) ∧ RpV K (Ox F ρ) H v x
  own : ∀ (i : Nat) t o, δ[i]? = some (some (.own t o)) → ∃ a, ρ i = some a ∧ σ[i]? = some (some (.ref a)) ∧ (¬ S i → ObOk K (Ox F ρ) H a o) ∧ (∀ p, t = p + 1 → π p = some a) ∧ (t = 0 → ∀ p, π p ≠ some a)
theorem RelX.put {O : Addr → Prop} {πc : Rho} {Fc : Addr → Prop} {ρ' : Rho} (lex : ∀ b, Ox F ρ b → Ox Fc ρ' b) : ∀ {pat : List (Option Nat)} {vs : List V} {ws : List W} {os : List Ob} {p : Nat} {δ0 δ : Sl}, Args K O H σ δ0 p pat vs ws → OutsOk K πc Fc ρ' H' p ws os → (∀ j i : Nat, pat[j]? = some (some i) → πc (p + j) = ρ i) →
    RelX K π F ρ H' σ (fun i => ∃ j : Nat, pat[j]? = some (some i)) δ → RelX K π F ρ H' σ (fun _ => False) (putB pat δ os)
  | [], vs, ws, os, p, δ0, δ, a, oo, hp, r => by
    cases a
    unfold putB
    exact ⟨r.len, r.dat, fun i t o e => by
      obtain ⟨a, h1, h2, h3, h4⟩ := r.own i t o e
      exact ⟨a, h1, h2, fun _ => h3 (fun ⟨j, z⟩ => by simp at z), h4⟩⟩
  | none :: pat, vs, ws, os, p, δ0, δ, a, oo, hp, r => by
    cases a with
    | @d _ _ y _ _ ws' _ a =>
      unfold putB
      have oo' : OutsOk K πc Fc ρ' H' (p + 1) ws' os := by cases y <;> exact oo
      refine RelX.put lex a oo' (fun j i e => ?_) ⟨r.len, r.dat, fun i t o e => ?_⟩
      · have := hp (j + 1) i (by simpa using e)
        rw [show p + 1 + j = p + (j + 1) by omega]; exact this
      · obtain ⟨a, h1, h2, h3, h4⟩ := r.own i t o e
        exact ⟨a, h1, h2, fun n => h3 fun ⟨j, z⟩ => by
          cases j with
          | zero => simp at z
          | succ j => exact n ⟨j, by simpa using z⟩, h4⟩
  | some k :: pat, vs, ws, os, p, δ0, δ, a, oo, hp, r => by
    cases a with
    | @r _ v _ t0 ob0 _ _ _ hσ hδ a =>
      obtain ⟨o, os', b, rfl, hb, ho, hob, oo'⟩ := oo
      unfold putB
      have hk : ρ k = some b := by rw [← hp 0 k (by simp)]; exact hb
      refine RelX.put lex a oo' (fun j i e => ?_) ?_
      · have := hp (j + 1) i (by simpa using e)
        rw [show p + 1 + j = p + (j + 1) by omega]; exact this
      · rw [putO_eq]
        split
        · rename_i t o2 e
          have hl := (List.getElem?_eq_some_iff.mp e).1
          refine ⟨by rw [List.length_set]; exact r.len, fun i x q => ?_, fun i t' o' q => ?_⟩
          · by_cases hi : k = i
            · subst hi; rw [List.getElem?_set_self hl] at q; cases x <;> cases q
            · rw [List.getElem?_set_ne hi] at q; exact r.dat i x q
          · by_cases hi : k = i
            · subst hi
              rw [List.getElem?_set_self hl] at q; cases q
              obtain ⟨a', h1, h2, h3, h4⟩ := r.own k _ _ e
              rw [hk] at h1; cases h1
              exact ⟨b, hk, h2, fun _ => hob.mono lex, h4⟩
            · rw [List.getElem?_set_ne hi] at q
              obtain ⟨a', h1, h2, h3, h4⟩ := r.own i _ _ q
              exact ⟨a', h1, h2, fun n => h3 fun ⟨j, z⟩ => by
                cases j with
                | zero => simp at z; exact hi z
                | succ j => exact n ⟨j, by simpa using z⟩, h4⟩
        · rename_i hno
          refine ⟨r.len, r.dat, fun i t o' e => ?_⟩
          obtain ⟨a, h1, h2, h3, h4⟩ := r.own i t o' e
          exact ⟨a, h1, h2, fun n => h3 fun ⟨j, z⟩ => by
            cases j with
            | zero => simp at z; subst z; exact hno _ _ e
            | succ j => exact n ⟨j, by simpa using z⟩, h4⟩
theorem outs_ow {O : Addr → Prop} {πc : Rho} {Fc : Addr → Prop} {ρ' : Rho} : ∀ {pat : List (Option Nat)} {vs : List V} {ws : List W} {os : List Ob} {p : Nat} {δ0 : Sl}, Args K O H σ δ0 p pat vs ws → OutsOk K πc Fc ρ' H' p ws os → ∀ j i : Nat, pat[j]? = some (some i) → ∃ a, πc (p + j) = some a ∧ Ow ρ' a
  | [], _, _, _, _, _, _, _, j, i, e => by simp at e
  | none :: pat, _, _, _, p, _, a, oo, j, i, e => by
    cases a with
    | @d _ _ y _ _ _ _ a => cases j with
      | zero => simp at e
      | succ j =>
        rw [show p + (j + 1) = p + 1 + j by omega]
        exact outs_ow a (by cases y <;> exact oo) j i (by simpa using e)
  | some k :: pat, _, _, _, p, _, a, oo, j, i, e => by
    cases a with
    | r _ _ a =>
      obtain ⟨o, os', b, rfl, hb, ho, _, oo'⟩ := oo
      cases j with
      | zero => exact ⟨b, hb, ho⟩
      | succ j => rw [show p + (j + 1) = p + 1 + j by omega]; exact outs_ow a oo' j i (by simpa using e)
theorem Args.lt {O : Addr → Prop} {p : Nat} (h : Args K O H σ δ p pat vs ws) : ∀ j i : Nat, pat[j]? = some (some i) → i < δ.length := by
  induction h with
  | nil => intro j i e; simp at e
  | d _ _ ih => intro j i e; cases j with
    | zero => simp at e
    | succ j => exact ih j i (by simpa using e)
  | r _ hδ _ ih => intro j i e; cases j with
    | zero => simp at e; subst e; exact (List.getElem?_eq_some_iff.mp hδ).1
    | succ j => exact ih j i (by simpa using e)
theorem Args.after {ρ' ρ2 : Rho} {os : List Ob} (h : Args K (Ox F ρ) H σ δ 0 pat vs ws) (r : Rel K π F ρ H σ δ) (e : Ex (FC F ρ pat) (piC pat ρ) H ρ' H') (oo : OutsOk K (piC pat ρ) (FC F ρ pat) ρ' H' 0 ws os)
    (agree : ∀ i, i < δ.length → ρ2 i = ρ i) (inj2 : ∀ i j a, ρ2 i = some a → ρ2 j = some a → i = j) (ow2 : ∀ b, Ow ρ2 b → Ow ρ b ∨ (H b = none ∧ Ow ρ' b)) (trk2 : ∀ b, Ow ρ' b → ∃ o, H' b = some o) :
    Rel K π F ρ2 H' σ (putB pat δ os) ∧ Ex F ρ H ρ2 H' ∧ ∀ b, Ox F ρ2 b → Ox (FC F ρ pat) ρ' b := by
  have lex : ∀ b, Ox F ρ b → Ox (FC F ρ pat) ρ' b := fun b z => by
    rcases oxC_iff (pat := pat) |>.mpr z with ⟨j, q⟩ | q
    · obtain ⟨i, q1, q2⟩ := piC_some q
      obtain ⟨a, h1, h2⟩ := outs_ow h oo j i q1
      rw [Nat.zero_add, q] at h1; cases h1
      exact .inl h2
    · exact .inr q
  have lex2 : ∀ b, Ox F ρ2 b → Ox (FC F ρ pat) ρ' b := fun b z => by
    rcases z with z | z
    · rcases ow2 b z with z | z
      · exact lex b (.inl z)
      · exact .inl z.2
    · exact lex b (.inr z)
  have ex : Ex F ρ H ρ2 H' := ⟨fun b o hb n t => e.fr b o hb (fun z => n (piC_le b z)) t, fun b z => (ow2 b z).imp id fun z => z.1, e.tk, e.tb⟩
  have ex' := ex.frn (F := F)
  have base : RelX K π F ρ2 H' σ (fun i => ∃ j : Nat, pat[j]? = some (some i)) δ := ⟨r.len, fun i x q => by
      obtain ⟨v, h1, h2⟩ := r.dat i x q
      exact ⟨v, h1, h2.ext ex' fun _ => .inl⟩, fun i t o q => by
      obtain ⟨a, h1, h2, h3, h4⟩ := r.own i t o q
      refine ⟨a, by rw [agree i (List.getElem?_eq_some_iff.mp q).1]; exact h1, h2, fun n => h3.extG ex' (fun _ => .inl) fun u hu ho => e.fr a u hu (fun ⟨j, z⟩ => ?_) ho.1, h4⟩
      obtain ⟨i', z1, z2⟩ := piC_some z
      have := r.inj i i' a h1 z2
      subst this
      exact n ⟨j, z1⟩⟩
  have fin := RelX.put lex2 h oo (fun j i q => by rw [Nat.zero_add, agree i (h.lt j i q)]; unfold piC; rw [q]; rfl) base
  refine ⟨⟨fin.len, fin.dat, fun i t o q => ?_, inj2, fun b z => ?_, fun b z q => ?_, fun p b z => ?_, LN.putB pat os r.ln, ex.tb.t r.tab⟩, ex, lex2⟩
  · obtain ⟨a, h1, h2, h3, h4⟩ := fin.own i t o q
    exact ⟨a, h1, h2, h3 id, h4⟩
  · rcases z with z | z
    · rcases ow2 b z with z | z
      · obtain ⟨u, hu⟩ := r.trk b (.inl z); exact ex.tk b u hu
      · exact trk2 b z.2
    · obtain ⟨u, hu⟩ := r.trk b (.inr z); exact ex.tk b u hu
  · rcases ow2 b q with q | q
    · exact r.dis b z q
    · obtain ⟨u, hu⟩ := r.trk b (.inr z); rw [q.1] at hu; cases hu
  · obtain ⟨u, hu⟩ := r.pit p b z; exact ex.tk b u hu
end
section
variable {X : Cx} {E : XK} {CX : CXT} {k : Nat} {f : Addr} {fd : FuncData} {ps : List Str} {sp : Sp3} {e : Expr} {es : List Expr} {x : Str} {p pos : Pos} {pat : List (Option Nat)} {t : TV3}
theorem liftX.call {K : PySem.W.Frag} {F : Addr → Prop} {ρ : Rho} {H : Hp} {pat : List (Option Nat)} : ∀ ex, liftX K E F ρ H ex → liftX K E (FC F ρ pat) (piC pat ρ) H ex :=
  fun ex h d H' ρ' e x => h d H' ρ ⟨fun b o hb n t => e.fr b o hb (fun z => n (piC_le b z)) t, fun _ z => .inl z, e.tk, e.tb⟩ x
theorem mkW_mono {k k' : List W → Prop} (hk : ∀ ws, k ws → k' ws) : ∀ (pat : List (Option Nat)) (ds : List DV) (δ : Sl) (p : Nat), mkW pat ds δ p k → mkW pat ds δ p k'
  | [], [], _, _, h => hk _ h
  | none :: ps, x :: xs, δ, p, h => mkW_mono (fun ws => hk _) ps xs δ (p + 1) h
  | some i :: ps, xs, δ, p, h => by
    unfold mkW at h ⊢
    split at h
    · exact mkW_mono (fun ws => hk _) ps xs δ (p + 1) h
    · exact h.elim
  | [], _ :: _, _, _, h => h.elim
  | none :: _, [], _, _, h => h.elim
theorem retD_mono {r : R3} {k k' : D → Prop} (hk : ∀ x, k x → k' x) (h : retD r k) : retD r k' := by
  unfold retD at h ⊢
  split at h
  · exact hk _ h
  · exact hk _ h
  · exact h.elim
theorem call3 (F : FnOk X.prog X.w X.K X.mg X.base CX k f fd ps (liftF X.K sp)) (mp : MonoP sp) (hr : Room k X.A) (hg : Gl X x) (hm : X.mg x = some (.ref f)) (hk : PySem.W.keepIn X.K (.ref f) = true) (hb : Binds X.K fd ps []) (hx : Passes CX X E)
    (ha : PAr X E (e :: es) pat t) (nd : (pat.filterMap id).Nodup := by decide) (hdb : (x == ("__debug__" : Str)) = false := by decide) (he : starEach (e :: es) X.env = (false, eval e X.env) :: starEach es X.env := by rfl) (hpl : (backTo pos (starEach es X.env)).any (·.1) = false := by rfl) :
    PE3 X E (.Call (.Name x p) (e :: es) [] pos) (tCall3 sp pat t) := by
  refine ⟨fun _ _ _ _ _ he hq q => ha.mono _ _ _ _ _ he (fun ds δ1 => mkW_mono (fun ws => mp _ _ _ _ _ (fun r os => retD_mono fun x => hq _ _) he) _ _ _ _) q, (pe_call F hr hg hm hk hb .nil hx ha.pa hdb he hpl).imp fun σ H Q h => ?_⟩
  obtain ⟨π, Fo, ρ, δ, rel, q⟩ := h
  refine ⟨π, Fo, ρ, δ, rel, ha.mono _ _ _ _ _ (fun _ z => z) (fun ds δ1 q vs H1 ρ1 e1 rel1 ao => ?_) q⟩
  obtain ⟨ws, q, ar⟩ := args_of ao 0 _ q
  rw [List.append_nil]
  have relc := ar.rel rel1 nd
  refine ⟨piC pat ρ1, FC Fo ρ1 pat, piC pat ρ1, ws, relc, ar.tagged, fun j hj => ?_, mp _ _ _ _ _ (fun r os q v H' ρ' e' oo tk ds rr => ?_) (fun ex z => liftX.call ex (liftX.mono e1 ex z)) q⟩
  · unfold piC
    rw [List.getElem?_eq_none (by rw [ar.len.2]; exact hj)]; rfl
  · obtain ⟨r2, ex2, lex⟩ := ar.after rel1 e' oo (fun _ _ => rfl) rel1.inj (fun _ z => .inl z) (fun b z => tk b (.inl z))
    unfold retD at q
    split at q
    · exact q v H' ρ1 (e1.trans ex2) r2 (Rp.mono lex rr)
    · obtain ⟨a, rfl, oa, na, vs', h1, h2⟩ := rr
      refine q _ H' ρ1 (e1.trans ex2) r2 (.lst ⟨h1, fun z => ?_⟩ (h2.mono lex))
      -- the new list is no one's
      have : H1 a = none := by
        rcases e'.ow a oa with w | w
        · obtain ⟨j, w⟩ := w; exact absurd w (na j)
        · exact w
      obtain ⟨u, hu⟩ := rel1.trk a z
      rw [this] at hu; cases hu
    · exact q.elim
theorem callO3 (F : FnOk X.prog X.w X.K X.mg X.base CX k f fd ps (liftF X.K sp)) (mp : MonoP sp) (hr : Room k X.A) (hg : Gl X x) (hm : X.mg x = some (.ref f)) (hk : PySem.W.keepIn X.K (.ref f) = true) (hb : Binds X.K fd ps []) (hx : Passes CX X E)
    (ha : PAr X E (e :: es) pat t) (nd : (pat.filterMap id).Nodup := by decide) (hdb : (x == ("__debug__" : Str)) = false := by decide) (he : starEach (e :: es) X.env = (false, eval e X.env) :: starEach es X.env := by rfl) (hpl : (backTo pos (starEach es X.env)).any (·.1) = false := by rfl) :
    POw X E (.Call (.Name x p) (e :: es) [] pos) (tCallO sp pat t) := by
  refine ⟨fun _ _ _ _ _ he hq q => ha.mono _ _ _ _ _ he (fun ds δ1 => mkW_mono (fun ws => mp _ _ _ _ _ (fun r os z => ?_) he) _ _ _ _) q, (pe_call F hr hg hm hk hb .nil hx ha.pa hdb he hpl).imp fun σ H Q h => ?_⟩
  · cases r with
    | d x => exact z.elim
    | own o => exact hq _ _ z
  obtain ⟨π, Fo, ρ, δ, rel, q⟩ := h
  refine ⟨π, Fo, ρ, δ, rel, ha.mono _ _ _ _ _ (fun _ z => z) (fun ds δ1 q vs H1 ρ1 e1 rel1 ao => ?_) q⟩
  obtain ⟨ws, q, ar⟩ := args_of ao 0 _ q
  rw [List.append_nil]
  have relc := ar.rel rel1 nd
  refine ⟨piC pat ρ1, FC Fo ρ1 pat, piC pat ρ1, ws, relc, ar.tagged, fun j hj => ?_, mp _ _ _ _ _ (fun r os q v H' ρ' e' oo tk ds rr => ?_) (fun ex z => liftX.call ex (liftX.mono e1 ex z)) q⟩
  · unfold piC
    rw [List.getElem?_eq_none (by rw [ar.len.2]; exact hj)]; rfl
  · cases r with
    | d x => exact q.elim
    | own o =>
      obtain ⟨a, rfl, oa, na, ho⟩ := rr
      have hn : H1 a = none := by
        rcases e'.ow a oa with w | w
        · obtain ⟨j, w⟩ := w; exact absurd w (na j)
        · exact w
      have nr : ∀ j, ρ1 j ≠ some a := fun j z => by
        obtain ⟨u, hu⟩ := rel1.trk a (.inl ⟨j, z⟩)
        rw [hn] at hu; cases hu
      have np : ∀ p, π p ≠ some a := fun p z => by
        obtain ⟨u, hu⟩ := rel1.pit p a z
        rw [hn] at hu; cases hu
      obtain ⟨r2, ex2, lex⟩ := ar.after (ρ2 := own1 ρ1 δ1.length a) rel1 e' oo (fun i hi => by unfold own1; rw [if_neg (by omega)]) (fun i j b h1 h2 => by
        unfold own1 at h1 h2
        split at h1
        · cases h1
          split at h2
          · rename_i z1 z2; rw [z1, z2]
          · exact absurd h2 (nr j)
        · split at h2
          · cases h2; exact absurd h1 (nr i)
          · exact rel1.inj i j b h1 h2) (fun b z => (own1_le b z).imp id fun z => by rw [z]; exact ⟨hn, oa⟩) (fun b z => tk b (.inl z))
      have pl : (putB pat δ1 os).length = δ1.length := by rw [← r2.len, rel1.len]
      exact q a H' _ δ1.length (e1.trans ex2) r2 (by rw [pl]; exact Nat.le_refl _) (by unfold own1; rw [if_pos rfl]) np (ho.mono lex)
end
end M3
set_option Elab.async false
set_option linter.all false
set_option maxRecDepth 100000
namespace M3
open PySem L2
variable [TabsC]
structure Prm where
  ι : Type
  pre : ι → Prop
  args : ι → List W
  tell : ι → (R3 → List Ob → Prop) → Prop
  mono : ∀ a Q Q', (∀ r os, Q r os → Q' r os) → tell a Q → tell a Q'
def Prm.sp (S : Prm) : Sp3 := fun ws Q _ => ∃ a : S.ι, S.pre a ∧ ws = S.args a ∧ S.tell a Q
theorem Prm.monoP (S : Prm) : MonoP S.sp := fun _ _ _ _ _ hq _ ⟨a, h1, h2, h3⟩ => ⟨a, h1, h2, S.mono _ _ _ hq h3⟩
def ends (ws : List W) (Q : R3 → List Ob → Prop) : End3 where
  nx := fun δ => outs 0 ws δ (Q (.d .none))
  rt := fun r δ => outs 0 ws δ (Q r)
def PD {ι : Type} (pre : ι → Prop) (args : ι → List D) (res : ι → D) : Prm where
  ι := ι
  pre := pre
  args := fun a => (args a).map .d
  tell := fun a Q => Q (.d (res a)) []
  mono := fun _ _ _ h q => h _ _ q
def PR {ι β : Type} (pre : ι → Prop) (args : ι → List W) (post : ι → β → Prop) (res : ι → β → R3) (out : ι → β → List Ob) : Prm where
  ι := ι
  pre := pre
  args := args
  tell := fun a Q => ∀ b, post a b → Q (res a b) (out a b)
  mono := fun _ _ _ h q b hb => h _ _ (q b hb)
theorem cpw (k : Nat) {i j : Int} (h : i.natAbs < 2 ^ k) (hj : 0 ≤ j) (hk : (k : Int) * j ≤ 2 ^ 27) : CPw i j := by
  refine ⟨hj, Int.le_trans (Int.mul_le_mul_of_nonneg_right (Int.ofNat_le.mpr (PyProof.Rows.intBits_le h)) hj) hk⟩
theorem neverE3 {X : Cx} {E : XK} {e : Expr} : PE3 X E e (fun _ _ _ => False) := ⟨fun _ _ _ _ _ _ _ q => q, ⟨fun _ _ _ _ _ _ ⟨_, _, _, _, _, q⟩ => q.elim⟩⟩
theorem br_t {b : Bool} {A B : Prop} (h : b = true) (a : A) : br b A B := ⟨fun _ => a, fun z => by rw [h] at z; cases z⟩
theorem br_f {b : Bool} {A B : Prop} (h : b = false) (a : B) : br b A B := ⟨fun z => (by rw [h] at z; cases z), fun _ => a⟩
structure Cal (P : Program) (w : World) (K : PySem.W.Frag) (mg : Str → Option Value) (base : Heap) (k : Nat) (x : Str) (ps : List Str) (S : Prm) : Prop where
  ex : ∃ f fd, FnOk P w K mg base CX0 k f fd ps (liftF K S.sp) ∧ mg x = some (.ref f) ∧ PySem.W.keepIn K (.ref f) = true ∧ Binds K fd ps []
section
variable {X : Cx} {E : XK} {k j : Nat} {S : Prm} {ps : List Str} {e : Expr} {es : List Expr} {x : Str} {p pos : Pos} {pat : List (Option Nat)} {t : TV3}
theorem gl3 {x : Str} {i : Int} {pos : Pos} (hm : ∃ t, X.mg x = some (.int i t)) (hg : Gl X x := by rfl) (hd : (x == ("__debug__" : Str)) = false := by decide) : PE3 X E (.Name x pos) (tC3 (.int i)) := by
  obtain ⟨t, hm⟩ := hm
  exact globI3 hg hm hd
end
def S_law : Prm where
  ι := List Int
  pre := fun ns => ns.length ≤ 63
  args := fun ns => [.ro (ns.map .int)]
  tell := fun _ Q => Q (.d (.bool true)) []
  mono := fun _ _ _ h q => h _ _ q
theorem rpall_ints {K : PySem.W.Frag} {O : Addr → Prop} {H : Hp} : ∀ ns : List Int, RpAll K O H (ns.map V.int) (ns.map PyData.int)
  | [] => .nil
  | n :: r => .cons (.int n) (rpall_ints r)
theorem law_hsp {K : PySem.W.Frag} {H : Hp} {a : Addr} {ns : List Int} (hl : ns.length ≤ 63) (hTb : TabsM H) (hS : SqL K H a (ns.map V.int)) : liftF K S_law.sp [.ref a] H (fun v _ => v = .bl true) (fun _ _ _ => False) := by
  have nx : ∀ b, ¬ Ox (fun _ => False) (fun _ => none) b := fun b z => by
    rcases z with ⟨i, z⟩ | z
    · cases z
    · exact z
  have hT : TR K (Ox (fun _ => False) (fun _ => none)) H a (ns.map V.int) := by
    rcases hS with h | h
    · exact .inl ⟨h, nx a⟩
    · exact .inr (.inr h)
  refine ⟨fun _ => none, fun _ => False, fun _ => none, [.ro (ns.map .int)], ⟨rfl, fun i x e => ?_, fun i t o e => ?_, fun i j b h => (nomatch h), fun b z => absurd z (nx b), fun b z => z.elim, fun p b z => (nomatch z), fun i p e => (by cases i <;> simp at e), hTb⟩, trivial, fun _ _ => rfl, ns, hl, rfl, fun v H' ρ' e oo tk ds rr => ?_⟩
  · cases i with
    | zero =>
      have e' : x = .ro (ns.map .int) := by cases x <;> simp [DV.w] at e <;> simp [e]
      subst e'
      exact ⟨_, rfl, a, _, rfl, hT, rpall_ints ns⟩
    | succ i => simp at e
  · cases i with
    | zero => simp at e
    | succ i => simp at e
  · cases rr
    rfl
end M3
set_option Elab.async false
set_option linter.all false
set_option maxRecDepth 100000
namespace M3
open PySem L2
variable [TabsC]
section
open PySem PySem.Spec PyProof.Rows HT
variable {prog : Program} {w : World} {A : Around} {E : Value → Shared → Prop} {s : Shared}
end
section
variable {X : Cx} {E : XK} {e : Expr} {te : T3} {pos : Pos}
def tRevT (K : PySem.W.Frag) (te : TE) : TE := fun σ H Q => te σ H fun x H1 => ∃ a xs, x = .ref a ∧ SqT K H1 a xs ∧ ∀ p, H1 p = none → Q (.ref p) (upd H1 p (.tup xs.reverse))
def asT (x : D) (k : List D → Prop) : Prop := match x with | .tuple xs => k xs | _ => False
theorem asT.to {x : D} {k : List D → Prop} (h : asT x k) : ∃ xs, x = .tuple xs ∧ k xs := by
  cases x <;> first | exact ⟨_, rfl, h⟩ | exact False.elim h
theorem updupd {H : Hp} {p : Addr} {a b : HO} : upd (upd H p a) p b = upd H p b := by
  funext q
  by_cases e : q = p
  · rw [e, upd_same, upd_same]
  · rw [upd_ne e, upd_ne e, upd_ne e]
theorem pe_lkR {X : Cx} {e : Expr} {t : TE} (h : PE X e t) : PE X e (fun σ H Q => t σ H fun x H1 => ∃ d u, x = .ref d ∧ H1 d = some u ∧ Mut (some u) ∧ ∀ od, Q x (upd H1 d (.frz od u))) := by
  refine ⟨fun pins s σ H Q I hw => thn (h.run pins s σ _ _ I hw) fun v s1 ⟨x, H1, I1, r, d, u, ex, hd, mu, q⟩ => ?_⟩
  obtain ⟨od, I2⟩ := I1.lock hd mu
  exact ⟨x, _, I2, r, q od⟩
theorem dict03 : PE3 X E (.Dict [] [] pos) (tC3 (.dict [])) := by
  refine ⟨mono_tC3, (pe_lkR pe_dnewK).imp fun σ H Q h => ?_⟩
  obtain ⟨π, F, ρ, δ, rel, q⟩ := h
  intro p hp
  refine ⟨p, _, rfl, upd_same, trivial, fun od => ?_⟩
  rw [updupd]
  exact q _ _ ρ (Ext.same (same_upd hp)) (rel.same (same_upd hp)) (.dic upd_same (rel.fresh hp) .nil)
def asK (x : D) (k : Key → Prop) : Prop := match x with | .int i => k (.inl i) | .str s => k (.inr s) | _ => False
theorem asK.to {x : D} {k : Key → Prop} (h : asK x k) : ∃ y, x = kD y ∧ k y := by
  cases x <;> first | exact ⟨.inl _, rfl, h⟩ | exact ⟨.inr _, rfl, h⟩ | exact False.elim h
def tDict1 (tk tv : T3) : T3 := fun E δ Q => tk E δ fun x δ1 => tv E δ1 fun y δ2 => asK x fun _ => Q (.dict [(x, y)]) δ2
end
end M3
set_option Elab.async false
set_option linter.all false
set_option maxRecDepth 100000
namespace M3
open PySem L2
variable [TabsC]
section
variable {X : Cx} {E : XK} {a b e tg : Expr} {ta tb te : T3} {pos : Pos}
def rMaxL3 (x : D) (k : D → Prop) : Prop := match x with
  | .list xs => ∃ ns : List Int, xs = ns.map PyData.int ∧ 0 < ns.length ∧ ∀ m, m ∈ ns → (∀ y, y ∈ ns → y ≤ m) → k (.int m)
  | _ => False
def rMinL3 (x : D) (k : D → Prop) : Prop := match x with
  | .list xs => ∃ ns : List Int, xs = ns.map PyData.int ∧ 0 < ns.length ∧ ∀ m, m ∈ ns → (∀ y, y ∈ ns → m ≤ y) → k (.int m)
  | _ => False
def rSumL3 (x : D) (k : D → Prop) : Prop := match x with
  | .list xs => ∃ ns : List Int, xs = ns.map PyData.int ∧ k (.int ns.sum)
  | _ => False
def zipD (xs ys : List D) : List D := (xs.zip ys).map fun p => .tuple [p.1, p.2]
theorem zipD_get {xs ys : List D} {i : Nat} {x : D} (h : (zipD xs ys)[i]? = some x) : ∃ d e, xs[i]? = some d ∧ ys[i]? = some e ∧ x = .tuple [d, e] := by
  unfold zipD at h
  rw [List.getElem?_map] at h
  cases hz : (xs.zip ys)[i]? with
  | none => rw [hz] at h; cases h
  | some p =>
    rw [hz] at h
    obtain ⟨h1, h2⟩ := List.getElem?_zip_eq_some.mp hz
    exact ⟨p.1, p.2, h1, h2, (Option.some.inj h).symm⟩
theorem zipD_length {xs ys : List D} : (zipD xs ys).length = min xs.length ys.length := by unfold zipD; simp
theorem jok_zipT {K : PySem.W.Frag} {F : Addr → Prop} {ρ0 : Rho} {H0 : Hp} {a b : Addr} {vs us : List V} {xs ys : List D} (h1 : TT K (Ox F ρ0) H0 a vs) (r1 : RpAll K (Ox F ρ0) H0 vs xs) (h2 : TT K (Ox F ρ0) H0 b us) (r2 : RpAll K (Ox F ρ0) H0 us ys) : JOk K F ρ0 H0 (RZ.ItzT K a b) (zipD xs ys) := by
  intro i F' ρ H P po ex tr
  have h1' := h1.ext ex po
  have r1' := r1.ext ex po
  have h2' := h2.ext ex po
  have r2' := r2.ext ex po
  refine ⟨fun x hx => ?_, fun hx => ⟨vs, us, h1'.sq, h2'.sq, ?_⟩⟩
  · obtain ⟨d, e, hd, he, rfl⟩ := zipD_get hx
    obtain ⟨v, hv, rv⟩ := r1'.get hd
    obtain ⟨u, hu, ru⟩ := r2'.get he
    refine ⟨⟨vs, us, v, u, h1'.sq, h2'.sq, hv, hu⟩, fun w H' y => ?_⟩
    obtain ⟨T, x', y', e1, e2, e3, e4, e5⟩ := y
    have z1 := e4 vs h1'.sq
    have z2 := e5 us h2'.sq
    rw [hv] at z1; rw [hu] at z2
    cases z1; cases z2
    subst e1 e3
    exact ⟨same_upd e2, rp_tup tr e2 (.cons rv (.cons ru .nil))⟩
  · rw [zipD_length] at hx
    rw [r1'.length, r2'.length]
    omega
theorem jok_zipL {K : PySem.W.Frag} {F : Addr → Prop} {ρ0 : Rho} {H0 : Hp} {a b : Addr} {vs us : List V} {xs ys : List D} (h1 : TL K (Ox F ρ0) H0 a vs) (r1 : RpAll K (Ox F ρ0) H0 vs xs) (h2 : TL K (Ox F ρ0) H0 b us) (r2 : RpAll K (Ox F ρ0) H0 us ys) : JOk K F ρ0 H0 (Itz K a b) (zipD xs ys) := by
  intro i F' ρ H P po ex tr
  have h1' := h1.ext ex po
  have r1' := r1.ext ex po
  have h2' := h2.ext ex po
  have r2' := r2.ext ex po
  refine ⟨fun x hx => ?_, fun hx => ⟨vs, us, h1'.sq, h2'.sq, ?_⟩⟩
  · obtain ⟨d, e, hd, he, rfl⟩ := zipD_get hx
    obtain ⟨v, hv, rv⟩ := r1'.get hd
    obtain ⟨u, hu, ru⟩ := r2'.get he
    refine ⟨⟨vs, us, v, u, h1'.sq, h2'.sq, hv, hu⟩, fun w H' y => ?_⟩
    obtain ⟨T, x', y', e1, e2, e3, e4, e5⟩ := y
    have z1 := e4 vs h1'.sq
    have z2 := e5 us h2'.sq
    rw [hv] at z1; rw [hu] at z2
    cases z1; cases z2
    subst e1 e3
    exact ⟨same_upd e2, rp_tup tr e2 (.cons rv (.cons ru .nil))⟩
  · rw [zipD_length] at hx
    rw [r1'.length, r2'.length]
    omega
def asZip (x y : D) (k : List D → Prop) : Prop := match x, y with
  | .tuple xs, .tuple ys => k (zipD xs ys)
  | .list xs, .list ys => k (zipD xs ys)
  | _, _ => False
theorem asZip.imp {x y : D} {k k' : List D → Prop} (h : asZip x y k) (f : ∀ xs, k xs → k' xs) : asZip x y k' := by
  unfold asZip at h ⊢
  split at h
  · exact f _ h
  · exact f _ h
  · exact h.elim
def tZip (ta tb : T3) : TA3 := fun E δ Q => ta E δ fun x δ1 => tb E δ1 fun y δ2 => asZip x y fun xs => Q xs δ2
theorem zip3 {p tpos : Pos} {elts : List Expr} {kk : Nat} (hg : Gl X "zip") (hm : X.mg "zip" = none) (ha : PE3 X E a ta) (hb : PE3 X E b tb)
    (hs' : starEach [a, b] X.env = (false, eval a X.env) :: starEach [b] X.env := by rfl) (hs2' : starEach [b] X.env = (false, eval b X.env) :: starEach [] X.env := by rfl) (hpl : (backTo pos (starEach [b] X.env)).any (·.1) = false := by rfl) : PI3 X E (.Tuple elts kk tpos) (.Call (.Name "zip" p) [a, b] [] pos) (tZip ta tb) := by
  refine ⟨fun _ _ _ _ _ hx hq q => ha.mono _ _ _ _ _ hx (fun x δ1 => hb.mono _ _ _ _ _ hx fun y δ2 z => z.imp fun _ => hq _ _) q, (RZ.pi_zipA hg hm (pa_cons ha.pe (pa_cons hb.pe pa_nil hs2') hs') hs' hpl).imp fun σ H R h => ?_⟩
  obtain ⟨π, F, ρ, δ, rel, q⟩ := h
  refine ⟨π, F, ρ, δ, rel, ha.mono _ _ _ _ _ (fun _ z => z) (fun x δ1 q v H1 ρ1 e1 rel1 r1 => ?_) q⟩
  refine ⟨π, F, ρ1, δ1, rel1, hb.mono _ _ _ _ _ (liftX.mono e1) (fun y δ2 q u H2 ρ2 e2 rel2 r2 => ?_) q⟩
  have r1' := r1.ext e2.frn fun _ => .inl
  unfold asZip at q
  split at q
  · cases r1' with
    | tup ht hr => cases r2 with
      | tup ht2 hr2 => exact ⟨_, _, _, _, rfl, .inr ⟨ht.sq, ht2.sq, q _ H2 ρ2 (e1.trans e2) rel2 (jok_zipT ht hr ht2 hr2)⟩⟩
  · cases r1' with
    | lst ht hr => cases r2 with
      | lst ht2 hr2 => exact ⟨_, _, _, _, rfl, .inl ⟨ht.sq, ht2.sq, q _ H2 ρ2 (e1.trans e2) rel2 (jok_zipL ht hr ht2 hr2)⟩⟩
  · exact q.elim
end
end M3
set_option Elab.async false
set_option linter.all false
set_option maxRecDepth 100000
namespace M3
open PySem L2
variable [TabsC]
structure PrmC where
  sp : List W → (R3 → List Ob → Prop) → Prop
  mono : ∀ ws Q Q', (∀ r os, Q r os → Q' r os) → sp ws Q → sp ws Q'
def PrmC.p (S : PrmC) : Sp3 := fun ws Q _ => S.sp ws Q
theorem PrmC.monoP (S : PrmC) : MonoP S.p := fun _ _ _ _ _ hq _ h => S.mono _ _ _ hq h
theorem fnC {P : Program} {w : World} {K : PySem.W.Frag} {mg : Str → Option Value} {base : Heap} {x qual : Str} {st : Stmt} {f : Addr} {fd : FuncData} {N ps : List Str} {k : Nat} {S : PrmC} (F : Fun K x qual st f fd) (Sc : FnScope N ps (defScope st)) (len : ∀ ws Q, S.sp ws Q → ws.length = ps.length)
    (hbody : ∀ (cdv : Value) (A : Around) (outer : List Env) (s : Shared) (H : Hp) (E : XK), Room k (A.deeper (PyProof.Rows.envOfC qual (defScope st) s.heap.objs.size f cdv)) →
      ∃ t, PSs3 (cxOf CX0 P w K mg base N qual (defScope st) f cdv A outer s H E).nox XF (defBody st) t ∧ ∀ (ws : List W) (Q : R3 → List Ob → Prop), S.sp ws Q → t (fun _ => False) (ends ws Q) (start3 N ws)) :
    FnOk P w K mg base CX0 (k + 1) f fd ps (liftF K S.p) := by
  refine fn3 (sp := S.p) F Sc (fun ws Q E h => len ws Q h) (fun cdv A outer s H E hr => ?_) S.monoP
  obtain ⟨t, h1, h2⟩ := hbody cdv A outer s H E hr
  exact ⟨t, h1, fun ws Q h tg => h2 ws Q h⟩
structure CalC (P : Program) (w : World) (K : PySem.W.Frag) (mg : Str → Option Value) (base : Heap) (k : Nat) (x : Str) (ps : List Str) (S : PrmC) : Prop where
  ex : ∃ f fd, FnOk P w K mg base CX0 k f fd ps (liftF K S.p) ∧ mg x = some (.ref f) ∧ PySem.W.keepIn K (.ref f) = true ∧ Binds K fd ps []
section
variable {X : Cx} {E : XK} {k j : Nat} {S : PrmC} {ps : List Str} {e : Expr} {es : List Expr} {x : Str} {p pos : Pos} {pat : List (Option Nat)} {t : TV3}
theorem clC (C : CalC X.prog X.w X.K X.mg X.base k x ps S) (hr : Room j X.A) (ha : PAr X XF (e :: es) pat t) (hk : k ≤ j := by first | decide | omega) (hg : Gl X x := by rfl) (nd : (pat.filterMap id).Nodup := by decide) (hdb : (x == ("__debug__" : Str)) = false := by decide)
    (he : starEach (e :: es) X.env = (false, eval e X.env) :: starEach es X.env := by rfl) (hpl : (backTo pos (starEach es X.env)).any (·.1) = false := by rfl) : PE3 X XF (.Call (.Name x p) (e :: es) [] pos) (tCall3 S.p pat t) := by
  obtain ⟨f, fd, F, hm, hk', hb⟩ := C.ex
  exact call3 F S.monoP (hr.mono hk) hg hm hk' hb pass0 ha nd hdb he hpl
theorem clOC (C : CalC X.prog X.w X.K X.mg X.base k x ps S) (hr : Room j X.A) (ha : PAr X XF (e :: es) pat t) (hk : k ≤ j := by first | decide | omega) (hg : Gl X x := by rfl) (nd : (pat.filterMap id).Nodup := by decide) (hdb : (x == ("__debug__" : Str)) = false := by decide)
    (he : starEach (e :: es) X.env = (false, eval e X.env) :: starEach es X.env := by rfl) (hpl : (backTo pos (starEach es X.env)).any (·.1) = false := by rfl) : POw X XF (.Call (.Name x p) (e :: es) [] pos) (tCallO S.p pat t) := by
  obtain ⟨f, fd, F, hm, hk', hb⟩ := C.ex
  exact callO3 F S.monoP (hr.mono hk) hg hm hk' hb pass0 ha nd hdb he hpl
end
def S_lawC : PrmC where
  sp := fun ws Q => ∃ ns : List Int, ns.length ≤ 63 ∧ ws = [.ro (ns.map .int)] ∧ Q (.d (.bool true)) []
  mono := fun _ _ _ h ⟨ns, a, b, q⟩ => ⟨ns, a, b, h _ _ q⟩
structure Ask (p : Prop) : Prop where
  h : p
def putS (δ : Sl) : List Nat → List (Option W) → Sl
  | i :: is, v :: vs => putS (δ.set i v) is vs
  | _, _ => δ
def getS (δ : Sl) : List Nat → List (Option W)
  | [] => []
  | i :: is => (match δ[i]? with | some v => v | none => none) :: getS δ is
theorem PS3.weak {X : Cx} {E : XK} {st : Stmt} {t t' : TS3} (h : PS3 X E st t) (m : MonoS t') (k : ∀ E D δ, t' E D δ → t E D δ) : PS3 X E st t' :=
  ⟨m, h.ps.imp fun D σ H ⟨π, F, ρ, δ, rel, q⟩ => ⟨π, F, ρ, δ, rel, k _ _ _ q⟩⟩
theorem PE3.weak {X : Cx} {E : XK} {e : Expr} {t t' : T3} (h : PE3 X E e t) (m : Mono3 t') (k : ∀ E δ Q, t' E δ Q → t E δ Q) : PE3 X E e t' :=
  ⟨m, h.pe.imp fun σ H Q ⟨π, F, ρ, δ, rel, q⟩ => ⟨π, F, ρ, δ, rel, k _ _ _ q⟩⟩
section
variable {X : Cx} {E : XK} {tg a b c e iter : Expr} {ta tb tc te : T3} {ti : TA3} {pos : Pos}
def tForM (ws : List Nat) (ti : TA3) (g : TG3) (tb : TS3) : TS3 := fun E D δ => ti E δ fun ds δ1 => Ask <| ∃ I : Nat → List (Option W) → Prop, I 0 (getS δ1 ws) ∧
  (∀ i x vs, ds[i]? = some x → I i vs → g x (putS δ1 ws vs) fun δ3 => tb E { nx := fun δ' => δ' = putS δ1 ws (getS δ' ws) ∧ I (i + 1) (getS δ' ws), ct := fun δ' => δ' = putS δ1 ws (getS δ' ws) ∧ I (i + 1) (getS δ' ws), bk := D.nx, rt := D.rt } δ3) ∧ ∀ vs, I ds.length vs → D.nx (putS δ1 ws vs)
theorem putS_getS : ∀ (ws : List Nat) (δ : Sl), putS δ ws (getS δ ws) = δ
  | [], δ => rfl
  | i :: is, δ => by
    simp only [getS, putS]
    have e : δ.set i (match δ[i]? with | some v => v | none => none) = δ := by
      cases h : δ[i]? with
      | none => exact List.set_eq_of_length_le (List.getElem?_eq_none_iff.mp h)
      | some v =>
        obtain ⟨hl, hv⟩ := List.getElem?_eq_some_iff.mp h
        simp only
        rw [← hv]; exact List.set_getElem_self hl
    rw [e]; exact putS_getS is δ
theorem forM (ws : List Nat) {ws0 : List Nat} {body : List Stmt} {g : TG3} {tb : TS3} (hp : PassesOwn (model X.prog X.w) X.A X.env X.xe) (hc : X.calm = true) (hi : PI3 X E tg iter ti) (hg : PG3 X ws0 tg g) (hb : PSs3 X E body tb)
    (hs : ∀ x, foldedSetIterable iter X.env x = pure x := by intro _; rfl) : PS3 X E (.For tg iter body [] pos) (tForM ws ti g tb) := by
  refine (for3 hp hc hi hg hb hs).weak (fun E1 E2 D1 D2 _ hx hd q => hi.mono _ _ _ _ _ hx (fun ds δ1 ⟨⟨I, h0, h1, h2⟩⟩ => ⟨⟨I, h0, fun i x vs e p => hg.mono _ _ _ _ (fun δ3 => hb.mono E1 E2 { nx := fun δ' => δ' = putS δ1 ws (getS δ' ws) ∧ I (i + 1) (getS δ' ws), ct := fun δ' => δ' = putS δ1 ws (getS δ' ws) ∧ I (i + 1) (getS δ' ws), bk := D1.nx, rt := D1.rt } _ _ hx ⟨fun _ z => z, hd.rt, hd.nx, fun _ z => z⟩) (h1 i x vs e p), fun vs p => hd.nx _ (h2 vs p)⟩⟩) q) fun E1 D1 δ q => ?_
  refine hi.mono _ _ _ _ _ (fun _ z => z) (fun ds δ1 ⟨⟨I, h0, h1, h2⟩⟩ => ?_) q
  refine ⟨fun i δ' => δ' = putS δ1 ws (getS δ' ws) ∧ I i (getS δ' ws), ⟨(putS_getS ws δ1).symm, h0⟩, fun i x δ2 e ⟨p1, p2⟩ => ?_, fun δ2 ⟨p1, p2⟩ => ?_⟩
  · rw [p1]; exact h1 i x _ e p2
  · rw [p1]; exact h2 _ p2
def tWhileM (ws : List Nat) (c : TB3) (tb : TS3) : TS3 := fun E D δ => Ask <| ∃ I : Nat → List (Option W) → Prop, (∃ m, I m (getS δ ws)) ∧
  ∀ m vs, I m vs → c E (putS δ ws vs) fun b δ3 => br b (tb E { nx := fun δ' => δ' = putS δ ws (getS δ' ws) ∧ ∃ m', m' < m ∧ I m' (getS δ' ws), ct := fun δ' => δ' = putS δ ws (getS δ' ws) ∧ ∃ m', m' < m ∧ I m' (getS δ' ws), bk := D.nx, rt := D.rt } δ3) (D.nx δ3)
theorem whileM (ws : List Nat) {body : List Stmt} {tc : TB3} {tb : TS3} (hp : PassesOwn (model X.prog X.w) X.A X.env X.xe) (hc : PT3 X E c tc) (hb : PSs3 X E body tb) : PS3 X E (.While c body [] pos) (tWhileM ws tc tb) := by
  refine (while3 hp hc hb).weak (fun E1 E2 D1 D2 δ hx hd ⟨⟨I, h0, h1⟩⟩ => ⟨⟨I, h0, fun m vs p => hc.mono _ _ _ _ _ hx (fun b δ3 z => z.imp (hb.mono E1 E2 { nx := fun δ' => δ' = putS δ ws (getS δ' ws) ∧ ∃ m', m' < m ∧ I m' (getS δ' ws), ct := fun δ' => δ' = putS δ ws (getS δ' ws) ∧ ∃ m', m' < m ∧ I m' (getS δ' ws), bk := D1.nx, rt := D1.rt } _ _ hx ⟨fun _ z => z, hd.rt, hd.nx, fun _ z => z⟩) (hd.nx _)) (h1 m vs p)⟩⟩) fun E1 D1 δ ⟨⟨I, ⟨m0, h0⟩, h1⟩⟩ => ?_
  refine ⟨fun m δ' => δ' = putS δ ws (getS δ' ws) ∧ I m (getS δ' ws), ⟨m0, (putS_getS ws δ).symm, h0⟩, fun m δ2 ⟨p1, p2⟩ => ?_⟩
  rw [p1]
  exact hc.mono _ _ _ _ _ (fun _ z => z) (fun b δ3 z => z.imp (hb.mono E1 E1 { nx := fun δ' => δ' = putS δ ws (getS δ' ws) ∧ ∃ m', m' < m ∧ I m' (getS δ' ws), ct := fun δ' => δ' = putS δ ws (getS δ' ws) ∧ ∃ m', m' < m ∧ I m' (getS δ' ws), bk := D1.nx, rt := D1.rt } _ _ (fun _ z => z) ⟨fun δ' ⟨e, m', h, i⟩ => ⟨m', h, e, i⟩, fun _ _ z => z, fun _ z => z, fun δ' ⟨e, m', h, i⟩ => ⟨m', h, e, i⟩⟩) fun z => z) (h1 m _ p2)
variable {elt : Expr} {ifs : List Expr} {tt : TB3} {g : TG3} {vs : List Nat}
def tLcP (ti : TA3) (g : TG3) (te : T3) (vs : List Nat) : T3 := fun E δ Q => ti E δ fun ds δ1 => ds.length ≤ sizeLine ∧ Ask (∃ ys : List D, ys.length = ds.length ∧
  (∀ (i : Nat) (x : D), ds[i]? = some x → g x (wipeS δ1 vs) fun δ3 => te (fun _ => False) δ3 fun y δ5 => backS δ1 δ5 vs = δ1 ∧ ys[i]? = some y) ∧ Q (.list ys) δ1)
def tLcF (ti : TA3) (g : TG3) (tt : TB3) (te : T3) (vs : List Nat) : T3 := fun E δ Q => ti E δ fun ds δ1 => ds.length ≤ sizeLine ∧ Ask (∃ ys : List (Option D), ys.length = ds.length ∧
  (∀ (i : Nat) (x : D), ds[i]? = some x → g x (wipeS δ1 vs) fun δ3 => tt (fun _ => False) δ3 fun b δ4 => br b (te (fun _ => False) δ4 fun y δ5 => backS δ1 δ5 vs = δ1 ∧ ys[i]? = some (some y)) (backS δ1 δ4 vs = δ1 ∧ ys[i]? = some none)) ∧ Q (.list (ys.filterMap id)) δ1)
def tLcM (ws : List Nat) (ti : TA3) (g : TG3) (te : T3) (vs : List Nat) : T3 := fun E δ Q => ti E δ fun ds δ1 => ds.length ≤ sizeLine ∧ Ask (∃ I : Nat → List D → List (Option W) → Prop, I 0 [] (getS δ1 ws) ∧
  (∀ i x acc us, ds[i]? = some x → I i acc us → g x (wipeS (putS δ1 ws us) vs) fun δ3 => te (fun _ => False) δ3 fun y δ5 => backS (putS δ1 ws us) δ5 vs = putS δ1 ws (getS δ5 ws) ∧ I (i + 1) (acc ++ [y]) (getS δ5 ws)) ∧ ∀ acc us, I ds.length acc us → Q (.list acc) (putS δ1 ws us))
theorem mono_tLcP (hi : Mono3 ti) : Mono3 (tLcP ti g te vs) := fun _ _ _ _ _ hx hq q => hi _ _ _ _ _ hx (fun ds δ1 ⟨h1, ⟨⟨ys, h2, h3, h4⟩⟩⟩ => ⟨h1, ⟨⟨ys, h2, h3, hq _ _ h4⟩⟩⟩) q
theorem mono_tLcF (hi : Mono3 ti) : Mono3 (tLcF ti g tt te vs) := fun _ _ _ _ _ hx hq q => hi _ _ _ _ _ hx (fun ds δ1 ⟨h1, ⟨⟨ys, h2, h3, h4⟩⟩⟩ => ⟨h1, ⟨⟨ys, h2, h3, hq _ _ h4⟩⟩⟩) q
theorem mono_tLcM {ws : List Nat} (hi : Mono3 ti) : Mono3 (tLcM ws ti g te vs) := fun _ _ _ _ _ hx hq q => hi _ _ _ _ _ hx (fun ds δ1 ⟨h1, ⟨⟨ys, h2, h3, h4⟩⟩⟩ => ⟨h1, ⟨⟨ys, h2, h3, fun _ _ p => hq _ _ (h4 _ _ p)⟩⟩⟩) q
theorem lcP_le (hi : Mono3 ti) (hg : MonoG g) (he : Mono3 te) {E : Ex3 → Prop} {δ : Sl} {Q : D → Sl → Prop} (h : tLcP ti g te vs E δ Q) : tLc3 ti g tYes3 te vs E δ Q := by
  refine hi _ _ _ _ _ (fun _ z => z) (fun ds δ1 ⟨h1, ⟨⟨ys, h2, h3, h4⟩⟩⟩ => ⟨h1, fun i acc δ2 => δ2 = δ1 ∧ acc = ys.take i, ⟨rfl, by simp⟩, ?_, ?_⟩) h
  · rintro i x acc δ2 hx ⟨rfl, rfl⟩
    refine hg _ _ _ _ (fun δ3 q => ?_) (h3 i x hx)
    refine br_t rfl (he _ _ _ _ _ (fun _ z => z) (fun y δ5 ⟨q1, q2⟩ => ⟨q1, ?_⟩) q)
    rw [List.take_add_one, q2]; rfl
  · rintro acc δ2 ⟨rfl, rfl⟩
    rw [← h2, List.take_length]; exact h4
theorem lcF_le (hi : Mono3 ti) (hg : MonoG g) (ht : Mono3 tt) (he : Mono3 te) {E : Ex3 → Prop} {δ : Sl} {Q : D → Sl → Prop} (h : tLcF ti g tt te vs E δ Q) : tLc3 ti g tt te vs E δ Q := by
  refine hi _ _ _ _ _ (fun _ z => z) (fun ds δ1 ⟨h1, ⟨⟨ys, h2, h3, h4⟩⟩⟩ => ⟨h1, fun i acc δ2 => δ2 = δ1 ∧ acc = (ys.take i).filterMap id, ⟨rfl, by simp⟩, ?_, ?_⟩) h
  · rintro i x acc δ2 hx ⟨rfl, rfl⟩
    refine hg _ _ _ _ (fun δ3 q => ?_) (h3 i x hx)
    refine ht _ _ _ _ _ (fun _ z => z) (fun b δ4 z => z.imp (fun q => he _ _ _ _ _ (fun _ z => z) (fun y δ5 ⟨q1, q2⟩ => ⟨q1, ?_⟩) q) (fun ⟨q1, q2⟩ => ⟨q1, ?_⟩)) q
    · rw [List.take_add_one, q2, List.filterMap_append]; simp
    · rw [List.take_add_one, q2, List.filterMap_append]; simp
  · rintro acc δ2 ⟨rfl, rfl⟩
    rw [← h2, List.take_length]; exact h4
theorem lcM_le {ws : List Nat} (hi : Mono3 ti) (hg : MonoG g) (he : Mono3 te) (hw : ∀ i, i ∈ ws → i ∉ vs) {E : Ex3 → Prop} {δ : Sl} {Q : D → Sl → Prop} (h : tLcM ws ti g te vs E δ Q) : tLc3 ti g tYes3 te vs E δ Q := by
  have hget : ∀ (δ δ' : Sl) (ws : List Nat), (∀ i, i ∈ ws → i ∉ vs) → getS (backS δ δ' vs) ws = getS δ' ws := fun δ δ' ws => by
    induction ws with
    | nil => intro _; rfl
    | cons i is ih =>
      intro hn
      simp only [getS]
      rw [backS_out (hn i List.mem_cons_self), ih fun j hj => hn j (List.mem_cons_of_mem _ hj)]
  refine hi _ _ _ _ _ (fun _ z => z) (fun ds δ1 ⟨h1, ⟨⟨I, h2, h3, h4⟩⟩⟩ => ⟨h1, fun i acc δ2 => δ2 = putS δ1 ws (getS δ2 ws) ∧ I i acc (getS δ2 ws), ⟨(putS_getS ws δ1).symm, h2⟩, ?_, ?_⟩) h
  · rintro i x acc δ2 hx ⟨p1, p2⟩
    generalize hu : getS δ2 ws = us at p1 p2
    subst p1
    refine hg _ _ _ _ (fun δ3 q => ?_) (h3 i x acc _ hx p2)
    refine br_t rfl (he _ _ _ _ _ (fun _ z => z) (fun y δ5 ⟨q1, q2⟩ => ?_) q)
    have e : getS (backS (putS δ1 ws us) δ5 vs) ws = getS δ5 ws := hget _ _ ws hw
    show _ = putS δ1 ws (getS (backS (putS δ1 ws us) δ5 vs) ws) ∧ I _ _ (getS (backS (putS δ1 ws us) δ5 vs) ws)
    rw [e]
    exact ⟨q1, q2⟩
  · rintro acc δ2 ⟨p1, p2⟩
    rw [p1]; exact h4 _ _ p2
variable {scope : Scope} {own : List (Str × Nat)}
theorem lcP (hc : X.calm = true) (hN : X.N.Nodup) (hi : PI3 X E tg iter ti) (ok : BlkOk X.N X.env.scope scope own)
    (hg : ∀ (s : Shared) (H : Hp) (C : Addr) (cl : List (Str × Addr)) (fp : List Addr), PG3 (X.blk s H scope (compEnvC scope cl C X.env) fp) (own.map (·.2)) tg g)
    (he : ∀ (s : Shared) (H : Hp) (C : Addr) (cl : List (Str × Addr)) (fp : List Addr), PE3 (X.blk s H scope (compEnvC scope cl C X.env) fp) XF elt te) (s0 : Shared) (hs : ∀ x, foldedSetIterable iter X.env x = pure x := by intro _; rfl) :
    PE3 X E (.ListComp elt [⟨tg, iter, [], 0⟩] scope pos) (tLcP ti g te (own.map (·.2))) :=
  (lc3 hc hN hi ok hg (fun _ _ _ _ _ => yes3) he hs s0).weak (mono_tLcP hi.mono) fun _ _ _ h => lcP_le hi.mono (hg s0 (fun _ => none) 0 [] []).mono (he s0 (fun _ => none) 0 [] []).mono h
theorem lcF (hc : X.calm = true) (hN : X.N.Nodup) (hi : PI3 X E tg iter ti) (ok : BlkOk X.N X.env.scope scope own)
    (hg : ∀ (s : Shared) (H : Hp) (C : Addr) (cl : List (Str × Addr)) (fp : List Addr), PG3 (X.blk s H scope (compEnvC scope cl C X.env) fp) (own.map (·.2)) tg g)
    (ht : ∀ (s : Shared) (H : Hp) (C : Addr) (cl : List (Str × Addr)) (fp : List Addr), PTs3 (X.blk s H scope (compEnvC scope cl C X.env) fp) XF ifs tt)
    (he : ∀ (s : Shared) (H : Hp) (C : Addr) (cl : List (Str × Addr)) (fp : List Addr), PE3 (X.blk s H scope (compEnvC scope cl C X.env) fp) XF elt te) (s0 : Shared) (hs : ∀ x, foldedSetIterable iter X.env x = pure x := by intro _; rfl) :
    PE3 X E (.ListComp elt [⟨tg, iter, ifs, 0⟩] scope pos) (tLcF ti g tt te (own.map (·.2))) :=
  (lc3 hc hN hi ok hg ht he hs s0).weak (mono_tLcF hi.mono) fun _ _ _ h => lcF_le hi.mono (hg s0 (fun _ => none) 0 [] []).mono (ht s0 (fun _ => none) 0 [] []).mono (he s0 (fun _ => none) 0 [] []).mono h
theorem lcM (ws : List Nat) (hc : X.calm = true) (hN : X.N.Nodup) (hi : PI3 X E tg iter ti) (ok : BlkOk X.N X.env.scope scope own)
    (hg : ∀ (s : Shared) (H : Hp) (C : Addr) (cl : List (Str × Addr)) (fp : List Addr), PG3 (X.blk s H scope (compEnvC scope cl C X.env) fp) (own.map (·.2)) tg g)
    (he : ∀ (s : Shared) (H : Hp) (C : Addr) (cl : List (Str × Addr)) (fp : List Addr), PE3 (X.blk s H scope (compEnvC scope cl C X.env) fp) XF elt te) (s0 : Shared) (hw : ∀ i, i ∈ ws → i ∉ own.map (·.2) := by decide) (hs : ∀ x, foldedSetIterable iter X.env x = pure x := by intro _; rfl) :
    PE3 X E (.ListComp elt [⟨tg, iter, [], 0⟩] scope pos) (tLcM ws ti g te (own.map (·.2))) :=
  (lc3 hc hN hi ok hg (fun _ _ _ _ _ => yes3) he hs s0).weak (mono_tLcM hi.mono) fun _ _ _ h => lcM_le hi.mono (hg s0 (fun _ => none) 0 [] []).mono (he s0 (fun _ => none) 0 [] []).mono hw h
end
end M3
set_option Elab.async false
set_option linter.all false
set_option maxRecDepth 100000
set_option maxHeartbeats 4000000
namespace M3
open PySem L2
variable [TabsC]
section
open PySem PySem.Spec PyProof.Rows
variable {prog : Program} {w : World} {A : Around} {E : Value → Shared → Prop} {s : Shared}
end
def IteT (K : PySem.W.Frag) (a : Addr) : It :=
  ⟨fun i H => ∃ (xs : List V) (x : V), SqT K H a xs ∧ xs[i]? = some x, fun i H v H' => ∃ T x, v = .ref T ∧ H T = none ∧ H' = upd H T (.tup [.int (i : Nat), x]) ∧ ∀ xs, SqT K H a xs → xs[i]? = some x, fun i H => ∃ xs : List V, SqT K H a xs ∧ xs.length ≤ i⟩
def iEnumA (K : PySem.W.Frag) (ta : TA) : TI := fun σ H R => ta σ H fun vs H1 => ∃ a xs, vs = [.ref a] ∧ ((SqL K H1 a xs ∧ R (Ite K a) H1) ∨ (SqT K H1 a xs ∧ R (IteT K a) H1))
end M3
set_option Elab.async false
set_option linter.all false
set_option maxRecDepth 100000
set_option maxHeartbeats 4000000
namespace M3
open PySem L2
variable [TabsC]
section
open PySem.Spec PyProof.Rows
variable {X : Cx}
def rRepS (K : PySem.W.Frag) : R2 := fun x y H Q => ∃ l k xs, x = .ref l ∧ y = .int k ∧ SqT K H l xs ∧ -(2 ^ 63) ≤ k ∧ (xs = [] ∨ k = 1) ∧ k < 2 ^ 63 ∧ Q (.ref l) H
def rRepZ (K : PySem.W.Frag) : R2 := fun x y H Q => ∃ l k xs, x = .ref l ∧ y = .int k ∧ SqT K H l xs ∧ -(2 ^ 63) ≤ k ∧ xs ≠ [] ∧ k ≤ 0 ∧ ∀ p, H p = none → Q (.ref p) (upd H p (.tup []))
end
section
variable {X : Cx} {E : XK} {a b c e tg : Expr} {ta tb tc te : T3} {pos : Pos}
def rMulT3 (x y : D) (k : D → Prop) : Prop := match x, y with
  | .tuple xs, .int j => (-(2 ^ 63) ≤ j ∧ j ≤ 1000 ∧ xs.length ≤ 1000) ∧ k (.tuple (List.replicate j.toNat xs).flatten)
  | _, _ => False
def rIsB3 (f : Bool → Bool) (x y : D) (k : D → Prop) : Prop := asB x fun i => asB y fun j => k (.bool (f (decide (i = j))))
theorem isi3_2 {T1 T2 : String} {f1 f2 : D → Bool} {x1 x2 : Str} {p p1 p2 p3 : Pos} {j : Nat} (k1 : ∀ x, kitB (tyN x) T1 = some (f1 x)) (k2 : ∀ x, kitB (tyN x) T2 = some (f2 x)) (v1 : bootBuiltins x1 = some (.type T1)) (v2 : bootBuiltins x2 = some (.type T2)) (hg : Gl X "isinstance") (hm : X.mg "isinstance" = none) (g1 : Gl X x1) (m1 : X.mg x1 = none) (g2 : Gl X x2) (m2 : X.mg x2 = none)
    (ha : PE3 X E a ta) (n1 : x1 ≠ "__name__" := by decide) (n2 : x2 ≠ "__name__" := by decide) (d1 : (x1 == ("__debug__" : Str)) = false := by decide) (d2 : (x2 == ("__debug__" : Str)) = false := by decide)
    (he : starEach [a, .Tuple [.Name x1 p1, .Name x2 p2] j p3] X.env = (false, eval a X.env) :: starEach [.Tuple [.Name x1 p1, .Name x2 p2] j p3] X.env := by rfl)
    (he2 : starEach [.Tuple [.Name x1 p1, .Name x2 p2] j p3] X.env = (false, eval (.Tuple [.Name x1 p1, .Name x2 p2] j p3) X.env) :: starEach [] X.env := by rfl)
    (he3 : starEach [.Name x1 p1, .Name x2 p2] X.env = (false, eval (.Name x1 p1) X.env) :: starEach [.Name x2 p2] X.env := by rfl) (he4 : starEach [.Name x2 p2] X.env = (false, eval (.Name x2 p2) X.env) :: starEach [] X.env := by rfl)
    (hpl : (backTo pos (starEach [.Tuple [.Name x1 p1, .Name x2 p2] j p3] X.env)).any (·.1) = false := by rfl) : PE3 X E (.Call (.Name "isinstance" p) [a, .Tuple [.Name x1 p1, .Name x2 p2] j p3] [] pos) (tU3 (rIsA fun x => f1 x || f2 x) ta) :=
  un3 (r := fun v H Q => 2 ≤ sizeLine ∧ ∀ tp, H tp = none → rIsiT X.K [v, .ref tp] (upd H tp (.tup [.ty T1, .ty T2])) Q) (fun ta' h => pe_callB call_isiT hg hm (by decide +kernel) (pa_cons h (pa_cons (pe_tup (pa_cons (pe_bltn (v := .ty T1) g1 m1 v1 rfl n1 d1) (pa_cons (pe_bltn (v := .ty T2) g2 m2 v2 rfl n2 d2) pa_nil he4) he3)) pa_nil he2) he) (by decide) (by decide) he hpl) (fun O H v x k Q tr rx h hq => ⟨by decide, fun tp hp =>
    ⟨v, tp, _, _, _, _, rfl, upd_same, .cons (.ty T1) (.cons (.ty T2) .nil), (rx.same (same_upd hp)).ty, kitAny_cons (r := f1 x || f2 x) (kit_ty (k1 x)) (fun z => kitAny_cons (kit_ty (k2 x)) (fun z2 => by rw [z, z2]; exact kitAny_nil) (fun z2 => by rw [z2, Bool.or_true])) (fun z => by rw [z, Bool.true_or]), hq _ _ _ (same_upd hp) (.bl _) h⟩⟩) (fun x k k' hk h => hk _ h) ha
end
end M3
set_option Elab.async false
set_option linter.all false
set_option maxRecDepth 100000
set_option maxHeartbeats 4000000
namespace M3
open PySem L2
variable [TabsC]
section
variable {X : Cx} {E : XK} {a b c e tg : Expr} {ta tb tc te : T3} {pos : Pos}
def enumD (xs : List D) : List D := (List.range xs.length).zipWith (fun i x => .tuple [.int (i : Nat), x]) xs
theorem enumD_length {xs : List D} : (enumD xs).length = xs.length := by unfold enumD; simp
def tEnum (ta : T3) : TA3 := fun E δ Q => ta E δ fun x δ1 => asSeq x fun xs => Q (enumD xs) δ1
mutual
theorem plain_of_lay : ∀ d : D, d.canLay0 = true → d.plain = true
  | .none, _ => rfl
  | .bool _, _ => rfl
  | .int _, _ => rfl
  | .str _, _ => rfl
  | .list xs, h => plainAll_of_lay xs (by simpa [PyData.canLay0] using h)
  | .tuple xs, h => plainAll_of_lay xs (by simpa [PyData.canLay0] using h)
  | .dict _, h => by simp [PyData.canLay0] at h
theorem plainAll_of_lay : ∀ ds : List D, PyData.canLayAll0 ds = true → PyData.plainAll ds = true
  | [], _ => rfl
  | d :: r, h => by
    have h' : d.canLay0 = true ∧ PyData.canLayAll0 r = true := by simpa [PyData.canLayAll0] using h
    exact Bool.and_eq_true_iff.mpr ⟨plain_of_lay d h'.1, plainAll_of_lay r h'.2⟩
end
def rInR (K : PySem.W.Frag) (f : Bool → Bool) : R2 := fun x y H Q => ∃ d ds, Dp K H x d ∧ (Dp K H y (.list ds) ∨ Dp K H y (.tuple ds)) ∧ d.canLay0 = true ∧ PyData.canLayAll0 ds = true ∧ d.depth ≤ 60 ∧ Q (.bl (f (ds.any fun z => PyData.eqv z d))) H
theorem op_inR (hu : X.A.units + 64 < cLine) : OpR X (compareOp .In) (rInR X.K id) := by
  intro pins s σ H x y v u Q I rx ry h
  obtain ⟨d, ds, hd, he, sd, se, hz, q⟩ := h
  obtain ⟨as, r1⟩ := Dp.reads I d x v hd rx
  have hm : min (PyData.depthAll ds) d.depth ≤ 60 := Nat.le_trans (Nat.min_le_right _ _) hz
  rcases he with he | he
  · obtain ⟨bs, r2⟩ := Dp.reads I (.list ds) y u he ry
    exact SeqAt.in_list_reads r2 r1 se sd (by omega) ⟨.bl _, H, I, rfl, q⟩
  · obtain ⟨bs, r2⟩ := Dp.reads I (.tuple ds) y u he ry
    exact SeqAt.in_tuple_reads r2 r1 se sd (by omega) ⟨.bl _, H, I, rfl, q⟩
theorem op_notInR (hu : X.A.units + 64 < cLine) : OpR X (compareOp .NotIn) (rInR X.K not) := by
  intro pins s σ H x y v u Q I rx ry h
  obtain ⟨d, ds, hd, he, sd, se, hz, q⟩ := h
  obtain ⟨as, r1⟩ := Dp.reads I d x v hd rx
  have hm : min (PyData.depthAll ds) d.depth ≤ 60 := Nat.le_trans (Nat.min_le_right _ _) hz
  rcases he with he | he
  · obtain ⟨bs, r2⟩ := Dp.reads I (.list ds) y u he ry
    exact SeqAt.notIn_list_reads r2 r1 se sd (by omega) ⟨.bl _, H, I, rfl, q⟩
  · obtain ⟨bs, r2⟩ := Dp.reads I (.tuple ds) y u he ry
    exact SeqAt.notIn_tuple_reads r2 r1 se sd (by omega) ⟨.bl _, H, I, rfl, q⟩
def rIn3 (f : Bool → Bool) (x y : D) (k : D → Prop) : Prop := asSeq y fun ys => (x.canLay0 = true ∧ PyData.canLayAll0 ys = true ∧ x.depth ≤ 60) ∧ k (.bool (f (ys.any fun z => PyData.eqv z x)))
theorem m_rIn3 {f} : M2 (rIn3 f) := fun x y k k' hk h => h.imp fun _ z => ⟨z.1, hk _ z.2⟩
theorem ok_rIn3 {K : PySem.W.Frag} {f : Bool → Bool} : OpOk2 K (rInR K f) (rIn3 f) := fun O H v u x y k Q _ rx ry h hq => by
  unfold rIn3 asSeq at h
  split at h
  · exact ⟨x, _, rx.dp (plain_of_lay _ h.1.1), .inr (ry.dp (plainAll_of_lay _ h.1.2.1)), h.1.1, h.1.2.1, h.1.2.2, hq _ _ H (Same.refl H) (.bl _) h.2⟩
  · exact ⟨x, _, rx.dp (plain_of_lay _ h.1.1), .inl (ry.dp (plainAll_of_lay _ h.1.2.1)), h.1.1, h.1.2.1, h.1.2.2, hq _ _ H (Same.refl H) (.bl _) h.2⟩
  · exact h.elim
theorem in3T (hu : X.A.units + 64 < cLine) (ha : PE3 X E a ta) (hb : PE3 X E b tb) (hl : behindInMarks .In b = false := by rfl) : PT3 X E (.Compare a [.In] [b] pos) (tBool (tB2 (rIn3 id) ta tb)) := bin3T (fun _ _ h h' => pt_cmpR (op_inR hu) h h' hl) ok_rIn3 m_rIn3 ha hb
theorem notIn3T (hu : X.A.units + 64 < cLine) (ha : PE3 X E a ta) (hb : PE3 X E b tb) (hl : behindInMarks .NotIn b = false := by rfl) : PT3 X E (.Compare a [.NotIn] [b] pos) (tBool (tB2 (rIn3 not) ta tb)) := bin3T (fun _ _ h h' => pt_cmpR (op_notInR hu) h h' hl) ok_rIn3 m_rIn3 ha hb
end
end M3
set_option Elab.async false
set_option linter.all false
set_option maxRecDepth 100000
set_option maxHeartbeats 4000000
namespace M3
open PySem L2
variable [TabsC]
section
variable {K : PySem.W.Frag} {π : Rho} {F : Addr → Prop} {ρ : Rho} {H : Hp} {σ : St} {δ : Sl}
theorem Rel.adopt (r : Rel K π (FD F a) ρ H σ δ) {k : Nat} (hk : δ.length ≤ k) (na : ¬ F a) (np : ∀ p, π p ≠ some a) : Rel K π F (own1 ρ k a) H σ δ := by
  have na1 : ¬ Ow ρ a := r.dis a (.inr rfl)
  have lex : ∀ b, Ox F (own1 ρ k a) b → Ox (FD F a) ρ b := fun b z => by
    rcases z with z | z
    · rcases own1_le b z with z | z
      · exact .inl z
      · exact .inr (.inr z)
    · exact .inr (.inl z)
  have nr : ∀ j, ρ j ≠ some a := fun j h => na1 ⟨j, h⟩
  refine ⟨r.len, fun j y q => ?_, fun j t' o2 q => ?_, fun j l b h1 h2 => ?_, fun b z => r.trk b (lex b z), fun b z q => ?_, r.pit, r.ln, r.tab⟩
  · obtain ⟨w, h1, h2⟩ := r.dat j y q
    exact ⟨w, h1, h2.mono lex⟩
  · obtain ⟨b, h1, h2, h3, h4⟩ := r.own j t' o2 q
    have hj : j < δ.length := (List.getElem?_eq_some_iff.mp q).1
    exact ⟨b, by unfold own1; rw [if_neg (by omega)]; exact h1, h2, h3.mono lex, h4⟩
  · unfold own1 at h1 h2
    split at h1
    · cases h1
      split at h2
      · rename_i z1 z2; rw [z1, z2]
      · exact absurd h2 (nr l)
    · split at h2
      · cases h2; exact absurd h1 (nr j)
      · exact r.inj j l b h1 h2
  · rcases own1_le b q with q | q
    · exact r.dis b (.inl z) q
    · rw [q] at z; exact na z
end
section
variable {X : Cx} {E : XK} {tg a b c e iter elt : Expr} {ifs : List Expr} {ta tb tc te : T3} {ti : TA3} {tt : TB3} {g : TG3} {vs : List Nat} {pos : Pos} {scope : Scope} {own : List (Str × Nat)}
def tOf (t : T3) : TW3 := fun E δ Q => t E δ fun y δ1 => match y with | .list xs => Q (.lst xs) δ1 | _ => False
def asO (y : D) (k : Ob → Prop) : Prop := match y with | .list xs => k (.lst xs) | _ => False
theorem POw.weak {t t' : TW3} (h : POw X E e t) (m : Mono3 t') (k : ∀ E δ Q, t' E δ Q → t E δ Q) : POw X E e t' :=
  ⟨m, h.pe.imp fun σ H Q ⟨π, F, ρ, δ, rel, q⟩ => ⟨π, F, ρ, δ, rel, k _ _ _ q⟩⟩
end
end M3
set_option Elab.async false
set_option linter.all false
set_option maxRecDepth 100000
set_option maxHeartbeats 4000000
namespace M3
open PySem L2
variable [TabsC]
section
variable {X : Cx} {E : XK} {tg a b c e iter elt : Expr} {ifs : List Expr} {ta tb tc te : T3} {ti : TA3} {tt : TB3} {g : TG3} {vs : List Nat} {pos : Pos} {scope : Scope} {own : List (Str × Nat)}
theorem setLcP (i : Nat) {y : Str} {py spos : Pos} (hc : X.calm = true) (hN : X.N.Nodup) (hi : PI3 X E tg iter ti) (ok : BlkOk X.N X.env.scope scope own)
    (hg : ∀ (s : Shared) (H : Hp) (C : Addr) (cl : List (Str × Addr)) (fp : List Addr), PG3 (X.blk s H scope (compEnvC scope cl C X.env) fp) (own.map (·.2)) tg g)
    (he : ∀ (s : Shared) (H : Hp) (C : Addr) (cl : List (Str × Addr)) (fp : List Addr), PE3 (X.blk s H scope (compEnvC scope cl C X.env) fp) XF elt te) (s0 : Shared)
    (hsw : swapsWith (.ListComp elt [⟨tg, iter, [], 0⟩] scope pos) (some (.Name y py)) spos.line X.env = pure true) (hy : X.N[i]? = some y := by rfl) (hyl : X.env.scope.names.lookup y = some .local := by rfl) (hs : ∀ x, foldedSetIterable iter X.env x = pure x := by intro _; rfl) :
    PS3 X E (.Assign [.Name y py] (.ListComp elt [⟨tg, iter, [], 0⟩] scope pos) spos) (tAsg3 (tLcP ti g te (own.map (·.2))) (gName3 i)) :=
  (setLc3 i hc hN hi ok hg (fun _ _ _ _ _ => yes3) he s0 hsw hy hyl hs).weak (fun _ _ _ _ _ hx hd q => mono_tLcP hi.mono _ _ _ _ _ hx (fun x δ1 => hd.nx _) q) fun _ _ _ h => lcP_le hi.mono (hg s0 (fun _ => none) 0 [] []).mono (he s0 (fun _ => none) 0 [] []).mono h
def tAsgO (i : Nat) (t : TW3) : TS3 := fun E D δ => t E δ fun o δ1 => D.nx (δ1.set i (some (.own 0 o)))
end
end M3
set_option Elab.async false
set_option linter.all false
set_option maxRecDepth 100000
set_option maxHeartbeats 4000000
namespace M3
open PySem L2
variable [TabsC]
theorem Ask_eq (p : Prop) : Ask p = p := propext ⟨fun h => h.h, fun h => ⟨h⟩⟩
def normK : Sl → (Sl → Prop) → Prop
  | [], k => k []
  | x :: r, k => normK r fun r' => k (x :: r')
theorem normK_eq : ∀ (δ : Sl) (k : Sl → Prop), normK δ k = k δ
  | [], k => rfl
  | x :: r, k => by unfold normK; rw [normK_eq r]
def nthK : Sl → Nat → (Option W → Prop) → Prop
  | [], _, k => k none
  | x :: _, 0, k => k x
  | _ :: r, n + 1, k => nthK r n k
theorem nthK_eq : ∀ (δ : Sl) (i : Nat) (k : Option W → Prop), nthK δ i k = k (match δ[i]? with | some v => v | none => none)
  | [], i, k => by simp [nthK]
  | x :: r, 0, k => by simp [nthK]
  | x :: r, n + 1, k => by simp only [nthK, List.getElem?_cons_succ]; rw [nthK_eq r n]
def getK (δ : Sl) : List Nat → (List (Option W) → Prop) → Prop
  | [], k => k []
  | i :: is, k => nthK δ i fun v => getK δ is fun vs => k (v :: vs)
theorem getK_eq (δ : Sl) : ∀ (ws : List Nat) (k : List (Option W) → Prop), getK δ ws k = k (getS δ ws)
  | [], k => rfl
  | i :: is, k => by
    unfold getK getS
    rw [nthK_eq, getK_eq δ is]
    all_goals (cases δ[i]? <;> rfl)
theorem PSs3.weak {X : Cx} {E : XK} {st : List Stmt} {t t' : TS3} (h : PSs3 X E st t) (m : MonoS t') (k : ∀ E D δ, t' E D δ → t E D δ) : PSs3 X E st t' :=
  ⟨m, h.ps.imp fun D σ H ⟨π, F, ρ, δ, rel, q⟩ => ⟨π, F, ρ, δ, rel, k _ _ _ q⟩⟩
def atN : List D → Nat → (D → Prop) → Prop
  | [], _, _ => False
  | x :: _, 0, k => k x
  | _ :: r, n + 1, k => atN r n k
def atK (xs : List D) (i : Int) (k : D → Prop) : Prop := match i with
  | .ofNat n => atN xs n k
  | .negSucc n => Ask (∃ d, atI xs (.negSucc n) = some d ∧ k d)
theorem atN_iff : ∀ (xs : List D) (n : Nat) (k : D → Prop), atN xs n k ↔ ∃ d, xs[n]? = some d ∧ k d
  | [], n, k => by simp [atN]
  | x :: r, 0, k => by simp [atN]
  | x :: r, n + 1, k => by simp only [atN, List.getElem?_cons_succ]; exact atN_iff r n k
theorem atI_ofNat {xs : List D} {n : Nat} {d : D} : atI xs (.ofNat n) = some d ↔ xs[n]? = some d := by
  unfold atI ixN
  rw [if_pos (by exact Int.natCast_nonneg n)]
  by_cases h : n < xs.length
  · rw [if_pos (show (Int.ofNat n) < (xs.length : Int) from Int.ofNat_lt.mpr h)]
    exact Iff.rfl
  · rw [if_neg (show ¬ (Int.ofNat n) < (xs.length : Int) from fun z => h (Int.ofNat_lt.mp z)), List.getElem?_eq_none (by omega)]
    exact Iff.rfl
theorem atK_iff {xs : List D} {i : Int} {k : D → Prop} : atK xs i k ↔ ∃ d, atI xs i = some d ∧ k d := by
  unfold atK
  split
  · rw [atN_iff]
    exact exists_congr fun d => and_congr atI_ofNat.symm Iff.rfl
  · exact ⟨fun h => h.h, fun h => ⟨h⟩⟩
theorem atK_of {xs : List D} {i : Int} {d : D} {k : D → Prop} (h : atI xs i = some d) (q : k d) : atK xs i k := atK_iff.mpr ⟨d, h, q⟩
section
variable {X : Cx} {E : XK} {tg a b c e iter elt : Expr} {ifs : List Expr} {ta tb tc te : T3} {ti : TA3} {tt : TB3} {g : TG3} {vs : List Nat} {pos : Pos} {scope : Scope} {own : List (Str × Nat)} {st : Stmt} {rest : List Stmt} {t u : TS3}
def rIxK (x y : D) (k : D → Prop) : Prop := match x with
  | .tuple xs => asI y fun i => atK xs i k
  | .list xs => asI y fun i => atK xs i k
  | _ => False
theorem rIxK_le {x y : D} {k : D → Prop} (h : rIxK x y k) : rIx3 x y k := by
  unfold rIxK at h; unfold rIx3
  split at h
  · obtain ⟨i, rfl, h1⟩ := asI.to h; exact asI.of (atK_iff.mp h1)
  · obtain ⟨i, rfl, h1⟩ := asI.to h; exact asI.of (atK_iff.mp h1)
  · exact h.elim
theorem m_rIxK : M2 rIxK := fun x y k k' hk h => by
  unfold rIxK at h ⊢
  split at h
  · obtain ⟨i, rfl, h1⟩ := asI.to h; obtain ⟨d, e, z⟩ := atK_iff.mp h1; exact asI.of (atK_of e (hk _ z))
  · obtain ⟨i, rfl, h1⟩ := asI.to h; obtain ⟨d, e, z⟩ := atK_iff.mp h1; exact asI.of (atK_of e (hk _ z))
  · exact h.elim
theorem ixK (ha : PE3 X E a ta) (hb : PE3 X E b tb) (hs : PlainIx b := by exact fun _ _ => rfl) : PE3 X E (.Subscript a b pos) (tB2 rIxK ta tb) :=
  (ix3 ha hb hs).weak (mono_tB2 ha.mono hb.mono m_rIxK) fun E δ Q h => ha.mono _ _ _ _ _ (fun _ z => z) (fun x δ1 => hb.mono _ _ _ _ _ (fun _ z => z) fun y δ2 => rIxK_le) h
def tIxOK (i : Nat) (tb : T3) : T3 := fun E δ Q => onLst δ i fun _ => tb E δ fun y δ1 => asI y fun j => onLst δ1 i fun xs => atK xs j fun d => Q d δ1
theorem ixOK (i : Nat) {x : Str} {pos' : Pos} (hb : PE3 X E b tb) (hs : PlainIx b := by exact fun _ _ => rfl) (hN : X.N[i]? = some x := by rfl) (hv : Vis X.env.scope x := by first | exact Or.inl rfl | exact Or.inr (Or.inl rfl) | exact Or.inr (Or.inr rfl)) (hd : (x == ("__debug__" : Str)) = false := by decide)
    (hcd : (x == ("__classdict__" : Str)) = false := by decide) : PE3 X E (.Subscript (.Name x pos') b pos) (tIxOK i tb) :=
  (ixO3 i hb hs hN hv hd hcd).weak (fun _ _ _ _ _ hx hq q => q.imp fun _ q => hb.mono _ _ _ _ _ hx (fun y δ1 z => by
    obtain ⟨j, rfl, z1⟩ := asI.to z
    exact asI.of (z1.imp fun xs q => by obtain ⟨d, e, q⟩ := atK_iff.mp q; exact atK_of e (hq _ _ q))) q) fun E δ Q h => h.imp fun _ q => hb.mono _ _ _ _ _ (fun _ z => z) (fun y δ1 z => by
    obtain ⟨j, rfl, z1⟩ := asI.to z
    exact asI.of (z1.imp fun xs q => atK_iff.mp q)) q
def tSeqN (t u : TS3) : TS3 := fun E D δ => t E { nx := fun δ' => normK δ' fun δ'' => u E D δ'', rt := D.rt, bk := D.bk, ct := D.ct } δ
theorem scN (h1 : PS3 X E st t) (h2 : PSs3 X E rest u) : PSs3 X E (st :: rest) (tSeqN t u) := by
  have e : tSeqN t u = tSeq3 t u := by
    funext E D δ
    unfold tSeqN tSeq3
    simp only [normK_eq]
  rw [e]; exact sc3 h1 h2
def setZ : Sl → Nat → Option W → (Sl → Prop) → Prop
  | [], _, _, k => k []
  | _ :: r, 0, v, k => k (v :: r)
  | x :: r, n + 1, v, k => setZ r n v fun r' => k (x :: r')
theorem setZ_eq : ∀ (δ : Sl) (i : Nat) (v : Option W) (k : Sl → Prop), setZ δ i v k = k (δ.set i v)
  | [], i, v, k => rfl
  | x :: r, 0, v, k => rfl
  | x :: r, n + 1, v, k => by unfold setZ; rw [setZ_eq r]; rfl
def putZL : List Nat → List (Option W) → Sl → (Sl → Prop) → Prop
  | i :: is, v :: vs, δ, k => setZ δ i v fun δ' => putZL is vs δ' k
  | [], _, δ, k => k δ
  | _ :: _, [], δ, k => k δ
theorem putZL_eq : ∀ (ws : List Nat) (vs : List (Option W)) (δ : Sl) (k : Sl → Prop), putZL ws vs δ k = k (putS δ ws vs)
  | i :: is, v :: vs, δ, k => by unfold putZL putS; rw [setZ_eq, putZL_eq is vs]
  | [], _, δ, k => by unfold putZL putS; rfl
  | _ :: _, [], δ, k => by unfold putZL putS; rfl
def putZ (δ : Sl) (ws : List Nat) (vs : List (Option W)) (k : Sl → Prop) : Prop := normK δ fun δ' => putZL ws vs δ' k
theorem putZ_eq (δ : Sl) (ws : List Nat) (vs : List (Option W)) (k : Sl → Prop) : putZ δ ws vs k = k (putS δ ws vs) := by unfold putZ; rw [normK_eq, putZL_eq]
def tSeqJ (ws : List Nat) (t u : TS3) : TS3 := fun E D δ => Ask (∃ J : List (Option W) → Prop, t E { nx := fun δ' => normK δ' fun δ' => getK δ' ws fun vs => putZ δ ws vs fun δ2 => δ' = δ2 ∧ Ask (J vs), rt := D.rt, bk := D.bk, ct := D.ct } δ ∧ ∀ vs, J vs → putZ δ ws vs fun δ' => u E D δ')
def tForN (ws : List Nat) (ti : TA3) (g : TG3) (tb : TS3) : TS3 := fun E D δ => ti E δ fun ds δ1 => Ask <| ∃ I : Nat → List (Option W) → Prop, getK δ1 ws (I 0) ∧
  (∀ i x vs, ds[i]? = some x → I i vs → putZ δ1 ws vs fun δ2 => g x δ2 fun δ3 => normK δ3 fun δ3 => tb E { nx := fun δ' => normK δ' fun δ' => getK δ' ws fun vs => putZ δ1 ws vs fun δ2 => δ' = δ2 ∧ Ask (I (i + 1) vs), ct := fun δ' => normK δ' fun δ' => getK δ' ws fun vs => putZ δ1 ws vs fun δ2 => δ' = δ2 ∧ Ask (I (i + 1) vs), bk := D.nx, rt := D.rt } δ3) ∧ ∀ vs, I ds.length vs → putZ δ1 ws vs fun δ2 => D.nx δ2
theorem forN (ws : List Nat) {ws0 : List Nat} {body : List Stmt} {g : TG3} {tb : TS3} (hp : PassesOwn (model X.prog X.w) X.A X.env X.xe) (hc : X.calm = true) (hi : PI3 X E tg iter ti) (hg : PG3 X ws0 tg g) (hb : PSs3 X E body tb)
    (hs : ∀ x, foldedSetIterable iter X.env x = pure x := by intro _; rfl) : PS3 X E (.For tg iter body [] pos) (tForN ws ti g tb) := by
  have e : tForN ws ti g tb = tForM ws ti g tb := by
    funext E D δ
    unfold tForN tForM
    simp only [normK_eq, getK_eq, putZ_eq, Ask_eq]
  rw [e]; exact forM ws hp hc hi hg hb hs
def tWhileN (ws : List Nat) (c : TB3) (tb : TS3) : TS3 := fun E D δ => Ask <| ∃ I : Nat → List (Option W) → Prop, (∃ m, getK δ ws (I m)) ∧
  ∀ m vs, I m vs → putZ δ ws vs fun δ2 => c E δ2 fun b δ3 => br b (tb E { nx := fun δ' => normK δ' fun δ' => getK δ' ws fun vs => putZ δ ws vs fun δ2 => δ' = δ2 ∧ Ask (∃ m', m' < m ∧ I m' vs), ct := fun δ' => normK δ' fun δ' => getK δ' ws fun vs => putZ δ ws vs fun δ2 => δ' = δ2 ∧ Ask (∃ m', m' < m ∧ I m' vs), bk := D.nx, rt := D.rt } δ3) (D.nx δ3)
theorem whileN (ws : List Nat) {body : List Stmt} {tc : TB3} {tb : TS3} (hp : PassesOwn (model X.prog X.w) X.A X.env X.xe) (hc : PT3 X E c tc) (hb : PSs3 X E body tb) : PS3 X E (.While c body [] pos) (tWhileN ws tc tb) := by
  have e : tWhileN ws tc tb = tWhileM ws tc tb := by
    funext E D δ
    unfold tWhileN tWhileM
    simp only [normK_eq, getK_eq, putZ_eq, Ask_eq]
  rw [e]; exact whileM ws hp hc hb
def tLcPN (ti : TA3) (g : TG3) (te : T3) (vs : List Nat) : T3 := fun E δ Q => ti E δ fun ds δ1 => ds.length ≤ sizeLine ∧ Ask (∃ ys : List D, ys.length = ds.length ∧
  (∀ (i : Nat) (x : D), ds[i]? = some x → g x (wipeS δ1 vs) fun δ3 => normK δ3 fun δ3 => te (fun _ => False) δ3 fun y δ5 => backS δ1 δ5 vs = δ1 ∧ ys[i]? = some y) ∧ Q (.list ys) δ1)
def tLcFN (ti : TA3) (g : TG3) (tt : TB3) (te : T3) (vs : List Nat) : T3 := fun E δ Q => ti E δ fun ds δ1 => ds.length ≤ sizeLine ∧ Ask (∃ ys : List (Option D), ys.length = ds.length ∧
  (∀ (i : Nat) (x : D), ds[i]? = some x → g x (wipeS δ1 vs) fun δ3 => normK δ3 fun δ3 => tt (fun _ => False) δ3 fun b δ4 => br b (te (fun _ => False) δ4 fun y δ5 => backS δ1 δ5 vs = δ1 ∧ ys[i]? = some (some y)) (backS δ1 δ4 vs = δ1 ∧ ys[i]? = some none)) ∧ Q (.list (ys.filterMap id)) δ1)
def tLcMN (ws : List Nat) (ti : TA3) (g : TG3) (te : T3) (vs : List Nat) : T3 := fun E δ Q => ti E δ fun ds δ1 => ds.length ≤ sizeLine ∧ Ask (∃ I : Nat → List D → List (Option W) → Prop, getK δ1 ws (I 0 []) ∧
  (∀ i x acc us, ds[i]? = some x → I i acc us → putZ δ1 ws us fun δ2 => g x (wipeS δ2 vs) fun δ3 => normK δ3 fun δ3 => te (fun _ => False) δ3 fun y δ5 => normK δ5 fun δ5 => getK δ5 ws fun us' => putZ δ1 ws us' fun δ6 => backS δ2 δ5 vs = δ6 ∧ Ask (I (i + 1) (acc ++ [y]) us')) ∧ ∀ acc us, I ds.length acc us → putZ δ1 ws us fun δ6 => Q (.list acc) δ6)
theorem lcPN_eq : tLcPN ti g te vs = tLcP ti g te vs := by
  funext E δ Q
  unfold tLcPN tLcP
  simp only [normK_eq]
theorem lcFN_eq : tLcFN ti g tt te vs = tLcF ti g tt te vs := by
  funext E δ Q
  unfold tLcFN tLcF
  simp only [normK_eq]
theorem lcMN_eq {ws : List Nat} : tLcMN ws ti g te vs = tLcM ws ti g te vs := by
  funext E δ Q
  unfold tLcMN tLcM
  simp only [normK_eq, getK_eq, putZ_eq, Ask_eq]
theorem PE3.lcP (h : PE3 X E e (tLcP ti g te vs)) : PE3 X E e (tLcPN ti g te vs) := by rw [lcPN_eq]; exact h
theorem PE3.lcF (h : PE3 X E e (tLcF ti g tt te vs)) : PE3 X E e (tLcFN ti g tt te vs) := by rw [lcFN_eq]; exact h
theorem PE3.lcM {ws : List Nat} (h : PE3 X E e (tLcM ws ti g te vs)) : PE3 X E e (tLcMN ws ti g te vs) := by rw [lcMN_eq]; exact h
theorem POw.lcP (h : POw X E e (tOf (tLcP ti g te vs))) : POw X E e (tOf (tLcPN ti g te vs)) := by rw [lcPN_eq]; exact h
theorem POw.lcF (h : POw X E e (tOf (tLcF ti g tt te vs))) : POw X E e (tOf (tLcFN ti g tt te vs)) := by rw [lcFN_eq]; exact h
theorem POw.lcM {ws : List Nat} (h : POw X E e (tOf (tLcM ws ti g te vs))) : POw X E e (tOf (tLcMN ws ti g te vs)) := by rw [lcMN_eq]; exact h
theorem PS3.lcP {i : Nat} (h : PS3 X E st (tAsg3 (tLcP ti g te vs) (gName3 i))) : PS3 X E st (tAsg3 (tLcPN ti g te vs) (gName3 i)) := by rw [lcPN_eq]; exact h
theorem PS3.lcF {i : Nat} (h : PS3 X E st (tAsg3 (tLcF ti g tt te vs) (gName3 i))) : PS3 X E st (tAsg3 (tLcFN ti g tt te vs) (gName3 i)) := by rw [lcFN_eq]; exact h
theorem PS3.lcM {i : Nat} {ws : List Nat} (h : PS3 X E st (tAsg3 (tLcM ws ti g te vs) (gName3 i))) : PS3 X E st (tAsg3 (tLcMN ws ti g te vs) (gName3 i)) := by rw [lcMN_eq]; exact h
end
abbrev Spec := List W → (R3 → List Ob → Prop) → Prop
def sEnd (p : (R3 → List Ob → Prop) → Prop) : Spec := fun ws Q => match ws with | [] => p Q | _ => False
def sD (f : D → Spec) : Spec := fun ws Q => match ws with | .d x :: r => f x r Q | _ => False
def sI (f : Int → Spec) : Spec := fun ws Q => match ws with | .d (.int x) :: r => f x r Q | _ => False
def sO (n : Nat) (f : Ob → Spec) : Spec := fun ws Q => match ws with | .own t x :: r => t = n ∧ f x r Q | _ => False
def sR (f : List D → Spec) : Spec := fun ws Q => match ws with | .ro x :: r => f x r Q | _ => False
theorem sEnd.inv {p ws Q} (h : sEnd p ws Q) : ws = [] ∧ p Q := by
  unfold sEnd at h; split at h
  · exact ⟨rfl, h⟩
  · exact h.elim
theorem sD.inv {f ws Q} (h : sD f ws Q) : ∃ x r, ws = .d x :: r ∧ f x r Q := by
  unfold sD at h; split at h
  · exact ⟨_, _, rfl, h⟩
  · exact h.elim
theorem sI.inv {f ws Q} (h : sI f ws Q) : ∃ x r, ws = .d (.int x) :: r ∧ f x r Q := by
  unfold sI at h; split at h
  · exact ⟨_, _, rfl, h⟩
  · exact h.elim
theorem sO.inv {n f ws Q} (h : sO n f ws Q) : ∃ x r, ws = .own n x :: r ∧ f x r Q := by
  unfold sO at h; split at h
  · obtain ⟨rfl, h⟩ := h; exact ⟨_, _, rfl, h⟩
  · exact h.elim
theorem sR.inv {f ws Q} (h : sR f ws Q) : ∃ x r, ws = .ro x :: r ∧ f x r Q := by
  unfold sR at h; split at h
  · exact ⟨_, _, rfl, h⟩
  · exact h.elim
def MonoSp (s : Spec) : Prop := ∀ ws (Q Q' : R3 → List Ob → Prop), (∀ r os, Q r os → Q' r os) → s ws Q → s ws Q'
theorem sEnd.mono {p} (h : ∀ (Q Q' : R3 → List Ob → Prop), (∀ r os, Q r os → Q' r os) → p Q → p Q') : MonoSp (sEnd p) := fun ws Q Q' hq z => by
  obtain ⟨rfl, z⟩ := z.inv; exact h Q Q' hq z
theorem sD.mono {f} (h : ∀ x, MonoSp (f x)) : MonoSp (sD f) := fun ws Q Q' hq z => by
  obtain ⟨x, r, rfl, z⟩ := sD.inv z; exact h x r Q Q' hq z
theorem sI.mono {f} (h : ∀ x, MonoSp (f x)) : MonoSp (sI f) := fun ws Q Q' hq z => by
  obtain ⟨x, r, rfl, z⟩ := sI.inv z; exact h x r Q Q' hq z
theorem sO.mono {n f} (h : ∀ x, MonoSp (f x)) : MonoSp (sO n f) := fun ws Q Q' hq z => by
  obtain ⟨x, r, rfl, z1⟩ := sO.inv z; exact ⟨rfl, h x r Q Q' hq z1⟩
theorem sR.mono {f} (h : ∀ x, MonoSp (f x)) : MonoSp (sR f) := fun ws Q Q' hq z => by
  obtain ⟨x, r, rfl, z⟩ := sR.inv z; exact h x r Q Q' hq z
theorem fnN {P : Program} {w : World} {K : PySem.W.Frag} {mg : Str → Option Value} {base : Heap} {x qual : Str} {st : Stmt} {f : Addr} {fd : FuncData} {N ps : List Str} {k : Nat} {S : PrmC} (F : Fun K x qual st f fd) (Sc : FnScope N ps (defScope st)) (len : ∀ ws Q, S.sp ws Q → ws.length = ps.length)
    (hbody : ∀ (cdv : Value) (A : Around) (outer : List Env) (s : Shared) (H : Hp) (E : XK), Room k (A.deeper (PyProof.Rows.envOfC qual (defScope st) s.heap.objs.size f cdv)) →
      ∃ t, PSs3 (cxOf CX0 P w K mg base N qual (defScope st) f cdv A outer s H E).nox XF (defBody st) t ∧ ∀ (ws : List W) (Q : R3 → List Ob → Prop), S.sp ws Q → normK (start3 N ws) fun δ => t (fun _ => False) (ends ws Q) δ) :
    FnOk P w K mg base CX0 (k + 1) f fd ps (liftF K S.p) := by
  refine fnC F Sc len fun cdv A outer s H E hr => ?_
  obtain ⟨t, h1, h2⟩ := hbody cdv A outer s H E hr
  exact ⟨t, h1, fun ws Q h => by have := h2 ws Q h; rw [normK_eq] at this; exact this⟩
end M3
set_option Elab.async false
set_option linter.all false
set_option maxRecDepth 100000
set_option maxHeartbeats 4000000
namespace M3
open PySem L2
variable [TabsC]
section
open PySem.Spec PyProof.Rows
variable {prog : Program} {w : World} {A : Around} {E : Value → Shared → Prop} {s : Shared}
end
section
variable {X : Cx} {pos : Pos}
def starL {α : Type} (n i : Nat) (xs : List α) (y : List α → α) : List α := xs.take i ++ [y ((xs.drop i).take (xs.length - (n - 1)))] ++ xs.drop (i + (xs.length - (n - 1)))
def gStar (K : PySem.W.Frag) (n i : Nat) (t : TGs) : TG := fun v σ H Q => ∃ a xs, v = .ref a ∧ SqT K H a xs ∧ n - 1 ≤ xs.length ∧ ∀ p, H p = none → t (starL n i xs fun _ => .ref p) σ (upd H p (.lst ((xs.drop i).take (xs.length - (n - 1))))) Q
def gStar3 (n i : Nat) (gs : TGs3) : TG3 := fun x δ Q => match x with
  | .tuple xs => n - 1 ≤ xs.length ∧ gs (starL n i xs .list) δ Q
  | _ => False
theorem _root_.L2.Room.units65 {k : Nat} {A : Around} (r : Room k A) : A.units + 65 < cLine := by have := r.un; omega
variable {E : XK} {a b : Expr} {ta tb : T3}
def rIndexI (x y : D) (k : D → Prop) : Prop := match x with
  | .list xs => ∃ ns : List Int, xs = ns.map PyData.int ∧ asI y fun v => v ∈ ns ∧ k (.int (ns.idxOf v : Nat))
  | _ => False
end
end M3
set_option Elab.async false
set_option linter.all false
set_option maxRecDepth 100000
set_option maxHeartbeats 4000000
namespace M3
open PySem L2
variable [TabsC]
section
variable {X : Cx} {E : XK} {a b : Expr} {ta tb : T3} {pos : Pos}
def rRepr3 (x : D) (k : D → Prop) : Prop := asB x fun b => k (.str (if b then "True" else "False"))
end
end M3
set_option Elab.async false
set_option linter.all false
set_option maxRecDepth 100000
set_option maxHeartbeats 4000000
namespace M3
open PySem L2
variable [TabsC]
section
variable {X : Cx}
def gTupA3 (n : Nat) (gs : TGs3) : TG3 := fun x δ Q => match x with
  | .tuple xs => xs.length = n ∧ gs xs δ Q
  | .list xs => xs.length = n ∧ gs xs δ Q
  | _ => False
theorem gtA {ws : List Nat} {es : List Expr} {k : Nat} {gs : TGs3} {n : Nat} {pos : Pos} (hc : X.calm = true) (h : PGs3 X ws es gs) (hn : (assignEach es X.env).length = n := by rfl) (hst : (assignEach es X.env).findIdx? (·.1) = none := by rfl) : PG3 X ws (.Tuple es k pos) (gTupA3 n gs) := by
  refine ⟨fun x δ Q Q' hq q => ?_, ?_⟩
  · unfold gTupA3 at q ⊢
    split at q
    · exact ⟨q.1, h.mono _ _ _ _ hq q.2⟩
    · exact ⟨q.1, h.mono _ _ _ _ hq q.2⟩
    · exact q.elim
  · have h1 := pg_tup (k := k) (pos := pos) hc h.pg hn hst
    have h2 := pg_unl (k := k) (pos := pos) hc h.pg hn hst
    refine ⟨fun pins s σ H v u Q I r q => ?_⟩
    obtain ⟨π, F, ρ, δ, x, rel, rx, q⟩ := q
    unfold gTupA3 at q
    split at q
    · obtain ⟨hl, q⟩ := q
      cases rx with
      | tup ht hr => exact h1.run pins s σ H _ u Q I r ⟨_, _, rfl, ht.sq, by rw [hr.length]; exact hl, π, F, ρ, δ, _, rel, hr, q⟩
    · obtain ⟨hl, q⟩ := q
      cases rx with
      | lst ht hr => exact h2.run pins s σ H _ u Q I r ⟨_, _, rfl, ht.sq, by rw [hr.length]; exact hl, π, F, ρ, δ, _, rel, hr, q⟩
    · exact q.elim
end
end M3
set_option Elab.async false
set_option linter.all false
set_option maxRecDepth 100000
set_option maxHeartbeats 4000000
namespace M3
open PySem L2
variable [TabsC]
section
variable {K : PySem.W.Frag} {σ : St} {pat : List (Option Nat)} {vs : List V} {ds : List DV}
theorem ArgOk.ofAll {O : Addr → Prop} {H : Hp} : ∀ {zs : List V} {ys : List D}, RpAll K O H zs ys → ArgOk K O H σ (List.replicate ys.length none) zs (ys.map .d)
  | _, _, .nil => .nil
  | _, _, .cons r0 t0 => .d (x := .d _) r0 (ArgOk.ofAll t0)
theorem ArgOk.append {O : Addr → Prop} {H : Hp} (h : ArgOk K O H σ pat vs ds) {zs : List V} {ys : List D} (hz : RpAll K O H zs ys) : ArgOk K O H σ (pat ++ List.replicate ys.length none) (vs ++ zs) (ds ++ ys.map .d) := by
  induction h with
  | nil => exact ArgOk.ofAll hz
  | d r _ ih => exact .d r ih
  | r q _ ih => exact .r q ih
end
structure CalK (P : Program) (w : World) (K : PySem.W.Frag) (mg : Str → Option Value) (base : Heap) (k : Nat) (x : Str) (ps : List Str) (n : Nat) (ks : List Str) (dv : List D) (S : PrmC) : Prop where
  ex : ∃ f fd, FnOk P w K mg base CX0 k f fd ps (liftF K S.p) ∧ mg x = some (.ref f) ∧ PySem.W.keepIn K (.ref f) = true ∧
    (∃ (dvs : List V) (us : List Value), (∀ O H, RpAll K O H dvs dv) ∧ Vals dvs us ∧ Binds K fd ps us) ∧ KBn K fd ps n ks (fun us ws => us ++ ws) (fun vs zs => vs ++ zs)
def tCallD (sp : Sp3) (pat : List (Option Nat)) (dv : List D) (t : TV3) : T3 := fun E δ Q => t E δ fun ds δ1 => mkW (pat ++ List.replicate dv.length none) (ds ++ dv.map .d) δ1 0 fun ws => sp ws (fun r os => retD r fun x => Q x (putB (pat ++ List.replicate dv.length none) δ1 os)) E
def tCallKw (sp : Sp3) (pat : List (Option Nat)) (n m : Nat) (t : TV3) (tk : TA3) : T3 := fun E δ Q => t E δ fun ds δ1 => tk E δ1 fun zs δ2 => (pat.length = n ∧ zs.length = m) ∧ mkW (pat ++ List.replicate zs.length none) (ds ++ zs.map .d) δ2 0 fun ws => sp ws (fun r os => retD r fun x => Q x (putB (pat ++ List.replicate zs.length none) δ2 os)) E
structure PK3 (X : Cx) (E : XK) (kws : List Keyword) (t : TA3) : Prop where
  mono : Mono3 t
  pk : PK X kws (lift X.K E (RpAll X.K) t)
theorem ArgOk.len {K : PySem.W.Frag} {O : Addr → Prop} {H : Hp} {σ : St} {pat : List (Option Nat)} {vs : List V} {ds : List DV} (h : ArgOk K O H σ pat vs ds) : vs.length = pat.length := by
  induction h with
  | nil => rfl
  | d _ _ ih => simp [ih]
  | r _ _ ih => simp [ih]
section
variable {X : Cx} {E : XK} {k j n : Nat} {S : PrmC} {ps ks : List Str} {dv : List D} {e : Expr} {es : List Expr} {kws : List Keyword} {x : Str} {p pos : Pos} {pat : List (Option Nat)} {t : TV3} {tk : TA3} {te : T3}
theorem _root_.L2.PK.imp {X : Cx} {e : List Keyword} {t t' : TA} (h : PK X e t) (k : ∀ σ H Q, t' σ H Q → t σ H Q) : PK X e t' := ⟨fun pos pins s σ H Q I q => h.run pos pins s σ H Q I (k σ H Q q)⟩
end
end M3
set_option Elab.async false
set_option linter.all false
set_option maxRecDepth 100000
set_option maxHeartbeats 4000000
namespace M3
open PySem L2
variable [TabsC]
section
variable {X : Cx} {E : XK} {a b c e : Expr} {ta tb tc te : T3} {pos : Pos}
def asL (x : D) (k : List D → Prop) : Prop := match x with | .list xs => k xs | _ => False
theorem asL.to {x : D} {k : List D → Prop} (h : asL x k) : ∃ xs, x = .list xs ∧ k xs := by
  cases x <;> first | exact ⟨_, rfl, h⟩ | exact False.elim h
theorem asL.of {xs : List D} {k : List D → Prop} (h : k xs) : asL (.list xs) k := h
end
end M3
set_option Elab.async false
set_option linter.all false
set_option maxRecDepth 100000
set_option maxHeartbeats 4000000
namespace M3
open PySem L2 PyProof.Rows
variable [TabsC]
section
variable {prog : Program} {w : World} {A : Around} {E : Value → Shared → Prop} {s : Shared} {l : Addr} {xs : Array (Int × Tok)}
end
section
variable {prog : Program} {w : World} {A : Around} {E : Value → Shared → Prop} {s : Shared} {l : Addr} {its : List Value} {ns : List Int} {Q : Value → Shared → Prop}
end
section
variable {X : Cx} {E : XK} {a : Expr} {ta : T3} {pos : Pos}
def rMaxU (K : PySem.W.Frag) : List V → Hp → VK → Prop := fun vs H Q => ∃ (a : Addr) (ns : List Int), vs = [V.ref a] ∧ (SqL K H a (ns.map V.int) ∨ SqT K H a (ns.map V.int)) ∧ 0 < ns.length ∧ ∀ m, m ∈ ns → (∀ y, y ∈ ns → y ≤ m) → Q (.int m) H
def rMinU (K : PySem.W.Frag) : List V → Hp → VK → Prop := fun vs H Q => ∃ (a : Addr) (ns : List Int), vs = [V.ref a] ∧ (SqL K H a (ns.map V.int) ∨ SqT K H a (ns.map V.int)) ∧ 0 < ns.length ∧ ∀ m, m ∈ ns → (∀ y, y ∈ ns → m ≤ y) → Q (.int m) H
def rMaxU3 (x : D) (k : D → Prop) : Prop := match x with
  | .list xs => ∃ ns : List Int, xs = ns.map PyData.int ∧ 0 < ns.length ∧ ∀ m, m ∈ ns → (∀ y, y ∈ ns → y ≤ m) → k (.int m)
  | .tuple xs => ∃ ns : List Int, xs = ns.map PyData.int ∧ 0 < ns.length ∧ ∀ m, m ∈ ns → (∀ y, y ∈ ns → y ≤ m) → k (.int m)
  | _ => False
def rMinU3 (x : D) (k : D → Prop) : Prop := match x with
  | .list xs => ∃ ns : List Int, xs = ns.map PyData.int ∧ 0 < ns.length ∧ ∀ m, m ∈ ns → (∀ y, y ∈ ns → m ≤ y) → k (.int m)
  | .tuple xs => ∃ ns : List Int, xs = ns.map PyData.int ∧ 0 < ns.length ∧ ∀ m, m ∈ ns → (∀ y, y ∈ ns → m ≤ y) → k (.int m)
  | _ => False
end
end M3
set_option Elab.async false
set_option linter.all false
set_option maxRecDepth 100000
set_option maxHeartbeats 4000000
namespace M3
open PySem L2
variable [TabsC]
def keyEq (a b : D) : Bool := match a, b with | .int i, .int j => decide (i = j) | .str x, .str y => decide (x = y) | _, _ => false
def dgetD (ds : List (D × D)) (k : D) : Option D := (ds.find? fun kv => keyEq kv.1 k).map (·.2)
def dputD (ds : List (D × D)) (k v : D) : List (D × D) := if (ds.any fun kv => keyEq kv.1 k) = true then ds.map (fun kv => if keyEq kv.1 k = true then (kv.1, v) else kv) else ds ++ [(k, v)]
def ddropD (ds : List (D × D)) (k : D) : List (D × D) := ds.filter fun kv => !keyEq kv.1 k
theorem keyEq_kD (a b : Key) : keyEq (kD a) (kD b) = decide (a = b) := by
  cases a <;> cases b <;> simp [keyEq, kD]
section
variable {K : PySem.W.Frag} {O : Addr → Prop} {H : Hp}
theorem RpKV.length : ∀ {kvs : List (Key × V)} {ds : List (D × D)}, RpKV K O H kvs ds → kvs.length = ds.length
  | _, _, .nil => rfl
  | _, _, .cons r t => by rw [List.length_cons, List.length_cons, t.length]
theorem RpKV.get : ∀ {kvs : List (Key × V)} {ds : List (D × D)}, RpKV K O H kvs ds → ∀ k : Key, (valV kvs k = none ∧ dgetD ds (kD k) = none) ∨ ∃ v d, valV kvs k = some v ∧ dgetD ds (kD k) = some d ∧ Rp K O H v d
  | _, _, .nil, k => .inl ⟨rfl, rfl⟩
  | _, _, .cons (k := j) (v := v) (d := d) (ds := ds) r t, k => by
    by_cases e : j = k
    · exact .inr ⟨v, d, valV_pos e, by simp [dgetD, List.find?_cons, keyEq_kD, e], r⟩
    · have e2 : dgetD ((kD j, d) :: ds) (kD k) = dgetD ds (kD k) := by simp [dgetD, List.find?_cons, keyEq_kD, e]
      rw [valV_neg (p := (j, v)) e, e2]
      exact t.get k
theorem RpKV.any : ∀ {kvs : List (Key × V)} {ds : List (D × D)}, RpKV K O H kvs ds → ∀ k : Key, (kvs.any fun kv => decide (kv.1 = k)) = (ds.any fun kv => keyEq kv.1 (kD k))
  | _, _, .nil, k => rfl
  | _, _, .cons r t, k => by simp only [List.any_cons, keyEq_kD]; rw [t.any k]
theorem RpKV.repl {k : Key} {v : V} {d : D} (hv : Rp K O H v d) : ∀ {kvs : List (Key × V)} {ds : List (D × D)}, RpKV K O H kvs ds → RpKV K O H (kvs.map fun kv => if kv.1 = k then (kv.1, v) else kv) (ds.map fun kv => if keyEq kv.1 (kD k) = true then (kv.1, d) else kv)
  | _, _, .nil => .nil
  | _, _, .cons (k := j) r t => by
    simp only [List.map_cons, keyEq_kD, decide_eq_true_eq]
    by_cases e : j = k
    · rw [if_pos e, if_pos e]; exact .cons hv (t.repl hv)
    · rw [if_neg e, if_neg e]; exact .cons r (t.repl hv)
theorem RpKV.snoc {k : Key} {v : V} {d : D} (hv : Rp K O H v d) : ∀ {kvs : List (Key × V)} {ds : List (D × D)}, RpKV K O H kvs ds → RpKV K O H (kvs ++ [(k, v)]) (ds ++ [(kD k, d)])
  | _, _, .nil => .cons hv .nil
  | _, _, .cons r t => .cons r (t.snoc hv)
theorem RpKV.put {kvs : List (Key × V)} {ds : List (D × D)} (h : RpKV K O H kvs ds) {k : Key} {v : V} {d : D} (hv : Rp K O H v d) : RpKV K O H (putK kvs k v) (dputD ds (kD k) d) := by
  unfold putK dputD
  rw [h.any k]
  split
  · exact h.repl hv
  · exact h.snoc hv
theorem RpKV.drop {k : Key} : ∀ {kvs : List (Key × V)} {ds : List (D × D)}, RpKV K O H kvs ds → RpKV K O H (dropK kvs k) (ddropD ds (kD k))
  | _, _, .nil => .nil
  | _, _, .cons (k := j) (v := v) (vs := vs) (d := d) (ds := ds) r t => by
    unfold dropK ddropD
    simp only [List.filter_cons, keyEq_kD]
    by_cases e : j = k
    · simp only [e, ne_eq, not_true_eq_false, decide_false, decide_true, Bool.not_true]
      exact t.drop
    · simp only [ne_eq, e, not_false_eq_true, decide_true, decide_false, Bool.not_false, if_true]
      exact .cons r t.drop
theorem RpKV.at : ∀ {kvs : List (Key × V)} {ds : List (D × D)}, RpKV K O H kvs ds → ∀ {i : Nat} {x : D × D}, ds[i]? = some x → ∃ k v, kvs[i]? = some (k, v) ∧ x.1 = kD k ∧ Rp K O H v x.2
  | _, _, .nil, i, x, h => by cases i <;> cases h
  | _, _, .cons (k := k) (v := v) r t, 0, x, h => by cases h; exact ⟨k, v, rfl, rfl, r⟩
  | _, _, .cons r t, i + 1, x, h => t.at (by simpa using h)
end
def asDct (x : D) (k : List (D × D) → Prop) : Prop := match x with | .dict ds => k ds | _ => False
theorem asDct.to {x : D} {k : List (D × D) → Prop} (h : asDct x k) : ∃ ds, x = .dict ds ∧ k ds := by
  cases x <;> first | exact ⟨_, rfl, h⟩ | exact False.elim h
theorem asDct.of {ds : List (D × D)} {k : List (D × D) → Prop} (h : k ds) : asDct (.dict ds) k := h
def isKey (x : D) : Prop := match x with | .int _ => True | .str _ => True | _ => False
theorem isKey.to {x : D} (h : isKey x) : ∃ k, x = kD k := by
  cases x <;> first | exact ⟨.inl _, rfl⟩ | exact ⟨.inr _, rfl⟩ | exact False.elim h
def onDct (δ : Sl) (i : Nat) (k : Nat → List (D × D) → Prop) : Prop := match δ[i]? with | some (some (.own t (.dct xs))) => k t xs | _ => False
theorem onDct.to {δ : Sl} {i : Nat} {k : Nat → List (D × D) → Prop} (h : onDct δ i k) : ∃ t xs, δ[i]? = some (some (.own t (.dct xs))) ∧ k t xs := by
  unfold onDct at h
  split at h
  · exact ⟨_, _, by assumption, h⟩
  · exact h.elim
theorem onDct.of {δ : Sl} {i t : Nat} {xs : List (D × D)} {k : Nat → List (D × D) → Prop} (e : δ[i]? = some (some (.own t (.dct xs)))) (h : k t xs) : onDct δ i k := by
  unfold onDct
  rw [e]
  exact h
section
variable {X : Cx} {E : XK} {a b c e f : Expr} {ta tb tc te tf : T3} {pos : Pos}
def itemsD (ds : List (D × D)) : List D := ds.map fun kv => .tuple [kv.1, kv.2]
def keysD (ds : List (D × D)) : List D := ds.map (·.1)
def tItems (ta : T3) : TA3 := fun E δ Q => ta E δ fun x δ1 => asDct x fun ds => Q (itemsD ds) δ1
def tKeys (ta : T3) : TA3 := fun E δ Q => ta E δ fun x δ1 => asDct x fun ds => Q (keysD ds) δ1
def tSumVals (td : TE) : TE := fun σ H Q => td σ H fun x H1 => ∃ (a : Addr) (kvs : List (Key × V)) (is : List Int), x = V.ref a ∧ Rd H1 a (.dK kvs) ∧ kvs.map (·.2) = is.map V.int ∧ Q (.int is.sum) H1
structure PC3 (X : Cx) (pos : Pos) (ks : List (Option Expr)) (vs : List Expr) (l : List (Int × Int)) : Prop where
  ex : ∃ trs, PPs X pos ks vs trs ∧ ∀ σ H Q, Q (l.map fun p => (V.int p.1, V.int p.2)) H → tPairs trs σ H Q
  all : ks.all (·.isSome) = true
  len : ks.length = vs.length
  lel : ks.length = l.length
def mergeI (acc : List (D × D)) (l : List (Int × Int)) : List (D × D) := l.foldl (fun acc kv => dputD acc (.int kv.1) (.int kv.2)) acc
end
end M3
set_option Elab.async false
set_option linter.all false
set_option maxRecDepth 100000
set_option maxHeartbeats 4000000
namespace M3
open PySem L2
variable [TabsC]
section
variable {K : PySem.W.Frag} {π : Rho} {F : Addr → Prop} {ρ : Rho} {H : Hp} {σ : St} {δ : Sl}
end
def retK (i j : Nat) (δ : Sl) (k : Sl → Prop) : Prop := match δ[j]?, δ[i]? with
  | some (some (.lnt p)), some (some (.own t o)) => t = p + 1 ∧ k ((δ.set j (some (.own t o))).set i none)
  | _, _ => k δ
section
variable {X : Cx} {E : XK} {a b c e f : Expr} {ta tb tc te tf : T3} {pos : Pos}
def tLend (i j : Nat) (tt : TB3) (to : TW3) : TS3 := fun E D δ => tt E δ fun b δ1 => br b (onOwn δ1 j fun t o => ∃ p, t = p + 1 ∧ D.nx ((δ1.set i (some (.own t o))).set j (some (.lnt p)))) (to E δ1 fun o δ2 => D.nx (δ2.set i (some (.own 0 o))))
end
end M3
set_option Elab.async false
set_option linter.all false
set_option maxRecDepth 100000
set_option maxHeartbeats 4000000
namespace M3
open PySem L2
variable [TabsC]
def veB : List Value := [.type "ValueError", .type "Exception", .type "BaseException", .type "object"]
structure ExCls (K : PySem.W.Frag) (mg : Str → Option Value) (n : Str) (C : Addr) : Prop where
  g : mg n = some (.ref C)
  x : PySem.W.excIn K C veB "ValueError.__new__" = true
  k : PySem.W.keepIn K (.ref C) = true
  b : PySem.W.subIn K (.ref C) (.type "BaseException") = some true
  t : PySem.W.typeIn K (.ref C) = some (.type "type")
structure PrmX where
  p : Sp3
  mono : MonoP p
abbrev TakesE (X : Cx) (E : XK) : Prop := Takes X (fun cls d _ H => E cls d H)
theorem fnX {P : Program} {w : World} {K : PySem.W.Frag} {mg : Str → Option Value} {base : Heap} {x qual : Str} {st : Stmt} {f : Addr} {fd : FuncData} {N ps : List Str} {k : Nat} {S : PrmX} (F : Fun K x qual st f fd) (Sc : FnScope N ps (defScope st)) (len : ∀ ws Q E, S.p ws Q E → ws.length = ps.length)
    (hbody : ∀ (cdv : Value) (A : Around) (outer : List Env) (s : Shared) (H : Hp) (E : XK), Room k (A.deeper (PyProof.Rows.envOfC qual (defScope st) s.heap.objs.size f cdv)) →
      TakesE (cxOf (L2.CX P w) P w K mg base N qual (defScope st) f cdv A outer s H E) E → PassesOwn (model P w) (cxOf (L2.CX P w) P w K mg base N qual (defScope st) f cdv A outer s H E).A (cxOf (L2.CX P w) P w K mg base N qual (defScope st) f cdv A outer s H E).env (cxOf (L2.CX P w) P w K mg base N qual (defScope st) f cdv A outer s H E).xe →
      ∃ t, PSs3 (cxOf (L2.CX P w) P w K mg base N qual (defScope st) f cdv A outer s H E) E (defBody st) t ∧ ∀ (ws : List W) (Q : R3 → List Ob → Prop) (Ex : Ex3 → Prop), S.p ws Q Ex → normK (start3 N ws) fun δ => t Ex (ends ws Q) δ) :
    FnOk P w K mg base (L2.CX P w) (k + 1) f fd ps (liftF K S.p) := by
  refine F.okX Sc (fun vs H Q E h => ?_) (fun cdv A outer s H vs Q E hr h => ?_)
  · obtain ⟨π, Fo, ρ, ws, rel, _, _, h⟩ := h
    rw [← len ws _ _ h]
    simpa using rel.len
  · obtain ⟨π, Fo, ρ, ws, rel, tg, hk, h⟩ := h
    obtain ⟨t, h1, h2⟩ := hbody cdv A outer s H E hr (takes_of rfl rfl rfl rfl) (passes_of rfl)
    have h3 := h2 ws _ _ h
    rw [normK_eq] at h3
    refine ⟨_, h1.ps, π, Fo, ρ, _, rel.start N, h1.mono _ _ _ _ _ (fun _ z => z) ⟨fun δ q σ' H' ρ' e' rel' => ?_, fun r δ q v σ' H' ρ' e' rel' rr => ?_, fun _ (z : False) => z.elim, fun _ (z : False) => z.elim⟩ h3⟩
    · obtain ⟨os, q1, q2⟩ := outs_ok rel' ws 0 _ q
      exact q1 .non H' ρ' e' q2 rel'.trk rel'.dis .non
    · obtain ⟨os, q1, q2⟩ := outs_ok rel' ws 0 _ q
      exact q1 v H' ρ' e' q2 rel'.trk rel'.dis rr
structure CalX (P : Program) (w : World) (K : PySem.W.Frag) (mg : Str → Option Value) (base : Heap) (k : Nat) (x : Str) (ps : List Str) (S : PrmX) : Prop where
  ex : ∃ f fd, FnOk P w K mg base (L2.CX P w) k f fd ps (liftF K S.p) ∧ mg x = some (.ref f) ∧ PySem.W.keepIn K (.ref f) = true ∧ Binds K fd ps []
section
variable {X : Cx} {E : XK} {k j : Nat} {ps : List Str} {e : Expr} {es : List Expr} {x : Str} {p pos : Pos} {pat : List (Option Nat)} {t : TV3}
theorem clCE {S : PrmC} (C : CalC X.prog X.w X.K X.mg X.base k x ps S) (hr : Room j X.A) (ha : PAr X E (e :: es) pat t) (hk : k ≤ j := by first | decide | omega) (hg : Gl X x := by rfl) (nd : (pat.filterMap id).Nodup := by decide) (hdb : (x == ("__debug__" : Str)) = false := by decide)
    (he : starEach (e :: es) X.env = (false, eval e X.env) :: starEach es X.env := by rfl) (hpl : (backTo pos (starEach es X.env)).any (·.1) = false := by rfl) : PE3 X E (.Call (.Name x p) (e :: es) [] pos) (tCall3 S.p pat t) := by
  obtain ⟨f, fd, F, hm, hk', hb⟩ := C.ex
  exact call3 F S.monoP (hr.mono hk) hg hm hk' hb pass0 ha nd hdb he hpl
theorem clX {S : PrmX} (C : CalX X.prog X.w X.K X.mg X.base k x ps S) (tk : TakesE X E) (hr : Room j X.A) (ha : PAr X E (e :: es) pat t) (hk : k ≤ j := by first | decide | omega) (hg : Gl X x := by rfl) (nd : (pat.filterMap id).Nodup := by decide) (hdb : (x == ("__debug__" : Str)) = false := by decide)
    (he : starEach (e :: es) X.env = (false, eval e X.env) :: starEach es X.env := by rfl) (hpl : (backTo pos (starEach es X.env)).any (·.1) = false := by rfl) : PE3 X E (.Call (.Name x p) (e :: es) [] pos) (tCall3 S.p pat t) := by
  obtain ⟨f, fd, F, hm, hk', hb⟩ := C.ex
  exact call3 F S.mono (hr.mono hk) hg hm hk' hb (passes_call tk fun _ _ _ _ h => h) ha nd hdb he hpl
theorem raise3 {n m : Str} {C : Addr} {i : Nat} {p2 p3 : Pos} (T : ExCls X.K X.mg n C) (tk : TakesE X E) (hc : X.calm = true := by rfl) (hg : Gl X n := by rfl) (hdb : (n == ("__debug__" : Str)) = false := by decide) :
    PS3 X E (.Raise (some (.Call (.Name n p) [.Constant (.str m) i p2] [] p3)) none pos) (fun E _ _ => E ⟨.ref C, none⟩) := by
  refine ⟨fun _ _ _ _ _ hx _ q => hx _ q, (ps_raise hc tk (pmk_own PySem.F.excBase_ValueError T.x T.g T.k (raises_own T.b T.t) hg hdb)).imp fun D σ H h => ?_⟩
  obtain ⟨π, F, ρ, δ, rel, q⟩ := h
  exact q none H ρ Ext.refl rfl
end
end M3
set_option Elab.async false
set_option linter.all false
set_option maxRecDepth 100000
set_option maxHeartbeats 4000000
namespace M3
open PySem L2
variable [TabsC]
abbrev TX3 := (Ex3 → Sl → Prop) → End3 → Sl → Prop
def MonoX (t : TX3) : Prop := ∀ (W W' : Ex3 → Sl → Prop) (D D' : End3) (δ : Sl), (∀ e δ, W e δ → W' e δ) → D.le D' → t W D δ → t W' D' δ
def liftW (K : PySem.W.Frag) (W : WX) (π : Rho) (F : Addr → Prop) (ρ : Rho) (H : Hp) : Ex3 → Sl → Prop := fun ex δ' => ∀ d σ' H' ρ', Ex F ρ H ρ' H' → Rel K π F ρ' H' σ' δ' → XOk H' ex.arg d → W ex.cls d σ' H'
theorem liftW.mono {K : PySem.W.Frag} {W : WX} {π : Rho} {F : Addr → Prop} {ρ ρ1 : Rho} {H H1 : Hp} (e : Ex F ρ H ρ1 H1) : ∀ ex δ, liftW K W π F ρ H ex δ → liftW K W π F ρ1 H1 ex δ :=
  fun ex δ h d σ' H' ρ' e' rel x => h d σ' H' ρ' (e.trans e') rel x
def liftB (K : PySem.W.Frag) (W : WX) (t : TX3) : TS := fun D σ H => ∃ π F ρ δ, Rel K π F ρ H σ δ ∧ t (liftW K W π F ρ H) (liftD D K π F ρ H) δ
structure PB3 (X : Cx) (b : List Stmt) (t : TX3) : Prop where
  mono : MonoX t
  run : ∀ (W : WX) (pn : List (Addr × Obj)) (xe : Value → Shared → Prop), Takes (X.tr pn xe) W → PassesOwn (model X.prog X.w) X.A X.env xe → PSs (X.tr pn xe) b (liftB X.K W t)
def tCX (sp : Sp3) (n : Nat) (t : TV3) (W : Ex3 → Sl → Prop) (δ : Sl) (Q : D → Sl → Prop) : Prop := t (fun _ => False) δ fun ds δ1 => mkW (List.replicate n none) ds δ1 0 fun ws => sp ws (fun r os => retD r fun x => Q x δ1) (fun ex => W ex δ1)
def liftC (K : PySem.W.Frag) (W : WX) (tc : (Ex3 → Sl → Prop) → Sl → (D → Sl → Prop) → Prop) : TE := fun σ H Q => ∃ π F ρ δ, Rel K π F ρ H σ δ ∧ tc (liftW K W π F ρ H) δ fun y δ' => ∀ v H' ρ', Ex F ρ H ρ' H' → Rel K π F ρ' H' σ δ' → Rp K (Ox F ρ') H' v y → Q v H'
theorem rep_none : ∀ n : Nat, (List.replicate n (none : Option Nat)).filterMap id = []
  | 0 => rfl
  | n + 1 => rep_none n
theorem putB_none : ∀ (n : Nat) (δ : Sl) (os : List Ob), putB (List.replicate n none) δ os = δ
  | 0, _, _ => rfl
  | n + 1, δ, os => putB_none n δ os
section
variable {X : Cx} {k j : Nat} {ps : List Str} {e : Expr} {es : List Expr} {x : Str} {p pos : Pos} {t : TV3} {n : Nat}
theorem mono_tCX {S : PrmX} (ha : Mono3 t) {W W' : Ex3 → Sl → Prop} {δ : Sl} {Q Q' : D → Sl → Prop} (hw : ∀ e δ, W e δ → W' e δ) (hq : ∀ y δ, Q y δ → Q' y δ) (h : tCX S.p n t W δ Q) : tCX S.p n t W' δ Q' :=
  ha _ _ _ _ _ (fun _ z => z) (fun ds δ1 => mkW_mono (fun ws => S.mono _ _ _ _ _ (fun r os => retD_mono fun x => hq _ _) fun ex => hw ex δ1) _ _ _ _) h
theorem peX {S : PrmX} (C : CalX X.prog X.w X.K X.mg X.base k x ps S) {W : WX} (tk : Takes X W) (hr : Room j X.A) (ha : PAr X XF (e :: es) (List.replicate n none) t) (hk : k ≤ j) (hg : Gl X x) (hdb : (x == ("__debug__" : Str)) = false)
    (he : starEach (e :: es) X.env = (false, eval e X.env) :: starEach es X.env) (hpl : (backTo pos (starEach es X.env)).any (·.1) = false) : PE X (.Call (.Name x p) (e :: es) [] pos) (liftC X.K W (tCX S.p n t)) := by
  obtain ⟨f, fd, F, hm, hk', hb⟩ := C.ex
  refine (pe_callS F (hr.mono hk) hg hm hk' hb (fun σ => passAt tk σ) ha.pa hdb he hpl).imp fun σ H Q h => ?_
  obtain ⟨π, Fo, ρ, δ, rel, q⟩ := h
  refine ⟨π, Fo, ρ, δ, rel, ha.mono _ _ _ _ _ (fun _ z => z.elim) (fun ds δ1 q vs H1 ρ1 e1 rel1 ao => ?_) q⟩
  obtain ⟨ws, q, ar⟩ := args_of ao 0 _ q
  have nd : ((List.replicate n (none : Option Nat)).filterMap id).Nodup := by rw [rep_none]; exact List.nodup_nil
  have relc := ar.rel rel1 nd
  have none' : ∀ i, piC (List.replicate n none) ρ1 i = none := fun i => by
    unfold piC
    cases h : (List.replicate n (none : Option Nat))[i]? with
    | none => rfl
    | some o =>
      have := List.eq_of_mem_replicate (List.mem_of_getElem? h)
      subst this; rfl
  refine ⟨piC (List.replicate n none) ρ1, FC Fo ρ1 (List.replicate n none), piC (List.replicate n none) ρ1, ws, relc, ar.tagged, fun j hj => none' j, S.mono _ _ _ _ _ (fun r os q v H' ρ' e' oo tk' ds rr => ?_) (fun ex z d H' ρ' e' xo => ?_) q⟩
  · obtain ⟨r2, ex2, lex⟩ := ar.after rel1 e' oo (fun _ _ => rfl) rel1.inj (fun _ z => .inl z) (fun b z => tk' b (.inl z))
    rw [putB_none] at r2
    unfold retD at q
    split at q
    · exact q v H' ρ1 (e1.trans ex2) r2 (Rp.mono lex rr)
    · obtain ⟨a, rfl, oa, na, vs', h1, h2⟩ := rr
      refine q _ H' ρ1 (e1.trans ex2) r2 (.lst ⟨h1, fun z => ?_⟩ (h2.mono lex))
      have : H1 a = none := by
        rcases e'.ow a oa with w | w
        · obtain ⟨j, w⟩ := w; exact absurd w (na j)
        · exact w
      obtain ⟨u, hu⟩ := rel1.trk a z
      rw [this] at hu; cases hu
    · exact q.elim
  · obtain ⟨r3, e3⟩ := rel1.calm (H' := H') (fun b o hb t => e'.fr b o hb (fun ⟨i, z⟩ => by rw [none' i] at z; cases z) t) e'.tk e'.tb
    exact z d σ H' ρ1 (e1.trans e3) r3 xo
variable {pos2 : Pos}
end
end M3
set_option Elab.async false
set_option linter.all false
set_option maxRecDepth 100000
set_option maxHeartbeats 4000000
namespace M3
open PySem L2
variable [TabsC]
def onAd (δ : Sl) (i : Nat) (k : Addr → Prop) : Prop := match δ[i]? with | some (some (.ad a)) => k a | _ => False
theorem onAd.to {δ : Sl} {i : Nat} {k : Addr → Prop} (h : onAd δ i k) : ∃ a, δ[i]? = some (some (.ad a)) ∧ k a := by
  unfold onAd at h
  split at h
  · exact ⟨_, by assumption, h⟩
  · exact h.elim
theorem onAd.of {δ : Sl} {i : Nat} {a : Addr} {k : Addr → Prop} (e : δ[i]? = some (some (.ad a))) (h : k a) : onAd δ i k := by
  unfold onAd; rw [e]; exact h
section
variable {X : Cx}
def rIsX (K : PySem.W.Frag) (cls : Value) (d : Option Addr) (a : Addr) : List V → Hp → VK → Prop := fun xs H Q => ∃ C, cls = .ref C ∧ d = none ∧ ExcC K C ∧ rIsE K C a xs H Q
theorem Rel.setV {K : PySem.W.Frag} {π : Rho} {F : Addr → Prop} {ρ : Rho} {H : Hp} {σ : St} {δ : Sl} (r : Rel K π F ρ H σ δ) {i : Nat} {v : V} {x : DV} (h : RpV K (Ox F ρ) H v x) : Rel K π F (M3.drop ρ i) H (σ.set i (some v)) (δ.set i (some x.w)) where
  len := by rw [List.length_set, List.length_set]; exact r.len
  dat := fun j y e => by
    by_cases hj : i = j
    · subst hj
      by_cases hl : i < δ.length
      · rw [List.getElem?_set_self hl] at e
        have : x = y := by cases x <;> cases y <;> cases e <;> rfl
        subst this
        exact ⟨v, by rw [List.getElem?_set_self (by rw [r.len]; exact hl)], h.mono dropx_le⟩
      · rw [List.getElem?_eq_none (by rw [List.length_set]; omega)] at e; cases e
    · rw [List.getElem?_set_ne hj] at e
      obtain ⟨u, h1, h2⟩ := r.dat j y e
      exact ⟨u, by rw [List.getElem?_set_ne hj]; exact h1, h2.mono dropx_le⟩
  own := fun j t o e => by
    by_cases hj : i = j
    · subst hj
      by_cases hl : i < δ.length
      · rw [List.getElem?_set_self hl] at e; cases x <;> cases e
      · rw [List.getElem?_eq_none (by rw [List.length_set]; omega)] at e; cases e
    · rw [List.getElem?_set_ne hj] at e
      obtain ⟨a, h1, h2, h3, h4⟩ := r.own j t o e
      exact ⟨a, drop_ne h1 (Ne.symm hj), by rw [List.getElem?_set_ne hj]; exact h2, h3.mono dropx_le, h4⟩
  inj := fun j k a h1 h2 => r.inj j k a (drop_some h1).2 (drop_some h2).2
  trk := fun a z => r.trk a (dropx_le a z)
  dis := fun a z q => r.dis a z (drop_le a q)
  pit := r.pit
  ln := r.ln.set fun p z => by cases x <;> cases z
  tab := r.tab
def End3.un (D : End3) (i : Nat) : End3 := { nx := fun δ => D.nx (δ.set i none), rt := D.rt, bk := fun δ => D.bk (δ.set i none), ct := fun δ => D.ct (δ.set i none) }
theorem End3.un_le {D D' : End3} (h : D.le D') (i : Nat) : (D.un i).le (D'.un i) := ⟨fun _ => h.nx _, fun _ _ => h.rt _ _, fun _ => h.bk _, fun _ => h.ct _⟩
theorem tryA3 (i : Nat) {E : XK} {C : Addr} {cn y : Str} {body suite : List Stmt} {b0 : Stmt} {np pos pos' : Pos} {tb : TX3} {ts : Addr → Value → Option Addr → TS3} (hN : X.N.Nodup) (hb : PB3 X body tb)
    (hsu : ∀ (a : Addr) (oe : Obj) (cls : Value) (d : Option Addr) (pn : List (Addr × Obj)), Zc cls d oe → (∃ vs, oe.data = .fields vs) → PSs3 (X.suite a ((a, oe) :: pn)) XF (b0 :: suite) (ts a cls d)) (hm : X.mg cn = some (.ref C))
    (hi : X.N[i]? = some y := by rfl) (hln : X.env.kindOf y = some .local := by rfl) (hs : X.stack = X.env :: X.outer := by rfl) (hf : X.env.frame = some X.env.locals := by rfl) (hg : Gl X cn := by rfl) (hdb : (cn == ("__debug__" : Str)) = false := by decide) :
    PS3 X E (.Try body [.ExceptHandler (some (.Name cn np)) (some y) (b0 :: suite) pos'] [] [] pos) (fun _ D δ => tb (fun ex δ' => (ex.arg = none ∧ PySem.W.exmOne X.K ex.cls (.ref C) = some true) ∧ ∀ a, ts a ex.cls none (fun _ => False) (D.un i) (δ'.set i (some (.ad a)))) D δ) := by
  have sm : ∀ a cls d, MonoS (ts a cls d) := fun a cls d => (hsu a ⟨cls, d, .fields #[], #[]⟩ cls d [] ⟨rfl, rfl⟩ ⟨_, rfl⟩).mono
  refine ⟨fun _ _ _ _ _ _ hd q => hb.mono _ _ _ _ _ (fun ex δ' z => ⟨z.1, fun a => sm _ _ _ _ _ _ _ _ (fun _ z => z) (End3.un_le hd i) (z.2 a)⟩) hd q, (ps_try_as (i := i) (ts := fun a cls d => liftS X.K XF (ts a cls d)) hs hf hN hi hln ⟨hg, hdb, .inl hm⟩ takes0 (fun W pn xe tk po => hb.run W pn xe tk po) (fun a oe cls d pn hz hfd => (hsu a oe cls d pn hz hfd).ps)).imp fun D σ H h => ?_⟩
  obtain ⟨π, F, ρ, δ, rel, q⟩ := h
  refine ⟨π, F, ρ, δ, rel, hb.mono _ _ _ _ _ (fun ex δ' z d σ' H' ρ' e' rel' xo => ?_) ⟨fun _ z => z, fun _ _ z => z, fun _ z => z, fun _ z => z⟩ q⟩
  obtain ⟨⟨z0, z1⟩, z2⟩ := z
  rw [z0] at xo
  have hd : d = none := xo
  subst hd
  refine ⟨true, z1, fun _ a ha => ⟨π, F, _, _, rel'.setV (i := i) (x := .ad a) (v := .ref a) rfl, sm _ _ _ _ _ _ _ _ (fun _ z => z.elim) ⟨fun δ2 q σ2 H2 ρ2 e2 rel2 => ?_, fun r δ2 q v σ2 H2 ρ2 e2 rel2 rr => ?_, fun δ2 q σ2 H2 ρ2 e2 rel2 => ?_, fun δ2 q σ2 H2 ρ2 e2 rel2 => ?_⟩ (z2 a)⟩, fun z => nomatch z⟩
  · exact q _ H2 _ (((e'.trans Ext.drop).trans e2).trans Ext.drop) rel2.setN
  · exact q v σ2 H2 ρ2 ((e'.trans Ext.drop).trans e2) rel2 rr
  · exact q _ H2 _ (((e'.trans Ext.drop).trans e2).trans Ext.drop) rel2.setN
  · exact q _ H2 _ (((e'.trans Ext.drop).trans e2).trans Ext.drop) rel2.setN
end
end M3
set_option Elab.async false
set_option linter.all false
set_option maxRecDepth 100000
set_option maxHeartbeats 4000000
namespace M3
open PySem L2
variable [TabsC]
structure FnAt (P : Program) (w : World) (K : PySem.W.Frag) (mg : Str → Option Value) (base : Heap) (k : Nat) (f : Addr) (S : PrmX) : Prop where
  ex : ∃ fd ps, FnOk P w K mg base (L2.CX P w) k f fd ps (liftF K S.p) ∧ PySem.W.keepIn K (.ref f) = true ∧ Binds K fd ps []
theorem CalX.at {P : Program} {w : World} {K : PySem.W.Frag} {mg : Str → Option Value} {base : Heap} {k : Nat} {x : Str} {ps : List Str} {S : PrmX} (C : CalX P w K mg base k x ps S) : ∃ f, mg x = some (.ref f) ∧ FnAt P w K mg base k f S := by
  obtain ⟨f, fd, F, hm, hk, hb⟩ := C.ex
  exact ⟨f, hm, ⟨fd, ps, F, hk, hb⟩⟩
section
variable {X : Cx} {CX : CXT} {k j i : Nat} {f : Addr} {fd : FuncData} {ps : List Str} {sp : Sp} {E : St → XK} {y : Str} {p pos pos2 : Pos} {e : Expr} {es : List Expr} {t : TA}
end
def tCXv (P : Program) (w : World) (K : PySem.W.Frag) (mg : Str → Option Value) (base : Heap) (i j n : Nat) (t : TV3) (W : Ex3 → Sl → Prop) (δ : Sl) (Q : D → Sl → Prop) : Prop :=
  onAd δ i fun f => ∃ (k : Nat) (S : PrmX), (FnAt P w K mg base k f S ∧ k ≤ j) ∧ tCX S.p n t W δ Q
section
variable {X : Cx} {k j i : Nat} {ps : List Str} {e : Expr} {es : List Expr} {y : Str} {p pos pos2 : Pos} {t : TV3} {n : Nat}
end
section
variable {X : Cx} {E : XK} {es : List Expr} {pat : List (Option Nat)} {t : TV3}
end
def sA (f : Addr → Spec) : Spec := fun ws Q => match ws with | .ad x :: r => f x r Q | _ => False
theorem sA.inv {f ws Q} (h : sA f ws Q) : ∃ x r, ws = .ad x :: r ∧ f x r Q := by
  unfold sA at h; split at h
  · exact ⟨_, _, rfl, h⟩
  · exact h.elim
theorem sA.mono {f} (h : ∀ x, MonoSp (f x)) : MonoSp (sA f) := fun ws Q Q' hq z => by
  obtain ⟨x, r, rfl, z⟩ := sA.inv z; exact h x r Q Q' hq z
end M3
set_option Elab.async false
set_option linter.all false
set_option maxRecDepth 100000
set_option maxHeartbeats 4000000
namespace M3
open PySem L2
variable [TabsC]
def PrmX.quiet (S : PrmX) : PrmC := ⟨fun ws Q => S.p ws Q (fun _ => False), fun _ _ _ h z => S.mono _ _ _ _ _ h (fun _ z => z) z⟩
theorem FnOk.quiet {P : Program} {w : World} {K : PySem.W.Frag} {mg : Str → Option Value} {base : Heap} {k : Nat} {f : Addr} {fd : FuncData} {ps : List Str} {S : PrmX} (F : FnOk P w K mg base (L2.CX P w) k f fd ps (liftF K S.p)) : FnOk P w K mg base CX0 k f fd ps (liftF K S.quiet.p) := by
  have h : ∀ vs H Q E, liftF K S.quiet.p vs H Q E → liftF K S.p vs H Q XF := fun vs H Q E ⟨π, Fo, ρ, ws, h1, h2, h3, h4⟩ => ⟨π, Fo, ρ, ws, h1, h2, h3, S.mono _ _ _ _ _ (fun _ _ z => z) (fun _ z => z.elim) h4⟩
  refine ⟨fun vs H Q E q => F.len vs H Q _ (h _ _ _ _ q), fun A outer s H args us vs Q E hr he hb hv hs => codeAny_mono (F.run A outer s H args us vs Q _ hr he hb hv (h _ _ _ _ hs)) fun r s' q => ?_⟩
  unfold CR at q ⊢
  split at q
  · exact q
  · exact q
  · obtain ⟨_, _, _, _, _, _, _, _, _, _, _, _, z⟩ := q
    exact z
theorem CalX.quiet {P : Program} {w : World} {K : PySem.W.Frag} {mg : Str → Option Value} {base : Heap} {k : Nat} {x : Str} {ps : List Str} {S : PrmX} (C : CalX P w K mg base k x ps S) : CalC P w K mg base k x ps S.quiet := by
  obtain ⟨f, fd, F, hm, hk, hb⟩ := C.ex
  exact ⟨f, fd, FnOk.quiet F, hm, hk, hb⟩
def ccOf (mg : Str → Option Value) (x : Str) : Addr := match mg x with | some (.ref a) => a | _ => 0
theorem ccOf_of {mg : Str → Option Value} {x : Str} {a : Addr} (h : mg x = some (.ref a)) : ccOf mg x = a := by unfold ccOf; rw [h]
structure FnV (P : Program) (w : World) (K : PySem.W.Frag) (mg : Str → Option Value) (base : Heap) (k : Nat) (x : Str) (f : Addr) (S : PrmX) : Prop where
  m : mg x = some (.ref f)
  f : FnAt P w K mg base k f S
theorem CalX.val {P : Program} {w : World} {K : PySem.W.Frag} {mg : Str → Option Value} {base : Heap} {k : Nat} {x : Str} {ps : List Str} {S : PrmX} (C : CalX P w K mg base k x ps S) : FnV P w K mg base k x (ccOf mg x) S := by
  obtain ⟨f, hm, hf⟩ := C.at
  rw [ccOf_of hm]; exact ⟨hm, hf⟩
theorem kit_self {K : PySem.W.Frag} {C : Addr} : PySem.W.kitOne K (.ref C) (.ref C) = some true := if_pos (beq_self_eq_true _)
theorem kit_ne {K : PySem.W.Frag} {A C : Addr} (h1 : PySem.W.subIn K (.ref A) (.ref A) = some true) (h2 : PySem.W.subIn K (.ref A) (.ref C) = some false) (hd : PySem.W.hasDictIn K C = true) (ht : PySem.W.typeIn K (.ref C) = some (.type "type")) : PySem.W.kitOne K (.ref A) (.ref C) = some false := by
  have hne : ((Value.ref A == Value.ref C) = true) → False := fun e => by
    have e2 := eq_of_beq e
    injection e2 with e3
    subst e3
    rw [h1] at h2
    cases h2
  have e2 : ((PySem.W.clsIn K C).isSome && PySem.W.typeIn K (.ref C) == some (.type "type")) = true := by
    rw [ht]
    unfold PySem.W.hasDictIn at hd
    cases h : PySem.W.clsIn K C with
    | none => rw [h] at hd; cases hd
    | some cd => rfl
  unfold PySem.W.kitOne
  rw [if_neg hne]
  show (if ((PySem.W.clsIn K C).isSome && PySem.W.typeIn K (.ref C) == some (.type "type")) = true then PySem.W.subIn K (.ref A) (.ref C) else none) = some false
  rw [if_pos e2]
  exact h2
end M3
set_option Elab.async false
set_option linter.all false
set_option maxRecDepth 100000
set_option maxHeartbeats 4000000
namespace M3
open PySem L2
variable [TabsC]
def isNKey (x : D) : Prop := match x with | .int _ => True | .str _ => True | .none => True | _ => False
def dhas (ds : List (D × D)) (x : D) : Bool := (dgetD ds x).isSome
section
variable {X : Cx} {E : XK} {a b c e f : Expr} {ta tb tc te tf : T3} {pos : Pos}
def rInDc (f : Bool → Bool) : R2 := fun y x H Q => (∃ a o, x = .ref a ∧ DGet H a y o ∧ Q (.bl (f o.isSome)) H) ∨ ∃ a kvs, x = .ref a ∧ y = .non ∧ Rd H a (.dK kvs) ∧ Q (.bl (f false)) H
def rIn4 (f : Bool → Bool) (x y : D) (k : D → Prop) : Prop := match y with | .dict ds => isNKey x ∧ k (.bool (f (dhas ds x))) | _ => rIn3 f x y k
def tInO (f : Bool → Bool) (i : Nat) (ta : T3) : T3 := fun E δ Q => ta E δ fun y δ1 => onDct δ1 i fun _ ds => isNKey y ∧ Q (.bool (f (dhas ds y))) δ1
variable {x : Str} {pos' : Pos}
end
end M3
set_option Elab.async false
set_option linter.all false
set_option maxRecDepth 100000
set_option maxHeartbeats 4000000
namespace M3
open PySem L2
variable [TabsC]
def OA (O : Addr → Prop) (a : Addr) : Addr → Prop := fun b => O b ∨ b = a
section
variable {K : PySem.W.Frag} {O : Addr → Prop} {H : Hp} {a : Addr} {od : Obj} {kv : List (Key × V)} {u : HO}
mutual
theorem Rp.unl (ha : H a = some (.frz od (.dK kv))) : ∀ {v : V} {d : D}, d.plain = true → Rp K O H v d → Rp K (OA O a) (upd H a u) v d
  | _, _, _, .non => .non
  | _, _, _, .bl b => .bl b
  | _, _, _, .int i => .int i
  | _, _, _, .str x => .str x
  | _, _, p, .lst (a := b) h r => by
    have nb : b ≠ a := fun z => by have h1 := h.1; rw [z, ha] at h1; cases h1
    exact .lst ⟨by rw [upd_ne nb]; exact h.1, fun z => z.elim h.2 nb⟩ (RpAll.unl ha p r)
  | _, _, p, .tup (a := b) h r => by
    refine .tup ?_ (RpAll.unl ha p r)
    rcases h with ⟨h, n⟩ | h
    · have nb : b ≠ a := fun z => by
        rcases h with h | ⟨o, h⟩ <;> (rw [z, ha] at h; cases h)
      refine .inl ⟨?_, fun z => z.elim n nb⟩
      rcases h with h | ⟨o, h⟩
      · exact .inl (by rw [upd_ne nb]; exact h)
      · exact .inr ⟨o, by rw [upd_ne nb]; exact h⟩
    · exact .inr h
  | _, _, p, .dic h n r => by cases p
theorem RpAll.unl (ha : H a = some (.frz od (.dK kv))) : ∀ {v : List V} {d : List D}, PyData.plainAll d = true → RpAll K O H v d → RpAll K (OA O a) (upd H a u) v d
  | _, _, _, .nil => .nil
  | _, _, p, .cons r t => .cons (Rp.unl ha (Bool.and_eq_true_iff.mp p).1 r) (RpAll.unl ha (Bool.and_eq_true_iff.mp p).2 t)
end
theorem RpKV.unl (ha : H a = some (.frz od (.dK kv))) : ∀ {v : List (Key × V)} {d : List (D × D)}, PyData.plainAll (d.map (·.2)) = true → RpKV K O H v d → RpKV K (OA O a) (upd H a u) v d
  | _, _, _, .nil => .nil
  | _, _, p, .cons r t => .cons (Rp.unl ha (Bool.and_eq_true_iff.mp p).1 r) (RpKV.unl ha (Bool.and_eq_true_iff.mp p).2 t)
end
theorem TT.unl {K : PySem.W.Frag} {O : Addr → Prop} {H : Hp} {a b : Addr} {od : Obj} {kv : List (Key × V)} {u : HO} {xs : List V} (ha : H a = some (.frz od (.dK kv))) (h : TT K O H b xs) : TT K (OA O a) (upd H a u) b xs := by
  rcases h with ⟨h, n⟩ | h
  · have nb : b ≠ a := fun z => by
      rcases h with h | ⟨o, h⟩ <;> (rw [z, ha] at h; cases h)
    refine .inl ⟨?_, fun z => z.elim n nb⟩
    rcases h with h | ⟨o, h⟩
    · exact .inl (by rw [upd_ne nb]; exact h)
    · exact .inr ⟨o, by rw [upd_ne nb]; exact h⟩
  · exact .inr h
theorem RpTX.unl {K : PySem.W.Frag} {O : Addr → Prop} {H : Hp} {a : Addr} {od : Obj} {kv : List (Key × V)} {u : HO} (ha : H a = some (.frz od (.dK kv))) : ∀ {v : List (Row × Addr × V)} {d : List (D × D)}, PyData.plainAll (d.map (·.2)) = true → RpTX K O H v d → RpTX K (OA O a) (upd H a u) v d
  | _, _, _, .nil => .nil
  | _, _, p, .cons h r t => .cons (TT.unl ha h) (Rp.unl ha (Bool.and_eq_true_iff.mp p).1 r) (RpTX.unl ha (Bool.and_eq_true_iff.mp p).2 t)
def plW (w : Option W) (k : Prop) : Prop := match w with
  | none => k
  | some (.d x) => x.plain = true ∧ k
  | some (.ro xs) => PyData.plainAll xs = true ∧ k
  | some (.own _ (.lst xs)) => PyData.plainAll xs = true ∧ k
  | some (.own _ (.dct ds)) => PyData.plainAll (ds.map (·.2)) = true ∧ k
  | some (.own _ (.dcT ds)) => PyData.plainAll (ds.map (·.2)) = true ∧ k
  | some (.lnt _) => k
  | some (.ad _) => k
  | some (.lk _ _) => False
  | some (.cl _ _) => k
  | some (.fv _ _) => False
def plK : Sl → Nat → Prop → Prop
  | [], _, k => k
  | _ :: r, 0, k => plA r k
  | x :: r, n + 1, k => plW x (plK r n k)
where plA : Sl → Prop → Prop
  | [], k => k
  | x :: r, k => plW x (plA r k)
def plO : Option W → Prop
  | none => True
  | some (.d x) => x.plain = true
  | some (.ro xs) => PyData.plainAll xs = true
  | some (.own _ (.lst xs)) => PyData.plainAll xs = true
  | some (.own _ (.dct ds)) => PyData.plainAll (ds.map (·.2)) = true
  | some (.own _ (.dcT ds)) => PyData.plainAll (ds.map (·.2)) = true
  | some (.lnt _) => True
  | some (.ad _) => True
  | some (.lk _ _) => False
  | some (.cl _ _) => True
  | some (.fv _ _) => False
theorem plW_iff {w : Option W} {k : Prop} : plW w k ↔ plO w ∧ k := by
  unfold plW plO
  split <;> simp
theorem plA_iff : ∀ {δ : Sl} {k : Prop}, plK.plA δ k ↔ (∀ (j : Nat) w, δ[j]? = some w → plO w) ∧ k
  | [], k => by simp [plK.plA]
  | x :: r, k => by
    unfold plK.plA
    rw [plW_iff, plA_iff]
    constructor
    · rintro ⟨h1, h2, h3⟩
      refine ⟨fun j w e => ?_, h3⟩
      cases j with
      | zero => cases e; exact h1
      | succ j => exact h2 j w e
    · rintro ⟨h1, h2⟩
      exact ⟨h1 0 x rfl, fun j w e => h1 (j + 1) w e, h2⟩
theorem plK_iff : ∀ {δ : Sl} {i : Nat} {k : Prop}, plK δ i k ↔ (∀ (j : Nat) w, j ≠ i → δ[j]? = some w → plO w) ∧ k
  | [], i, k => by simp [plK]
  | x :: r, 0, k => by
    unfold plK
    rw [plA_iff]
    constructor
    · rintro ⟨h1, h2⟩
      refine ⟨fun j w hj e => ?_, h2⟩
      cases j with
      | zero => exact absurd rfl hj
      | succ j => exact h1 j w e
    · rintro ⟨h1, h2⟩
      exact ⟨fun j w e => h1 (j + 1) w (by omega) e, h2⟩
  | x :: r, i + 1, k => by
    unfold plK
    rw [plW_iff, plK_iff]
    constructor
    · rintro ⟨h1, h2, h3⟩
      refine ⟨fun j w hj e => ?_, h3⟩
      cases j with
      | zero => cases e; exact h1
      | succ j => exact h2 j w (by omega) e
    · rintro ⟨h1, h2⟩
      exact ⟨h1 0 x (by omega) rfl, fun j w hj e => h1 (j + 1) w (by omega) e, h2⟩
def onLk (δ : Sl) (i : Nat) (a : Addr) (ds : List (D × D)) (k : Prop) : Prop := match δ[i]? with | some (some (.lk b es)) => (b = a ∧ es = ds) ∧ k | _ => False
theorem onLk.to {δ : Sl} {i : Nat} {a : Addr} {ds : List (D × D)} {k : Prop} (h : onLk δ i a ds k) : δ[i]? = some (some (.lk a ds)) ∧ k := by
  unfold onLk at h
  split at h
  · rename_i b es e; obtain ⟨⟨rfl, rfl⟩, h⟩ := h; exact ⟨e, h⟩
  · exact h.elim
theorem onLk.of {δ : Sl} {i : Nat} {a : Addr} {ds : List (D × D)} {k : Prop} (e : δ[i]? = some (some (.lk a ds))) (h : k) : onLk δ i a ds k := by
  unfold onLk
  rw [e]
  exact ⟨⟨rfl, rfl⟩, h⟩
section
variable {X : Cx} {E : XK} {a b c e f : Expr} {ta tb tc te tf : T3} {pos : Pos}
def bEnd (i tg : Nat) (a : Addr) (ds : List (D × D)) (D : End3) : End3 := { nx := fun δ' => normK δ' fun δ' => onLk δ' i a ds (PyData.plainAll (ds.map (·.2)) = true ∧ plK δ' i (D.nx (δ'.set i (some (.own tg (.dct ds)))))), rt := fun _ _ => False, bk := fun _ => False, ct := fun _ => False }
theorem bEnd.nx_iff {i tg : Nat} {a : Addr} {ds : List (D × D)} {D : End3} {δ' : Sl} (h : (bEnd i tg a ds D).nx δ') : δ'[i]? = some (some (.lk a ds)) ∧ PyData.plainAll (ds.map (·.2)) = true ∧ (∀ (j : Nat) w, j ≠ i → δ'[j]? = some w → plO w) ∧ D.nx (δ'.set i (some (.own tg (.dct ds)))) := by
  unfold bEnd at h
  simp only [normK_eq] at h
  obtain ⟨z1, z2, z3⟩ := h.to
  rw [plK_iff] at z3
  exact ⟨z1, z2, z3⟩
theorem bEnd.le {i tg : Nat} {a : Addr} {ds : List (D × D)} {D D' : End3} (hd : D.le D') : (bEnd i tg a ds D).le (bEnd i tg a ds D') := by
  refine ⟨fun δ' z => ?_, fun _ _ z => z, fun _ z => z, fun _ z => z⟩
  obtain ⟨z1, z2, z3, z4⟩ := bEnd.nx_iff z
  unfold bEnd
  simp only [normK_eq]
  exact onLk.of z1 ⟨z2, plK_iff.mpr ⟨z3, hd.nx _ z4⟩⟩
def tBor (i : Nat) (t : TS3) : TS3 := fun E D δ => onDct δ i fun tg ds => ∀ a, t E (bEnd i tg a ds D) (δ.set i (some (.lk a ds)))
def tVL3 (i : Nat) : T3 := fun _ δ Q => match δ[i]? with | some (some (.lk _ ds)) => Q (.dict ds) δ | _ => False
theorem tVL3.to {i : Nat} {E : Ex3 → Prop} {δ : Sl} {Q : D → Sl → Prop} (h : tVL3 i E δ Q) : ∃ a ds, δ[i]? = some (some (.lk a ds)) ∧ Q (.dict ds) δ := by
  unfold tVL3 at h
  split at h
  · exact ⟨_, _, by assumption, h⟩
  · exact h.elim
end
end M3
set_option Elab.async false
set_option linter.all false
set_option maxRecDepth 100000
set_option maxHeartbeats 4000000
namespace M3
open PySem L2
variable [TabsC]
section
variable {X : Cx} {E : XK} {tg a b c e iter kx vx : Expr} {ifs : List Expr} {ta tb tc te tk : T3} {ti : TA3} {tt : TB3} {g : TG3} {vs : List Nat} {pos : Pos} {scope : Scope} {own : List (Str × Nat)}
def tDc3 (ti : TA3) (g : TG3) (tt : TB3) (tk te : T3) (vs : List Nat) : TW3 := fun E δ Q => ti E δ fun ds δ1 => ds.length ≤ sizeLine ∧ ∃ Pv : Nat → List (D × D) → Sl → Prop, Pv 0 [] δ1 ∧
  (∀ i x acc δ2, ds[i]? = some x → Pv i acc δ2 → g x (wipeS δ2 vs) fun δ3 => tt (fun _ => False) δ3 fun b δ4 => br b (tk (fun _ => False) δ4 fun y δ5 => te (fun _ => False) δ5 fun z δ6 => isKey y ∧ Pv (i + 1) (dputD acc y z) (backS δ2 δ6 vs)) (Pv (i + 1) acc (backS δ2 δ4 vs))) ∧
  ∀ acc δ2, Pv ds.length acc δ2 → Q (.dct acc) δ2
def mergeD (ys : List (Option (D × D))) : List (D × D) := ys.foldl (fun acc y => match y with | some kv => dputD acc kv.1 kv.2 | none => acc) []
def tDcN (ti : TA3) (g : TG3) (tt : TB3) (tk te : T3) (vs : List Nat) : TW3 := fun E δ Q => ti E δ fun ds δ1 => ds.length ≤ sizeLine ∧ Ask (∃ ys : List (Option (D × D)), ys.length = ds.length ∧
  (∀ (i : Nat) (x : D), ds[i]? = some x → g x (wipeS δ1 vs) fun δ3 => normK δ3 fun δ3 => tt (fun _ => False) δ3 fun b δ4 => br b (tk (fun _ => False) δ4 fun y δ5 => te (fun _ => False) δ5 fun z δ6 => isKey y ∧ backS δ1 δ6 vs = δ1 ∧ ys[i]? = some (some (y, z))) (backS δ1 δ4 vs = δ1 ∧ ys[i]? = some none)) ∧ Q (.dct (mergeD ys)) δ1)
end
end M3
set_option Elab.async false
set_option linter.all false
set_option maxRecDepth 100000
set_option maxHeartbeats 4000000
namespace M3
open PySem L2
variable [TabsC]
theorem oi_some (a b : Option Int) : decide (a.map (Sum.inl : Int → Key) = b.map Sum.inl) = decide (a = b) := by
  cases a <;> cases b <;> simp
theorem oi_hash (P : Program) (w : World) (k : Option Int) : (noneKind P w).hash (k.map Sum.inl) = oiHash k := by cases k <;> rfl
def oiKind (P : Program) (w : World) : PySem.KeyKind P w (Option Int) where
  is := fun k v => nkIs (k.map Sum.inl) v
  hash := oiHash
  inj := fun v a b ha hb => by
    have h := (noneKind P w).inj v _ _ ha hb
    cases a <;> cases b
    · rfl
    · cases h
    · cases h
    · cases h; rfl
  byValue := fun k v h => (noneKind P w).byValue _ v h
  pyHash := @fun A E s k v Q hv h => (noneKind P w).pyHash (k := k.map Sum.inl) hv (by rw [oi_hash]; exact h)
  eqBool := @fun A E s a b u v Q hu hv h => (noneKind P w).eqBool (a := a.map Sum.inl) (b := b.map Sum.inl) hu hv (by rw [oi_some]; exact h)
  «strs» := fun k x t v h => (noneKind P w).«strs» _ x t v h
abbrev tKind (P : Program) (w : World) : HeapKind P w Row := tupleKind (oiKind P w)
theorem oV_is {k : Option Int} {u : Value} (r : RelV (oV k) u) : nkIs (k.map Sum.inl) u = true := by
  cases k with
  | none => cases (show u = Value.none from r); rfl
  | some i => obtain ⟨t, rfl⟩ := r; exact keyIs_int i t
theorem oItems {P : Program} {w : World} : ∀ {ks : Row} {us : List Value}, Vals (ks.map oV) us → ItemsAre (oiKind P w) ks us
  | [], _, h => by cases h; exact .nil
  | k :: r, _, h => by
    cases h with
    | cons h t => exact .cons (oV_is h) (oItems t)
section
variable {X : Cx} {pins : List (Addr × Obj)} {σ : St} {H : Hp} {s : Shared}
theorem tkey {b : Addr} {ks : Row} (I : Inv X pins σ H s) (h : SqT X.K H b (ks.map oV)) : (tKind X.prog X.w).is s.heap ks b := by
  obtain ⟨its, r, ⟨ob, h1, h2, n, h3⟩, _⟩ := I.tuple h
  exact ⟨ob, its.toArray, n, h1, h2, h3, by simpa using oItems r⟩
def AllK (K : PySem.W.Frag) (H : Hp) (xs : List (Row × Addr × V)) : Prop := ∀ x ∈ xs, SqT K H x.2.1 (x.1.map oV)
theorem pair_mem {α β : Type} {G : α → β → Prop} : ∀ {xs : List α} {ys : List β}, Paired G xs ys → ∀ y ∈ ys, ∃ x ∈ xs, G x y
  | _, _, .nil, y, h => nomatch h
  | _, _, .cons r t, y, h => by
    rcases List.mem_cons.mp h with e | h
    · subst e; exact ⟨_, List.mem_cons_self, r⟩
    · obtain ⟨x, hx, hr⟩ := pair_mem t y h; exact ⟨x, List.mem_cons_of_mem _ hx, hr⟩
theorem tab_at {a : Addr} {xs : List (Row × Addr × V)} (I : Inv X pins σ H s) (e : Rd H a (dTx a xs)) (hk : AllK X.K H xs) :
    (xs.length ≤ sizeLine ∧ (a == sysModules) = false) ∧ ∃ ys, Paired TxP xs ys ∧ s.heap.DictOfH (tKind X.prog X.w) a ys := by
  have ok : ObjOk X.prog X.w H s.heap a (dTx a xs) := rd_of I.hok e
  obtain ⟨⟨z, ob, es, ep, ys, h1, h2, h3, h4, h5, h6⟩, _⟩ := ok
  refine ⟨z, ys, h6, ob, es, ep, h1, h2, h3, ?_, fun y hy => ?_, h5⟩
  · rw [h4]; rfl
  · obtain ⟨x, hx, ⟨e1, e2⟩, _⟩ := pair_mem h6 y hy
    rw [← e1, ← e2]
    exact tkey I (hk x hx)
def xval (xs : List (Row × Addr × V)) (k : Row) : Option V := (xs.find? fun x => decide (x.1 = k)).map fun x => x.2.2
theorem xval_rel {k : Row} : ∀ {xs : List (Row × Addr × V)} {ys : List (Row × Addr × Value)}, Paired TxP xs ys → RelO (xval xs k) ((atKey ys k).map fun p => p.2)
  | _, _, .nil => trivial
  | _, _, .cons (a := x) (b := y) r t => by
    have ih := xval_rel (k := k) t
    unfold xval atKey at ih ⊢
    simp only [List.find?_cons]
    obtain ⟨⟨e1, e2⟩, e3⟩ := r
    rw [← e1]
    by_cases c : x.1 = k
    · simp only [c, decide_true]; exact e3
    · simp only [c, decide_false]; exact ih
def XGet (K : PySem.W.Frag) (H : Hp) (a : Addr) (y : V) (r : Option V) : Prop := ∃ xs k b, Rd H a (dTx a xs) ∧ AllK K H xs ∧ y = .ref b ∧ SqT K H b (k.map oV) ∧ r = xval xs k
theorem relO_isSome {o : Option V} {u : Option Value} (r : RelO o u) : o.isSome = u.isSome := by
  cases o <;> cases u <;> first | rfl | exact r.elim
variable {a : Addr} {y v : V} {o : Option V} {u : Value} {A : Around} {E : Value → Shared → Prop}
theorem x_notIn {Q : Value → Shared → Prop} (hu : A.units + 1 < cLine) (I : Inv X pins σ H s) (g : XGet X.K H a y o) (ry : RelV y u) (h : ∀ s', Inv X pins σ H s' → Q (.bool (!o.isSome)) s') : wpAny (model X.prog X.w) A (compareOp .NotIn u (.ref a)) Q E s := by
  obtain ⟨xs, k, b, e, hk, rfl, eb, rfl⟩ := g
  obtain rfl : u = Value.ref b := ry
  obtain ⟨z, ys, rel, dd⟩ := tab_at I e hk
  refine PyProof.Rows.wpAny_notIn_heap (tupleKind_room_in1 hu) (tkey I eb) z.2 dd ?_
  have q := relO_isSome (xval_rel (k := k) rel)
  rw [Option.isSome_map] at q
  rw [← q]; exact h _ (I.tok _)
theorem relO_some {v : V} {u : Option Value} (r : RelO (some v) u) : ∃ w, u = some w ∧ RelV v w := by
  cases u with
  | none => exact r.elim
  | some w => exact ⟨w, rfl, r⟩
theorem x_get {Q : Value → Shared → Prop} (hu : A.units + 1 < cLine) (I : Inv X pins σ H s) (g : XGet X.K H a y (some v)) (ry : RelV y u) (h : ∀ w' s', Inv X pins σ H s' → RelV v w' → Q w' s') : wpAny (model X.prog X.w) A (getItem (.ref a) u) Q E s := by
  obtain ⟨xs, k, b, e, hk, rfl, eb, l⟩ := g
  obtain rfl : u = Value.ref b := ry
  obtain ⟨z, ys, rel, dd⟩ := tab_at I e hk
  have q := xval_rel (k := k) rel
  rw [← l] at q
  obtain ⟨w', hw, rw'⟩ := relO_some q
  obtain ⟨p, hp, hp2⟩ := Option.map_eq_some_iff.mp hw
  refine wpAny_getItem_heap (tupleKind_room_in1 hu) (tkey I eb) dd hp ?_
  rw [hp2]; exact h w' _ (I.tok _) rw'
def xput (xs : List (Row × Addr × V)) (k : Row) (b : Addr) (v : V) : List (Row × Addr × V) := if (xval xs k).isSome = true then xs.map (fun x => if x.1 = k then (x.1, x.2.1, v) else x) else xs ++ [(k, b, v)]
theorem xput_len {xs : List (Row × Addr × V)} {k : Row} {b : Addr} {v : V} : (xput xs k b v).length ≤ xs.length + 1 := by
  unfold xput
  split
  · rw [List.length_map]; omega
  · rw [List.length_append]; exact Nat.le_refl _
theorem xput_rel {k : Row} {b : Addr} {v : V} {r : Value} (rv : RelV v r) {xs : List (Row × Addr × V)} {ys : List (Row × Addr × Value)} (h : Paired TxP xs ys) : Paired TxP (xput xs k b v) (storedH ys k b r) := by
  have q := relO_isSome (xval_rel (k := k) h)
  rw [Option.isSome_map] at q
  unfold xput storedH
  rw [q]
  split
  · have go : ∀ {xs : List (Row × Addr × V)} {ys : List (Row × Addr × Value)}, Paired TxP xs ys → Paired TxP (xs.map fun x => if x.1 = k then (x.1, x.2.1, v) else x) (ys.map (putAt k r)) := by
      intro xs ys h
      induction h with
      | nil => exact .nil
      | @cons x y xs ys p t ih =>
        refine .cons ?_ ih
        obtain ⟨⟨e1, e2⟩, e3⟩ := p
        unfold putAt
        rw [← e1]
        dsimp only
        by_cases c : x.1 = k
        · rw [if_pos c, if_pos c]; exact ⟨⟨e1.symm ▸ rfl, e2⟩, rv⟩
        · rw [if_neg c, if_neg c]; exact ⟨⟨e1, e2⟩, e3⟩
    exact go h
  · have go : ∀ {xs : List (Row × Addr × V)} {ys : List (Row × Addr × Value)}, Paired TxP xs ys → Paired TxP (xs ++ [(k, b, v)]) (ys ++ [(k, b, r)]) := by
      intro xs ys h
      induction h with
      | nil => exact .cons ⟨⟨rfl, rfl⟩, rv⟩ .nil
      | cons p t ih => exact .cons p ih
    exact go h
theorem dTx_stay {a : Addr} {xs : List (Row × Addr × V)} (h1 h2 : Heap) (h : DTOk a xs h1) (k : ∀ o, h1.get? a = some o → h2.get? a = some o) : DTOk a xs h2 := by
  obtain ⟨z, ob, es, ep, ys, e1, e2⟩ := h
  exact ⟨z, ob, es, ep, ys, k _ e1, e2⟩
theorem dTx_ok {P : Program} {w : World} {H : Hp} {h : Heap} {a : Addr} {xs : List (Row × Addr × V)} (x : DTOk a xs h) : ObjOk P w H h a (dTx a xs) :=
  ⟨x, let ⟨_, ob, _, _, _, e, _⟩ := x; ⟨ob, e⟩, dTx_stay⟩
theorem x_set {xs : List (Row × Addr × V)} {k : Row} {b : Addr} {r : Value} {Q : Unit → Shared → Prop} (hu : A.units + 1 < cLine) (I : Inv X pins σ H s) (e : H a = some (dTx a xs)) (hk : AllK X.K H xs) (eb : SqT X.K H b (k.map oV)) (hl : xs.length < sizeLine) (rv : RelV v r)
    (h : ∀ s', Inv X pins σ (upd H a (dTx a (xput xs k b v))) s' → Q () s') : wpAny (model X.prog X.w) A (setItem (.ref a) (.ref b) r) Q E s := by
  obtain ⟨z, ys, rel, dd⟩ := tab_at I (.inl e) hk
  have hz : ys.length ≤ sizeLine := by rw [← Paired.length rel]; exact z.1
  have hl2 : (xput xs k b v).length ≤ sizeLine := by have := xput_len (xs := xs) (k := k) (b := b) (v := v); omega
  refine wpAny_setItem_heap (hsz := hz) (tupleKind_room_in1 hu) (tkey I eb) dd fun h' dd' hs => h _ ?_
  obtain ⟨q, es, ep, hq, d2, d3, d4, _, d5⟩ := dd'
  exact d_write I (by rw [e]; exact True.intro) hs ⟨q, hq⟩ (dTx_ok ⟨⟨hl2, z.2⟩, q, es, ep, _, hq, d2, d3, d4, d5, xput_rel rv rel⟩)
theorem x_empty (h : Heap) (hb : sysModules < h.objs.size) : DTOk h.objs.size [] (h.push { cls := .type "dict", data := .dict #[] }) :=
  ⟨⟨Nat.zero_le _, beq_eq_false_iff_ne.mpr (Ne.symm (Nat.ne_of_lt hb))⟩, _, #[], 0, [], Heap.get?_push_size _ rfl, ⟨rfl, rfl, rfl⟩, rfl, rfl, List.nodup_nil, .nil⟩
end
end M3
set_option Elab.async false
set_option linter.all false
set_option maxRecDepth 100000
set_option maxHeartbeats 4000000
namespace M3
open PySem L2
variable [TabsC]
def oEq (a b : D) : Bool := match a, b with | .int i, .int j => decide (i = j) | .none, .none => true | _, _ => false
def rowEq : List D → List D → Bool
  | [], [] => true
  | x :: xs, y :: ys => oEq x y && rowEq xs ys
  | _, _ => false
def tEq (a b : D) : Bool := match a, b with | .tuple xs, .tuple ys => rowEq xs ys | _, _ => false
theorem oEq_oD (a b : Option Int) : oEq (oD a) (oD b) = decide (a = b) := by cases a <;> cases b <;> simp [oEq, oD]
theorem rowEq_oD : ∀ a b : Row, rowEq (a.map oD) (b.map oD) = decide (a = b)
  | [], [] => rfl
  | [], _ :: _ => rfl
  | _ :: _, [] => rfl
  | x :: xs, y :: ys => by simp [rowEq, oEq_oD, rowEq_oD xs ys]
theorem tEq_oT (a b : Row) : tEq (oT a) (oT b) = decide (a = b) := rowEq_oD a b
def xgetD (ds : List (D × D)) (k : D) : Option D := (ds.find? fun kv => tEq kv.1 k).map (·.2)
def xputD (ds : List (D × D)) (k v : D) : List (D × D) := if (xgetD ds k).isSome = true then ds.map (fun kv => if tEq kv.1 k = true then (kv.1, v) else kv) else ds ++ [(k, v)]
def oB (d : D) : Bool := match d with | .int _ => true | .none => true | _ => false
def tkB (d : D) : Bool := match d with | .tuple xs => xs.all oB | _ => false
theorem tkB_to {z : D} (h : tkB z = true) : ∃ k, z = oT k := by
  cases z with
  | tuple xs =>
    have go : ∀ xs : List D, xs.all oB = true → ∃ k : Row, xs = k.map oD := fun xs => by
      induction xs with
      | nil => intro _; exact ⟨[], rfl⟩
      | cons x r ih =>
        intro h
        simp only [List.all_cons, Bool.and_eq_true] at h
        obtain ⟨k, rfl⟩ := ih h.2
        cases x <;> first | exact ⟨none :: k, rfl⟩ | exact ⟨some _ :: k, rfl⟩ | cases h.1
    obtain ⟨k, rfl⟩ := go xs h
    exact ⟨k, rfl⟩
  | _ => cases h
section
variable {K : PySem.W.Frag} {O : Addr → Prop} {H : Hp}
theorem RpTX.length : ∀ {xs : List (Row × Addr × V)} {ds : List (D × D)}, RpTX K O H xs ds → xs.length = ds.length
  | _, _, .nil => rfl
  | _, _, .cons h r t => by rw [List.length_cons, List.length_cons, t.length]
theorem RpTX.all : ∀ {xs : List (Row × Addr × V)} {ds : List (D × D)}, RpTX K O H xs ds → AllK K H xs
  | _, _, .nil => fun x hx => nomatch hx
  | _, _, .cons h r t => fun x hx => by
    rcases List.mem_cons.mp hx with e | hx
    · subst e; exact h.sq
    · exact t.all x hx
theorem RpTX.get : ∀ {xs : List (Row × Addr × V)} {ds : List (D × D)}, RpTX K O H xs ds → ∀ k : Row, (xval xs k = none ∧ xgetD ds (oT k) = none) ∨ ∃ v d, xval xs k = some v ∧ xgetD ds (oT k) = some d ∧ Rp K O H v d
  | _, _, .nil, k => .inl ⟨rfl, rfl⟩
  | _, _, .cons (k := j) (b := b) (v := v) (vs := vs) (d := d) (ds := ds) h r t, k => by
    have ih := t.get k
    unfold xval xgetD at ih ⊢
    simp only [List.find?_cons, tEq_oT]
    by_cases e : j = k
    · simp only [e, decide_true]; exact .inr ⟨v, d, rfl, rfl, r⟩
    · simp only [e, decide_false]; exact ih
theorem RpTX.repl {k : Row} {v : V} {d : D} (hv : Rp K O H v d) : ∀ {xs : List (Row × Addr × V)} {ds : List (D × D)}, RpTX K O H xs ds → RpTX K O H (xs.map fun x => if x.1 = k then (x.1, x.2.1, v) else x) (ds.map fun kv => if tEq kv.1 (oT k) = true then (kv.1, d) else kv)
  | _, _, .nil => .nil
  | _, _, .cons (k := j) h r t => by
    simp only [List.map_cons, tEq_oT, decide_eq_true_eq]
    by_cases e : j = k
    · rw [if_pos e, if_pos e]; exact .cons h hv (t.repl hv)
    · rw [if_neg e, if_neg e]; exact .cons h r (t.repl hv)
theorem RpTX.snoc {k : Row} {b : Addr} {v : V} {d : D} (hb : TT K O H b (k.map oV)) (hv : Rp K O H v d) : ∀ {xs : List (Row × Addr × V)} {ds : List (D × D)}, RpTX K O H xs ds → RpTX K O H (xs ++ [(k, b, v)]) (ds ++ [(oT k, d)])
  | _, _, .nil => .cons hb hv .nil
  | _, _, .cons h r t => .cons h r (t.snoc hb hv)
theorem RpTX.put {xs : List (Row × Addr × V)} {ds : List (D × D)} (h : RpTX K O H xs ds) {k : Row} {b : Addr} {v : V} {d : D} (hb : TT K O H b (k.map oV)) (hv : Rp K O H v d) : RpTX K O H (xput xs k b v) (xputD ds (oT k) d) := by
  unfold xput xputD
  rcases h.get k with ⟨g1, g2⟩ | ⟨v', d', g1, g2, _⟩
  · rw [g1, g2]; exact h.snoc hb hv
  · rw [g1, g2]; exact h.repl hv
theorem rp_oD {v : V} {k : Option Int} (h : Rp K O H v (oD k)) : v = oV k := by
  cases k <;> (cases h; rfl)
theorem rpall_oD : ∀ {vs : List V} {k : Row}, RpAll K O H vs (k.map oD) → vs = k.map oV
  | [], [], _ => rfl
  | _ :: _, [], h => by cases h
  | [], _ :: _, h => by cases h
  | v :: vs, k :: ks, h => by
    cases h with
    | cons h t => rw [rp_oD h, rpall_oD t]; rfl
theorem rp_row {v : V} {k : Row} (h : Rp K O H v (oT k)) : ∃ b, v = .ref b ∧ TT K O H b (k.map oV) := by
  cases h with
  | tup ht hr => rw [rpall_oD hr] at ht; exact ⟨_, rfl, ht⟩
end
def onTab (δ : Sl) (i : Nat) (k : Nat → List (D × D) → Prop) : Prop := match δ[i]? with | some (some (.own t (.dcT xs))) => k t xs | _ => False
theorem onTab.to {δ : Sl} {i : Nat} {k : Nat → List (D × D) → Prop} (h : onTab δ i k) : ∃ t xs, δ[i]? = some (some (.own t (.dcT xs))) ∧ k t xs := by
  unfold onTab at h
  split at h
  · exact ⟨_, _, by assumption, h⟩
  · exact h.elim
theorem onTab.of {δ : Sl} {i t : Nat} {xs : List (D × D)} {k : Nat → List (D × D) → Prop} (e : δ[i]? = some (some (.own t (.dcT xs)))) (h : k t xs) : onTab δ i k := by
  unfold onTab
  rw [e]
  exact h
section
variable {X : Cx} {E : XK} {a b c e f : Expr} {ta tb tc te tf : T3} {pos : Pos} {x : Str} {pos' : Pos}
theorem pe_x1 {tk tv : TE} (hu : X.A.units + 64 < cLine) (hk : PE X a tk) (hv : PE X b tv) : PE X (.Dict [some a] [b] pos) (fun σ H Q => ∀ p, H p = none → tk σ (upd H p (dTx p [])) fun x H1 => tv σ H1 fun y H2 => ∃ k d, x = .ref d ∧ SqT X.K H2 d (k.map oV) ∧ H2 p = some (dTx p []) ∧ Q (.ref p) (upd H2 p (dTx p [(k, d, y)]))) := by
  refine ⟨fun pins s σ H Q I q => ?_⟩
  have hn := I.hok.fresh (Nat.le_refl s.heap.objs.size)
  have I1 := I.laid (a := s.heap.objs.size) (o := dTx s.heap.objs.size []) (h' := s.heap.push { cls := .type "dict", data := .dict #[] }) (t' := s.toks) (fun _ _ q => Heap.get?_push_of_some _ q) (Nat.le_refl _) (dTx_ok (x_empty s.heap I.big))
  rw [arm_eval_Dict, zip_pairTrees [some a] [b] X.env pos rfl rfl, dictDisplay_pairs _ (by rw [pairTrees]; exact List.cons_ne_nil _ _) (by rw [pairTrees_length _ _ _ _ rfl rfl]; show 1 < 17; omega)]
  refine wpAny_bind (wpAny_standAt (wpAny_bind (wpAny_subDictH (knd := tKind X.prog X.w) (show X.A.units < cLine by omega) (by rw [pairTrees_length _ _ _ _ rfl rfl]; show 1 ≤ 15; omega) ?_)))
  refine thn ((pps_cons hk hv pps_nil).run pins _ σ _ (fun ps H2 => match ps with | [(x, y)] => ∃ k d, x = .ref d ∧ SqT X.K H2 d (k.map oV) ∧ H2 s.heap.objs.size = some (dTx s.heap.objs.size []) ∧ Q (.ref s.heap.objs.size) (upd H2 s.heap.objs.size (dTx s.heap.objs.size [(k, d, y)])) | _ => False) I1 (q _ hn)) fun ws s2 ⟨ps, H2, I2, rel, q2⟩ => ?_
  split at q2
  · rename_i x y
    obtain ⟨k, d, rfl, e2, e3, q2⟩ := q2
    cases rel with
    | @cons _ w _ ws r t =>
      cases t
      obtain ⟨r1, r2⟩ := r
      obtain ⟨w1, w2⟩ := w
      obtain rfl : w1 = Value.ref d := r1
      obtain ⟨z, ys, rl, dd⟩ := tab_at I2 (.inl e3) (fun x hx => nomatch hx)
      cases rl
      refine ⟨[(k, d, w2)], ⟨rfl, rfl, tkey I2 e2, trivial⟩, dd, fun h' tk dd' hs => ?_⟩
      refine wpAny_pure ⟨.ref s.heap.objs.size, _, ?_, rfl, q2⟩
      obtain ⟨ob, es, ep, hq, d2, d3, d4, _, d5⟩ := dd'
      exact d_write I2 (by rw [e3]; exact True.intro) hs ⟨ob, hq⟩ (dTx_ok ⟨⟨by show 1 ≤ sizeLine; decide, z.2⟩, ob, es, ep, _, hq, d2, d3, d4, d5, .cons ⟨⟨rfl, rfl⟩, r2⟩ .nil⟩)
  · exact q2.elim
theorem otab1 {tk tv : T3} (hu : X.A.units + 64 < cLine) (hk : PE3 X E a tk) (hv : PE3 X E b tv) : POw X E (.Dict [some a] [b] pos) (fun E δ Q => tk E δ fun x δ1 => tv E δ1 fun y δ2 => tkB x = true ∧ Q (.dcT [(x, y)]) δ2) := by
  refine ⟨fun _ _ _ _ _ he hq q => hk.mono _ _ _ _ _ he (fun x δ1 => hv.mono _ _ _ _ _ he fun y δ2 z => ⟨z.1, hq _ _ z.2⟩) q, (pe_x1 hu hk.pe hv.pe).imp fun σ H Q q => ?_⟩
  obtain ⟨π, F, ρ, δ, rel, q⟩ := q
  intro p hp
  have np0 : ¬ Ox F ρ p := rel.fresh hp
  refine ⟨π, FD F p, ρ, δ, rel.addF hp, hk.mono _ _ _ _ _ (liftX.mono (Ext.same (same_upd hp))) (fun x δ1 q v H1 ρ1 e1 rel1 r1 => ?_) q⟩
  refine ⟨π, FD F p, ρ1, δ1, rel1, hv.mono _ _ _ _ _ (liftX.mono ((Ext.same (same_upd hp)).trans e1)) (fun y δ2 q u H2 ρ2 e2 rel2 r2 => ?_) q⟩
  obtain ⟨q1, q2⟩ := q
  obtain ⟨k, rfl⟩ := tkB_to q1
  have r1' := r1.ext e2.frn fun _ => .inl
  obtain ⟨d, rfl, td⟩ := rp_row r1'
  have nw : ¬ Ow ρ2 p := rel2.dis p (.inr rfl)
  have nw0 : ¬ Ow ρ p := fun z => np0 (.inl z)
  have e12 := e1.trans e2
  have hH2 : H2 p = some (dTx p []) := e12.fr p _ upd_same nw0 rfl
  refine ⟨k, d, rfl, td.sq, hH2, ?_⟩
  obtain ⟨rel3, ex3⟩ := rel2.updF (d := p) (o := dTx p [(k, d, u)]) (.inr rfl) hH2 ⟨rfl, rfl⟩
  have np : ∀ i, π i ≠ some p := fun i z => by
    obtain ⟨w, h⟩ := rel.pit i p z
    rw [hp] at h; cases h
  have nF : ¬ F p := fun z => np0 (.inr z)
  have rel4 := rel3.adopt (k := δ2.length) (Nat.le_refl _) nF np
  have po : ∀ c, c = p → Ox (FD F p) ρ2 c := fun c z => by rw [z]; exact .inr (.inr rfl)
  have lex : ∀ c, Ox F (own1 ρ2 δ2.length p) c → Ox (FD F p) ρ2 c := fun c z => by
    rcases z with z | z
    · rcases own1_le c z with z | z
      · exact .inl z
      · exact .inr (.inr z)
    · exact .inr (.inl z)
  refine q2 p _ (own1 ρ2 δ2.length p) δ2.length ⟨fun c o hc n ht => ?_, fun c z => ?_, fun c o hc => ?_, ((Tb.fresh hp).trans e12.tb).trans ex3.tb⟩ rel4 (Nat.le_refl _) (by unfold own1; rw [if_pos rfl]) np ⟨_, upd_same, .cons ((td.ext ex3 po).mono lex) ((r2.ext ex3 po).mono lex) .nil⟩
  · have nc : c ≠ p := fun z => by rw [z, hp] at hc; cases hc
    rw [upd_ne nc]
    exact e12.fr c o (by rw [upd_ne nc]; exact hc) n ht
  · rcases own1_le c z with z | z
    · rcases e12.ow c z with w | w
      · exact .inl w
      · by_cases nc : c = p
        · rw [nc]; exact .inr hp
        · rw [upd_ne nc] at w; exact .inr w
    · rw [z]; exact .inr hp
  · have nc : c ≠ p := fun z => by rw [z, hp] at hc; cases hc
    obtain ⟨o', h'⟩ := e12.tk c o (by rw [upd_ne nc]; exact hc)
    exact ⟨o', by rw [upd_ne nc]; exact h'⟩
def rInX (K : PySem.W.Frag) (f : Bool → Bool) : R2 := fun y x H Q => ∃ a o, x = .ref a ∧ XGet K H a y o ∧ Q (.bl (f o.isSome)) H
theorem op_notInX (hu : X.A.units + 64 < cLine) : OpR X (compareOp .NotIn) (rInX X.K not) := by
  intro pins s σ H y x u v Q I ry rx h
  obtain ⟨a, o, rfl, g, q⟩ := h
  obtain rfl : v = Value.ref a := rx
  exact x_notIn (by omega) I g ry fun s' I' => ⟨.bl (!o.isSome), H, I', rfl, q⟩
def tInX (f : Bool → Bool) (i : Nat) (ta : T3) : T3 := fun E δ Q => ta E δ fun y δ1 => onTab δ1 i fun _ ds => tkB y = true ∧ Q (.bool (f (xgetD ds y).isSome)) δ1
theorem mono_tInX {f i} (h : Mono3 ta) : Mono3 (tInX f i ta) := fun _ _ _ _ _ hx hq q => h _ _ _ _ _ hx (fun y δ1 z => by
  obtain ⟨t, ds, e, z1, z2⟩ := z.to
  exact onTab.of e ⟨z1, hq _ _ z2⟩) q
theorem lift_inX {f : Bool → Bool} {i : Nat} (ha : Mono3 ta) {σ : St} {H : Hp} {Q : VK} (h : lift X.K E (Rp X.K) (tInX f i ta) σ H Q) : tOp (rInX X.K f) (lift X.K E (Rp X.K) ta) (tVar i) σ H Q := by
  obtain ⟨π, F, ρ, δ, rel, q⟩ := h
  refine ⟨π, F, ρ, δ, rel, ha _ _ _ _ _ (fun _ z => z) (fun y δ1 q v H1 ρ1 e1 rel1 r1 => ?_) q⟩
  obtain ⟨t, ds, e, q1, q2⟩ := q.to
  obtain ⟨a, _, hσ, ⟨xs, h3, h4⟩, _⟩ := rel1.own i _ _ e
  obtain ⟨k, rfl⟩ := tkB_to q1
  obtain ⟨b, rfl, tb⟩ := rp_row r1
  refine ⟨_, hσ, a, xval xs k, rfl, ⟨xs, k, b, .inl h3, h4.all, rfl, tb.sq, rfl⟩, ?_⟩
  have : (xval xs k).isSome = (xgetD ds (oT k)).isSome := by
    rcases h4.get k with ⟨g1, g2⟩ | ⟨v, d, g1, g2, g3⟩ <;> rw [g1, g2] <;> rfl
  rw [this]
  exact q2 _ H1 ρ1 e1 rel1 (.bl _)
theorem notInX3T (i : Nat) (hu : X.A.units + 64 < cLine) (ha : PE3 X E a ta) (hN : X.N[i]? = some x := by rfl) (hv : Vis X.env.scope x := by first | exact Or.inl rfl | exact Or.inr (Or.inl rfl) | exact Or.inr (Or.inr rfl)) (hd : (x == ("__debug__" : Str)) = false := by decide) (hcd : (x == ("__classdict__" : Str)) = false := by decide) :
    PT3 X E (.Compare a [.NotIn] [.Name x pos'] pos) (tBool (tInX not i ta)) := ⟨mono_tBool (mono_tInX ha.mono), (pt_cmpR (op_notInX hu) ha.pe (pe_var hN hv hd hcd) rfl).imp fun _ _ _ h => lift_inX ha.mono (lift_bool (mono_tInX ha.mono) h)⟩
def rIxX (K : PySem.W.Frag) : R2 := fun x y H Q => ∃ a v, x = .ref a ∧ XGet K H a y (some v) ∧ Q v H
theorem pe_ixX {td ty : TE} (hu : X.A.units + 64 < cLine) (ho : PE X a td) (hi : PE X b ty) (hs : NoSl b) : PE X (.Subscript a b pos) (tOp (rIxX X.K) td ty) := by
  refine ⟨fun pins s σ H Q I h => ?_⟩
  refine subD_of PySem.F.slot_dict_getitem.lookup hs (thn (ho.run pins s σ H _ I h) fun u s1 ⟨x, H1, I1, rx, q1⟩ => thn (hi.run pins s1 σ H1 _ I1 q1) fun iv s2 ⟨y, H2, I2, ry, d, v, ex, g, q2⟩ => ?_)
  subst ex
  obtain rfl : u = Value.ref d := rx
  obtain ⟨xs, k, b', e, hk, ey, eb, l⟩ := id g
  exact ⟨(tab_at I2 e hk).2.choose_spec.2.typeIs, x_get (by omega) I2 g ry fun w' s3 I3 rw' => ⟨v, H2, I3, rw', q2⟩⟩
def tIxX (i : Nat) (tb : T3) : T3 := fun E δ Q => onTab δ i fun _ _ => tb E δ fun y δ1 => onTab δ1 i fun _ ds => tkB y = true ∧ Ask (∃ d, xgetD ds y = some d ∧ Q d δ1)
theorem ixX3 (i : Nat) (hu : X.A.units + 64 < cLine) (hb : PE3 X E b tb) (hs : NoSl b := by exact fun _ _ => rfl) (hN : X.N[i]? = some x := by rfl) (hv : Vis X.env.scope x := by first | exact Or.inl rfl | exact Or.inr (Or.inl rfl) | exact Or.inr (Or.inr rfl)) (hd : (x == ("__debug__" : Str)) = false := by decide) (hcd : (x == ("__classdict__" : Str)) = false := by decide) :
    PE3 X E (.Subscript (.Name x pos') b pos) (tIxX i tb) := by
  refine ⟨fun _ _ _ _ _ hx hq q => ?_, (pe_ixX hu (pe_var hN hv hd hcd) hb.pe hs).imp fun σ H Q h => ?_⟩
  · obtain ⟨t, ds, e, q⟩ := q.to
    refine onTab.of e (hb.mono _ _ _ _ _ hx (fun y δ1 z => ?_) q)
    obtain ⟨t, ds, e, z1, ⟨⟨d, z2, z3⟩⟩⟩ := z.to
    exact onTab.of e ⟨z1, ⟨⟨d, z2, hq _ _ z3⟩⟩⟩
  · obtain ⟨π, F, ρ, δ, rel, q⟩ := h
    obtain ⟨t, ds, e, q⟩ := q.to
    obtain ⟨a, _, hσ, _, _⟩ := rel.own i _ _ e
    refine ⟨_, hσ, π, F, ρ, δ, rel, hb.mono _ _ _ _ _ (fun _ z => z) (fun y δ1 q v H1 ρ1 e1 rel1 r1 => ?_) q⟩
    obtain ⟨t, ds, e', q1, ⟨⟨d, q2, q3⟩⟩⟩ := q.to
    obtain ⟨a', ha', hσ', ⟨xs, h3, h4⟩, _⟩ := rel1.own i _ _ e'
    rw [hσ] at hσ'; cases hσ'
    obtain ⟨k, rfl⟩ := tkB_to q1
    obtain ⟨b, rfl, tb⟩ := rp_row r1
    rcases h4.get k with ⟨g1, g2⟩ | ⟨w, d', g1, g2, g3⟩
    · rw [g2] at q2; cases q2
    rw [g2] at q2; cases q2
    exact ⟨a, w, rfl, ⟨xs, k, b, .inl h3, h4.all, rfl, tb.sq, g1.symm⟩, q3 _ H1 ρ1 e1 rel1 g3⟩
theorem ps_xset {td ty tv : TE} {i : Expr} {p' : Pos} (hu : X.A.units + 64 < cLine) (ho : PE X a td) (hi : PE X b ty) (hv : PE X e tv) (hs : swapsWith e (some (.Subscript a b p')) pos.line X.env = pure false) :
    PS X (.Assign [.Subscript a b p'] e pos) (fun D σ H => tv σ H fun v H1 => td σ H1 fun x H2 => ty σ H2 fun y H3 => ∃ a xs k b, x = .ref a ∧ y = .ref b ∧ H3 a = some (dTx a xs) ∧ AllK X.K H3 xs ∧ SqT X.K H3 b (k.map oV) ∧ xs.length < sizeLine ∧ D.nx σ (upd H3 a (dTx a (xput xs k b v)))) := by
  refine ⟨fun pins s σ H D I h => ?_⟩
  refine wpAny_Assign_Subscript (thn (hv.run pins s σ H _ I h) fun r s1 ⟨v, H1, I1, rv, q1⟩ => thn (ho.run pins s1 σ H1 _ I1 q1) fun u s2 ⟨x, H2, I2, rx, q2⟩ => thn (hi.run pins s2 σ H2 _ I2 q2) fun iv s3 ⟨y, H3, I3, ry, c, xs, k, d, ex, ey, e1, e2, e3, e4, q3⟩ => ?_) hs
  subst ex ey
  obtain rfl : u = Value.ref c := rx
  obtain rfl : iv = Value.ref d := ry
  exact x_set (by omega) I3 e1 e2 e3 e4 rv fun s4 I4 => ⟨σ, _, I4, q3⟩
theorem setX3 (i : Nat) {p' : Pos} (hu : X.A.units + 64 < cLine) (he : PE3 X E e te) (hb : PE3 X E b tb) (hN : X.N[i]? = some x := by rfl) (hv : Vis X.env.scope x := by first | exact Or.inl rfl | exact Or.inr (Or.inl rfl) | exact Or.inr (Or.inr rfl)) (hd : (x == ("__debug__" : Str)) = false := by decide)
    (hcd : (x == ("__classdict__" : Str)) = false := by decide) (hs : swapsWith e (some (.Subscript (.Name x pos') b p')) pos.line X.env = pure false := by rfl) :
    PS3 X E (.Assign [.Subscript (.Name x pos') b p'] e pos) (fun E D δ => te E δ fun y δ1 => onTab δ1 i fun _ _ => tb E δ1 fun z δ2 => onTab δ2 i fun t ds => (tkB z = true ∧ ds.length < sizeLine) ∧ D.nx (δ2.set i (some (.own t (.dcT (xputD ds z y)))))) := by
  refine ⟨fun _ _ _ _ _ hx hd q => he.mono _ _ _ _ _ hx (fun y δ1 z => ?_) q, (ps_xset (i := e) hu (pe_var hN hv hd hcd) hb.pe he.pe hs).imp fun D σ H h => ?_⟩
  · obtain ⟨t, xs, e, z⟩ := z.to
    refine onTab.of e (hb.mono _ _ _ _ _ hx (fun w δ2 z => ?_) z)
    obtain ⟨t, xs, e, q1, q2⟩ := z.to
    exact onTab.of e ⟨q1, hd.nx _ q2⟩
  · obtain ⟨π, F, ρ, δ, rel, q⟩ := h
    refine ⟨π, F, ρ, δ, rel, he.mono _ _ _ _ _ (fun _ z => z) (fun y δ1 q w H1 ρ1 e1 rel1 r1 => ?_) q⟩
    obtain ⟨t, xs, e, q⟩ := q.to
    obtain ⟨a, _, hσ, _, _⟩ := rel1.own i _ _ e
    refine ⟨_, hσ, π, F, ρ1, δ1, rel1, hb.mono _ _ _ _ _ (liftX.mono e1) (fun z δ2 q w2 H2 ρ2 e2 rel2 r2 => ?_) q⟩
    obtain ⟨t, ds, e', ⟨q1, q1'⟩, q2⟩ := q.to
    obtain ⟨k, rfl⟩ := tkB_to q1
    obtain ⟨b, rfl, tb⟩ := rp_row r2
    obtain ⟨a', ha', hσ', ⟨kvs, h3', h4'⟩, _⟩ := rel2.own i _ _ e'
    rw [hσ] at hσ'; cases hσ'
    refine ⟨a, kvs, k, b, rfl, rfl, h3', h4'.all, tb.sq, by rw [h4'.length]; exact q1', ?_⟩
    have r1' := r1.ext e2.frn fun _ => .inl
    obtain ⟨r3, e3⟩ := rel2.setO (o' := .dcT (xputD ds (oT k) y)) (u := dTx a (xput kvs k b w)) e' ha' fun H' hH' keep ktb => ⟨_, hH', (h4'.put tb r1').ext (P := Ow ρ2) ⟨fun b o hb n _ => keep b o (fun z => n (by rw [z]; exact ⟨i, ha'⟩)) hb, fun _ z => .inl z, fun b o hb => by
      by_cases z : b = a
      · rw [z]; exact ⟨_, hH'⟩
      · exact ⟨o, keep b o z hb⟩, ktb⟩ fun _ => .inl⟩
    exact q2 σ _ ρ2 ((e1.trans e2).trans e3) r3
end
end M3
set_option Elab.async false
set_option linter.all false
set_option maxRecDepth 100000
set_option maxHeartbeats 4000000
namespace M3
open PySem L2
variable [TabsC]
section
variable {X : Cx} {E : XK} {a b c e f : Expr} {ta tb tc te tf : T3} {pos : Pos} {x : Str} {pos' : Pos}
def asPair1 (x : D) (k : D → D → Prop) : Prop := match x with | .list [.tuple [a, b]] => k a b | _ => False
theorem asPair1.to {x : D} {k : D → D → Prop} (h : asPair1 x k) : ∃ a b, x = .list [.tuple [a, b]] ∧ k a b := by
  unfold asPair1 at h
  split at h
  · exact ⟨_, _, rfl, h⟩
  · exact h.elim
end
end M3
set_option Elab.async false
set_option linter.all false
set_option maxRecDepth 100000
set_option maxHeartbeats 4000000
namespace M3
open PySem PySem.Spec PyProof.Rows L2
variable [TabsC]
section
variable {prog : Program} {w : World} {A : Around} {R : Result → Shared → Prop} {s : Shared} {elt : Expr} {gens : List Comprehension} {scope : Scope} {pos : Pos} {it acc : Value} {env : Env} {t0 i0 : Expr} {ifs0 : List Expr} {n : Nat}
def Piece (prog : Program) (w : World) (A : Around) (elt : Expr) (gens : List Comprehension) (scope : Scope) (pos : Pos) (acc : Value) (env : Env) (E : Value → Shared → Prop) (n : Nat) (Post : Shared → Prop) (s : Shared) : Prop := match gens[n]? with
  | some g' => wpAny (model prog w) A (eval g'.iter env) (fun x s₄ => wpAny (model prog w) A (pyIter x) (fun it1 s₅ =>
      codeAny (model prog w) A (.compStart (.ListComp elt gens scope pos) n it1 acc env) (fun r s' => match r with
        | .ok _ => Post s'
        | .error _ => False) s₅) E s₄) E s
  | none => wpAny (model prog w) A (eval elt env) (fun x s₄ => wpAny (model prog w) A (call (.builtin "list.append") [acc, x]) (fun _ s₅ => Post s₅) E s₄) E s
theorem Piece.mono {E : Value → Shared → Prop} {P P' : Shared → Prop} (h : Piece prog w A elt gens scope pos acc env E n P s) (k : ∀ s, P s → P' s) : Piece prog w A elt gens scope pos acc env E n P' s := by
  unfold Piece at h ⊢
  split at h
  · refine wpAny_mono h (fun x s4 h => wpAny_mono h (fun it1 s5 h => codeAny_mono h fun r s' h => ?_) fun _ _ z => z) fun _ _ z => z
    cases r with
    | ok f => exact k _ h
    | error e => exact h
  · exact wpAny_mono h (fun x s4 h => wpAny_mono h (fun _ s5 h => k _ h) fun _ _ z => z) fun _ _ z => z
end
structure ClR where
  tg : Expr
  iter : Expr
  ifs : List Expr
  wi : TI
  g : TG
  tt : L2.TT
  vs : List Nat
def ClR.c (c : ClR) : Comprehension := ⟨c.tg, c.iter, c.ifs, 0⟩
def tIn (L : Addr) (te : TE) : List ClR → L2.St → Hp → (Hp → Prop) → Prop
  | [], σ, H, Nx => te σ H fun y H7 => ∃ acc, H7 L = some (.lst acc) ∧ acc.length < sizeLine ∧ Nx (upd H7 L (.lst (acc ++ [y])))
  | c :: cs, σ, H, Nx => c.wi σ H fun J1 H4 => ∃ W1 : Nat → Nat → Hp → Prop, (∃ m, W1 0 m H4) ∧ ∀ j k H, W1 j k H →
      (J1.stop j H ∧ Nx H) ∨ (J1.go j H ∧ ∃ Nx1 : Hp → Prop, (∀ H', Nx1 H' → ∃ k', k' < k ∧ W1 (j + 1) k' H') ∧ ∀ x H', J1.yld j H x H' → c.g x (wipe σ c.vs) H' fun σ3 H5 => wipe σ3 c.vs = wipe σ c.vs ∧ c.tt σ3 H5 fun b H6 =>
        if b = true then tIn L te cs σ3 H6 Nx1 else Nx1 H6)
def Knows (vs : List Nat) (σ σ' : L2.St) : Prop := σ'.length = σ.length ∧ ∀ (j : Nat) v, j ∉ vs → σ[j]? = some (some v) → σ'[j]? = some (some v)
theorem Knows.trans {vs : List Nat} {a b c : L2.St} (h : Knows vs a b) (k : Knows vs b c) : Knows vs a c := ⟨k.1.trans h.1, fun j v n e => k.2 j v n (h.2 j v n e)⟩
def hdvs : List ClR → List Nat
  | [] => []
  | c :: _ => c.vs
def NestV : List ClR → Prop
  | [] => True
  | c :: cs => (∀ i ∈ hdvs cs, i ∈ c.vs) ∧ NestV cs
section
variable {Y : Cx} {elt : Expr} {gens : List Comprehension} {scope : Scope} {pos : Pos} {te : TE} {L : Addr}
end
def tLcN (c0 : ClR) (cs : List ClR) (te : TE) : TE := fun σ H Q => c0.wi σ H fun J H1 => ∀ L, H1 L = none → ∃ W : Nat → Nat → Hp → Prop, (∃ m, W 0 m (upd H1 L (.lst []))) ∧ ∀ i m H, W i m H →
  (J.stop i H ∧ Q (.ref L) H) ∨ (J.go i H ∧ ∃ Nx : Hp → Prop, (∀ H', Nx H' → ∃ m', m' < m ∧ W (i + 1) m' H') ∧ ∀ x H', J.yld i H x H' → c0.g x (wipe σ c0.vs) H' fun σ2 H2 => wipe σ2 c0.vs = wipe σ c0.vs ∧ c0.tt σ2 H2 fun b H3 =>
    if b = true then tIn L te cs σ2 H3 Nx else Nx H3)
structure ClIn (Y : Cx) (c : ClR) : Prop where
  i : PI Y c.tg c.iter c.wi
  g : PG Y c.tg c.g
  t : PTs Y c.ifs c.tt
section
variable {X : Cx}
end
section
variable {X : Cx}
end
structure Cl3 where
  tg : Expr
  iter : Expr
  ifs : List Expr
  ti : TA3
  g : TG3
  tt : TB3
  vs : List Nat
def Cl3.r (K : PySem.W.Frag) (E : XK) (c : Cl3) : ClR := ⟨c.tg, c.iter, c.ifs, liftI K E c.ti, liftG K c.vs c.g, lift K XF RBl c.tt, c.vs⟩
structure Cl3.Mono (c : Cl3) : Prop where
  ti : Mono3 c.ti
  g : MonoG c.g
  tt : Mono3 c.tt
def nox : Ex3 → Prop := fun _ => False
def tIn3 (te : T3) : List Cl3 → Sl → List D → (List D → Sl → Prop) → Prop
  | [], δ, acc, k => te nox δ fun y δ' => acc.length < sizeLine ∧ k (acc ++ [y]) δ'
  | c :: cs, δ, acc, k => c.ti nox δ fun ds δ1 => ∃ Pv : Nat → List D → Sl → Prop, Pv 0 acc δ1 ∧
      (∀ i x acc δ2, ds[i]? = some x → Pv i acc δ2 → c.g x (wipeS δ2 c.vs) fun δ3 => c.tt nox δ3 fun b δ4 => br b (tIn3 te cs δ4 acc fun acc' δ5 => Pv (i + 1) acc' (backS δ2 δ5 c.vs)) (Pv (i + 1) acc (backS δ2 δ4 c.vs))) ∧
      ∀ acc δ2, Pv ds.length acc δ2 → k acc δ2
abbrev ExL (L : Addr) (ρ : Rho) (H : Hp) (ρ' : Rho) (H' : Hp) : Prop := Ext (fun b => Ow ρ b ∨ b = L) (Ow ρ) H (Ow ρ') H'
section
variable {K : PySem.W.Frag} {π : Rho} {F : Addr → Prop} {L : Addr} {ρ ρ1 ρ2 : Rho} {H H1 H2 : Hp}
theorem ExL.of (e : Ext (Ow ρ) (Ow ρ) H (Ow ρ1) H1) : ExL L ρ H ρ1 H1 := ⟨fun b o h n t => e.fr b o h (fun z => n (.inl z)) t, e.ow, e.tk, e.tb⟩
theorem ExL.trans (a : ExL L ρ H ρ1 H1) (b : ExL L ρ1 H1 ρ2 H2) : ExL L ρ H ρ2 H2 where
  fr := fun c o h n t => b.fr c o (a.fr c o h n t) (fun z => z.elim (fun z => (a.ow c z).elim (fun z => n (.inl z)) fun q => by rw [q] at h; cases h) fun z => n (.inr z)) t
  ow := fun c z => by
    rcases b.ow c z with q | q
    · exact a.ow c q
    · cases h : H c with
      | none => exact .inr rfl
      | some o =>
        obtain ⟨o', z⟩ := a.tk c o h
        rw [z] at q; cases q
  tk := fun c o h => let ⟨o1, h1⟩ := a.tk c o h; b.tk c o1 h1
  tb := a.tb.trans b.tb
theorem ExL.frn (e : ExL L ρ H ρ1 H1) : Ext (fun b => Ow ρ b ∨ b = L) (Ox (FD F L) ρ) H (Ox (FD F L) ρ1) H1 :=
  ⟨e.fr, fun b z => z.elim (fun q => (e.ow b q).elim (fun q => .inl (.inl q)) .inr) fun q => .inl (.inr q), e.tk, e.tb⟩
def InOk (K : PySem.W.Frag) (π : Rho) (F : Addr → Prop) (L : Addr) (te : T3) (cs : List Cl3) : Prop := ∀ (ρ : Rho) (H : Hp) (σ : L2.St) (δ : Sl) (acc : List D) (accV : List V) (k : List D → Sl → Prop), Rel K π (FD F L) ρ H σ δ → H L = some (.lst accV) → RpAll K (Ox (FD F L) ρ) H accV acc → tIn3 te cs δ acc k →
  ∀ Nx : Hp → Prop, (∀ H' ρ' δ' acc' accV', ExL L ρ H ρ' H' → Rel K π (FD F L) ρ' H' σ δ' → H' L = some (.lst accV') → RpAll K (Ox (FD F L) ρ') H' accV' acc' → k acc' δ' → Nx H') → tIn L (lift K XF (Rp K) te) (cs.map (Cl3.r K XF)) σ H Nx
end
def tLc3N (c0 : Cl3) (cs : List Cl3) (te : T3) : G3 (List D) := fun E δ Q => c0.ti E δ fun ds δ1 => ∃ Pv : Nat → List D → Sl → Prop, Pv 0 [] δ1 ∧
  (∀ i x acc δ2, ds[i]? = some x → Pv i acc δ2 → c0.g x (wipeS δ2 c0.vs) fun δ3 => c0.tt nox δ3 fun b δ4 => br b (tIn3 te cs δ4 acc fun acc' δ5 => Pv (i + 1) acc' (backS δ2 δ5 c0.vs)) (Pv (i + 1) acc (backS δ2 δ4 c0.vs))) ∧
  ∀ acc δ2, Pv ds.length acc δ2 → Q acc δ2
section
variable {X : Cx} {E : XK} {c0 : Cl3} {cs : List Cl3} {te : T3}
end
def tInQ (te : T3) : List Cl3 → Sl → (List D → Sl → Prop) → Prop
  | [], δ, k => te nox δ fun y δ' => k [y] δ'
  | c :: cs, δ, k => c.ti nox δ fun ds δ1 => Ask (∃ yss : List (List D), yss.length = ds.length ∧
      (∀ (i : Nat) (x : D), ds[i]? = some x → c.g x (wipeS δ1 c.vs) fun δ3 => normK δ3 fun δ3 => c.tt nox δ3 fun b δ4 => br b (tInQ te cs δ4 fun ys δ5 => backS δ1 δ5 c.vs = δ1 ∧ yss[i]? = some ys) (backS δ1 δ4 c.vs = δ1 ∧ yss[i]? = some [])) ∧ k yss.flatten δ1)
def tLcQ (c0 : Cl3) (cs : List Cl3) (te : T3) : G3 (List D) := fun E δ Q => c0.ti E δ fun ds δ1 => Ask (∃ yss : List (List D), yss.length = ds.length ∧
  (∀ (i : Nat) (x : D), ds[i]? = some x → c0.g x (wipeS δ1 c0.vs) fun δ3 => normK δ3 fun δ3 => c0.tt nox δ3 fun b δ4 => br b (tInQ te cs δ4 fun ys δ5 => backS δ1 δ5 c0.vs = δ1 ∧ yss[i]? = some ys) (backS δ1 δ4 c0.vs = δ1 ∧ yss[i]? = some [])) ∧ yss.flatten.length ≤ sizeLine ∧ Q yss.flatten δ1)
structure Cl3In (Y : Cx) (c : Cl3) : Prop where
  i : PI3 Y XF c.tg c.iter c.ti
  g : PG3 Y c.vs c.tg c.g
  t : PTs3 Y XF c.ifs c.tt
def Cl3.c (c : Cl3) : Comprehension := ⟨c.tg, c.iter, c.ifs, 0⟩
def BlkIn (X : Cx) (scope : Scope) (c0 : Cl3) (cs : List Cl3) (elt : Expr) (te : T3) : Prop := ∀ (s : Shared) (H : Hp) (C : Addr) (cl : List (Str × Addr)) (fp : List Addr), PG3 (X.blk s H scope (compEnvC scope cl C X.env) fp) c0.vs c0.tg c0.g ∧ PTs3 (X.blk s H scope (compEnvC scope cl C X.env) fp) XF c0.ifs c0.tt ∧ PE3 (X.blk s H scope (compEnvC scope cl C X.env) fp) XF elt te ∧ ∀ c ∈ cs, Cl3In (X.blk s H scope (compEnvC scope cl C X.env) fp) c
section
variable {X : Cx} {E : XK} {c0 : Cl3} {cs : List Cl3} {te : T3} {elt : Expr} {scope : Scope} {own : List (Str × Nat)} {pos : Pos}
variable (hc : X.calm = true) (hN : X.N.Nodup) (hi : PI3 X E c0.tg c0.iter c0.ti) (hvs : c0.vs = own.map (·.2)) (hnv : NestV (c0.r X.K E :: cs.map (Cl3.r X.K XF))) (ok : BlkOk X.N X.env.scope scope own) (hg : BlkIn X scope c0 cs elt te) (s0 : Shared)
  (hs : ∀ x, foldedSetIterable c0.iter X.env x = pure x) (hs1 : ∀ c ∈ cs, ∀ env x, foldedSetIterable c.iter env x = pure x)
include hc hN hi hvs hnv ok hg s0 hs hs1
variable (i : Nat) {y : Str} {py spos : Pos} (hsw : swapsWith (.ListComp elt (c0.c :: cs.map Cl3.c) scope pos) (some (.Name y py)) spos.line X.env = pure true) (hy : X.N[i]? = some y) (hyl : X.env.scope.names.lookup y = some .local)
include hsw hy hyl
end
section
variable {X : Cx} {E : XK} {te : T3} {elt : Expr} {scope : Scope} {own : List (Str × Nat)} {pos : Pos}
end
end M3
set_option Elab.async false
set_option linter.all false
set_option maxRecDepth 100000
set_option maxHeartbeats 4000000
namespace M3
open PySem L2 NdefX LamX
variable [TabsC]
section
variable {X : Cx} {pins : List (Addr × Obj)} {σ : L2.St} {H : Hp} {s : Shared}
theorem Inv.lock2 {d : Addr} {u : HO} (I : Inv X pins σ H s) (h : H d = some u) (hx : ∃ φ, u = .ext φ) : ∃ od, Inv X pins σ (upd H d (.frz od (.frz od u))) s := by
  obtain ⟨φ, rfl⟩ := hx
  have x := I.hok d _ h
  obtain ⟨od, e⟩ : ∃ od, s.heap.get? d = some od := by obtain ⟨_, ⟨o, e⟩, _⟩ := x; exact ⟨o, e⟩
  have y : ObjOk X.prog X.w (upd H d (.frz od (.frz od (.ext φ)))) s.heap d (.ext φ) := x
  exact ⟨od, I.write (x := d) (e := d) (t' := s.toks) (h' := s.heap) (by rw [h]; exact True.intro) (.inl rfl) (fun b v _ q => q) ⟨od, e⟩ ⟨e, e, y⟩⟩
theorem codeM {P : Program} {w : World} {H : Hp} {h : Heap} {c : Addr} {q : Str} {o : Obj} (hok : HOk P w H h) (e : H c = some (.frz o (.frz o (CodeO c q)))) : h.CodeRec (.ref c) q := by
  obtain ⟨_, _, ⟨oc, vs, t, h1, h2, h3⟩, _, _⟩ := hok c _ e
  exact ⟨c, oc, vs, t, rfl, h1, h2, h3⟩
theorem ndef3_make {nm : Nat → Nat → Str} {c P : Addr} {name : Str} {params : Arguments} {body : List Stmt} {scope : Scope} {pos : Pos} {E : Value → Shared → Prop} {Q : Value → Shared → Prop} (I : Inv X pins σ H s) (TB : TabB X.base X.mg c P) (hcode : X.env.code = .ref c)
    (hm : (P, nm) ∈ TabsC.T) (hn : nm pos.line pos.col = X.env.qual ++ name) (hu : ∀ p ∈ TabsC.T, p.1 = P → p.2 = nm) (hT : TabsM H) (hfree : ∀ y ∈ scope.names, y.2 = .free → ∃ c, X.env.cells.lookup y.1 = some c)
    (h : ∀ (f c' : Addr) (H1 : Hp) (s' : Shared), Inv X pins σ H1 s' → (∀ b o, H b = some o → isTbl o = false → H1 b = some o) → (∀ b o, H b = some o → ∃ o', H1 b = some o') → Tb H H1 → H f = none → (∃ o, H1 f = some (.frz o (FnO f ⟨name, X.env.qual ++ name, params, body, scope, cloFrom X.env.cells scope.names [], c'⟩))) → (∃ o, H1 c' = some (.frz o (.frz o (CodeO c' (X.env.qual ++ name))))) → Q (.ref f) s') :
    wpAny (model X.prog X.w) X.A (makeFunction name (X.env.qual ++ name) params (.stmts body) scope X.env [] [] [] pos pos.line) Q E s := by
  obtain ⟨ps, hP, ht, ha⟩ := (show TabM H P nm from hT _ hm)
  have bP : s.heap.BuiltinsAt X.mg P := TB.bm.keeps I.bk
  have hP' : s.heap.get? P = some { cls := .none, data := .fields ps } := I.hok P _ hP
  cases hc : codeAmong pos ps.toList with
  | none =>
    refine PySem.W.makeFunction_K (mg := X.mg) (c := c) (P := P) (ps := ps) (closure_ok hfree) I.ok.glob (I.mod.glob.keeps I.bk) hcode (TB.code.keeps I.bk) hP' ht hc TB.gP bP fun c' ctv doc h' tk hx hge hlt hrec htb => ?_
    obtain ⟨c2, oc, vs, t, e2, hoc, hd, hv⟩ := hrec
    cases e2
    have nC : H c' = none := I.hok.fresh hge
    have I0 := inv_table (t' := tk) (more := #[rawInt pos.line, rawInt pos.col, .ref c']) (h' := h') I hP (fun b o hb z => hx b o hb z) htb hge ⟨oc, vs, t, hoc, hd, hv⟩
    obtain ⟨ok, I1⟩ := Inv.lock2 (d := c') I0 upd_same ⟨_, rfl⟩
    rw [upd_upd] at I1
    generalize hH1 : upd (upd H P (.tbl (ps ++ #[rawInt pos.line, rawInt pos.col, .ref c']))) c' (.frz ok (.frz ok (CodeO c' (X.env.qual ++ name)))) = H1 at I1
    have at1 : ∀ b, b ≠ P → b ≠ c' → H1 b = H b := fun b h1 h2 => by rw [← hH1, upd_ne h2, upd_ne h1]
    have atc : H1 c' = some (.frz ok (.frz ok (CodeO c' (X.env.qual ++ name)))) := by rw [← hH1]; exact upd_same
    have atP : H1 P = some (.tbl (ps ++ #[rawInt pos.line, rawInt pos.col, .ref c'])) := by rw [← hH1, upd_ne (ne_of_none hP nC), upd_same]
    have fr1 : ∀ b o, H b = some o → isTbl o = false → H1 b = some o := fun b o z n => by
      rw [at1 b (fun y => by rw [y, hP] at z; cases z; cases n) (ne_of_none z nC)]; exact z
    have eL : (ps ++ #[rawInt pos.line, rawInt pos.col, .ref c']).toList = ps.toList ++ [rawInt pos.line, rawInt pos.col, .ref c'] := by simp
    have T1 : TabsM H1 := fun p hp => by
      by_cases hb : p.1 = P
      · rw [hu p hp hb, hb]
        refine ⟨_, atP, by rw [eL]; exact PySem.TriplesOk_snoc _ _ _ _ ht, fun p' cv hcv => ?_⟩
        rw [eL] at hcv
        rcases among_app2 _ ht hcv with z | ⟨z, z1, z2⟩
        · obtain ⟨c0, o0, e1, e2⟩ := ha p' cv z
          exact ⟨c0, o0, e1, fr1 _ _ e2 rfl⟩
        · refine ⟨c', ok, z, ?_⟩
          rw [← z1, ← z2, hn]
          exact atc
      · obtain ⟨ps', a1, a2, a3⟩ := hT p hp
        refine ⟨ps', by rw [at1 _ hb (ne_of_none a1 nC)]; exact a1, a2, fun p' cv hcv => ?_⟩
        obtain ⟨c0, o0, e1, e2⟩ := a3 p' cv hcv
        exact ⟨c0, o0, e1, fr1 _ _ e2 rfl⟩
    have nF : H1 h'.objs.size = none := I1.hok.fresh (Nat.le_refl _)
    have I2 := inv_fn (F := ⟨name, X.env.qual ++ name, params, body, scope, cloFrom X.env.cells scope.names [], c'⟩) (t' := tk) (doc := doc) (pm := (X.mg "__name__").getD .none) (ctv := ctv) I1 rfl
    obtain ⟨of, I3⟩ := I2.lock (d := h'.objs.size) upd_same True.intro
    rw [upd_upd] at I3
    have tkP : ∀ b o, H b = some o → ∃ o', H1 b = some o' := fun b o z => by
      by_cases y : b = P
      · rw [y]; exact ⟨_, atP⟩
      · exact ⟨o, by rw [at1 b y (ne_of_none z nC)]; exact z⟩
    refine h h'.objs.size c' _ _ I3 (fun b o z n => ?_) (fun b o z => ?_) ((Tb.mk (fun _ => T1) (fun b o z n => fr1 b o z (by cases o <;> first | rfl | cases n))).trans (Tb.fresh nF)) (I.hok.fresh (Nat.le_trans hge (Nat.le_of_lt hlt))) ⟨of, upd_same⟩ ⟨ok, ?_⟩
    · exact (upd_ne (ne_of_none (fr1 b o z n) nF)).trans (fr1 b o z n)
    · obtain ⟨o', y⟩ := tkP b o z
      exact ⟨o', (upd_ne (ne_of_none y nF)).trans y⟩
    · exact (upd_ne (ne_of_none atc nF)).trans atc
  | some cv =>
    obtain ⟨c', o0, e, hco⟩ := ha pos cv hc
    subst e
    rw [hn] at hco
    refine PySem.W.makeFunction_hit (mg := X.mg) (c := c) (P := P) (ps := ps) (closure_ok hfree) I.ok.glob (I.mod.glob.keeps I.bk) hcode (TB.code.keeps I.bk) hP' ht hc bP fun ctv doc h' tk hx hsz => ?_
    have I1 : Inv X pins σ H { s with heap := h', toks := tk } := I.kept hx
    have nF : H h'.objs.size = none := I1.hok.fresh (Nat.le_refl _)
    have I2 := inv_fn (F := ⟨name, X.env.qual ++ name, params, body, scope, cloFrom X.env.cells scope.names [], c'⟩) (t' := tk) (doc := doc) (pm := (X.mg "__name__").getD .none) (ctv := ctv) I1 rfl
    obtain ⟨of, I3⟩ := I2.lock (d := h'.objs.size) upd_same True.intro
    rw [upd_upd] at I3
    refine h h'.objs.size c' _ _ I3 (fun b o z n => (upd_ne (ne_of_none z nF)).trans z) (fun b o z => ⟨o, (upd_ne (ne_of_none z nF)).trans z⟩) (Tb.fresh nF) nF ⟨of, upd_same⟩ ⟨o0, (upd_ne (ne_of_none hco nF)).trans hco⟩
end
def tNd3 (i : Nat) (mk : Addr → NF) : TS3 := fun _ D δ => ∀ f c', D.nx (δ.set i (some (.cl f (mk c'))))
section
variable {X : Cx} {E : XK}
theorem ps_nd3 {st : Stmt} {nm : Nat → Nat → Str} {c P : Addr} {name : Str} {pos : Pos} (i : Nat) (hst : st = .FunctionDef name (C8.fnArgs st) (C8.fnBody st) [] none [] (C8.fnScope st) none name pos) (TB : TabB X.base X.mg c P) (hcode : X.env.code = .ref c) (hm : (P, nm) ∈ TabsC.T) (hn : nm pos.line pos.col = X.env.qual ++ name)
    (hu : ∀ p ∈ TabsC.T, p.1 = P → p.2 = nm) (hfree : ∀ y ∈ (C8.fnScope st).names, y.2 = .free → X.env.scope.names.lookup y.1 = some .cell ∨ X.env.scope.names.lookup y.1 = some .free) (hd0 : (C8.fnArgs st).defaults = []) (hk0 : (C8.fnArgs st).kw_defaults = []) (ha : annTrees (C8.fnArgs st) none X.env = [])
    (hN : X.N.Nodup) (hi : X.N[i]? = some name) (hx : Loc X.env.scope name) (hf : X.fn name = true ∨ X.env.scope.names.lookup name = some .local) :
    PS3 X E st (tNd3 i (NF.of st name (X.env.qual ++ name) (cloFrom X.env.cells (C8.fnScope st).names []))) := by
  refine ⟨fun _ _ _ _ _ _ hd q f c' => hd.nx _ (q f c'), ⟨fun pins s σ H D I h => ?_⟩⟩
  obtain ⟨π, Fo, ρ, δ, rel, q⟩ := h
  rw [hst]
  have hq : qualnameIn X.env name name = X.env.qual ++ name := by
    have hk : X.env.kindOf name = some .local ∨ X.env.kindOf name = some .cell := hx
    unfold qualnameIn
    rcases hk with k | k <;> rw [k] <;> first | rfl | exact if_neg (by decide)
  refine PySem.W.nestDef_K hd0 hk0 ha ?_
  rw [hq]
  have hfr : ∀ y ∈ (C8.fnScope st).names, y.2 = .free → ∃ c, X.env.cells.lookup y.1 = some c := fun y hy e => (hfree y hy e).elim (fun z => I.ok.has _ (.inl z)) fun z => I.ok.has _ (.inr z)
  refine ndef3_make I TB hcode hm hn hu rel.tab hfr fun f c' H1 s' I1 fr tk T1 f0 f1 c1 => ?_
  refine store_ok I1 hN hi hx (v := .ref f) rfl (fun s'' J => ⟨_, H1, J, ?_⟩) hf
  obtain ⟨r1, e1⟩ := rel.calm fr tk T1
  exact q f c' _ H1 _ (e1.trans Ext.drop) (r1.setV (x := .cl f _) ⟨rfl, f1, rel.fresh f0, c1⟩)
end
def CelV (c : Addr) (v : V) : HO := .ext fun h => ∃ u, RelV v u ∧ h.IsCell c (some u)
def celO (o : Obj) (c : Addr) (v : V) : HO := .frz o (.frz o (.frz o (CelV c v)))
open Classical in
noncomputable def off (dom : Addr → Prop) (H : Hp) : Hp := fun b => if dom b then none else H b
open Classical in
noncomputable def back (dom : Addr → Prop) (Ht H : Hp) : Hp := fun b => if dom b then Ht b else H b
theorem off_in {dom : Addr → Prop} {H : Hp} {b : Addr} (h : dom b) : off dom H b = none := by unfold off; rw [if_pos h]
theorem off_out {dom : Addr → Prop} {H : Hp} {b : Addr} (h : ¬ dom b) : off dom H b = H b := by unfold off; rw [if_neg h]
theorem back_in {dom : Addr → Prop} {H Ht : Hp} {b : Addr} (h : dom b) : back dom Ht H b = Ht b := by unfold back; rw [if_pos h]
theorem back_out {dom : Addr → Prop} {H Ht : Hp} {b : Addr} (h : ¬ dom b) : back dom Ht H b = H b := by unfold back; rw [if_neg h]
def IsCel (H : Hp) (b : Addr) : Prop := ∃ o v, H b = some (celO o b v)
theorem IsCel.ne {H : Hp} {b : Addr} {u : HO} (h : IsCel H b) (e : H b = some u) : ∃ o v, u = celO o b v := by
  obtain ⟨o, v, h⟩ := h
  rw [h] at e; cases e
  exact ⟨o, v, rfl⟩
section
variable {P : Program} {w : World} {dom : Addr → Prop} {H Ht H2 : Hp} {h h' : Heap} {fs : List Addr}
structure Tracks (dom : Addr → Prop) (H Ht : Hp) (h : Heap) : Prop where
  out : ∀ b, ¬ dom b → Ht b = H b
  no : ∀ b, dom b → H b = none
  cel : ∀ b, dom b → ∃ o v u, Ht b = some (celO o b v) ∧ h.get? b = some o ∧ RelV v u ∧ o.data = .cell (some u)
theorem Tracks.same (t : Tracks dom H Ht h) : Same H Ht := fun b o e => by
  rw [t.out b fun z => by rw [t.no b z] at e; cases e]; exact e
theorem cel_ok {o : Obj} {b : Addr} {v : V} {u : Value} (h1 : h.get? b = some o) (h2 : RelV v u) (h3 : o.data = .cell (some u)) : ObjOk P w H h b (celO o b v) :=
  ⟨h1, h1, h1, ⟨u, h2, o, h1, h3⟩, ⟨o, h1⟩, fun g1 g2 ⟨u, r, o', e, d⟩ st => ⟨u, r, o', st _ e, d⟩⟩
theorem hok_on (ok : HOk P w H h) (t : Tracks dom H Ht h) : HOk P w Ht h := fun a o e => by
  by_cases d : dom a
  · obtain ⟨ob, v, u, e1, e2, e3, e4⟩ := t.cel a d
    rw [e1] at e; cases e
    exact cel_ok e2 e3 e4
  · rw [t.out a d] at e
    exact (ok a o e).stay (fun _ _ _ q => q) (fun b q => t.same _ _ q) fun b xs q => t.same _ _ q
theorem hok_off (ok : HOk P w H2 h) (hc : ∀ b, dom b → IsCel H2 b) : HOk P w (off dom H2) h := fun a o e => by
  by_cases d : dom a
  · rw [off_in d] at e; cases e
  · rw [off_out d] at e
    refine (ok a o e).stay (fun _ _ _ q => q) (fun b q => ?_) fun b xs q => ?_
    · rw [off_out fun z => by obtain ⟨_, _, z⟩ := (hc b z).ne q; cases z]; exact q
    · rw [off_out fun z => by obtain ⟨_, _, z⟩ := (hc b z).ne q; cases z]; exact q
theorem cel_stays (u : Un fs [] Ht H2 h h') (t : Tracks dom H Ht h) : ∀ b, dom b → IsCel H2 b := fun b d => by
  obtain ⟨o, v, _, e, _⟩ := t.cel b d
  exact ⟨o, v, u.frzs b _ _ e⟩
theorem cel_obj {o : Obj} {b : Addr} {v : V} (ok : HOk P w H2 h) (e : H2 b = some (celO o b v)) : h.get? b = some o := (ok b _ e).1
theorem un_off (u : Un fs [] Ht H2 h h') (t : Tracks dom H Ht h) (ok : HOk P w H2 h') : Un fs [] H (off dom H2) h h' := by
  have same : ∀ b o, dom b → h.get? b = some o → h'.get? b = some o := fun b o d e => by
    obtain ⟨ob, v, _, e1, e2, _⟩ := t.cel b d
    rw [e2] at e; cases e
    exact cel_obj ok (u.frzs b _ _ e1)
  have nd : ∀ b o, H b = some o → ¬ dom b := fun b o e z => by rw [t.no b z] at e; cases e
  refine ⟨fun b o e n hb hx => ?_, fun b o e n hb hx => ?_, fun b o e n hx => ?_, u.there, fun b xs e => ?_, fun b o v e => ?_, fun b ps e => ?_⟩
  · by_cases d : dom b
    · exact same b o d e
    · exact u.keep b o e (by rw [t.out b d]; exact n) hb hx
  · by_cases d : dom b
    · exact ⟨o.slots, same b o d e⟩
    · exact u.slot b o e (by rw [t.out b d]; exact n) hb hx
  · by_cases d : dom b
    · exact off_in d
    · rw [off_out d]; exact u.free b o e (by rw [t.out b d]; exact n) hx
  · have d := nd b _ e; rw [off_out d]; exact u.tups b xs (by rw [t.out b d]; exact e)
  · have d := nd b _ e; rw [off_out d]; exact u.frzs b o v (by rw [t.out b d]; exact e)
  · have d := nd b _ e; rw [off_out d]; exact u.tbls b ps (by rw [t.out b d]; exact e)
theorem ub_off {B : Heap} (u : UB fs Ht H2 h B h') (t : Tracks dom H Ht h) (ok : HOk P w H2 B) (nf : ∀ b, dom b → b ∉ fs) : UB fs H (off dom H2) h B h' := by
  have nd : ∀ b o, H b = some o → ¬ dom b := fun b o e z => by rw [t.no b z] at e; cases e
  refine ⟨fun b o e n hb => ?_, u.slot, fun b o e n => ?_, u.there, fun b xs e => ?_, fun b o v e => ?_, fun b ps e => ?_⟩
  · by_cases d : dom b
    · obtain ⟨ob, v, _, e1, e2, _⟩ := t.cel b d
      rw [e2] at e; cases e
      exact cel_obj ok (u.frzs b _ _ e1)
    · exact u.keep b o e (by rw [t.out b d]; exact n) hb
  · by_cases d : dom b
    · exact off_in d
    · rw [off_out d]; exact u.free b o e (by rw [t.out b d]; exact n)
  · have d := nd b _ e; rw [off_out d]; exact u.tups b xs (by rw [t.out b d]; exact e)
  · have d := nd b _ e; rw [off_out d]; exact u.frzs b o v (by rw [t.out b d]; exact e)
  · have d := nd b _ e; rw [off_out d]; exact u.tbls b ps (by rw [t.out b d]; exact e)
end
def OffOk (P : Program) (w : World) (CX : CXT) : Prop := ∀ (outer : List Env) (H Ht : Hp) (s : Shared) (E : XK) (e : Value) (s' : Shared) (dom : Addr → Prop), Tracks dom H Ht s.heap → (∀ b, dom b → b ∉ frs outer) → CX outer Ht s (fun cls d H2 => E cls d (off dom H2)) e s' → CX outer H s E e s'
theorem offOkX {P : Program} {w : World} : OffOk P w (L2.CX P w) := fun outer H Ht s E e s' dom t nf ⟨a, B, H', cls, d, h1, h2, h3, h4, h5, h6, h7, h8⟩ => by
  have hc : ∀ b, dom b → IsCel H' b := fun b d => by
    obtain ⟨o, v, _, e, _⟩ := t.cel b d
    exact ⟨o, v, h4.frzs b _ _ e⟩
  refine ⟨a, B, off dom H', cls, d, h1, h2, hok_off h3 hc, ub_off h4 t h3 nf, ?_, h6, h7, h8⟩
  by_cases z : dom a
  · exact off_in z
  · rw [off_out z]; exact h5
theorem cr_off {P : Program} {w : World} {CX : CXT} (hO : OffOk P w CX) {outer : List Env} {H Ht : Hp} {s s' : Shared} {Q : VK} {E : XK} {r : Result} {dom : Addr → Prop} (t : Tracks dom H Ht s.heap) (nf : ∀ b, dom b → b ∉ frs outer) (h : CR CX outer P w Ht s (fun v H2 => Q v (off dom H2)) (fun cls d H2 => E cls d (off dom H2)) r s') : CR CX outer P w H s Q E r s' := by
  unfold CR at h ⊢
  split at h
  · obtain ⟨v, H', h1, h2, h3, h4, h5, h6⟩ := h
    exact ⟨v, off dom H', h1, h2, un_off h3 t h4, hok_off h4 (cel_stays h3 t), h5, h6⟩
  · exact h
  · exact hO _ _ _ _ _ _ _ _ t nf h
theorem env0_on {P : Program} {w : World} {K : PySem.W.Frag} {mg : Str → Option Value} {base : Heap} {A : Around} {outer : List Env} {s : Shared} {H Ht : Hp} {dom : Addr → Prop} (e : Env0 P w K mg base A outer s H) (t : Tracks dom H Ht s.heap) (nf : ∀ b, dom b → b ∉ frs outer) (nb : ∀ b, dom b → base.get? b = none) : Env0 P w K mg base A outer s Ht :=
  ⟨e.frames, e.mod, fun b o z => ⟨(e.bs b o z).1, by rw [t.out b fun d => by rw [nb b d] at z; cases z]; exact (e.bs b o z).2⟩, e.bsz, e.funs, fun b z => by rw [t.out b fun d => nf b d z]; exact e.frf b z, hok_on e.hok t, e.bare⟩
structure CelsOk (dom : Addr → Prop) (H Ht : Hp) (cl : List (Str × Addr)) (fr : List Str) (js : List Nat) (σ : L2.St) : Prop where
  out : ∀ b, ¬ dom b → Ht b = H b
  no : ∀ b, dom b → H b = none
  cel : ∀ b, dom b → IsCel Ht b
  has : ∀ (i : Nat) (y : Str), fr[i]? = some y → ∃ c o v j, cl.lookup y = some c ∧ js[i]? = some j ∧ σ[j]? = some (some v) ∧ Ht c = some (celO o c v) ∧ dom c
  inj : ∀ x y c, cl.lookup x = some c → cl.lookup y = some c → x = y
  len : js.length = fr.length
  dm : ∀ y c, cl.lookup y = some c → y ∈ fr
section
variable {X : Cx} {E : XK} {CX : CXT} {k : Nat} {f : Addr} {fd : FuncData} {ps : List Str} {sp : Sp} {cl : List (Str × Addr)} {fr : List Str} {js : List Nat}
open Classical in
theorem run_fnC {pins : List (Addr × Obj)} {σ : L2.St} {H : Hp} {s : Shared} {Q : VK} {us : List Value} {vs : List V} (F : FnOk X.prog X.w X.K X.mg X.base CX k f fd ps sp) (hO : OffOk X.prog X.w CX) (hN : X.N.Nodup) (hr : Room k X.A) (hb : Binds X.K fd ps []) (hx : Passes CX X E)
    (I : Inv X pins σ H s) (cp : Caps X cl fr js) (hfn : ∀ y ∈ fr, X.fn y = true) (hcl : ∀ y c, cl.lookup y = some c → y ∈ fr) (hv : ∀ j ∈ js, ∃ v, σ[j]? = some (some v)) (r : Vals vs us)
    (h : ∀ dom Ht, CelsOk dom H Ht cl fr js σ → sp vs Ht (fun v H2 => Q v (off dom H2)) (fun cls d H2 => E cls d (off dom H2))) : wpAny (model X.prog X.w) X.A (call (.ref f) us) (EP X pins σ Q) X.xe s := by
  have ca := cells_of I cp
  have hlen : js.length = fr.length := by have := congrArg List.length cp.at_; simpa using this
  -- a cell, its object and its value
  have cell : ∀ (i : Nat) (y : Str), fr[i]? = some y → ∃ c o v u j, cl.lookup y = some c ∧ js[i]? = some j ∧ σ[j]? = some (some v) ∧ s.heap.get? c = some o ∧ RelV v u ∧ o.data = .cell (some u) := fun i y hi => by
    obtain ⟨c, h1, h2⟩ := ca.has i y hi
    obtain ⟨j, hj⟩ : ∃ j, js[i]? = some j := ⟨_, List.getElem?_eq_getElem (by rw [hlen]; exact (List.getElem?_eq_some_iff.mp hi).1)⟩
    obtain ⟨v, hv⟩ := hv j (List.mem_of_getElem? hj)
    obtain ⟨u, ru, o, ho, hd⟩ := h2 v (by rw [List.getElem?_map, hj]; exact congrArg some (slotAt_of hv))
    exact ⟨c, o, v, u, j, h1, hj, hv, ho, ru, hd⟩
  let dom : Addr → Prop := fun b => ∃ y, cl.lookup y = some b
  have ofd : ∀ b, dom b → ∃ i y, fr[i]? = some y ∧ cl.lookup y = some b := fun b ⟨y, z⟩ => by
    obtain ⟨i, hi⟩ := List.mem_iff_getElem?.mp (hcl y b z)
    exact ⟨i, y, hi, z⟩
  have vals : ∀ b, dom b → ∃ p : Obj × V, ∃ u i y j, fr[i]? = some y ∧ cl.lookup y = some b ∧ js[i]? = some j ∧ σ[j]? = some (some p.2) ∧ s.heap.get? b = some p.1 ∧ RelV p.2 u ∧ p.1.data = .cell (some u) := fun b d => by
    obtain ⟨i, y, hi, hy⟩ := ofd b d
    obtain ⟨c, o, v, u, j, h1, h2, h3, h4, h5, h6⟩ := cell i y hi
    rw [hy] at h1; cases h1
    exact ⟨(o, v), u, i, y, j, hi, hy, h2, h3, h4, h5, h6⟩
  let Ht : Hp := fun b => if d : dom b then some (celO (vals b d).choose.1 b (vals b d).choose.2) else H b
  have inD : ∀ b (d : dom b), Ht b = some (celO (vals b d).choose.1 b (vals b d).choose.2) := fun b d => by simp only [Ht]; rw [dif_pos d]
  have outD : ∀ b, ¬ dom b → Ht b = H b := fun b d => by simp only [Ht]; rw [dif_neg d]
  have noD : ∀ b, dom b → H b = none := fun b ⟨y, z⟩ => (ca.all y b z).1
  have tr : Tracks dom H Ht s.heap := ⟨outD, noD, fun b d => by
    obtain ⟨u, _, _, _, _, _, _, _, h4, h5, h6⟩ := (vals b d).choose_spec
    exact ⟨_, _, u, inD b d, h4, h5, h6⟩⟩
  have big : ∀ b, dom b → X.s_0.heap.objs.size ≤ b := fun b d => by
    obtain ⟨i, y, hi, hy⟩ := ofd b d
    exact I.ok.cab y b (hfn y (List.mem_of_getElem? hi)) (cp.sub y b hy)
  have nf : ∀ b, dom b → b ∉ frs X.stack := fun b d z => by
    rcases List.mem_cons.mp (I.stkSub b z) with e | hb
    · obtain ⟨i, y, hi, hy⟩ := ofd b d
      exact I.cne y b (cp.sub y b hy) e
    · obtain ⟨_, o, ho, _⟩ := I.ok.funs.mem hb
      exact absurd (Nat.lt_of_lt_of_le (Heap.lt_size ho) (big b d)) (Nat.lt_irrefl _)
  have nb : ∀ b, dom b → X.base.get? b = none := fun b d => Heap.get?_none_of_le (Nat.le_trans I.ok.bsz (big b d))
  have hs := h dom Ht ⟨outD, noD, fun b d => ⟨_, _, inD b d⟩, fun i y hi => by
    obtain ⟨c, o, v, u, j, h1, h2, h3, h4, h5, h6⟩ := cell i y hi
    have d : dom c := ⟨y, h1⟩
    obtain ⟨u', i', y', j', k1, k2, k3, k4, k5, _⟩ := (vals c d).choose_spec
    have ey : y' = y := ca.inj _ _ _ k2 h1
    subst ey
    have n1 : X.N[j]? = some y' := by
      have := congrArg (fun l => l[i]?) cp.at_
      simp only [List.getElem?_map, h2, hi, Option.map_some] at this
      exact Option.some.inj this
    have n2 : X.N[j']? = some y' := by
      have := congrArg (fun l => l[i']?) cp.at_
      simp only [List.getElem?_map, k3, k1, Option.map_some] at this
      exact Option.some.inj this
    have ej : j = j' := (List.getElem?_inj (List.getElem?_eq_some_iff.mp n1).1 hN).mp (n1.trans n2.symm)
    subst ej
    exact ⟨c, _, _, j, h1, h2, k4, inD c d, d⟩, ca.inj, hlen, hcl⟩
  have hl : us.length = ps.length := by rw [← r.length]; exact F.len _ _ _ _ hs
  have b := hb s us I.kIn (by rw [List.append_nil]; exact hl)
  rw [List.append_nil] at b
  refine wpAny_call (codeAny_mono (F.run X.A X.stack s Ht ⟨us, []⟩ us vs _ _ hr (env0_on I.env0 tr nf nb) b r hs) fun r s' hq => ?_)
  have hq := cr_off hO tr nf hq
  cases r with
  | error e => exact hx pins σ H s e s' I hq
  | ok fl =>
    cases fl with
    | ret u => exact I.after hq
    | next => exact False.elim hq
    | brk => exact False.elim hq
    | cont => exact False.elim hq
end
theorem Tb.off {dom : Addr → Prop} {H : Hp} (hc : ∀ b, dom b → IsCel H b) : Tb H (M3.off dom H) := by
  have k : ∀ b o, H b = some o → isTbl o = true ∨ isFrz o = true → M3.off dom H b = some o := fun b o e n => by
    rw [off_out fun z => ?_]; exact e
    obtain ⟨o', v, rfl⟩ := (hc b z).ne e
    rcases n with n | n <;> cases n
  exact ⟨fun t => t.ext k, fun b o e n => k b o e (.inr n)⟩
section
variable {K : PySem.W.Frag} {O : Addr → Prop} {H : Hp} {dom : Addr → Prop}
theorem TL.off (hc : ∀ b, dom b → IsCel H b) {a : Addr} {xs : List V} (h : TL K O H a xs) : TL K O (M3.off dom H) a xs := by
  obtain ⟨h, n⟩ := h
  exact ⟨by rw [off_out fun z => by obtain ⟨_, _, z⟩ := (hc a z).ne h; cases z]; exact h, n⟩
theorem TT.off (hc : ∀ b, dom b → IsCel H b) {a : Addr} {xs : List V} (h : TT K O H a xs) : TT K O (M3.off dom H) a xs := by
  rcases h with ⟨h, n⟩ | h
  · refine .inl ⟨?_, n⟩
    rcases h with h | ⟨o, h⟩
    · exact .inl (by rw [off_out fun z => by obtain ⟨_, _, z⟩ := (hc a z).ne h; cases z]; exact h)
    · exact .inr ⟨o, by rw [off_out fun z => by obtain ⟨_, _, z⟩ := (hc a z).ne h; cases z]; exact h⟩
  · exact .inr h
theorem TR.off (hc : ∀ b, dom b → IsCel H b) {a : Addr} {xs : List V} (h : TR K O H a xs) : TR K O (M3.off dom H) a xs := by
  rcases h with ⟨h, n⟩ | h
  · refine .inl ⟨?_, n⟩
    rcases h with h | ⟨o, h⟩
    · exact .inl (by rw [off_out fun z => by obtain ⟨_, _, z⟩ := (hc a z).ne h; cases z]; exact h)
    · exact .inr ⟨o, by rw [off_out fun z => by obtain ⟨_, _, z⟩ := (hc a z).ne h; cases z]; exact h⟩
  · exact .inr h
theorem frzOff (hc : ∀ b, dom b → IsCel H b) {a : Addr} {o : Obj} {kvs : List (Key × V)} (h : H a = some (.frz o (.dK kvs))) : M3.off dom H a = some (.frz o (.dK kvs)) := by
  rw [off_out fun z => by obtain ⟨_, _, z⟩ := (hc a z).ne h; cases z]; exact h
mutual
theorem Rp.off (hc : ∀ b, dom b → IsCel H b) : ∀ {v : V} {d : D}, Rp K O H v d → Rp K O (M3.off dom H) v d
  | _, _, .non => .non
  | _, _, .bl b => .bl b
  | _, _, .int i => .int i
  | _, _, .str x => .str x
  | _, _, .lst h r => .lst (h.off hc) (RpAll.off hc r)
  | _, _, .tup h r => .tup (h.off hc) (RpAll.off hc r)
  | _, _, .dic h n r => .dic (frzOff hc h) n (RpKV.off hc r)
theorem RpAll.off (hc : ∀ b, dom b → IsCel H b) : ∀ {v : List V} {d : List D}, RpAll K O H v d → RpAll K O (M3.off dom H) v d
  | _, _, .nil => .nil
  | _, _, .cons r t => .cons (Rp.off hc r) (RpAll.off hc t)
theorem RpKV.off (hc : ∀ b, dom b → IsCel H b) : ∀ {v : List (Key × V)} {d : List (D × D)}, RpKV K O H v d → RpKV K O (M3.off dom H) v d
  | _, _, .nil => .nil
  | _, _, .cons r t => .cons (Rp.off hc r) (RpKV.off hc t)
end
theorem RpTX.off (hc : ∀ b, dom b → IsCel H b) : ∀ {v : List (Row × Addr × V)} {d : List (D × D)}, RpTX K O H v d → RpTX K O (M3.off dom H) v d
  | _, _, .nil => .nil
  | _, _, .cons h r t => .cons (h.off hc) (r.off hc) (RpTX.off hc t)
theorem ObOk.off (hc : ∀ b, dom b → IsCel H b) {a : Addr} {o : Ob} (h : ObOk K O H a o) : ObOk K O (M3.off dom H) a o := by
  cases o with
  | lst xs => obtain ⟨vs, h, r⟩ := h; exact ⟨vs, by rw [off_out fun z => by obtain ⟨_, _, z⟩ := (hc a z).ne h; cases z]; exact h, r.off hc⟩
  | dct ds => obtain ⟨vs, h, r⟩ := h; exact ⟨vs, by rw [off_out fun z => by obtain ⟨_, _, z⟩ := (hc a z).ne h; cases z]; exact h, r.off hc⟩
  | dcT ds => obtain ⟨vs, h, r⟩ := h; exact ⟨vs, by rw [off_out fun z => by obtain ⟨_, _, z⟩ := (hc a z).ne h; cases z]; exact h, r.off hc⟩
theorem ClH.off (hc : ∀ b, dom b → IsCel H b) {f : Addr} {F : NF} (h : ClH f F O H) : ClH f F O (M3.off dom H) := by
  obtain ⟨⟨o, h1⟩, h2, ⟨oc, h3⟩⟩ := h
  exact ⟨⟨o, by rw [off_out fun z => by obtain ⟨_, _, z⟩ := (hc f z).ne h1; cases z]; exact h1⟩, h2, ⟨oc, by rw [off_out fun z => by obtain ⟨_, _, z⟩ := (hc _ z).ne h3; cases z]; exact h3⟩⟩
def notFv : DV → Prop
  | .fv _ _ => False
  | _ => True
theorem RpV.off (hc : ∀ b, dom b → IsCel H b) {v : V} {x : DV} (nx : notFv x) (h : RpV K O H v x) : RpV K O (M3.off dom H) v x := by
  cases x with
  | d x => exact Rp.off hc h
  | ro xs => obtain ⟨a, vs, h1, h2, h3⟩ := h; exact ⟨a, vs, h1, h2.off hc, h3.off hc⟩
  | ad a => exact h
  | lk a ds => obtain ⟨h1, o, kvs, h, n, r⟩ := h; exact ⟨h1, o, kvs, frzOff hc h, n, r.off hc⟩
  | cl f F => exact ⟨h.1, h.2.off hc⟩
  | fv a I => exact nx.elim
end
def noFv : Sl → Prop
  | [] => True
  | some (.fv _ _) :: _ => False
  | _ :: r => noFv r
theorem noFv_at : ∀ {δ : Sl} {i : Nat} {a : Addr} {I}, noFv δ → δ[i]? ≠ some (some (.fv a I))
  | [], i, a, I, _ => by simp
  | x :: r, 0, a, I, h => fun z => by
    simp at z
    subst z
    exact h
  | x :: r, i + 1, a, I, h => fun z => by
    have h' : noFv r := by
      cases x with
      | none => exact h
      | some x => cases x <;> first | exact h | exact h.elim
    exact noFv_at h' (by simpa using z)
theorem Rel.off {K : PySem.W.Frag} {π : Rho} {F : Addr → Prop} {ρ : Rho} {H : Hp} {σ : St} {δ : Sl} {dom : Addr → Prop} (r : Rel K π F ρ H σ δ) (hc : ∀ b, dom b → IsCel H b) (nx : noFv δ) (no : ∀ b, dom b → ¬ Ox F ρ b) (np : ∀ p a, π p = some a → ¬ dom a) : Rel K π F ρ (M3.off dom H) σ δ where
  len := r.len
  dat := fun i x e => by
    obtain ⟨v, h1, h2⟩ := r.dat i x e
    refine ⟨v, h1, h2.off hc ?_⟩
    cases x <;> first | exact trivial | exact absurd e (noFv_at nx)
  own := fun i t o e => by
    obtain ⟨a, h1, h2, h3, h4⟩ := r.own i t o e
    exact ⟨a, h1, h2, h3.off hc, h4⟩
  inj := r.inj
  trk := fun a z => by
    obtain ⟨o, h⟩ := r.trk a z
    exact ⟨o, by rw [off_out fun d => no a d z]; exact h⟩
  dis := r.dis
  pit := fun p a z => by
    obtain ⟨o, h⟩ := r.pit p a z
    exact ⟨o, by rw [off_out (np p a z)]; exact h⟩
  ln := r.ln
  tab := (Tb.off hc).t r.tab
theorem Ext.off {ρ ρ' : Rho} {H Ht H2 : Hp} {dom : Addr → Prop} (e : Ext (Ow ρ) (Ow ρ) Ht (Ow ρ') H2) (out : ∀ b, ¬ dom b → Ht b = H b) (no : ∀ b, dom b → H b = none) (hc : ∀ b, dom b → IsCel H2 b) : Ext (Ow ρ) (Ow ρ) H (Ow ρ') (M3.off dom H2) := by
  have nd : ∀ b o, H b = some o → ¬ dom b := fun b o e z => by rw [no b z] at e; cases e
  have sm : Same H Ht := fun b o z => by rw [out b (nd b o z)]; exact z
  refine ⟨fun b o z n t => ?_, fun b z => ?_, fun b o z => ?_, ((Tb.same sm).trans e.tb).trans (Tb.off hc)⟩
  · rw [off_out (nd b o z)]; exact e.fr b o (sm b o z) n t
  · refine (e.ow b z).imp id fun q => ?_
    by_cases d : dom b
    · exact no b d
    · rw [← out b d]; exact q
  · obtain ⟨o', q⟩ := e.tk b o (sm b o z)
    exact ⟨o', by rw [off_out (nd b o z)]; exact q⟩
def CloH (K : PySem.W.Frag) (f : Addr) (F : NF) (fr : List Str) (xs : List D) (O : Addr → Prop) (H : Hp) : Prop := ClH f F O H ∧ (∀ x y c, F.cl.lookup x = some c → F.cl.lookup y = some c → x = y) ∧ (∀ y c, F.cl.lookup y = some c → y ∈ fr) ∧ xs.length = fr.length ∧
  ∀ (i : Nat) (y : Str), fr[i]? = some y → ∃ c o v d, F.cl.lookup y = some c ∧ H c = some (celO o c v) ∧ ¬ O c ∧ xs[i]? = some d ∧ Rp K O H v d
theorem CloH.stable {K : PySem.W.Frag} {f : Addr} {F : NF} {fr : List Str} {xs : List D} : Stable (CloH K f F fr xs) := by
  refine ⟨fun P O H O' H' e po ⟨h1, h2, h3, h4, h5⟩ => ⟨h1.ext e po, h2, h3, h4, fun i y hi => ?_⟩, fun O O' H le ⟨h1, h2, h3, h4, h5⟩ => ⟨⟨h1.1, fun z => h1.2.1 (le _ z), h1.2.2⟩, h2, h3, h4, fun i y hi => ?_⟩⟩
  · obtain ⟨c, o, v, d, k1, k2, k3, k4, k5⟩ := h5 i y hi
    refine ⟨c, o, v, d, k1, e.fr _ _ k2 (fun z => k3 (po _ z)) rfl, fun z => ?_, k4, k5.ext e po⟩
    rcases e.ow _ z with q | q
    · exact k3 q
    · rw [q] at k2; cases k2
  · obtain ⟨c, o, v, d, k1, k2, k3, k4, k5⟩ := h5 i y hi
    exact ⟨c, o, v, d, k1, k2, fun z => k3 (le _ z), k4, k5.mono le⟩
def datsK (δ : Sl) : List Nat → (List D → Prop) → Prop
  | [], k => k []
  | j :: js, k => match δ[j]? with
    | some (some (.d x)) => datsK δ js fun xs => k (x :: xs)
    | _ => False
theorem datsK.to {δ : Sl} : ∀ {js : List Nat} {k : List D → Prop}, datsK δ js k → ∃ xs, xs.length = js.length ∧ (∀ (i j : Nat), js[i]? = some j → ∃ x, xs[i]? = some x ∧ δ[j]? = some (some (.d x))) ∧ k xs
  | [], k, h => ⟨[], rfl, fun i j e => by simp at e, h⟩
  | j :: js, k, h => by
    unfold datsK at h
    split at h
    · rename_i x e
      obtain ⟨xs, h1, h2, h3⟩ := datsK.to h
      refine ⟨x :: xs, by simp [h1], fun i j' q => ?_, h3⟩
      cases i with
      | zero => simp at q; subst q; exact ⟨x, rfl, e⟩
      | succ i => exact h2 i j' (by simpa using q)
    · exact h.elim
theorem datsK.mono {δ : Sl} : ∀ {js : List Nat} {k k' : List D → Prop}, (∀ xs, k xs → k' xs) → datsK δ js k → datsK δ js k'
  | [], _, _, hk, h => hk _ h
  | j :: js, k, k', hk, h => by
    unfold datsK at h ⊢
    split at h
    · exact datsK.mono (fun xs => hk _) h
    · exact h.elim
def cvtK (K : PySem.W.Frag) (cl : List (Str × Addr)) (fr : List Str) (xs : List D) : List DV → (List DV → Prop) → Prop
  | [], k => k []
  | .cl f F :: r, k => F.cl = cl ∧ cvtK K cl fr xs r fun ds => k (.fv f (CloH K f F fr xs) :: ds)
  | .d x :: r, k => cvtK K cl fr xs r fun ds => k (.d x :: ds)
  | .ro x :: r, k => cvtK K cl fr xs r fun ds => k (.ro x :: ds)
  | .ad x :: r, k => cvtK K cl fr xs r fun ds => k (.ad x :: ds)
  | .lk x y :: r, k => cvtK K cl fr xs r fun ds => k (.lk x y :: ds)
  | .fv _ _ :: _, _ => False
theorem cvtK.mono {K : PySem.W.Frag} {cl : List (Str × Addr)} {fr : List Str} {xs : List D} : ∀ {ds : List DV} {k k' : List DV → Prop}, (∀ ds, k ds → k' ds) → cvtK K cl fr xs ds k → cvtK K cl fr xs ds k'
  | [], _, _, hk, h => hk _ h
  | .cl f F :: r, _, _, hk, h => ⟨h.1, cvtK.mono (fun _ => hk _) h.2⟩
  | .d x :: r, _, _, hk, h => cvtK.mono (ds := r) (fun _ => hk _) h
  | .ro x :: r, _, _, hk, h => cvtK.mono (ds := r) (fun _ => hk _) h
  | .ad x :: r, _, _, hk, h => cvtK.mono (ds := r) (fun _ => hk _) h
  | .lk x y :: r, _, _, hk, h => cvtK.mono (ds := r) (fun _ => hk _) h
  | .fv _ _ :: _, _, _, hk, h => h.elim
theorem cvt_ok {K : PySem.W.Frag} {O : Addr → Prop} {H Ht : Hp} {σ : St} {cl : List (Str × Addr)} {fr : List Str} {xs : List D} (sm : Same H Ht) (hcl : ∀ y c, cl.lookup y = some c → y ∈ fr) (inj : ∀ x y c, cl.lookup x = some c → cl.lookup y = some c → x = y) (hl : xs.length = fr.length)
    (cells : ∀ (i : Nat) (y : Str), fr[i]? = some y → ∃ c o v d, cl.lookup y = some c ∧ Ht c = some (celO o c v) ∧ ¬ O c ∧ xs[i]? = some d ∧ Rp K O Ht v d) : ∀ {pat : List (Option Nat)} {vs : List V} {ds : List DV} {k : List DV → Prop}, ArgOk K O H σ pat vs ds → cvtK K cl fr xs ds k → ∃ ds', ArgOk K O Ht σ pat vs ds' ∧ k ds' := by
  intro pat vs ds k h
  have e : Ext O O H O Ht := Ext.same sm
  induction h generalizing k with
  | nil => exact fun q => ⟨[], .nil, q⟩
  | @d v x pat vs ds hx _ ih =>
    intro q
    cases x with
    | cl f F =>
      obtain ⟨q1, q2⟩ := q
      obtain ⟨ds', a, q⟩ := ih q2
      have hx : v = .ref f ∧ ClH f F O H := hx
      refine ⟨_, .d (x := .fv f (CloH K f F fr xs)) ⟨hx.1, ⟨hx.2.ext e (fun _ z => z), ?_, ?_, hl, ?_⟩, CloH.stable⟩ a, q⟩
      · rw [q1]; exact inj
      · rw [q1]; exact hcl
      · rw [q1]; exact cells
    | fv a I => exact q.elim
    | d x => obtain ⟨ds', a, q⟩ := ih q; exact ⟨_, .d (hx.ext e fun _ z => z) a, q⟩
    | ro x => obtain ⟨ds', a, q⟩ := ih q; exact ⟨_, .d (hx.ext e fun _ z => z) a, q⟩
    | ad x => obtain ⟨ds', a, q⟩ := ih q; exact ⟨_, .d (hx.ext e fun _ z => z) a, q⟩
    | lk x y => obtain ⟨ds', a, q⟩ := ih q; exact ⟨_, .d (hx.ext e fun _ z => z) a, q⟩
  | @r v i pat vs ds hi _ ih =>
    intro q
    obtain ⟨ds', a, q⟩ := ih q
    exact ⟨_, .r hi a, q⟩
def tCallC3 (K : PySem.W.Frag) (cl : List (Str × Addr)) (fr : List Str) (js : List Nat) (sp : Sp3) (pat : List (Option Nat)) (t : TV3) : T3 := fun E δ Q => t E δ fun ds δ1 => noFv δ1 ∧ datsK δ1 js fun xs => cvtK K cl fr xs ds fun ds' => mkW pat ds' δ1 0 fun ws => sp ws (fun r os => retD r fun x => Q x (putB pat δ1 os)) E
theorem noFv_set : ∀ (δ : Sl) (i : Nat) (t : Nat) (o : Ob), noFv δ → noFv (δ.set i (some (.own t o)))
  | [], _, _, _, h => h
  | none :: r, 0, t, o, h => h
  | none :: r, i + 1, t, o, h => noFv_set r i t o h
  | some x :: r, 0, t, o, h => by cases x <;> first | exact h | exact False.elim h
  | some x :: r, i + 1, t, o, h => by cases x <;> first | exact noFv_set r i t o h | exact False.elim h
theorem noFv_putO {δ : Sl} (i : Nat) (o : Ob) (h : noFv δ) : noFv (putO δ i o) := by
  rw [putO_eq]
  split
  · exact noFv_set _ _ _ _ h
  · exact h
theorem noFv_putB : ∀ (pat : List (Option Nat)) (os : List Ob) {δ : Sl}, noFv δ → noFv (putB pat δ os)
  | [], os, δ, h => by unfold putB; exact h
  | none :: pat, os, δ, h => by unfold putB; exact noFv_putB pat os h
  | some i :: pat, [], δ, h => by unfold putB; exact h
  | some i :: pat, o :: os, δ, h => by unfold putB; exact noFv_putB pat os (noFv_putO i o h)
section
variable {X : Cx} {E : XK} {CX : CXT} {k : Nat} {f : Addr} {fd : FuncData} {ps : List Str} {sp : Sp3} {e : Expr} {es : List Expr} {x : Str} {p pos : Pos} {pat : List (Option Nat)} {t : TV3} {cl : List (Str × Addr)} {fr : List Str} {js : List Nat}
theorem pe_callC {sp : Sp} {t : TA} (F : FnOk X.prog X.w X.K X.mg X.base CX k f fd ps sp) (hO : OffOk X.prog X.w CX) (hN : X.N.Nodup) (hr : Room k X.A) (hg : Gl X x) (hm : X.mg x = some (.ref f)) (hk : PySem.W.keepIn X.K (.ref f) = true) (hb : Binds X.K fd ps []) (hx : Passes CX X E) (cp : X.Ok → Caps X cl fr js) (hfn : ∀ y ∈ fr, X.fn y = true) (hcl : X.Ok → ∀ y c, cl.lookup y = some c → y ∈ fr)
    (ha : PA X (e :: es) t) (hdb : (x == ("__debug__" : Str)) = false := by decide) (he : starEach (e :: es) X.env = (false, eval e X.env) :: starEach es X.env := by rfl) (hpl : (backTo pos (starEach es X.env)).any (·.1) = false := by rfl) :
    PE X (.Call (.Name x p) (e :: es) [] pos) (fun σ H Q => t σ H fun vs H1 => (∀ j ∈ js, ∃ v, σ[j]? = some (some v)) ∧ ∀ dom Ht, CelsOk dom H1 Ht cl fr js σ → sp vs Ht (fun v H2 => Q v (off dom H2)) (fun cls d H2 => E cls d (off dom H2))) := by
  refine ⟨fun pins s σ H Q I h => ?_⟩
  refine wpAny_Call_Name_kw (ld_glob I hg hm ?_ hdb)
  refine PySem.W.callWith_K (h₀ := X.base) I.ok.mod.kin hk (thn (ha.run pos pins s σ H _ I h) fun us s2 ⟨vs, H2, I2, r, q1, q2⟩ => ⟨I2.kIn, ?_⟩) he hpl
  exact run_fnC F hO hN hr hb hx I2 (cp I2.ok) hfn (hcl I2.ok) q1 r q2
theorem callC3 (F : FnOk X.prog X.w X.K X.mg X.base CX k f fd ps (liftF X.K sp)) (mp : MonoP sp) (hO : OffOk X.prog X.w CX) (hN : X.N.Nodup) (hr : Room k X.A) (hg : Gl X x) (hm : X.mg x = some (.ref f)) (hk : PySem.W.keepIn X.K (.ref f) = true) (hb : Binds X.K fd ps []) (hx : Passes CX X E) (cp : X.Ok → Caps X cl fr js) (hfn : ∀ y ∈ fr, X.fn y = true) (hcl : X.Ok → ∀ y c, cl.lookup y = some c → y ∈ fr)
    (ha : PAr X E (e :: es) pat t) (nd : (pat.filterMap id).Nodup := by decide) (hdb : (x == ("__debug__" : Str)) = false := by decide) (he : starEach (e :: es) X.env = (false, eval e X.env) :: starEach es X.env := by rfl) (hpl : (backTo pos (starEach es X.env)).any (·.1) = false := by rfl) :
    PE3 X E (.Call (.Name x p) (e :: es) [] pos) (tCallC3 X.K cl fr js sp pat t) := by
  refine ⟨fun _ _ _ _ _ he hq q => ha.mono _ _ _ _ _ he (fun ds δ1 z => ⟨z.1, datsK.mono (fun xs => cvtK.mono fun ds' => mkW_mono (fun ws => mp _ _ _ _ _ (fun r os => retD_mono fun x => hq _ _) he) _ _ _ _) z.2⟩) q, (pe_callC F hO hN hr hg hm hk hb hx cp hfn hcl ha.pa hdb he hpl).imp fun σ H Q h => ?_⟩
  obtain ⟨π, Fo, ρ, δ, rel, q⟩ := h
  refine ⟨π, Fo, ρ, δ, rel, ha.mono _ _ _ _ _ (fun _ z => z) (fun ds δ1 q vs H1 ρ1 e1 rel1 ao => ?_) q⟩
  obtain ⟨nfv, q⟩ := q
  obtain ⟨xs, hxl, hxs, q⟩ := datsK.to q
  refine ⟨fun j hj => ?_, fun dom Ht ck => ?_⟩
  · obtain ⟨i, hi⟩ := List.mem_iff_getElem?.mp hj
    obtain ⟨x, _, h2⟩ := hxs i j hi
    obtain ⟨v, h3, _⟩ := rel1.dat j (.d x) h2
    exact ⟨v, h3⟩
  have sm : Same H1 Ht := fun b o z => by rw [ck.out b fun d => by rw [ck.no b d] at z; cases z]; exact z
  have relt := rel1.same sm
  have nO : ∀ b, dom b → ¬ Ox Fo ρ1 b := fun b d => rel1.fresh (ck.no b d)
  have nP : ∀ p a, π p = some a → ¬ dom a := fun p a z d => by
    obtain ⟨o, h⟩ := rel1.pit p a z
    rw [ck.no a d] at h; cases h
  obtain ⟨ds', ao', q⟩ := cvt_ok (O := Ox Fo ρ1) sm ck.dm ck.inj (hxl.trans ck.len) (fun i y hi => by
    obtain ⟨c, o, v, j, k1, k2, k3, k4, k5⟩ := ck.has i y hi
    obtain ⟨x, h1, h2⟩ := hxs i j k2
    obtain ⟨v', h3, h4⟩ := rel1.dat j (.d x) h2
    rw [k3] at h3; cases h3
    exact ⟨c, o, v, x, k1, k4, nO c k5, h1, Rp.same sm h4⟩) ao q
  obtain ⟨ws, q, ar⟩ := args_of ao' 0 _ q
  have relc := ar.rel relt nd
  have cstay : ∀ {ρ' : Rho} {H' : Hp}, Ex (FC Fo ρ1 pat) (piC pat ρ1) Ht ρ' H' → ∀ b, dom b → IsCel H' b := fun {ρ' H'} e' b d => by
    obtain ⟨o, v, h⟩ := ck.cel b d
    exact ⟨o, v, e'.fr b _ h (fun z => nO b d (.inl (piC_le b z))) rfl⟩
  refine ⟨piC pat ρ1, FC Fo ρ1 pat, piC pat ρ1, ws, relc, ar.tagged, fun j hj => ?_, mp _ _ _ _ _ (fun r os q v H' ρ' e' oo tk ds rr => ?_) (fun ex z d H' ρ' e' xo => ?_) q⟩
  · unfold piC
    rw [List.getElem?_eq_none (by rw [ar.len.2]; exact hj)]; rfl
  · obtain ⟨r2, ex2, lex⟩ := ar.after relt e' oo (fun _ _ => rfl) relt.inj (fun _ z => .inl z) (fun b z => tk b (.inl z))
    have hc := cstay e'
    have r3 := r2.off hc (noFv_putB pat os nfv) nO nP
    have e3 : Ext (Ow ρ1) (Ow ρ1) H1 (Ow ρ1) (off dom H') := Ext.off ex2 ck.out ck.no hc
    unfold retD at q
    split at q
    · exact q v _ ρ1 (e1.trans e3) r3 ((Rp.mono lex rr).off hc)
    · obtain ⟨a, rfl, oa, na, vs', h1, h2⟩ := rr
      refine q _ _ ρ1 (e1.trans e3) r3 (Rp.off hc (.lst ⟨h1, fun z => ?_⟩ (h2.mono lex)))
      have : Ht a = none := by
        rcases e'.ow a oa with w | w
        · obtain ⟨j, w⟩ := w; exact absurd w (na j)
        · exact w
      obtain ⟨u, hu⟩ := relt.trk a z
      rw [this] at hu; cases hu
    · exact q.elim
  · have hc := cstay e'
    refine (liftX.mono e1 ex z) d _ ρ1 (Ext.off ⟨fun b o hb n t => e'.fr b o hb (fun z => n (piC_le b z)) t, fun _ z => .inl z, e'.tk, e'.tb⟩ ck.out ck.no hc) ?_
    unfold XOk at xo ⊢
    cases hx : ex.arg with
    | none => rw [hx] at xo; exact xo
    | some i =>
      rw [hx] at xo
      obtain ⟨a, h1, h2⟩ := xo
      exact ⟨a, h1, by rw [off_out fun d => by obtain ⟨_, _, z⟩ := (hc a d).ne h2; cases z]; exact h2⟩
end
structure Callv (P : Program) (w : World) (K : PySem.W.Frag) (mg : Str → Option Value) (base : Heap) (k : Nat) (a : Addr) (I : (Addr → Prop) → Hp → Prop) (S : PrmC) : Prop where
  fn : ∀ O H h, HOk P w H h → I O H → PySem.W.FnAt a h
  run : ∀ (A : Around) (outer : List Env) (s : Shared) (H : Hp) (us : List Value) (vs : List V) (xs : List D) (O : Addr → Prop) (Q : VK), Room k A → Env0 P w K mg base A outer s H → Vals vs us → Trk O H → TabsM H → I O H → RpAll K O H vs xs →
    S.sp (xs.map .d) (fun r _ => retD r fun x => ∀ v H', (∀ b o, H b = some o → isTbl o = false → H' b = some o) → (∀ b o, H b = some o → ∃ o', H' b = some o') → Tb H H' → Rp K O H' v x → Q v H') → codeAny (model P w) A (.call (.ref a) ⟨us, []⟩) (CR CX0 outer P w H s Q E0) s
theorem pick {α β : Type} : ∀ (l : List α) {R : Nat → α → β → Prop}, (∀ (i : Nat) y, l[i]? = some y → ∃ v, R i y v) → ∃ vs : List β, vs.length = l.length ∧ ∀ (i : Nat) y, l[i]? = some y → ∃ v, vs[i]? = some v ∧ R i y v
  | [], R, h => ⟨[], rfl, fun i y e => by simp at e⟩
  | a :: l, R, h => by
    obtain ⟨v, hv⟩ := h 0 a rfl
    obtain ⟨vs, h1, h2⟩ := pick l (R := fun i => R (i + 1)) fun i y e => h (i + 1) y (by simpa using e)
    refine ⟨v :: vs, by simp [h1], fun i y e => ?_⟩
    cases i with
    | zero => simp at e; subst e; exact ⟨v, rfl, hv⟩
    | succ i => exact h2 i y (by simpa using e)
theorem RpAll.of_get {K : PySem.W.Frag} {O : Addr → Prop} {H : Hp} : ∀ {vs : List V} {xs : List D}, vs.length = xs.length → (∀ (i : Nat) v d, vs[i]? = some v → xs[i]? = some d → Rp K O H v d) → RpAll K O H vs xs
  | [], [], _, _ => .nil
  | v :: vs, x :: xs, h, k => .cons (k 0 v x rfl rfl) (RpAll.of_get (by simpa using h) fun i v d e1 e2 => k (i + 1) v d (by simpa using e1) (by simpa using e2))
  | [], _ :: _, h, _ => by simp at h
  | _ :: _, [], h, _ => by simp at h
theorem ox0 {O : Addr → Prop} : ∀ b, Ox O (fun _ => none) b → O b := fun b z => z.elim (fun ⟨_, z⟩ => nomatch z) id
theorem Rel.ofData {K : PySem.W.Frag} {O : Addr → Prop} {H : Hp} {vs : List V} {xs : List D} (t : Trk O H) (tb : TabsM H) (r : RpAll K O H vs xs) : Rel K (fun _ => none) O (fun _ => none) H (vs.map some) ((xs.map W.d).map some) where
  len := by simp [r.length]
  dat := fun i x e => by
    rw [List.map_map, List.getElem?_map] at e
    cases h : xs[i]? with
    | none => rw [h] at e; cases e
    | some d =>
      rw [h] at e
      obtain ⟨v, hv, rv⟩ := r.get h
      have : x = .d d := by cases x <;> cases e; rfl
      subst this
      exact ⟨v, by simp [hv], Rp.mono ox0 rv⟩
  own := fun i t o e => by
    rw [List.map_map, List.getElem?_map] at e
    cases h : xs[i]? <;> rw [h] at e <;> cases e
  inj := fun _ _ _ h => nomatch h
  trk := fun a z => t a (ox0 a z)
  dis := fun _ _ ⟨_, z⟩ => nomatch z
  pit := fun _ _ z => nomatch z
  ln := fun i p e => by
    rw [List.map_map, List.getElem?_map] at e
    cases h : xs[i]? <;> rw [h] at e <;> cases e
  tab := tb
theorem callv_of {P : Program} {w : World} {K : PySem.W.Frag} {mg : Str → Option Value} {base : Heap} {N ps fr : List Str} {F : NF} {f : Addr} {k : Nat} {S : PrmC} {cs : List D} (Sc : NScope N ps fr F.scope) (hb : ∀ (doc pm ctv : Value) (us : List Value), us.length = ps.length → bindArgs (F.fd doc pm ctv) ⟨us, []⟩ = pure (ps.zip us)) (len : ∀ ws Q, S.sp ws Q → ws.length = ps.length)
    (hbody : ∀ (A : Around) (outer : List Env) (s : Shared) (H : Hp), Room k (A.deeper (envF F f s.heap.objs.size)) → ∃ t, PSs3 (ncx CX0 P w K mg base N F f A outer s H E0).nox XF F.body t ∧ ∀ (ws : List W) (Q : R3 → List Ob → Prop), S.sp ws Q → normK (start3 N (ws ++ cs.map .d)) fun δ => t (fun _ => False) (ends ws Q) δ) :
    Callv P w K mg base (k + 1) f (CloH K f F fr cs) S := by
  refine ⟨fun O H h hok ⟨⟨⟨o, hf⟩, _⟩, _⟩ => ?_, fun A outer s H us vs xs O Q hr e0 r trk tb hI ra hsp => ?_⟩
  · obtain ⟨_, ⟨od, sl, doc, pm, ctv, ho⟩, _, _⟩ := hok f _ hf
    exact ⟨_, od, _, sl, ho⟩
  obtain ⟨⟨⟨of, hf⟩, nof, ⟨oc, hcd⟩⟩, inj, dm, cl, cells⟩ := hI
  let dom : Addr → Prop := fun b => ∃ y, F.cl.lookup y = some b
  have ofd : ∀ b, dom b → ∃ i y, fr[i]? = some y ∧ F.cl.lookup y = some b := fun b ⟨y, z⟩ => by
    obtain ⟨i, hi⟩ := List.mem_iff_getElem?.mp (dm y b z)
    exact ⟨i, y, hi, z⟩
  have hc : ∀ b, dom b → IsCel H b := fun b d => by
    obtain ⟨i, y, hi, hy⟩ := ofd b d
    obtain ⟨c, o, v, _, k1, k2, _⟩ := cells i y hi
    rw [hy] at k1; cases k1
    exact ⟨o, v, k2⟩
  have celH : ∀ {b : Addr} {o : Obj} {v : V}, H b = some (celO o b v) → s.heap.get? b = some o ∧ ∃ u, RelV v u ∧ o.data = .cell (some u) := fun {b o v} e => by
    obtain ⟨h1, _, _, ⟨u, r, o', e', d⟩, _⟩ := e0.hok b _ e
    rw [h1] at e'; cases e'
    exact ⟨h1, u, r, d⟩
  have trO : ∀ b, O b → ∃ o, off dom H b = some o := fun b z => by
    obtain ⟨o, h⟩ := trk b z
    refine ⟨o, ?_⟩
    rw [off_out fun d => ?_]
    · exact h
    · obtain ⟨i, y, hi, hy⟩ := ofd b d
      obtain ⟨c, _, _, _, k1, _, k3, _⟩ := cells i y hi
      rw [hy] at k1; cases k1
      exact k3 z
  have e1 : Env0 P w K mg base A outer s (off dom H) := ⟨e0.frames, e0.mod, fun b o z => ⟨(e0.bs b o z).1, by unfold off; split; rfl; exact (e0.bs b o z).2⟩, e0.bsz, e0.funs, fun b z => by unfold off; split; rfl; exact e0.frf b z, hok_off e0.hok hc, e0.bare⟩
  obtain ⟨wv, wl, wh⟩ := pick fr (R := fun i y v => ∃ c o d, F.cl.lookup y = some c ∧ H c = some (celO o c v) ∧ cs[i]? = some d ∧ Rp K O H v d) fun i y hi => by
    obtain ⟨c, o, v, d, k1, k2, k3, k4, k5⟩ := cells i y hi
    exact ⟨v, c, o, d, k1, k2, k4, k5⟩
  have rw' : RpAll K O (off dom H) wv cs := RpAll.of_get (wl.trans cl.symm) fun i v d h1 h2 => by
    obtain ⟨y, hy⟩ : ∃ y, fr[i]? = some y := ⟨_, List.getElem?_eq_getElem (by rw [← wl]; exact (List.getElem?_eq_some_iff.mp h1).1)⟩
    obtain ⟨v', k1, c, o, d', _, _, k4, k5⟩ := wh i y hy
    rw [h1] at k1; cases k1
    rw [h2] at k4; cases k4
    exact k5.off hc
  have C : CellsAt F.cl fr (wv.map some) s.heap (off dom H) := ⟨by simp [wl], fun y c z => ⟨off_in ⟨y, z⟩, by
      obtain ⟨o, v, h⟩ := hc c ⟨y, z⟩
      obtain ⟨h1, u, _, h2⟩ := celH h
      exact ⟨some u, o, h1, h2⟩⟩, inj, fun i y hi => by
      obtain ⟨v, k1, c, o, d, k2, k3, _, _⟩ := wh i y hi
      refine ⟨c, k2, fun v' e => ?_⟩
      rw [List.getElem?_map, k1] at e; cases e
      obtain ⟨h1, u, h2, h3⟩ := celH k3
      exact ⟨u, h2, o, h1, h3⟩⟩
  have lim : s.heap.NoLimit := e0.mod.nolimit.keeps fun b o e => (e0.bs b o e).1
  have hl : vs.length = ps.length := by rw [← len _ _ hsp, List.length_map]; exact ra.length
  obtain ⟨_, ⟨od, sl, doc, pm, ctv, ho⟩, _, _⟩ := e0.hok f _ hf
  have un : ∀ {H' : Hp} {h' : Heap}, Un (frs outer) [] (off dom H) H' s.heap h' → ∀ b, dom b → H' b = none := fun {H' h'} u b d => by
    obtain ⟨o, v, h⟩ := hc b d
    exact u.free b o (celH h).1 (off_in d) (by simp)
  have fin : ∀ {s' : Shared} {u : Value}, CE outer P w (off dom H) s (fun v H' => (∀ b, dom b → H' b = none) → Q v (back dom H H')) u s' → CE outer P w H s Q u s' := fun {s' u} ⟨v, H', h1, h2, h3, h4, h5, h6⟩ => by
    have nn := un h3
    have nd : ∀ b, H b = none → ¬ dom b := fun b e d => by obtain ⟨o, v, h⟩ := hc b d; rw [h] at e; cases e
    have ne : ∀ {b : Addr} {x : HO}, H b = some x → (∀ o v, x ≠ celO o b v) → ¬ dom b := fun {b x} e n d => by
      obtain ⟨o, v, h⟩ := (hc b d).ne e
      exact n o v h
    refine ⟨v, back dom H H', h1, h2, ⟨fun b o e n hb hx => ?_, fun b o e n hb hx => ?_, fun b o e n hx => ?_, h3.there, fun b xs e => ?_, fun b o x e => ?_, fun b ps e => ?_⟩, fun a o e => ?_, h5, h6 nn⟩
    · exact h3.keep b o e (by rw [off_out (nd b n)]; exact n) hb hx
    · exact h3.slot b o e (by rw [off_out (nd b n)]; exact n) hb hx
    · rw [back_out (nd b n)]; exact h3.free b o e (by rw [off_out (nd b n)]; exact n) hx
    · have d := ne e (fun o v z => by cases z); rw [back_out d]; exact h3.tups b xs (by rw [off_out d]; exact e)
    · by_cases d : dom b
      · rw [back_in d]; exact e
      · rw [back_out d]; exact h3.frzs b o x (by rw [off_out d]; exact e)
    · have d := ne e (fun o v z => by cases z); rw [back_out d]; exact h3.tbls b ps (by rw [off_out d]; exact e)
    · by_cases d : dom a
      · rw [back_in d] at e
        obtain ⟨ob, v', rfl⟩ := (hc a d).ne e
        obtain ⟨k1, u', k2, k3⟩ := celH e
        have nfr : a ∉ frs outer := fun z => by rw [e0.frf a z] at e; cases e
        exact cel_ok (h3.keep a ob k1 (off_in d) nfr (by simp)) k2 k3
      · rw [back_out d] at e
        refine (h4 a o e).stay (fun _ _ _ q => q) (fun b q => ?_) fun b xs q => ?_
        · rw [back_out fun d => by rw [nn b d] at q; cases q]; exact q
        · rw [back_out fun d => by rw [nn b d] at q; cases q]; exact q
  have core : codeAny (model P w) A (.call (.ref f) ⟨us, []⟩) (CR CX0 outer P w (off dom H) s (fun v H' => (∀ b, dom b → H' b = none) → Q v (back dom H H')) E0) s := by
    refine codeAny_call_function hr.depth ho rfl Sc.co Sc.gen rfl (codeM e0.hok hcd) ?_
    rw [hb doc pm ctv us (by rw [← r.length]; exact hl)]
    refine wpAny_pure (wpAny_newFunctionEnv Sc.nocell (fun ⟨n, _⟩ hy => Sc.par n (List.of_mem_zip hy).1) (fun h₁ hns hsb => ⟨lim.fresh _ hsb, ?_⟩) Sc.kind)
    show codeAny _ _ (.func F.body (envF F f s.heap.objs.size)) _ _
    refine codeAny_func ?_
    have kp : ∀ b o, s.heap.get? b = some o → h₁.get? b = some o := fun b o z => hsb.extBut b o (Nat.ne_of_lt (Heap.lt_size z)) (Heap.get?_push_of_some _ z)
    obtain ⟨t, ht, hq⟩ := hbody A outer s (off dom H) (hr.deeper _)
    have J : Inv (ncx CX0 P w K mg base N F f A outer s (off dom H) E0) [] (startF N vs (wv.map some)) (off dom H) { s with heap := h₁, toks := s.toks + (ps.zip us).length } := inv_startN Sc hr.hd e1 hl r C hns kp
    have est : startF N vs (wv.map some) = L2.start N (vs ++ wv) := by
      unfold startF L2.start
      rw [List.map_append, List.append_assoc, List.length_append, List.length_map, Nat.sub_sub]
    have relD : Rel K (fun _ => none) O (fun _ => none) (off dom H) (L2.start N (vs ++ wv)) (start3 N (xs.map W.d ++ cs.map W.d)) := by
      have := (Rel.ofData (K := K) (vs := vs ++ wv) (xs := xs ++ cs) trO ((Tb.off hc).t tb) ((ra.off hc).append rw')).start N
      rw [List.map_append] at this
      exact this
    have h3 := hq _ _ hsp
    rw [normK_eq] at h3
    rw [est] at J
    have post : ∀ {r : R3} {os : List Ob} {v : V} {H' : Hp} {ρ' : Rho}, Ex O (fun _ => none) (off dom H) ρ' H' → RpR K (fun _ => none) O ρ' H' v r → (retD r fun x => ∀ v H', (∀ b o, H b = some o → isTbl o = false → H' b = some o) → (∀ b o, H b = some o → ∃ o', H' b = some o') → Tb H H' → Rp K O H' v x → Q v H') → (∀ b, dom b → H' b = none) → Q v (back dom H H') := fun {r os v H' ρ'} e' rr q nn => by
      have le : ∀ b, O b → Ox O ρ' b := fun b z => .inr z
      have up : Same H' (back dom H H') := fun b o z => by rw [back_out fun d => by rw [nn b d] at z; cases z]; exact z
      have now : ∀ b, ¬ Ow (fun _ => (none : Option Addr)) b := fun b ⟨_, z⟩ => nomatch z
      have k1 : ∀ b o, H b = some o → isTbl o = false → back dom H H' b = some o := fun b o z t => by
        by_cases d : dom b
        · rw [back_in d]; exact z
        · rw [back_out d]; exact e'.fr b o (by rw [off_out d]; exact z) (now b) t
      have k2 : ∀ b o, H b = some o → ∃ o', back dom H H' b = some o' := fun b o z => by
        by_cases d : dom b
        · exact ⟨o, by rw [back_in d]; exact z⟩
        · obtain ⟨o', q⟩ := e'.tk b o (by rw [off_out d]; exact z); exact ⟨o', by rw [back_out d]; exact q⟩
      have k3 : Tb H (back dom H H') := ((Tb.off hc).trans e'.tb).trans (Tb.same up)
      unfold retD at q
      split at q
      · exact q v _ k1 k2 k3 (Rp.same up (Rp.mono le rr))
      · obtain ⟨a, rfl, oa, na, vs', h1, h2⟩ := rr
        refine q _ _ k1 k2 k3 (Rp.same up (.lst ⟨h1, fun z => ?_⟩ (h2.mono le)))
        rcases e'.ow a oa with y | y
        · exact now a y
        · obtain ⟨o, h⟩ := trO a z
          rw [y] at h; cases h
      · exact q.elim
    refine wpAny_mono ((ht.ps.nox).run [] _ _ (off dom H) { nx := fun _ H' => (∀ b, dom b → H' b = none) → Q .non (back dom H H'), rt := fun v H' => (∀ b, dom b → H' b = none) → Q v (back dom H H') } J ⟨fun _ => none, O, fun _ => none, _, relD, ht.mono _ _ _ _ _ (fun _ z => z.elim) ⟨fun δ q σ' H' ρ' e' rel' => ?_, fun r δ q v σ' H' ρ' e' rel' rr => ?_, fun _ (z : False) => z.elim, fun _ (z : False) => z.elim⟩ h3⟩) (fun fl s' hs => ?_) fun e s' hs => hs
    · obtain ⟨os, q1, q2⟩ := outs_ok rel' (xs.map .d) 0 _ q
      exact post (os := os) e' (r := .d .none) (v := .non) .non q1
    · obtain ⟨os, q1, q2⟩ := outs_ok rel' (xs.map .d) 0 _ q
      exact post (os := os) e' rr q1
    · cases fl with
      | ret u =>
        obtain ⟨v, σ', H', J', rv, q⟩ := hs
        exact ⟨v, H', J'.os, J'.bare, J'.base, J'.hok, rv, q⟩
      | next =>
        obtain ⟨σ', H', J', q⟩ := hs
        exact ⟨V.non, H', J'.os, J'.bare, J'.base, J'.hok, rfl, q⟩
      | brk =>
        obtain ⟨_, _, _, q⟩ := hs
        exact False.elim q
      | cont =>
        obtain ⟨_, _, _, q⟩ := hs
        exact False.elim q
  refine codeAny_mono core fun r s' h => ?_
  unfold CR at h ⊢
  split at h
  · exact fin h
  · exact h
  · exact h
def onFv (δ : Sl) (i : Nat) (k : Addr → ((Addr → Prop) → Hp → Prop) → Prop) : Prop := match δ[i]? with | some (some (.fv a I)) => k a I | _ => False
theorem onFv.to {δ : Sl} {i : Nat} {k} (h : onFv δ i k) : ∃ a I, δ[i]? = some (some (.fv a I)) ∧ k a I := by
  unfold onFv at h
  split at h
  · exact ⟨_, _, by assumption, h⟩
  · exact h.elim
theorem onFv.of {δ : Sl} {i : Nat} {a I} {k : Addr → ((Addr → Prop) → Hp → Prop) → Prop} (e : δ[i]? = some (some (.fv a I))) (h : k a I) : onFv δ i k := by
  unfold onFv
  rw [e]
  exact h
def asDs : List DV → (List D → Prop) → Prop
  | [], k => k []
  | .d x :: r, k => asDs r fun xs => k (x :: xs)
  | _ :: _, _ => False
theorem asDs.to : ∀ {ds : List DV} {k : List D → Prop}, asDs ds k → ∃ xs, ds = xs.map .d ∧ k xs
  | [], k, h => ⟨[], rfl, h⟩
  | .d x :: r, k, h => by
    obtain ⟨xs, h1, h2⟩ := asDs.to (ds := r) h
    exact ⟨x :: xs, by rw [h1]; rfl, h2⟩
  | .ro _ :: _, k, h => h.elim
  | .ad _ :: _, k, h => h.elim
  | .lk _ _ :: _, k, h => h.elim
  | .cl _ _ :: _, k, h => h.elim
  | .fv _ _ :: _, k, h => h.elim
theorem asDs.of : ∀ {xs : List D} {k : List D → Prop}, k xs → asDs (xs.map .d) k
  | [], k, h => h
  | x :: xs, k, h => asDs.of (xs := xs) h
theorem argOk_ds {K : PySem.W.Frag} {O : Addr → Prop} {H : Hp} {σ : St} : ∀ {n : Nat} {vs : List V} {xs : List D}, ArgOk K O H σ (List.replicate n none) vs (xs.map .d) → RpAll K O H vs xs := by
  intro n vs xs h
  generalize hp : List.replicate n (none : Option Nat) = pat at h
  generalize hd : xs.map DV.d = ds at h
  induction h generalizing n xs with
  | nil => cases xs <;> simp at hd; exact .nil
  | @d v x pat vs ds hx _ ih =>
    cases xs with
    | nil => simp at hd
    | cons y ys =>
      simp only [List.map_cons, List.cons.injEq] at hd
      obtain ⟨rfl, rfl⟩ := hd
      cases n with
      | zero => simp at hp
      | succ n =>
        rw [List.replicate_succ, List.cons.injEq] at hp
        exact .cons hx (ih hp.2 rfl)
  | @r v i pat vs ds hi _ ih =>
    cases n with
    | zero => simp at hp
    | succ n =>
      rw [List.replicate_succ, List.cons.injEq] at hp
      cases hp.1
def tCallV (P : Program) (w : World) (K : PySem.W.Frag) (mg : Str → Option Value) (base : Heap) (i j : Nat) (t : TV3) : T3 := fun E δ Q => onFv δ i fun a I => ∃ (k : Nat) (S : PrmC), (Callv P w K mg base k a I S ∧ k ≤ j) ∧ t E δ fun ds δ1 => asDs ds fun xs => S.sp (xs.map .d) fun r _ => retD r fun x => Q x δ1
section
variable {X : Cx} {E : XK} {j n : Nat} {e : Expr} {es : List Expr} {y : Str} {p pos : Pos} {t : TV3}
theorem clV {P : Program} {w : World} {K : PySem.W.Frag} {mg : Str → Option Value} {base : Heap} (i : Nat) (hX : X.prog = P ∧ X.w = w ∧ X.K = K ∧ X.mg = mg ∧ X.base = base) (hr : Room j X.A) (ha : PAr X E (e :: es) (List.replicate n none) t) (hN : X.N[i]? = some y := by rfl) (hv : Vis X.env.scope y := by first | exact Or.inl rfl | exact Or.inr (Or.inl rfl) | exact Or.inr (Or.inr rfl)) (hd : (y == ("__debug__" : Str)) = false := by decide)
    (hcd : (y == ("__classdict__" : Str)) = false := by decide) (he : starEach (e :: es) X.env = (false, eval e X.env) :: starEach es X.env := by rfl) (hpl : (backTo pos (starEach es X.env)).any (·.1) = false := by rfl) : PE3 X E (.Call (.Name y p) (e :: es) [] pos) (tCallV P w K mg base i j t) := by
  obtain ⟨rfl, rfl, rfl, rfl, rfl⟩ := hX
  refine ⟨fun _ _ _ _ _ he hq q => ?_, ⟨fun pins s σ H Q I h => ?_⟩⟩
  · obtain ⟨a, J, e, k, S, h1, h2⟩ := onFv.to q
    refine onFv.of e ⟨k, S, h1, ha.mono _ _ _ _ _ he (fun ds δ1 z => ?_) h2⟩
    obtain ⟨xs, hxs, z2⟩ := asDs.to z
    rw [hxs]
    exact asDs.of (S.mono _ _ _ (fun r os => retD_mono fun x => hq _ _) z2)
  obtain ⟨π, Fo, ρ, δ, rel, q⟩ := h
  obtain ⟨a, J, ea, k, S, ⟨C, hk⟩, q⟩ := onFv.to q
  obtain ⟨v, k1, rfl, hJ, st⟩ := rel.dat i (.fv a J) ea
  refine wpAny_Call_Name_kw (thn ((pe_var (pos := p) hN hv hd hcd).run pins s σ H (fun v H1 => v = .ref a ∧ H1 = H) I ⟨.ref a, k1, rfl, rfl⟩) fun u s1 ⟨v, H1, I1, r1, q1⟩ => ?_)
  obtain ⟨ev, eH⟩ := q1
  subst ev
  rw [eH] at I1
  obtain rfl : u = Value.ref a := r1
  have hq : liftA X.K E (List.replicate n none) t σ H (fun vs H2 => ∃ xs O, Trk O H2 ∧ TabsM H2 ∧ J O H2 ∧ RpAll X.K O H2 vs xs ∧ S.sp (xs.map .d) (fun r _ => retD r fun x => ∀ v H', (∀ b o, H2 b = some o → isTbl o = false → H' b = some o) → (∀ b o, H2 b = some o → ∃ o', H' b = some o') → Tb H2 H' → Rp X.K O H' v x → Q v H')) := by
    refine ⟨π, Fo, ρ, δ, rel, ha.mono _ _ _ _ _ (fun _ z => z) (fun ds δ1 q vs H2 ρ2 e2 rel2 ao => ?_) q⟩
    obtain ⟨xs, hxs, q2⟩ := asDs.to q
    rw [hxs] at ao
    refine ⟨xs, Ox Fo ρ2, rel2.trk, rel2.tab, st.1 _ _ _ _ _ e2.frn (fun _ => .inl) hJ, argOk_ds ao, S.mono _ _ _ (fun r os => retD_mono fun x q v H' fr tk tb rp => ?_) q2⟩
    obtain ⟨r3, e3⟩ := rel2.calm fr tk tb
    exact q v H' ρ2 (e2.trans e3) r3 rp
  refine PySem.W.callWith_F (first := []) (C.fn _ _ _ I1.hok hJ) (thn (ha.pa.run pos pins s1 σ H _ I1 hq) fun us s2 ⟨vs, H2, I2, r, xs, O, g1, g2, g3, g4, g5⟩ => ⟨C.fn _ _ _ I2.hok g3, ?_⟩) he hpl
  show wpAny _ _ (call (.ref a) us) _ _ _
  refine wpAny_call (codeAny_mono (C.run X.A X.stack s2 H2 us vs xs O Q (hr.mono hk) I2.env0 r g1 g2 g3 g4 g5) fun r s' hq => ?_)
  cases r with
  | error e => exact False.elim hq
  | ok fl =>
    cases fl with
    | ret u => exact I2.after hq
    | next => exact False.elim hq
    | brk => exact False.elim hq
    | cont => exact False.elim hq
end
end M3
set_option Elab.async false
set_option linter.all false
set_option maxRecDepth 100000
set_option maxHeartbeats 4000000
namespace M3
open PySem L2 NdefX LamX
variable [TabsC]
theorem okK {CX : CXT} {P : Program} {w : World} {K : PySem.W.Frag} {mg : Str → Option Value} {base : Heap} {x qual : Str} {st : Stmt} {f c : Addr} {fd : FuncData} {N ps : List Str} {k : Nat} {sp : Sp} (F : Fun K x qual st f fd) (hc : fd.code = .ref c) (S : FnScope N ps (defScope st)) (len : ∀ vs H Q E, sp vs H Q E → vs.length = ps.length)
    (hbody : ∀ (A : Around) (outer : List Env) (s : Shared) (H : Hp) (vs : List V) (Q : VK) (E : XK), Room k (A.deeper (PyProof.Rows.envOfC qual (defScope st) s.heap.objs.size f (.ref c))) → sp vs H Q E →
      ∃ t, PSs (cxOf CX P w K mg base N qual (defScope st) f (.ref c) A outer s H E) (defBody st) t ∧ t { nx := fun _ H' => Q .non H', rt := Q } (start N vs) H) : FnOk P w K mg base CX (k + 1) f fd ps sp := by
  obtain ⟨oc, od, kV, doc, pm, an, cdv, ct, osl, rfl, lk, hcd⟩ := F.ex
  obtain rfl : cdv = .ref c := hc
  exact fn_of lk hcd S len hbody
theorem fnXK {P : Program} {w : World} {K : PySem.W.Frag} {mg : Str → Option Value} {base : Heap} {x qual : Str} {st : Stmt} {f c : Addr} {fd : FuncData} {N ps : List Str} {k : Nat} {S : PrmX} (F : Fun K x qual st f fd) (hc : fd.code = .ref c) (Sc : FnScope N ps (defScope st)) (len : ∀ ws Q E, S.p ws Q E → ws.length = ps.length)
    (hbody : ∀ (A : Around) (outer : List Env) (s : Shared) (H : Hp) (E : XK), Room k (A.deeper (PyProof.Rows.envOfC qual (defScope st) s.heap.objs.size f (.ref c))) →
      TakesE (cxOf (L2.CX P w) P w K mg base N qual (defScope st) f (.ref c) A outer s H E) E → PassesOwn (model P w) (cxOf (L2.CX P w) P w K mg base N qual (defScope st) f (.ref c) A outer s H E).A (cxOf (L2.CX P w) P w K mg base N qual (defScope st) f (.ref c) A outer s H E).env (cxOf (L2.CX P w) P w K mg base N qual (defScope st) f (.ref c) A outer s H E).xe →
      ∃ t, PSs3 (cxOf (L2.CX P w) P w K mg base N qual (defScope st) f (.ref c) A outer s H E) E (defBody st) t ∧ ∀ (ws : List W) (Q : R3 → List Ob → Prop) (Ex : Ex3 → Prop), S.p ws Q Ex → normK (start3 N ws) fun δ => t Ex (ends ws Q) δ) :
    FnOk P w K mg base (L2.CX P w) (k + 1) f fd ps (liftF K S.p) := by
  refine okK F hc Sc (fun vs H Q E h => ?_) (fun A outer s H vs Q E hr h => ?_)
  · obtain ⟨π, Fo, ρ, ws, rel, _, _, h⟩ := h
    rw [← len ws _ _ h]
    simpa using rel.len
  · obtain ⟨π, Fo, ρ, ws, rel, tg, hk, h⟩ := h
    obtain ⟨t, h1, h2⟩ := hbody A outer s H E hr (takes_of rfl rfl rfl rfl) (passes_of rfl)
    have h3 := h2 ws _ _ h
    rw [normK_eq] at h3
    refine ⟨_, h1.ps, π, Fo, ρ, _, rel.start N, h1.mono _ _ _ _ _ (fun _ z => z) ⟨fun δ q σ' H' ρ' e' rel' => ?_, fun r δ q v σ' H' ρ' e' rel' rr => ?_, fun _ (z : False) => z.elim, fun _ (z : False) => z.elim⟩ h3⟩
    · obtain ⟨os, q1, q2⟩ := outs_ok rel' ws 0 _ q
      exact q1 .non H' ρ' e' q2 rel'.trk rel'.dis .non
    · obtain ⟨os, q1, q2⟩ := outs_ok rel' ws 0 _ q
      exact q1 v H' ρ' e' q2 rel'.trk rel'.dis rr
def onCl (δ : Sl) (i : Nat) (k : Addr → NF → Prop) : Prop := match δ[i]? with | some (some (.cl f F)) => k f F | _ => False
theorem onCl.to {δ : Sl} {i : Nat} {k} (h : onCl δ i k) : ∃ f F, δ[i]? = some (some (.cl f F)) ∧ k f F := by
  unfold onCl at h
  split at h
  · exact ⟨_, _, by assumption, h⟩
  · exact h.elim
theorem onCl.of {δ : Sl} {i : Nat} {f F} {k : Addr → NF → Prop} (e : δ[i]? = some (some (.cl f F))) (h : k f F) : onCl δ i k := by
  unfold onCl
  rw [e]
  exact h
section
variable {X : Cx} {E : XK} {es : List Expr} {pat : List (Option Nat)} {t : TV3}
theorem rcl3 (i : Nat) {x : Str} {pos' : Pos} (hr : PAr X E es pat t) (hN : X.N[i]? = some x := by rfl) (hv : Vis X.env.scope x := by first | exact Or.inl rfl | exact Or.inr (Or.inl rfl) | exact Or.inr (Or.inr rfl)) (hd : (x == ("__debug__" : Str)) = false := by decide)
    (hcd : (x == ("__classdict__" : Str)) = false := by decide) (hs : starEach (.Name x pos' :: es) X.env = (false, eval (.Name x pos') X.env) :: starEach es X.env := by rfl) :
    PAr X E (.Name x pos' :: es) (none :: pat) (fun E δ Q => onCl δ i fun f F => t E δ fun ys δ1 => Q (.cl f F :: ys) δ1) := by
  refine ⟨fun _ _ _ _ _ he hq q => ?_, (pa_cons (pe_var hN hv hd hcd) hr.pa hs).imp fun σ H Q h => ?_⟩
  · obtain ⟨f, F, e, q⟩ := onCl.to q
    exact onCl.of e (hr.mono _ _ _ _ _ he (fun ys δ1 => hq _ _) q)
  · obtain ⟨π, Fo, ρ, δ, rel, q⟩ := h
    obtain ⟨f, F, e, q⟩ := onCl.to q
    obtain ⟨v, h1, h2⟩ := rel.dat i (.cl f F) e
    refine ⟨v, h1, π, Fo, ρ, δ, rel, hr.mono _ _ _ _ _ (fun _ z => z) (fun y δ2 q us H2 ρ2 e2 rel2 r2 => ?_) q⟩
    exact q (v :: us) H2 ρ2 e2 rel2 (.d (x := .cl f F) (h2.ext e2.frn fun _ => .inl) r2)
end
theorem clo_dom {X : Cx} {scope : Scope} {fr : List Str} (hfr : ∀ y ∈ scope.names, y.2 = .free → y.1 ∈ fr) : ∀ y c, (cloFrom X.env.cells scope.names []).lookup y = some c → y ∈ fr := fun y c h => by
  rcases cloFrom_mem (PySem.mem_of_lookup h) with z | ⟨z, _⟩
  · cases z
  · exact hfr _ z rfl
def freeB (sc scope : Scope) : Bool := scope.names.all fun y => !decide (y.2 = .free) || (decide (sc.names.lookup y.1 = some .cell) || decide (sc.names.lookup y.1 = some .free))
theorem freeB_to {sc scope : Scope} (h : freeB sc scope = true) : ∀ y ∈ scope.names, y.2 = .free → sc.names.lookup y.1 = some .cell ∨ sc.names.lookup y.1 = some .free := fun y hy e => by
  have := List.all_eq_true.mp h y hy
  simp only [Bool.or_eq_true, Bool.not_eq_true', decide_eq_true_eq, decide_eq_false_iff_not] at this
  exact this.elim (fun z => absurd e z) id
def frB (scope : Scope) (fr : List Str) : Bool := (scope.names.all fun y => !decide (y.2 = .free) || decide (y.1 ∈ fr)) && fr.all fun y => decide ((y, NameKind.free) ∈ scope.names)
theorem frB_to {scope : Scope} {fr : List Str} (h : frB scope fr = true) : (∀ y ∈ scope.names, y.2 = .free → y.1 ∈ fr) ∧ ∀ y ∈ fr, (y, NameKind.free) ∈ scope.names := by
  unfold frB at h
  rw [Bool.and_eq_true] at h
  refine ⟨fun y hy e => ?_, fun y hy => of_decide_eq_true (List.all_eq_true.mp h.2 y hy)⟩
  have := List.all_eq_true.mp h.1 y hy
  simp only [Bool.or_eq_true, Bool.not_eq_true', decide_eq_true_eq, decide_eq_false_iff_not] at this
  exact this.elim (fun z => absurd e z) id
section
variable {X : Cx} {E : XK} {k j : Nat} {ps : List Str} {e : Expr} {es : List Expr} {x : Str} {p pos : Pos} {pat : List (Option Nat)} {t : TV3}
theorem clXC {S : PrmX} (C : CalX X.prog X.w X.K X.mg X.base k x ps S) (tk : TakesE X E) (scope : Scope) (fr : List Str) (js : List Nat) (hN : X.N.Nodup) (h1 : freeB X.env.scope scope = true) (h2 : frB scope fr = true) (hfn : (fr.all fun y => X.fn y) = true) (hr : Room j X.A) (ha : PAr X E (e :: es) pat t) (hjs : js.map (fun j => X.N[j]?) = fr.map some := by rfl) (hk : k ≤ j := by first | decide | omega) (hg : Gl X x := by rfl) (nd : (pat.filterMap id).Nodup := by decide) (hdb : (x == ("__debug__" : Str)) = false := by decide)
    (he : starEach (e :: es) X.env = (false, eval e X.env) :: starEach es X.env := by rfl) (hpl : (backTo pos (starEach es X.env)).any (·.1) = false := by rfl) : PE3 X E (.Call (.Name x p) (e :: es) [] pos) (tCallC3 X.K (cloFrom X.env.cells scope.names []) fr js S.p pat t) := by
  obtain ⟨f, fd, F, hm, hk', hb⟩ := C.ex
  exact callC3 F S.mono offOkX hN (hr.mono hk) hg hm hk' hb (passes_call tk fun _ _ _ _ h => h) (fun ok => Caps.made ok (freeB_to h1) (frB_to h2).2 hjs) (fun y hy => List.all_eq_true.mp hfn y hy) (fun _ => clo_dom (frB_to h2).1) ha nd hdb he hpl
end
def sF (f : Addr → ((Addr → Prop) → Hp → Prop) → Spec) : Spec := fun ws Q => match ws with | .fv x I :: r => f x I r Q | _ => False
theorem sF.inv {f ws Q} (h : sF f ws Q) : ∃ x I r, ws = .fv x I :: r ∧ f x I r Q := by
  unfold sF at h; split at h
  · exact ⟨_, _, _, rfl, h⟩
  · exact h.elim
section
variable {X : Cx} {E : XK} {a b c : Expr} {ta tb tc : T3} {pos : Pos}
end
end M3
set_option Elab.async false
set_option linter.all false
set_option maxRecDepth 100000
set_option maxHeartbeats 4000000
namespace M3
open PySem PySem.Spec PyProof.Rows L2 NdefX LamX
variable [TabsC]
inductive Sh : Nat → Nat → D → Prop
  | non {k n : Nat} : 1 ≤ n → Sh k n .none
  | bl {k n : Nat} {b : Bool} : 1 ≤ n → Sh k n (.bool b)
  | int {k n : Nat} {i : Int} : 1 ≤ n → i.natAbs < 10 ^ 20 → Sh k n (.int i)
  | str {k n : Nat} {x : Str} : (PyData.shown (.str x)).length + 2 ≤ 30 * n → Sh k n (.str x)
  | tup {k n m : Nat} {xs : List D} : (∀ x ∈ xs, Sh k n x) → 1 + xs.length * n ≤ m → Sh (k + 1) m (.tuple xs)
theorem log_small {i : Int} (h : i.natAbs < 10 ^ 20) : i.natAbs.log2 < 1920 := by
  by_cases h0 : i.natAbs = 0
  · rw [h0]; decide
  · exact (Nat.log2_lt h0).mpr (Nat.lt_of_lt_of_le h (Nat.le_trans (show 10 ^ 20 ≤ 2 ^ 100 by decide) (Nat.pow_le_pow_right (by decide) (by decide))))
structure ShOk (k n : Nat) (d : D) : Prop where
  shw : d.showable = true
  nod : d.hasDict = false
  dep : d.depth ≤ k
  len : d.shown.length + 2 ≤ 30 * n
theorem piled_all {n : Nat} : ∀ xs : List D, (∀ x ∈ xs, (x.shown.length + 2 ≤ 30 * n)) → piled (PyData.shownAll xs) ≤ xs.length * (30 * n)
  | [], _ => by simp [PyData.shownAll, piled]
  | x :: xs, h => by
    have h1 := h x List.mem_cons_self
    have h2 := piled_all xs fun y hy => h y (List.mem_cons_of_mem _ hy)
    rw [PyData.shownAll, piled_cons, List.length_cons, Nat.succ_mul]
    omega
theorem sh_show : ∀ xs : List D, (∀ x ∈ xs, x.showable = true) → PyData.showableAll xs = true
  | [], _ => rfl
  | x :: xs, h => by
    rw [PyData.showableAll, h x List.mem_cons_self, sh_show xs fun y hy => h y (List.mem_cons_of_mem _ hy)]; rfl
theorem sh_nodict : ∀ xs : List D, (∀ x ∈ xs, x.hasDict = false) → PyData.hasDictAll xs = false
  | [], _ => rfl
  | x :: xs, h => by
    rw [PyData.hasDictAll, h x List.mem_cons_self, sh_nodict xs fun y hy => h y (List.mem_cons_of_mem _ hy)]; rfl
theorem sh_depth {k : Nat} : ∀ xs : List D, (∀ x ∈ xs, x.depth ≤ k) → PyData.depthAll xs ≤ k
  | [], _ => by simp [PyData.depthAll]
  | x :: xs, h => by
    have h1 := h x List.mem_cons_self
    have h2 := sh_depth xs fun y hy => h y (List.mem_cons_of_mem _ hy)
    rw [PyData.depthAll]
    omega
theorem Sh.ok {k n : Nat} {d : D} (h : Sh k n d) : ShOk k n d := by
  induction h with
  | non h => exact ⟨rfl, rfl, by simp [PyData.depth], by rw [show (PyData.shown .none).length = 4 by decide +kernel]; omega⟩
  | bl h =>
    rename_i b
    refine ⟨rfl, rfl, by simp [PyData.depth], ?_⟩
    have : (PyData.shown (.bool b)).length ≤ 5 := by cases b <;> decide +kernel
    omega
  | int h hi =>
    rename_i i
    refine ⟨by simp only [PyData.showable]; exact decide_eq_true (log_small hi), rfl, by simp [PyData.depth], ?_⟩
    have h1 := PySem.int_text_length_le10 (a := i) (k := 20) (by decide) hi
    have h2 : (PyData.shown (.int i)).length = (toString i).length := PySem.ofString_length _
    omega
  | str h => exact ⟨rfl, rfl, by simp [PyData.depth], h⟩
  | tup h hm ih =>
    rename_i k n m xs
    have t1 : (tupleText (PyData.shownAll xs)).length ≤ piled (PyData.shownAll xs) + 2 := fmt_text _
    have t2 := piled_all xs fun x hx => (ih x hx).len
    refine ⟨?_, ?_, ?_, ?_⟩
    · simp only [PyData.showable]; exact sh_show xs fun x hx => (ih x hx).shw
    · simp only [PyData.hasDict]; exact sh_nodict xs fun x hx => (ih x hx).nod
    · have := sh_depth xs fun x hx => (ih x hx).dep
      simp only [PyData.depth]; omega
    · simp only [PyData.shown]
      have : xs.length * (30 * n) = 30 * (xs.length * n) := by rw [Nat.mul_left_comm]
      omega
theorem Sh.mono {k n k' n' : Nat} {d : D} (h : Sh k n d) (hk : k ≤ k') (hn : n ≤ n') : Sh k' n' d := by
  induction h generalizing k' n' with
  | non h => exact .non (by omega)
  | bl h => exact .bl (by omega)
  | int h hi => exact .int (by omega) hi
  | str h => exact .str (by omega)
  | tup h hm ih =>
    obtain ⟨k', rfl⟩ : ∃ j, k' = j + 1 := ⟨k' - 1, by omega⟩
    exact .tup (fun x hx => ih x hx (by omega) (Nat.le_refl _)) (by omega)
section
variable {X : Cx} {pins : List (Addr × Obj)} {σ : L2.St} {H : Hp} {s : Shared} {O : Addr → Prop}
end
section
variable {X : Cx} {E : XK} {a : Expr} {ta : T3} {pos : Pos}
def rReprR (x : D) (k : D → Prop) : Prop := (∃ xs, x = .tuple xs) ∧ Ask (∃ d n, Sh d n x ∧ d ≤ 60 ∧ n ≤ 500000) ∧ k (.str x.shown)
end
structure FnG (P : Program) (w : World) (K : PySem.W.Frag) (mg : Str → Option Value) (base : Heap) (CX : CXT) (k : Nat) (f : Addr) (fd : FuncData) (ps : List Str) (sp : Sp) : Prop where
  run : ∀ (A : Around) (outer : List Env) (s : Shared) (H : Hp) (args : PySem.Args) (us : List Value) (vs : List V) (Q : VK) (E : XK), A.guards = some [] → Room k A → Env0 P w K mg base A outer s H → BindsTo s fd args (ps.zip us) → Vals vs us → sp vs H Q E →
    codeAny (model P w) A (.call (.ref f) args) (CR CX outer P w H s Q E) s
theorem fnG_of {CX : CXT} {P : Program} {w : World} {K : PySem.W.Frag} {mg : Str → Option Value} {base : Heap} {x qual : Str} {st : Stmt} {f : Addr} {fd : FuncData} {N ps : List Str} {k : Nat} {sp : Sp} (F : Fun K x qual st f fd) (S : FnScope N ps (defScope st)) (len : ∀ vs H Q E, sp vs H Q E → vs.length = ps.length)
    (hbody : ∀ (cdv : Value) (A : Around) (outer : List Env) (s : Shared) (H : Hp) (vs : List V) (Q : VK) (E : XK), A.guards = some [] → Room k (A.deeper (PyProof.Rows.envOfC qual (defScope st) s.heap.objs.size f cdv)) → sp vs H Q E →
      ∃ t, PSs (cxOf CX P w K mg base N qual (defScope st) f cdv A outer s H E) (defBody st) t ∧ t { nx := fun _ H' => Q .non H', rt := Q } (start N vs) H) : FnG P w K mg base CX (k + 1) f fd ps sp := by
  obtain ⟨oc, od, kV, doc, pm, an, cdv, ct, osl, rfl, lk, hcd⟩ := F.ex
  refine ⟨fun A outer s H args us vs Q E hgd hr e0 hb r hsp => ?_⟩
  have hl := len _ _ _ _ hsp
  have kp : ∀ b o, base.get? b = some o → s.heap.get? b = some o := fun b o e => (e0.bs b o e).1
  have KX : K.In s.heap := e0.mod.kin.keeps kp
  refine codeAny_call_function hr.depth (KX _ _ lk) rfl S.co S.gen rfl (PySem.W.codeRec_of KX hcd) (hb _ _ _ _ ?_)
  refine wpAny_newFunctionEnv_cells S.kind (fun y hy => ?_) fun env he s1 x => ?_
  · rcases S.par y.1 (List.of_mem_zip hy).1 with q | q
    · exact .inl q
    · exact .inr ⟨q, PySem.W.cellsFrom_some _ _ _ (.inl q)⟩
  subst he
  obtain ⟨t, ht, hq⟩ := hbody cdv A outer s H vs Q E hgd (hr.deeper _) hsp
  have I := inv_start (CX := CX) (E := E) S hr.hd e0 hl r x
  refine ⟨(e0.mod.nolimit.keeps kp).keeps x.toInCall.keep, codeAny_func (wpAny_mono (ht.run [] s1 (start N vs) H _ I hq) (fun fl s' hs => ?_) fun e s' hs => hs)⟩
  cases fl with
  | ret u =>
    obtain ⟨v, σ', H', J, rv, q⟩ := hs
    exact ⟨v, H', J.os, J.bare, J.base, J.hok, rv, q⟩
  | next =>
    obtain ⟨σ', H', J, q⟩ := hs
    exact ⟨V.non, H', J.os, J.bare, J.base, J.hok, rfl, q⟩
  | brk =>
    obtain ⟨_, _, _, q⟩ := hs
    exact False.elim q
  | cont =>
    obtain ⟨_, _, _, q⟩ := hs
    exact False.elim q
theorem fnG {P : Program} {w : World} {K : PySem.W.Frag} {mg : Str → Option Value} {base : Heap} {x qual : Str} {st : Stmt} {f : Addr} {fd : FuncData} {N ps : List Str} {k : Nat} {S : PrmC} (F : Fun K x qual st f fd) (Sc : FnScope N ps (defScope st)) (len : ∀ ws Q, S.sp ws Q → ws.length = ps.length)
    (hbody : ∀ (cdv : Value) (A : Around) (outer : List Env) (s : Shared) (H : Hp) (E : XK), A.guards = some [] → Room k (A.deeper (PyProof.Rows.envOfC qual (defScope st) s.heap.objs.size f cdv)) →
      ∃ t, PSs3 (cxOf CX0 P w K mg base N qual (defScope st) f cdv A outer s H E).nox XF (defBody st) t ∧ ∀ (ws : List W) (Q : R3 → List Ob → Prop), S.sp ws Q → normK (start3 N ws) fun δ => t (fun _ => False) (ends ws Q) δ) :
    FnG P w K mg base CX0 (k + 1) f fd ps (liftF K S.p) := by
  refine fnG_of F Sc (fun vs H Q E h => ?_) (fun cdv A outer s H vs Q E hgd hr h => ?_)
  · obtain ⟨π, Fo, ρ, ws, rel, _, _, h⟩ := h
    rw [← len ws _ h]
    simpa using rel.len
  · obtain ⟨π, Fo, ρ, ws, rel, tg, hk, h⟩ := h
    obtain ⟨t, h1, h2⟩ := hbody cdv A outer s H E hgd hr
    have h3 := h2 ws _ h
    rw [normK_eq] at h3
    refine ⟨_, h1.ps.nox, π, Fo, ρ, _, rel.start N, h1.mono _ _ _ _ _ (fun _ z => z.elim) ⟨fun δ q σ' H' ρ' e' rel' => ?_, fun r δ q v σ' H' ρ' e' rel' rr => ?_, fun _ (z : False) => z.elim, fun _ (z : False) => z.elim⟩ h3⟩
    · obtain ⟨os, q1, q2⟩ := outs_ok rel' ws 0 _ q
      exact q1 .non H' ρ' e' q2 rel'.trk rel'.dis .non
    · obtain ⟨os, q1, q2⟩ := outs_ok rel' ws 0 _ q
      exact q1 v H' ρ' e' q2 rel'.trk rel'.dis rr
def H0 (K : PySem.W.Frag) (a : Addr) (T : List Addr) (vs : List Value) (ns : List Int) : Hp := fun b =>
  if b = a ∧ K.lookup a = none then some (.frz { cls := .type "list", data := .seq vs.toArray } (.lst (ns.map V.int))) else if b ∈ T then some (.tbl #[]) else none
section
variable {P : Program} {w : World} {K : PySem.W.Frag} {a : Addr} {T : List Addr} {vs : List Value} {ns : List Int} {h : Heap}
theorem H0.cases {b : Addr} {u : HO} (e : H0 K a T vs ns b = some u) : (b = a ∧ K.lookup a = none ∧ u = .frz { cls := .type "list", data := .seq vs.toArray } (.lst (ns.map V.int))) ∨ (b ∈ T ∧ u = .tbl #[]) := by
  unfold H0 at e
  split at e
  · rename_i z; exact .inl ⟨z.1, z.2, (Option.some.inj e).symm⟩
  · split at e
    · rename_i z; exact .inr ⟨z, (Option.some.inj e).symm⟩
    · cases e
theorem H0.tab {b : Addr} (hb : b ∈ T) (ha : a ∉ T) : H0 K a T vs ns b = some (.tbl #[]) := by
  unfold H0
  rw [if_neg (fun z : b = a ∧ _ => ha (z.1 ▸ hb)), if_pos hb]
theorem H0.sq (KX : K.In h) (ha : h.get? a = some { cls := .type "list", data := .seq vs.toArray }) (hi : IntsAre vs ns) (hl : ns.length ≤ sizeLine) : SqL K (H0 K a T vs ns) a (ns.map V.int) := by
  cases hk : K.lookup a with
  | none => exact .inl (.inr ⟨_, by unfold H0; rw [if_pos ⟨rfl, hk⟩]⟩)
  | some o =>
    have e := KX a o hk
    rw [ha] at e; cases e
    exact .inr ⟨_, vs.toArray, _, hk, rfl, rfl, rfl, by rw [List.size_toArray, hi.length]; exact hl, by simpa using vals_ints hi⟩
theorem H0.ok (ha : h.get? a = some { cls := .type "list", data := .seq vs.toArray }) (hT : ∀ b ∈ T, h.get? b = some { cls := .none, data := .fields #[] }) (hi : IntsAre vs ns) (hl : ns.length ≤ sizeLine) : HOk P w (H0 K a T vs ns) h := by
  intro b u e
  rcases H0.cases e with ⟨rfl, _, rfl⟩ | ⟨hb, rfl⟩
  · exact ⟨ha, by rw [List.length_map]; exact hl, vs, _, vals_ints hi, ha⟩
  · exact hT b hb
theorem H0.off {b : Addr} {o : Obj} (ha : h.get? a = some { cls := .type "list", data := .seq vs.toArray }) (hT : ∀ b ∈ T, h.get? b = some { cls := .none, data := .fields #[] }) (e : h.get? b = some o) (h1 : ∀ us n, o.data ≠ .seq us n) (h2 : o.data ≠ .fields #[]) : H0 K a T vs ns b = none := by
  cases q : H0 K a T vs ns b with
  | none => rfl
  | some u =>
    rcases H0.cases q with ⟨rfl, _, _⟩ | ⟨hb, _⟩
    · rw [ha] at e; cases e; exact absurd rfl (h1 _ _)
    · rw [hT b hb] at e; cases e; exact absurd rfl h2
end
theorem callG {P : Program} {w : World} {K : PySem.W.Frag} {mg mb : Str → Option Value} {k : Nat} {fa a : Addr} {cs : List (Addr × Addr)} {fd : FuncData} {x : Str} {sp : Sp} {s₁ : Shared} {vs : List Value} {ns : List Int}
    (KX : K.In s₁.heap) (hns : s₁.heap.Ns mainGlobals mg) (hb : s₁.heap.Ns builtinsNs mb) (hbb : ∀ x : Str, x ≠ "__name__" → mb x = bootBuiltins x) (hlim : s₁.heap.NoLimit) (hg : s₁.gens = #[])
    (hT : ∀ p ∈ cs, s₁.heap.get? p.2 = some { cls := .none, data := .fields #[] }) (nT : ∀ p ∈ cs, K.lookup p.2 = none) (C : ∀ p ∈ cs, PySem.W.CodeHd s₁.heap p.1 p.2)
    (hbm : ∃ (bm : Addr) (ob : Obj), mg "__builtins__" = some (.ref bm) ∧ bm ≠ builtinsNs ∧ s₁.heap.get? bm = some ob ∧ ob.cls = .type "module" ∧ ob.dict = some builtinsNs ∧ ob.data = .plain)
    (ha : s₁.heap.get? a = some { cls := .type "list", data := .seq vs.toArray }) (hi : IntsAre vs ns) (hl : ns.length ≤ sizeLine) (hr : Room k callerA)
    (F : ∀ base : Heap, K.In base → base.Ns mainGlobals mg → (∀ p ∈ cs, TabB base mg p.1 p.2) → FnG P w K mg base CX0 k fa fd [x] sp) (hbind : ∀ (s : Shared) (u : Value), BindsTo s fd ⟨[u], []⟩ [(x, u)])
    (hsp : ∀ H : Hp, (∀ p ∈ cs, H p.2 = some (.tbl #[])) → SqL K H a (ns.map V.int) → sp [.ref a] H (fun v _ => v = .bl true) fun _ _ _ => False) :
    codeAny (model P w) callerA (.call (.ref fa) ⟨[.ref a], []⟩) (fun r s' => r = .ok (.ret (.bool true)) ∧ OldK s₁.heap s'.heap ∧ s'.os = s₁.os ∧ AllBare s'.gens) s₁ := by
  generalize eT : cs.map (·.2) = T
  have inT : ∀ p ∈ cs, p.2 ∈ T := fun p hp => eT ▸ List.mem_map.mpr ⟨p, hp, rfl⟩
  have ofT : ∀ b ∈ T, ∃ p ∈ cs, p.2 = b := fun b hb => by rw [← eT] at hb; exact List.mem_map.mp hb
  have isT : ∀ b ∈ T, s₁.heap.get? b = some { cls := .none, data := .fields #[] } := fun b hb => by obtain ⟨p, hp, rfl⟩ := ofT b hb; exact hT p hp
  have aT : a ∉ T := fun z => by
    have q := isT a z
    rw [ha] at q
    cases q
  have off := fun {b : Addr} {o : Obj} => H0.off (K := K) (a := a) (T := T) (vs := vs) (ns := ns) (h := s₁.heap) (b := b) (o := o) ha isT
  generalize eH : H0 K a T vs ns = H
  rw [eH] at off
  have hok : HOk P w H s₁.heap := eH ▸ H0.ok ha isT hi hl
  have hS : SqL K H a (ns.map V.int) := eH ▸ H0.sq KX ha hi hl
  have hH : ∀ p ∈ cs, H p.2 = some (.tbl #[]) := fun p hp => eH ▸ H0.tab (inT p hp) aT
  have csH : ∀ {b : Addr} {u : HO}, H b = some u → _ := fun {b u} e => H0.cases (K := K) (a := a) (T := T) (vs := vs) (ns := ns) (b := b) (u := u) (eH ▸ e)
  have dic : ∀ {b : Addr} {o : Obj} {es : Array DictEntry} {ep : Nat}, s₁.heap.get? b = some o → o.data = .dict es ep → H b = none := fun e d => off e (fun us n z => by rw [d] at z; cases z) (fun z => by rw [d] at z; cases z)
  have nsK : ∀ {b : Addr} {m : Str → Option Value}, s₁.heap.Ns b m → (hidT s₁.heap H).Ns b m := fun ⟨o, es, ep, e, d, r⟩ => ⟨o, es, ep, hidT_get e (dic e d), d, r⟩
  have hKb : K.In (hidT s₁.heap H) := fun b o e => hidT_get (KX b o e) (by
    cases q : H b with
    | none => rfl
    | some u =>
      rcases csH q with ⟨rfl, z, _⟩ | ⟨hb, _⟩
      · rw [z] at e; cases e
      · obtain ⟨p, hp, rfl⟩ := ofT b hb
        rw [nT p hp] at e; cases e)
  have hM : L2.Mod K mg (hidT s₁.heap H) := ⟨hKb, nsK hns, ⟨mb, nsK hb, hbb⟩, let ⟨mc, h1, h2⟩ := hlim; ⟨mc, nsK h1, h2⟩⟩
  have TB : ∀ p ∈ cs, TabB (hidT s₁.heap H) mg p.1 p.2 := fun p hp => by
    have hTp := hT p hp
    refine ⟨?_, ?_, fun z => ?_⟩
    · obtain ⟨o, us, file, tf, flags, tg, inF, text, tt, e1, r1, r2, r3, rest⟩ := C p hp
      refine ⟨o, us, file, tf, flags, tg, inF, text, tt, hidT_get e1 (off e1 (fun vs n z => ?_) fun z => ?_), r1, r2, r3, rest⟩
      · rw [r2] at z; cases z
      · rw [r2] at z; cases z; simp at r3
    · obtain ⟨bm, ob, b1, b2, b3, b4, b5, b6⟩ := hbm
      refine ⟨bm, ob, b1, b2, fun q => ?_, fun q => ?_, hidT_get b3 (off b3 (fun vs n z => ?_) fun z => ?_), b4, b5, b6⟩
      · obtain ⟨o, es, ep, e, hd, _⟩ := hns
        rw [q, e] at b3; cases b3
        rw [hd] at b6; cases b6
      · rw [q, hTp] at b3; cases b3; cases b6
      · rw [b6] at z; cases z
      · rw [b6] at z; cases z
    · obtain ⟨o, es, ep, e, hd, _⟩ := hns
      rw [z, hTp] at e; cases e; cases hd
  have e0 : Env0 P w K mg (hidT s₁.heap H) callerA [] s₁ H := ⟨rfl, hM, fun b o e => of_hidT e, Nat.le_of_eq (hidT_size _ _), trivial, fun b hb => absurd (show b ∈ ([] : List Addr) from hb) (by simp), hok, .of_eq hg⟩
  refine codeAny_mono ((F _ hKb (nsK hns) TB).run callerA [] s₁ H ⟨[.ref a], []⟩ [.ref a] [.ref a] _ _ rfl hr e0 (hbind s₁ (.ref a)) (.cons rfl .nil) (hsp H hH hS)) fun r s' h => ?_
  rcases r with e | fl
  · exact False.elim h
  rcases fl with _ | _ | _ | u <;> first | exact False.elim h | skip
  obtain ⟨v, H', os, bare, un, hok', r', q⟩ := h
  obtain rfl : v = .bl true := q
  obtain rfl : u = Value.bool true := r'
  have key : ∀ b o, b ∉ T → s₁.heap.get? b = some o → s'.heap.get? b = some o := fun b o nb e => by
    cases q : H b with
    | none => exact un.keep b o e q (by intro z; exact absurd (show b ∈ ([] : List Addr) from z) (by simp)) (by simp)
    | some u =>
      rcases csH q with ⟨rfl, _, rfl⟩ | ⟨hb, _⟩
      · have e1 := (hok b _ q).1
        have e2 := (hok' b _ (un.frzs b _ _ q)).1
        rw [e] at e1; cases e1; exact e2
      · exact absurd hb nb
  have tab : ∀ b ∈ T, ∃ p ∈ cs, p.2 = b ∧ ∃ more : Array Value, s'.heap.get? b = some { cls := .none, data := .fields more } := fun b hb => by
    obtain ⟨p, hp, rfl⟩ := ofT b hb
    obtain ⟨more, z⟩ := un.tbls p.2 #[] (hH p hp)
    exact ⟨p, hp, rfl, _, hok' p.2 _ z⟩
  refine ⟨rfl, ⟨fun b o e => ?_, fun b o e => ?_⟩, os, bare⟩
  · by_cases hb : b ∈ T
    · obtain ⟨p, hp, rfl, more, hm⟩ := tab b hb
      rw [hT p hp] at e; cases e
      exact .inr (.inl ⟨((C p hp).tab (hT p hp)).isCodeTable, rfl, #[], more, rfl, by rw [Array.empty_append]; exact hm⟩)
    · exact .inl (key b o hb e)
  · by_cases hb : b ∈ T
    · obtain ⟨_, _, _, more, hm⟩ := tab b hb; exact ⟨_, hm⟩
    · exact ⟨o, key b o hb e⟩
theorem walkG {l : PySem.W.OpenLaw} {k : Nat} {q : Program} {loose : List Str} {XP : (Str → Option Value) → Heap → Prop} {YP : World → Heap → Prop} {d : DefRec} {K : Params → PySem.W.Frag} (hn : l.most = some 63) (hdf : d.params.defaults = []) (hr : Room k callerA)
    (hY : ∀ (w : World) (h : Heap), YP w h → (K w.params).In h)
    (F : ∀ (w : World) (mg : Str → Option Value) (fa : Addr) (h : Heap), YP w h → (K w.params).In h → h.Ns mainGlobals mg → mg d.name = some (.ref fa) →
      ∃ (fd : FuncData) (cs : List (Addr × Addr)) (T : TabsC), (∀ p ∈ cs, h.get? p.2 = some { cls := .none, data := .fields #[] }) ∧ (∀ p ∈ cs, (K w.params).lookup p.2 = none) ∧ (∀ p ∈ cs, PySem.W.CodeHd h p.1 p.2) ∧ (∀ p ∈ T.T, ∃ c, (c, p.1) ∈ cs) ∧ (∀ (s : Shared) (u : Value), BindsTo s fd ⟨[u], []⟩ [("script", u)]) ∧
        ∀ base : Heap, (K w.params).In base → base.Ns mainGlobals mg → (∀ p ∈ cs, TabB base mg p.1 p.2) → FnG l.prog w (K w.params) mg base CX0 k fa fd ["script"] (@liftF T (K w.params) S_lawC.p)) :
    PySem.W.WalkO q loose XP YP l.row.toRowW d [] (fun f vs => PySem.call f vs) := by
  refine Att.attach_callB hn hdf fun w s₀ s₁ mg mb fa o pm cd doc a vs ns G Y ho hd hcd hmg hobj hints hlen hbits hg => ?_
  have KX := hY w _ Y
  obtain ⟨fd, cs, T, hT, nT, C, hTT, hb, hF⟩ := F w mg fa _ Y KX G.T.g hmg
  refine callG KX G.T.g G.T.b G.T.builtins G.T.nolimit hg hT nT C G.T.bmain hobj hints (Nat.le_trans hlen (by decide)) hr hF hb (fun H hH hS => ?_)
  refine @law_hsp T _ _ _ _ hlen (fun p hp => ?_) hS
  obtain ⟨c, hc⟩ := hTT p hp
  refine ⟨#[], hH _ hc, True.intro, fun pos cv z => ?_⟩
  simp [codeAmong] at z
end M3
set_option Elab.async false
set_option linter.all false
set_option maxRecDepth 100000
set_option maxHeartbeats 4000000
namespace M3
open PySem PySem.Spec PyProof.Rows L2 NdefX LamX
variable [TabsC]
def hid : Option W → Option W
  | some (.own _ _) => none
  | some (.lnt _) => none
  | w => w
def hide (δ : Sl) : Sl := δ.map hid
theorem hide_get {δ : Sl} {j : Nat} {y : DV} (h : (hide δ)[j]? = some (some y.w)) : δ[j]? = some (some y.w) := by
  unfold hide at h
  rw [List.getElem?_map] at h
  cases e : δ[j]? with
  | none => rw [e] at h; cases h
  | some w =>
    rw [e] at h
    have h : hid w = some y.w := Option.some.inj h
    cases w with
    | none => cases h
    | some w =>
      cases w <;> first | (cases h; done) | (rw [← h]; rfl)
theorem hide_no {δ : Sl} {j t : Nat} {o : Ob} (h : (hide δ)[j]? = some (some (.own t o))) : False := by
  unfold hide at h
  rw [List.getElem?_map] at h
  cases e : δ[j]? with
  | none => rw [e] at h; cases h
  | some w =>
    rw [e] at h
    have h : hid w = some (.own t o) := Option.some.inj h
    cases w with
    | none => cases h
    | some w => cases w <;> cases h
theorem hide_nl {δ : Sl} {j p : Nat} (h : (hide δ)[j]? = some (some (.lnt p))) : False := by
  unfold hide at h
  rw [List.getElem?_map] at h
  cases e : δ[j]? with
  | none => rw [e] at h; cases h
  | some w =>
    rw [e] at h
    have h : hid w = some (.lnt p) := Option.some.inj h
    cases w with
    | none => cases h
    | some w => cases w <;> cases h
theorem hide_len {δ : Sl} : (hide δ).length = δ.length := by unfold hide; simp
section
variable {K : PySem.W.Frag} {O O2 : Addr → Prop} {H H2 : Hp} {a : Addr} {od : Obj} {kvs : List (Key × V)}
mutual
theorem Rp.thaw (ha : H a = some (.frz od (.dK kvs))) (hH : ∀ b, b ≠ a → H2 b = H b) (hO : ∀ b, b ≠ a → O2 b → O b) : ∀ {v : V} {x : D}, Rp K O H v x → x.hasDict = false → Rp K O2 H2 v x
  | _, _, .non, _ => .non
  | _, _, .bl b, _ => .bl b
  | _, _, .int i, _ => .int i
  | _, _, .str x, _ => .str x
  | _, _, .lst (a := b) h r, n => by
    have nb : b ≠ a := fun z => by rw [z] at h; rw [h.1] at ha; cases ha
    exact .lst ⟨(hH b nb).trans h.1, fun z => h.2 (hO b nb z)⟩ (RpAll.thaw ha hH hO r (by simpa only [PyData.hasDict] using n))
  | _, _, .tup (a := b) h r, n => by
    refine .tup ?_ (RpAll.thaw ha hH hO r (by simpa only [PyData.hasDict] using n))
    rcases h with ⟨h, n1⟩ | h
    · have nb : b ≠ a := fun z => by
        rw [z] at h
        rcases h with h | ⟨o, h⟩ <;> (rw [h] at ha; cases ha)
      refine .inl ⟨?_, fun z => n1 (hO b nb z)⟩
      rcases h with h | ⟨o, h⟩
      · exact .inl ((hH b nb).trans h)
      · exact .inr ⟨o, (hH b nb).trans h⟩
    · exact .inr h
  | _, _, .dic _ _ _, n => by simp [PyData.hasDict] at n
theorem RpAll.thaw (ha : H a = some (.frz od (.dK kvs))) (hH : ∀ b, b ≠ a → H2 b = H b) (hO : ∀ b, b ≠ a → O2 b → O b) : ∀ {vs : List V} {xs : List D}, RpAll K O H vs xs → PyData.hasDictAll xs = false → RpAll K O2 H2 vs xs
  | _, _, .nil, _ => .nil
  | _, _, .cons r1 r2, n => by
    rw [PyData.hasDictAll, Bool.or_eq_false_iff] at n
    exact .cons (Rp.thaw ha hH hO r1 n.1) (RpAll.thaw ha hH hO r2 n.2)
end
end
def F1 (F : Addr → Prop) (ρ : Rho) (a : Addr) : Addr → Prop := fun b => F b ∨ (Ow ρ b ∧ b ≠ a)
def ρ0 : Rho := fun _ => none
theorem ow0 {b : Addr} (h : Ow ρ0 b) : False := by obtain ⟨i, h⟩ := h; cases h
structure Rh (ρ ρ2 : Rho) (δ : Sl) (H H2 : Hp) : Prop where
  same : ∀ j, j < δ.length → ρ2 j = ρ j
  inj : ∀ i j b, ρ2 i = some b → ρ2 j = some b → i = j
  new : ∀ b, Ow ρ2 b → Ow ρ b ∨ (H b = none ∧ ∃ o, H2 b = some o)
theorem Rh.refl {K : PySem.W.Frag} {π : Rho} {F : Addr → Prop} {ρ : Rho} {H H2 : Hp} {σ : L2.St} {δ : Sl} (r : Rel K π F ρ H σ δ) : Rh ρ ρ δ H H2 := ⟨fun _ _ => rfl, r.inj, fun _ => .inl⟩
theorem Rel.after {K : PySem.W.Frag} {π : Rho} {F : Addr → Prop} {ρ ρ2 : Rho} {H H2 : Hp} {σ : L2.St} {δ : Sl} (r : Rel K π F ρ H σ δ) (keep : ∀ b o, H b = some o → isTbl o = false → H2 b = some o) (tk2 : ∀ b o, H b = some o → ∃ o', H2 b = some o') (tb2 : Tb H H2) (g : Rh ρ ρ2 δ H H2) :
    Ext (Ow ρ) (Ow ρ) H (Ow ρ2) H2 ∧ Rel K π F ρ2 H2 σ δ := by
  have e3 : Ext (Ow ρ) (Ow ρ) H (Ow ρ2) H2 := ⟨fun b o hb n tf => keep b o hb tf, fun b z => (g.new b z).imp id fun q => q.1, tk2, tb2⟩
  refine ⟨e3, ⟨r.len, fun j y q => ?_, fun j t' o q => ?_, g.inj, fun b z => ?_, fun b z w => ?_, fun p b z => ?_, r.ln, tb2.t r.tab⟩⟩
  · obtain ⟨w, k1, k2⟩ := r.dat j y q
    exact ⟨w, k1, k2.ext (e3.frn (F := F)) fun _ => .inl⟩
  · obtain ⟨b, k1, k2, k3, k4⟩ := r.own j t' o q
    exact ⟨b, (g.same j (List.getElem?_eq_some_iff.mp q).1).trans k1, k2, k3.ext e3 (fun u hu ou => keep b u hu ou.1), k4⟩
  · rcases z with z | z
    · rcases g.new b z with q | q
      · obtain ⟨o, ho⟩ := r.trk b (.inl q); exact tk2 b o ho
      · exact q.2
    · obtain ⟨o, ho⟩ := r.trk b (.inr z); exact tk2 b o ho
  · rcases g.new b w with q | q
    · exact r.dis b z q
    · obtain ⟨o, ho⟩ := r.trk b (.inr z)
      rw [q.1] at ho; cases ho
  · obtain ⟨o, ho⟩ := r.pit p b z; exact tk2 b o ho
section
variable {X : Cx} {E : XK} {e : Expr}
def tBrwD (i : Nat) {β : Type} (ok : β → Prop) (t : G3 β) : G3 β := fun E δ Q => onDct δ i fun _ ds => t E ((hide δ).set i (some (.d (.dict ds)))) fun x δ' => (δ' = (hide δ).set i (some (.d (.dict ds))) ∧ ok x) ∧ Q x δ
theorem thO {F : Addr → Prop} {ρ ρ' : Rho} {a : Addr} : ∀ b, b ≠ a → Ox F ρ b → Ox (F1 F ρ a) ρ' b := fun b nb z => z.elim (fun q => .inr (.inr ⟨q, nb⟩)) fun q => .inr (.inl q)
def obNd : Ob → Prop
  | .lst xs => PyData.hasDictAll xs = false
  | .dct ds => ∀ p ∈ ds, p.2.hasDict = false
  | .dcT _ => False
theorem RpKV.thaw {K : PySem.W.Frag} {O O2 : Addr → Prop} {H H2 : Hp} {a : Addr} {od : Obj} {kvs : List (Key × V)} (ha : H a = some (.frz od (.dK kvs))) (hH : ∀ b, b ≠ a → H2 b = H b) (hO : ∀ b, b ≠ a → O2 b → O b) : ∀ {vs : List (Key × V)} {ds : List (D × D)}, RpKV K O H vs ds → (∀ p ∈ ds, p.2.hasDict = false) → RpKV K O2 H2 vs ds
  | _, _, .nil, _ => .nil
  | _, _, .cons r1 r2, n => .cons (Rp.thaw ha hH hO r1 (n _ List.mem_cons_self)) (RpKV.thaw ha hH hO r2 fun p hp => n p (List.mem_cons_of_mem _ hp))
end
end M3
set_option Elab.async false
set_option linter.all false
set_option maxRecDepth 100000
set_option maxHeartbeats 4000000
namespace M3
open PySem PySem.Spec PyProof.Rows L2 NdefX LamX
variable [TabsC]
section
variable {X : Cx} {E : XK} {e : Expr}
end
mutual
def hasL : D → Bool
  | .list _ => true
  | .tuple xs => hasLAll xs
  | .dict kvs => hasLKv kvs
  | _ => false
def hasLAll : List D → Bool
  | [] => false
  | x :: xs => hasL x || hasLAll xs
def hasLKv : List (D × D) → Bool
  | [] => false
  | (_, v) :: r => hasL v || hasLKv r
end
section
variable {K : PySem.W.Frag} {O O2 : Addr → Prop} {H : Hp} {a : Addr} {us : List V}
mutual
theorem Rp.thawL (ha : H a = some (.lst us)) (hO : ∀ b, b ≠ a → O2 b → O b) : ∀ {v : V} {x : D}, Rp K O H v x → hasL x = false → Rp K O2 H v x
  | _, _, .non, _ => .non
  | _, _, .bl b, _ => .bl b
  | _, _, .int i, _ => .int i
  | _, _, .str x, _ => .str x
  | _, _, .lst _ _, n => by simp [hasL] at n
  | _, _, .tup (a := b) h r, n => by
    refine .tup ?_ (RpAll.thawL ha hO r (by simpa only [hasL] using n))
    rcases h with ⟨h, n1⟩ | h
    · have nb : b ≠ a := fun z => by
        rw [z] at h
        rcases h with h | ⟨o, h⟩ <;> (rw [h] at ha; cases ha)
      exact .inl ⟨h, fun z => n1 (hO b nb z)⟩
    · exact .inr h
  | _, _, .dic (a := b) h n1 r, n => by
    have nb : b ≠ a := fun z => by rw [z] at h; rw [h] at ha; cases ha
    exact .dic h (fun z => n1 (hO b nb z)) (RpKV.thawL ha hO r (by simpa only [hasL] using n))
theorem RpAll.thawL (ha : H a = some (.lst us)) (hO : ∀ b, b ≠ a → O2 b → O b) : ∀ {vs : List V} {xs : List D}, RpAll K O H vs xs → hasLAll xs = false → RpAll K O2 H vs xs
  | _, _, .nil, _ => .nil
  | _, _, .cons r1 r2, n => by
    rw [hasLAll, Bool.or_eq_false_iff] at n
    exact .cons (Rp.thawL ha hO r1 n.1) (RpAll.thawL ha hO r2 n.2)
theorem RpKV.thawL (ha : H a = some (.lst us)) (hO : ∀ b, b ≠ a → O2 b → O b) : ∀ {vs : List (Key × V)} {ds : List (D × D)}, RpKV K O H vs ds → hasLKv ds = false → RpKV K O2 H vs ds
  | _, _, .nil, _ => .nil
  | _, _, .cons r1 r2, n => by
    rw [hasLKv, Bool.or_eq_false_iff] at n
    exact .cons (Rp.thawL ha hO r1 n.1) (RpKV.thawL ha hO r2 n.2)
end
end
theorem Rel.brwL {K : PySem.W.Frag} {π : Rho} {F : Addr → Prop} {ρ : Rho} {H : Hp} {σ : L2.St} {δ : Sl} (r : Rel K π F ρ H σ δ) {i t : Nat} {xs : List D} (e : δ[i]? = some (some (.own t (.lst xs)))) :
    ∃ a vs, H a = some (.lst vs) ∧ Rel K π (F1 F ρ a) ρ0 H σ ((hide δ).set i (some (.d (.list xs)))) ∧
      (∀ H' ρ', Ext (Ow ρ0) (Ow ρ0) H (Ow ρ') H' → Ext (Ow ρ) (Ow ρ) H (Ow ρ') H') ∧
      ∀ H' ρ', Ext (Ow ρ0) (Ow ρ0) H (Ow ρ') H' → H' a = some (.lst vs) ∧ (∀ b, Ow ρ' b → b ≠ a ∧ H b = none) ∧ ∀ ρ2, Rh ρ ρ2 δ H H' → Ext (Ow ρ) (Ow ρ) H (Ow ρ2) H' ∧ Rel K π F ρ2 H' σ δ := by
  obtain ⟨a, h1, h2, ⟨vs, h3, h4⟩, h5⟩ := r.own i _ _ e
  have hl : i < δ.length := (List.getElem?_eq_some_iff.mp e).1
  have oa : Ow ρ a := ⟨i, h1⟩
  have nF : ¬ F a := fun z => r.dis a z oa
  have na : ¬ Ox (F1 F ρ a) ρ0 a := fun z => z.elim (fun q => ow0 q) fun q => q.elim nF fun q => q.2 rfl
  have ox1 : ∀ b, Ox (F1 F ρ a) ρ0 b → Ox F ρ b := fun b z => z.elim (fun q => (ow0 q).elim) fun q => q.elim .inr fun q => .inl q.1
  have ex : Ext (fun b => b = a) (Ox F ρ) H (Ox (F1 F ρ a) ρ0) H := ⟨fun b o hb n _ => hb, fun b z => .inl (ox1 b z), fun b o h => ⟨o, h⟩, Tb.refl⟩
  have po : ∀ b, b = a → Ox F ρ b := fun b z => z ▸ .inl oa
  have new : ∀ H' ρ', Ext (Ow ρ0) (Ow ρ0) H (Ow ρ') H' → ∀ b, Ow ρ' b → b ≠ a ∧ H b = none := fun H' ρ' e2 b z => by
    rcases e2.ow b z with q | q
    · exact (ow0 q).elim
    · exact ⟨fun z => by (rw [z, h3] at q; cases q), q⟩
  refine ⟨a, vs, h3, ⟨by rw [List.length_set, hide_len]; exact r.len, fun j y q => ?_, fun j t' o q => ?_, fun j k b z => (by cases z), fun b z => r.trk b (ox1 b z), fun b _ z => ow0 z, r.pit, fun j p q => ?_, r.tab⟩, ?_, ?_⟩
  · by_cases hj : i = j
    · subst hj
      rw [List.getElem?_set_self (by rw [hide_len]; exact hl)] at q
      cases y <;> cases q
      exact ⟨_, h2, Rp.lst ⟨h3, na⟩ (h4.ext ex po)⟩
    · rw [List.getElem?_set_ne hj] at q
      obtain ⟨w, k1, k2⟩ := r.dat j y (hide_get q)
      exact ⟨w, k1, k2.ext ex po⟩
  · by_cases hj : i = j
    · subst hj
      rw [List.getElem?_set_self (by rw [hide_len]; exact hl)] at q
      cases q
    · rw [List.getElem?_set_ne hj] at q
      exact (hide_no q).elim
  · by_cases hj : i = j
    · subst hj
      rw [List.getElem?_set_self (by rw [hide_len]; exact hl)] at q
      cases q
    · rw [List.getElem?_set_ne hj] at q
      exact (hide_nl q).elim
  · intro H' ρ' e2
    exact ⟨fun b o hb n tf => e2.fr b o hb ow0 tf, fun b z => .inr (new H' ρ' e2 b z).2, e2.tk, e2.tb⟩
  · intro H' ρ' e2
    exact ⟨e2.fr a _ h3 ow0 rfl, new H' ρ' e2, fun ρ2 g => r.after (fun b o hb tf => e2.fr b o hb ow0 tf) e2.tk e2.tb g⟩
section
variable {X : Cx} {E : XK} {e : Expr}
def tBrwL (i : Nat) {β : Type} (ok : β → Prop) (t : G3 β) : G3 β := fun E δ Q => onL δ i fun _ xs => t E ((hide δ).set i (some (.d (.list xs)))) fun x δ' => (δ' = (hide δ).set i (some (.d (.list xs))) ∧ ok x) ∧ Q x δ
theorem mono_tBrwL {β : Type} {i : Nat} {ok : β → Prop} {t : G3 β} (h : Mono3 t) : Mono3 (tBrwL i ok t) := by
  intro E E' δ Q Q' hx hq q
  obtain ⟨tg, ds, e, q⟩ := q.to
  exact onL.of e (h _ _ _ _ _ hx (fun x δ' z => ⟨z.1, hq _ _ z.2⟩) q)
theorem brwL3 (i : Nat) {t : T3} (h : PE3 X E e t) : PE3 X E e (tBrwL i (fun x => hasL x = false) t) := by
  refine ⟨mono_tBrwL h.mono, h.pe.imp fun σ H Q q => ?_⟩
  obtain ⟨π, F, ρ, δ, rel, q⟩ := q
  obtain ⟨tg, xs, e, q⟩ := q.to
  obtain ⟨a, vs, hk, rel1, lx, back⟩ := rel.brwL e
  refine ⟨π, _, _, _, rel1, h.mono _ _ _ _ _ (fun ex z d H' ρ' e' xo => z d H' ρ' (lx H' ρ' e') xo) (fun x δ' z v H' ρ' ex2 rel2 rv => ?_) q⟩
  obtain ⟨⟨_, nd⟩, z⟩ := z
  obtain ⟨b1, _, b2⟩ := back H' ρ' ex2
  obtain ⟨b2, b3⟩ := b2 ρ (.refl rel)
  exact z v _ ρ b2 b3 (Rp.thawL b1 thO rv nd)
theorem brwLT (i : Nat) {t : TB3} (h : PT3 X E e t) : PT3 X E e (tBrwL i (fun _ => True) t) := by
  refine ⟨mono_tBrwL h.mono, h.pe.imp fun σ H Q q => ?_⟩
  obtain ⟨π, F, ρ, δ, rel, q⟩ := q
  obtain ⟨tg, xs, e, q⟩ := q.to
  obtain ⟨a, vs, hk, rel1, lx, back⟩ := rel.brwL e
  refine ⟨π, _, _, _, rel1, h.mono _ _ _ _ _ (fun ex z d H' ρ' e' xo => z d H' ρ' (lx H' ρ' e') xo) (fun x δ' z v H' ρ' ex2 rel2 rv => ?_) q⟩
  obtain ⟨_, z⟩ := z
  obtain ⟨b1, _, b2⟩ := back H' ρ' ex2
  obtain ⟨b2, b3⟩ := b2 ρ (.refl rel)
  exact z v _ ρ b2 b3 rv
def obNl : Ob → Prop
  | .lst xs => hasLAll xs = false
  | .dct ds => hasLKv ds = false
  | .dcT _ => False
end
end M3
set_option Elab.async false
set_option linter.all false
set_option maxRecDepth 100000
set_option maxHeartbeats 4000000
namespace M3
open PySem L2
variable [TabsC]
section
variable {X : Cx} {E : XK} {tg iter kx vx : Expr} {ifs : List Expr} {te tk : T3} {ti : TA3} {tt : TB3} {g : TG3} {pos : Pos} {scope : Scope} {own : List (Str × Nat)}
end
end M3
set_option Elab.async false
set_option linter.all false
set_option maxRecDepth 100000
set_option maxHeartbeats 4000000
namespace M3
open PySem L2
variable [TabsC]
section
variable {X : Cx} {E : XK} {a b c e : Expr} {ta tb tc te : T3} {pos : Pos}
def sortD (ds : List D) : List D := ds.mergeSort (PySem.W.dataLe false id)
structure SortOk (ds : List D) : Prop where
  al : PySem.W.AllAlike ds
  so : PySem.W.Sortable ds
  sh : ∃ d n, d ≤ 60 ∧ ∀ x ∈ ds, Sh d n x
  ln : ds.length ≤ sizeLine
abbrev VD := V × D
end
end M3
set_option Elab.async false
set_option linter.all false
set_option maxRecDepth 100000
set_option maxHeartbeats 4000000
namespace M3
open PySem L2
variable [TabsC]
section
variable {X : Cx} {E : XK} {pos : Pos}
def kRef (x : Row × Addr × V) : V := .ref x.2.1
def tSortK (td : TE) : TE := fun σ H Q => td σ H fun x H1 => True
end
end M3
set_option Elab.async false
set_option linter.all false
set_option maxRecDepth 100000
set_option maxHeartbeats 4000000
namespace M3
open PySem L2
variable [TabsC]
abbrev TC3 := (Ex3 → Sl → Prop) → Sl → (D → Sl → Prop) → Prop
def MonoC (t : TC3) : Prop := ∀ (W W' : Ex3 → Sl → Prop) (δ : Sl) (Q Q' : D → Sl → Prop), (∀ e δ, W e δ → W' e δ) → (∀ y δ, Q y δ → Q' y δ) → t W δ Q → t W' δ Q'
structure PX3 (X : Cx) (e : Expr) (t : TC3) : Prop where
  mono : MonoC t
  run : ∀ (W : WX) (pn : List (Addr × Obj)) (xe : Value → Shared → Prop), Takes (X.tr pn xe) W → PE (X.tr pn xe) e (liftC X.K W t)
structure PBs3 (X : Cx) (s : Stmt) (t : TX3) : Prop where
  mono : MonoX t
  run : ∀ (W : WX) (pn : List (Addr × Obj)) (xe : Value → Shared → Prop), Takes (X.tr pn xe) W → PassesOwn (model X.prog X.w) X.A X.env xe → PS (X.tr pn xe) s (liftB X.K W t)
section
variable {X : Cx} {k j : Nat} {ps ks : List Str} {e : Expr} {es : List Expr} {kws : List Keyword} {x : Str} {p pos pos2 : Pos} {t : TV3} {tk : TA3} {n m : Nat} {s : Stmt} {ss : List Stmt} {tx ty : TX3} {tc : TC3} {dv : List D}
theorem pb1 (h : PBs3 X s tx) : PB3 X [s] tx := ⟨h.mono, fun W pn xe tk po => pss_one (h.run W pn xe tk po)⟩
theorem pbsIf {c : Expr} {a b : List Stmt} {tc : TB3} {ta tb : TX3} (hc : ∀ pn xe, PT3 (X.tr pn xe) XF c tc) (ha : PB3 X a ta) (hb : PB3 X b tb) : PBs3 X (.If c a b pos) (fun W D δ => tc (fun _ => False) δ fun v δ1 => br v (ta W D δ1) (tb W D δ1)) := by
  refine ⟨fun _ _ _ _ _ hw hd q => (hc [] (fun _ _ => False)).mono _ _ _ _ _ (fun _ z => z) (fun v δ1 z => z.imp (ha.mono _ _ _ _ _ hw hd) (hb.mono _ _ _ _ _ hw hd)) q, fun W pn xe tk po => (ps_if (hc pn xe).pe (ha.run W pn xe tk po) (hb.run W pn xe tk po)).imp fun D σ H h => ?_⟩
  obtain ⟨π, F, ρ, δ, rel, q⟩ := h
  refine ⟨π, F, ρ, δ, rel, (hc pn xe).mono _ _ _ _ _ (fun _ z => z.elim) (fun v δ1 q x H1 ρ1 e1 rel1 r1 => ?_) q⟩
  subst r1
  refine (q.imp (fun q => ?_) (fun q => ?_)).ite
  · exact ⟨π, F, ρ1, δ1, rel1, ha.mono _ _ _ _ _ (liftW.mono e1) (liftD.mono e1) q⟩
  · exact ⟨π, F, ρ1, δ1, rel1, hb.mono _ _ _ _ _ (liftW.mono e1) (liftD.mono e1) q⟩
theorem pbsSet (i : Nat) {y : Str} {pos' : Pos} (hN : X.N.Nodup) (h : PX3 X e tc) (hi : X.N[i]? = some y := by rfl) (hy : Loc X.env.scope y := by first | exact Or.inl rfl | exact Or.inr rfl)
    (hs : swapsWith e (some (.Name y pos')) pos2.line X.env = pure false := by rfl) (hf : X.fn y = true ∨ X.env.scope.names.lookup y = some .local := by first | exact .inl rfl | exact .inr rfl | assumption) :
    PBs3 X (.Assign [.Name y pos'] e pos2) (fun W D δ => tc W δ fun v δ1 => D.nx (δ1.set i (some (.d v)))) := by
  refine ⟨fun _ _ _ _ _ hw hd q => h.mono _ _ _ _ _ hw (fun _ δ => hd.nx _) q, fun W pn xe tk po => (ps_set (X := X.tr pn xe) hN hi hy (h.run W pn xe tk) hs hf).imp fun D σ H q => ?_⟩
  obtain ⟨π, F, ρ, δ, rel, q⟩ := q
  exact ⟨π, F, ρ, δ, rel, h.mono _ _ _ _ _ (fun _ _ z => z) (fun y δ1 q v H' ρ' e' rel' r' => q _ H' _ (e'.trans Ext.drop) (rel'.setD r')) q⟩
theorem pxC {S : PrmX} (C : CalX X.prog X.w X.K X.mg X.base k x ps S) (hr : Room j X.A) (ha : ∀ pn xe, PAr (X.tr pn xe) XF (e :: es) (List.replicate n none) t) (hk : k ≤ j := by first | decide | omega) (hg : Gl X x := by rfl) (hdb : (x == ("__debug__" : Str)) = false := by decide)
    (he : starEach (e :: es) X.env = (false, eval e X.env) :: starEach es X.env := by rfl) (hpl : (backTo pos (starEach es X.env)).any (·.1) = false := by rfl) : PX3 X (.Call (.Name x p) (e :: es) [] pos) (tCX S.p n t) :=
  ⟨fun _ _ _ _ _ hw hq q => mono_tCX (ha [] (fun _ _ => False)).mono hw hq q, fun W pn xe tk => peX (X := X.tr pn xe) C tk hr (ha pn xe) hk hg hdb he hpl⟩
structure CalXK (P : Program) (w : World) (K : PySem.W.Frag) (mg : Str → Option Value) (base : Heap) (k : Nat) (x : Str) (ps : List Str) (n : Nat) (ks : List Str) (dv : List D) (S : PrmX) : Prop where
  ex : ∃ f fd, FnOk P w K mg base (L2.CX P w) k f fd ps (liftF K S.p) ∧ mg x = some (.ref f) ∧ PySem.W.keepIn K (.ref f) = true ∧
    (∃ (dvs : List V) (us : List Value), (∀ O H, RpAll K O H dvs dv) ∧ Vals dvs us ∧ Binds K fd ps us) ∧ KBn K fd ps n ks (fun us ws => us ++ ws) (fun vs zs => vs ++ zs)
theorem CalXK.quiet {P : Program} {w : World} {K : PySem.W.Frag} {mg : Str → Option Value} {base : Heap} {k : Nat} {x : Str} {ps : List Str} {n : Nat} {ks : List Str} {dv : List D} {S : PrmX} (C : CalXK P w K mg base k x ps n ks dv S) : CalK P w K mg base k x ps n ks dv S.quiet := by
  obtain ⟨f, fd, F, h⟩ := C.ex
  exact ⟨f, fd, FnOk.quiet F, h⟩
def tCXD (sp : Sp3) (n : Nat) (dv : List D) (t : TV3) : TC3 := fun W δ Q => t (fun _ => False) δ fun ds δ1 => mkW (List.replicate n none ++ List.replicate dv.length none) (ds ++ dv.map .d) δ1 0 fun ws => sp ws (fun r os => retD r fun x => Q x δ1) (fun ex => W ex δ1)
def tCXK (sp : Sp3) (n m : Nat) (t : TV3) (tk : TA3) : TC3 := fun W δ Q => t (fun _ => False) δ fun ds δ1 => tk (fun _ => False) δ1 fun zs δ2 => zs.length = m ∧ mkW (List.replicate n none ++ List.replicate zs.length none) (ds ++ zs.map .d) δ2 0 fun ws => sp ws (fun r os => retD r fun x => Q x δ2) (fun ex => W ex δ2)
end
section
variable {X : Cx} {E : XK} {k j n : Nat} {S : PrmX} {ps ks : List Str} {dv : List D} {e : Expr} {es : List Expr} {kws : List Keyword} {x : Str} {p pos : Pos} {pat : List (Option Nat)} {t : TV3} {tk : TA3} {te : T3}
end
end M3
set_option Elab.async false
set_option linter.all false
set_option maxRecDepth 100000
set_option maxHeartbeats 4000000
namespace M3
open PySem L2
variable [TabsC]
section
variable {K : PySem.W.Frag} {π : Rho} {F : Addr → Prop} {ρ : Rho} {H : Hp} {σ : St} {δ : Sl}
theorem Rel.push (r : Rel K π F ρ H σ δ) {k : Nat} {a : Addr} {o : Ob} (hk : δ.length ≤ k) (ha : ρ k = some a) (ho : ObOk K (Ox F ρ) H a o) (np : ∀ p, π p ≠ some a) :
    ∃ ρ', Rel K π F ρ' H (σ ++ [some (.ref a)]) (δ ++ [some (.own 0 o)]) ∧ Ext (Ow ρ) (Ow ρ) H (Ow ρ') H := by
  let ρ' : Rho := fun j => if j = δ.length then some a else if j < δ.length then ρ j else none
  have at_ : ∀ j b, ρ' j = some b → (j = δ.length ∧ b = a) ∨ (j < δ.length ∧ ρ j = some b) := fun j b h => by
    simp only [ρ'] at h
    split at h
    · exact .inl ⟨by assumption, (Option.some.inj h).symm⟩
    · split at h
      · exact .inr ⟨by assumption, h⟩
      · cases h
  have le : ∀ b, Ow ρ' b → Ow ρ b := fun b ⟨j, h⟩ => by
    rcases at_ j b h with ⟨_, rfl⟩ | ⟨_, h⟩
    · exact ⟨k, ha⟩
    · exact ⟨j, h⟩
  have lex : ∀ b, Ox F ρ' b → Ox F ρ b := fun b z => z.imp (le b) id
  have nr : ∀ j, j < δ.length → ρ j ≠ some a := fun j hj z => by have := r.inj j k a z ha; omega
  refine ⟨ρ', ⟨by simp [r.len], fun i x e => ?_, fun i t o' e => ?_, fun i j b h1 h2 => ?_, fun b z => r.trk b (lex b z), fun b z q => r.dis b z (le b q), r.pit, fun i p e => ?_, r.tab⟩, ⟨fun _ _ h _ _ => h, fun b z => .inl (le b z), fun _ o h => ⟨o, h⟩, Tb.refl⟩⟩
  · by_cases hi : i < δ.length
    · rw [List.getElem?_append_left hi] at e
      obtain ⟨v, h1, h2⟩ := r.dat i x e
      exact ⟨v, by rw [List.getElem?_append_left (by rw [r.len]; exact hi)]; exact h1, h2.mono lex⟩
    · rw [List.getElem?_append_right (by omega)] at e
      have : i - δ.length = 0 := by
        rcases Nat.eq_zero_or_pos (i - δ.length) with z | z
        · exact z
        · rw [List.getElem?_eq_none (by simp; omega)] at e; cases e
      rw [this] at e
      cases x <;> cases e
  · by_cases hi : i < δ.length
    · rw [List.getElem?_append_left hi] at e
      obtain ⟨b, h1, h2, h3, h4⟩ := r.own i t o' e
      refine ⟨b, ?_, by rw [List.getElem?_append_left (by rw [r.len]; exact hi)]; exact h2, h3.mono lex, h4⟩
      simp only [ρ']
      rw [if_neg (by omega), if_pos hi]; exact h1
    · rw [List.getElem?_append_right (by omega)] at e
      have hi0 : i = δ.length := by
        rcases Nat.eq_zero_or_pos (i - δ.length) with z | z
        · omega
        · rw [List.getElem?_eq_none (by simp; omega)] at e; cases e
      subst hi0
      rw [Nat.sub_self] at e
      cases e
      refine ⟨a, by simp [ρ'], by rw [List.getElem?_append_right (by rw [r.len]; exact Nat.le_refl _), r.len]; simp, ho.mono lex, fun p z => by omega, fun _ => np⟩
  · rcases at_ i b h1 with ⟨z1, z2⟩ | ⟨hi, k1⟩
    · rcases at_ j _ h2 with ⟨y1, _⟩ | ⟨hj, k2⟩
      · rw [z1, y1]
      · rw [z2] at k2; exact absurd k2 (nr j hj)
    · rcases at_ j _ h2 with ⟨y1, y2⟩ | ⟨hj, k2⟩
      · rw [y2] at k1; exact absurd k1 (nr i hi)
      · exact r.inj i j b k1 k2
  · by_cases hi : i < δ.length
    · rw [List.getElem?_append_left hi] at e
      obtain ⟨b, h1, h2⟩ := r.ln i p e
      exact ⟨b, h1, by rw [List.getElem?_append_left (by rw [r.len]; exact hi)]; exact h2⟩
    · rw [List.getElem?_append_right (by omega)] at e
      have : i - δ.length = 0 := by
        rcases Nat.eq_zero_or_pos (i - δ.length) with z | z
        · exact z
        · rw [List.getElem?_eq_none (by simp; omega)] at e; cases e
      rw [this] at e; cases e
end
abbrev TT3 := G3 (List DV × Ob)
def liftAT (K : PySem.W.Frag) (E : XK) (pat : List (Option Nat)) (t : TT3) : TA := fun σ H Q =>
  ∃ π F ρ δ, Rel K π F ρ H σ δ ∧ t (liftX K E F ρ H) δ fun ds δ' => ∀ vs H' ρ' a, Ex F ρ H ρ' H' → Rel K π F ρ' H' (σ ++ [some (.ref a)]) (δ' ++ [some (.own 0 ds.2)]) → ArgOk K (Ox F ρ') H' (σ ++ [some (.ref a)]) pat vs ds.1 → Q vs H'
structure PArT (X : Cx) (E : XK) (es : List Expr) (pat : List (Option Nat)) (t : TT3) : Prop where
  mono : Mono3 t
  pa : PA X es (liftAT X.K E pat t)
section
variable {X : Cx} {E : XK} {e : Expr} {es : List Expr} {te : T3} {to : TW3} {t : TT3} {pat : List (Option Nat)} {pos : Pos}
end
def tCallT (sp : Sp3) (pat : List (Option Nat)) (t : TT3) : T3 := fun E δ Q => t E δ fun ds δ1 => mkW pat ds.1 (δ1 ++ [some (.own 0 ds.2)]) 0 fun ws => sp ws (fun r os => retD r fun x => Q x ((putB pat (δ1 ++ [some (.own 0 ds.2)]) os).take δ1.length)) E
section
variable {X : Cx} {E : XK} {k j : Nat} {S : PrmC} {ps : List Str} {e : Expr} {es : List Expr} {x : Str} {p pos : Pos} {pat : List (Option Nat)} {t : TT3}
end
structure MinOk (ds : List D) : Prop where
  al : PySem.W.AlikeAll ds
  sh : ∃ d n, d ≤ 60 ∧ ∀ x ∈ ds, Sh d n x
section
variable {X : Cx} {E : XK} {a : Expr} {ta : T3} {pos : Pos}
def rMinD3 (x : D) (k : D → Prop) : Prop := asL x fun ds => ∃ y ys, ds = y :: ys ∧ MinOk (y :: ys) ∧ k (PySem.W.minD y ys)
end
end M3
set_option Elab.async false
set_option linter.all false
set_option maxRecDepth 100000
set_option maxHeartbeats 4000000
namespace M3
open PySem L2
variable [TabsC]
inductive PairsV (K : PySem.W.Frag) (H : Hp) : List V → List (Key × V) → Prop
  | nil : PairsV K H [] []
  | cons {p : Addr} {i : Int} {x : V} {vs : List V} {kvs : List (Key × V)} : SqT K H p [.int i, x] → PairsV K H vs kvs → PairsV K H (.ref p :: vs) ((.inl i, x) :: kvs)
section
variable {X : Cx} {E : XK} {a b c e f : Expr} {ta tb tc te tf : T3} {pos : Pos}
def pairD (p : Int × D) : D := .tuple [.int p.1, p.2]
end
end M3
set_option Elab.async false
set_option linter.all false
set_option maxRecDepth 100000
set_option maxHeartbeats 4000000
namespace M3
open PySem L2
variable [TabsC]
def FR (F : Addr → Prop) (a : Addr) (bs : List Addr) : Addr → Prop := fun c => F c ∨ c = a ∨ c ∈ bs
def PRc (ρ : Rho) (a : Addr) (bs : List Addr) : Addr → Prop := fun c => Ow ρ c ∨ c = a ∨ c ∈ bs
abbrev TR3 := (Sl → Prop) → End3 → Sl → Prop
def MonoR (t : TR3) : Prop := ∀ N N' D D' δ, (∀ δ, N δ → N' δ) → End3.le D D' → t N D δ → t N' D' δ
def endF : End3 := { nx := fun _ => False, rt := fun _ _ => False }
structure RR (K : PySem.W.Frag) (Good : List D → Prop) (n i : Nat) (π : Rho) (F : Addr → Prop) (ρ : Rho) (H : Hp) (σ : L2.St) (δ : Sl) (a : Addr) (bs : List Addr) : Prop where
  rel : Rel K π (FR F a bs) ρ H σ δ
  slot : δ[i]? = some (some (.ad a))
  nd : (a :: bs).Nodup
  nF : ∀ c, (c = a ∨ c ∈ bs) → ¬ F c
  len : bs.length = n
  top : H a = some (.lst (bs.map .ref))
  inn : ∀ b ∈ bs, ∃ us xs, H b = some (.lst us) ∧ RpAll K (Ox (FR F a bs) ρ) H us xs ∧ Good xs
def ZCl (a : Addr) (bs : List Addr) (Z : Rho → Hp → Prop) : Prop := ∀ ρ H ρ' H', Z ρ H → Ext (PRc ρ a bs) (Ow ρ) H (Ow ρ') H' → Z ρ' H'
def retD3 (Dn : Ends) (K : PySem.W.Frag) (π : Rho) (F : Addr → Prop) (ρ : Rho) (H : Hp) : End3 := { nx := fun _ => False, rt := (liftD Dn K π F ρ H).rt }
def liftR (K : PySem.W.Frag) (Good : List D → Prop) (n i : Nat) (t : TR3) : TS := fun Dn σ H => ∃ π F ρ δ a bs, ∃ (Z : Rho → Hp → Prop) (ρ0 : Rho) (H0 : Hp), RR K Good n i π F ρ H σ δ a bs ∧ ZCl a bs Z ∧ Z ρ H ∧ (∀ ρ' H', Z ρ' H' → Ex F ρ0 H0 ρ' H') ∧ t (fun δ' => ∀ σ' H' ρ', RR K Good n i π F ρ' H' σ' δ' a bs → Z ρ' H' → Dn.nx σ' H') (retD3 Dn K π F ρ0 H0) δ
structure PSR (X : Cx) (Good : List D → Prop) (n i : Nat) (st : Stmt) (t : TR3) : Prop where
  mono : MonoR t
  ps : PS X st (liftR X.K Good n i t)
structure PSsR (X : Cx) (Good : List D → Prop) (n i : Nat) (st : List Stmt) (t : TR3) : Prop where
  mono : MonoR t
  ps : PSs X st (liftR X.K Good n i t)
section
variable {K : PySem.W.Frag} {Good : List D → Prop} {n i : Nat} {π : Rho} {F : Addr → Prop} {ρ ρ' : Rho} {H H' : Hp} {σ σ' : L2.St} {δ δ' : Sl} {a : Addr} {bs : List Addr}
theorem RR.step (r : RR K Good n i π F ρ H σ δ a bs) (e : Ext (Ow ρ) (Ow ρ) H (Ow ρ') H') (rel : Rel K π (FR F a bs) ρ' H' σ' δ') (hs : δ'[i]? = some (some (.ad a))) : RR K Good n i π F ρ' H' σ' δ' a bs := by
  refine ⟨rel, hs, r.nd, r.nF, r.len, e.fr a _ r.top (r.rel.dis a (.inr (.inl rfl))) rfl, fun b hb => ?_⟩
  obtain ⟨us, xs, h1, h2, h3⟩ := r.inn b hb
  exact ⟨us, xs, e.fr b _ h1 (r.rel.dis b (.inr (.inr hb))) rfl, h2.ext e.frn fun _ => .inl, h3⟩
end
section
variable {X : Cx} {E : XK} {Good : List D → Prop} {n i : Nat} {st : Stmt} {rest : List Stmt} {t u : TR3}
def tForR (i : Nat) (ti : TA3) (g : TG3) (tb : TR3) : TR3 := fun N D δ => ti (fun _ => False) δ fun ds δ1 => δ1[i]? = δ[i]? ∧ ∃ Pv : Nat → Sl → Prop, Pv 0 δ1 ∧
  (∀ k x δ2, ds[k]? = some x → Pv k δ2 → g x δ2 fun δ3 => δ3[i]? = δ2[i]? ∧ tb (Pv (k + 1)) endF δ3) ∧ ∀ δ2, Pv ds.length δ2 → N δ2
end
section
variable {K : PySem.W.Frag} {π : Rho} {F : Addr → Prop} {ρ : Rho} {H : Hp} {σ : L2.St} {δ : Sl}
end
section
variable {X : Cx} {E : XK} {Good : List D → Prop} {n i : Nat} {st : Stmt} {rest : List Stmt} {a e : Expr} {ta : T3} {pos : Pos}
def tLcR (Good : List D → Prop) (ti : TA3) (g : TG3) (to : TW3) (vs : List Nat) : G3 Nat := fun E δ Q => ti E δ fun ds δ1 => (ds.length ≤ sizeLine ∧ ∀ v ∈ vs, v < δ1.length) ∧
  (∀ (k : Nat) (x : D), ds[k]? = some x → g x (wipeS δ1 vs) fun δ3 => to (fun _ => False) δ3 fun o δ5 => backS δ1 δ5 vs = δ1 ∧ ∃ xs, o = .lst xs ∧ Good xs) ∧ Q ds.length δ1
structure RLs (K : PySem.W.Frag) (Good : List D → Prop) (m : Nat) (π : Rho) (F : Addr → Prop) (ρ : Rho) (H : Hp) (ρ2 : Rho) (H2 : Hp) (σ : L2.St) (δ : Sl) (a : Addr) (bs : List Addr) : Prop where
  rel : Rel K π (FR F a bs) ρ2 H2 σ δ
  ex : Ext (Ow ρ) (Ow ρ) H (Ow ρ2) H2
  nd : (a :: bs).Nodup
  nw : ∀ c, (c = a ∨ c ∈ bs) → ¬ F c ∧ (Ow ρ c ∨ H c = none)
  len : bs.length = m
  top : H2 a = some (.lst (bs.map .ref))
  inn : ∀ b ∈ bs, ∃ us xs, H2 b = some (.lst us) ∧ RpAll K (Ox (FR F a bs) ρ2) H2 us xs ∧ Good xs
end
end M3
set_option Elab.async false
set_option linter.all false
set_option maxRecDepth 100000
set_option maxHeartbeats 4000000
namespace M3
open PySem L2
variable [TabsC]
section
variable {X : Cx} {E : XK} {Good : List D → Prop} {n i : Nat} {st : Stmt} {rest : List Stmt} {t u : TR3}
def tForRN (i : Nat) (ws : List Nat) (ti : TA3) (g : TG3) (tb : TR3) : TR3 := fun N D δ => ti (fun _ => False) δ fun ds δ1 => δ1[i]? = δ[i]? ∧ Ask (∃ I : Nat → List (Option W) → Prop, getK δ1 ws (I 0) ∧
  (∀ (k : Nat) (x : PyData) (vs : List (Option W)), ds[k]? = some x → I k vs → putZ δ1 ws vs fun δ2 => g x δ2 fun δ3 => normK δ3 fun δ3 => δ3[i]? = δ1[i]? ∧ tb (fun δ' => normK δ' fun δ' => getK δ' ws fun vs => putZ δ1 ws vs fun δ2 => δ' = δ2 ∧ Ask (I (k + 1) vs)) endF δ3) ∧ ∀ vs, I ds.length vs → putZ δ1 ws vs fun δ2 => N δ2)
end
section
variable {X : Cx} {E : XK} {i : Nat} {rest : List Stmt}
def tEnterR (i : Nat) (ti : TA3) (g : TG3) (to : TW3) (vs : List Nat) (u : (List D → Prop) → Nat → TR3) : TS3 := fun E D δ => Ask (∃ (Good : List PyData → Prop) (n : Nat), tLcR Good ti g to vs E δ fun m δ1 => (m = n ∧ i < δ1.length) ∧ ∀ a, normK (δ1.set i (some (.ad a))) fun δ2 => u Good n (fun _ => False) { nx := fun _ => False, rt := D.rt } δ2)
end
end M3
set_option Elab.async false
set_option linter.all false
set_option maxRecDepth 100000
set_option maxHeartbeats 4000000
namespace M3
open PySem PySem.Spec PyProof.Rows L2 NdefX LamX
variable [TabsC]
section
variable {X : Cx} {E : XK} {tg iter elt : Expr} {ifs : List Expr} {te : T3} {ti : TA3} {tt : TB3} {g : TG3} {pos : Pos} {scope : Scope} {own : List (Str × Nat)}
end
end M3
set_option Elab.async false
set_option linter.all false
set_option maxRecDepth 100000
set_option maxHeartbeats 4000000
namespace M3
open PySem L2
variable [TabsC]
section
variable {X : Cx} {E : XK} {a b : Expr} {ta tb : T3} {pos : Pos}
end
end M3
set_option Elab.async false
set_option linter.all false
set_option maxRecDepth 100000
set_option maxHeartbeats 4000000
namespace M3
open PySem L2
variable [TabsC]
section
variable {X : Cx} {E : XK} {a b e tg iter : Expr} {ta tb te : T3} {tt : TB3} {ti : TA3} {g : TG3} {pos : Pos}
def rDivm (x y : D) (k : D → Prop) : Prop := asI x fun i => asI y fun j => CDiv i j ∧ k (.tuple [.int (i / j), .int (i % j)])
variable {elt : Expr} {ifs : List Expr} {vs : List Nat}
def tLcMF (ws : List Nat) (ti : TA3) (g : TG3) (tt : TB3) (te : T3) (vs : List Nat) : T3 := fun E δ Q => ti E δ fun ds δ1 => ds.length ≤ sizeLine ∧ Ask (∃ I : Nat → List D → List (Option W) → Prop, I 0 [] (getS δ1 ws) ∧
  (∀ i x acc us, ds[i]? = some x → I i acc us → g x (wipeS (putS δ1 ws us) vs) fun δ3 => tt (fun _ => False) δ3 fun b δ4 => br b (te (fun _ => False) δ4 fun y δ5 => backS (putS δ1 ws us) δ5 vs = putS δ1 ws (getS δ5 ws) ∧ I (i + 1) (acc ++ [y]) (getS δ5 ws)) (backS (putS δ1 ws us) δ4 vs = putS δ1 ws (getS δ4 ws) ∧ I (i + 1) acc (getS δ4 ws))) ∧ ∀ acc us, I ds.length acc us → Q (.list acc) (putS δ1 ws us))
def tLcMFN (ws : List Nat) (ti : TA3) (g : TG3) (tt : TB3) (te : T3) (vs : List Nat) : T3 := fun E δ Q => ti E δ fun ds δ1 => ds.length ≤ sizeLine ∧ Ask (∃ I : Nat → List D → List (Option W) → Prop, getK δ1 ws (I 0 []) ∧
  (∀ i x acc us, ds[i]? = some x → I i acc us → putZ δ1 ws us fun δ2 => g x (wipeS δ2 vs) fun δ3 => normK δ3 fun δ3 => tt (fun _ => False) δ3 fun b δ4 => br b (te (fun _ => False) δ4 fun y δ5 => normK δ5 fun δ5 => getK δ5 ws fun us' => putZ δ1 ws us' fun δ6 => backS δ2 δ5 vs = δ6 ∧ Ask (I (i + 1) (acc ++ [y]) us')) (normK δ4 fun δ5 => getK δ5 ws fun us' => putZ δ1 ws us' fun δ6 => backS δ2 δ5 vs = δ6 ∧ Ask (I (i + 1) acc us'))) ∧ ∀ acc us, I ds.length acc us → putZ δ1 ws us fun δ6 => Q (.list acc) δ6)
variable {st : Stmt}
variable {scope : Scope} {own : List (Str × Nat)}
end
end M3
set_option Elab.async false
set_option linter.all false
set_option maxRecDepth 100000
set_option maxHeartbeats 4000000
namespace M3
open PySem PySem.Spec PyProof.Rows L2
variable [TabsC]
section
variable {X : Cx} {pins : List (Addr × Obj)} {σ : L2.St} {H : Hp} {s : Shared}
def tDcX (K : PySem.W.Frag) (wi : TI) (g : TG) (tt : L2.TT) (tk tv : TE) (vs : List Nat) : TE := fun σ H Q => wi σ H fun J H1 => ∀ L, H1 L = none → ∃ W : Nat → Nat → Hp → Prop, (∃ m, W 0 m (upd H1 L (dTx L []))) ∧ ∀ i m H, W i m H →
  (J.stop i H ∧ Q (.ref L) H) ∨ (J.go i H ∧ ∃ Nx : Hp → Prop, (∀ H', Nx H' → ∃ m', m' < m ∧ W (i + 1) m' H') ∧ ∀ x H', J.yld i H x H' → g x (wipe σ vs) H' fun σ2 H2 => wipe σ2 vs = wipe σ vs ∧ tt σ2 H2 fun b H3 =>
    if b = true then tk σ2 H3 fun y H4 => tv σ2 H4 fun z H5 => ∃ xs k c, y = .ref c ∧ SqT K H5 c (k.map oV) ∧ H5 L = some (dTx L xs) ∧ AllK K H5 xs ∧ xs.length < sizeLine ∧ Nx (upd H5 L (dTx L (xput xs k c z))) else Nx H3)
end
section
variable {X : Cx} {E : XK} {tg a b c e iter kx vx : Expr} {ifs : List Expr} {ta tb tc te tk : T3} {ti : TA3} {tt : TB3} {g : TG3} {vs : List Nat} {pos : Pos} {scope : Scope} {own : List (Str × Nat)}
def tDcX3 (ti : TA3) (g : TG3) (tt : TB3) (tk te : T3) (vs : List Nat) : TW3 := fun E δ Q => ti E δ fun ds δ1 => ds.length ≤ sizeLine ∧ ∃ Pv : Nat → List (D × D) → Sl → Prop, Pv 0 [] δ1 ∧
  (∀ i x acc δ2, ds[i]? = some x → Pv i acc δ2 → g x (wipeS δ2 vs) fun δ3 => tt (fun _ => False) δ3 fun b δ4 => br b (tk (fun _ => False) δ4 fun y δ5 => te (fun _ => False) δ5 fun z δ6 => tkB y = true ∧ Pv (i + 1) (xputD acc y z) (backS δ2 δ6 vs)) (Pv (i + 1) acc (backS δ2 δ4 vs))) ∧
  ∀ acc δ2, Pv ds.length acc δ2 → Q (.dcT acc) δ2
def mergeX (ys : List (Option (D × D))) : List (D × D) := ys.foldl (fun acc y => match y with | some kv => xputD acc kv.1 kv.2 | none => acc) []
def tDcXN (ti : TA3) (g : TG3) (tt : TB3) (tk te : T3) (vs : List Nat) : TW3 := fun E δ Q => ti E δ fun ds δ1 => ds.length ≤ sizeLine ∧ Ask (∃ ys : List (Option (D × D)), ys.length = ds.length ∧
  (∀ (i : Nat) (x : D), ds[i]? = some x → g x (wipeS δ1 vs) fun δ3 => normK δ3 fun δ3 => tt (fun _ => False) δ3 fun b δ4 => br b (tk (fun _ => False) δ4 fun y δ5 => te (fun _ => False) δ5 fun z δ6 => tkB y = true ∧ backS δ1 δ6 vs = δ1 ∧ ys[i]? = some (some (y, z))) (backS δ1 δ4 vs = δ1 ∧ ys[i]? = some none)) ∧ Q (.dcT (mergeX ys)) δ1)
end
end M3
set_option Elab.async false
set_option linter.all false
set_option maxRecDepth 100000
set_option maxHeartbeats 4000000
namespace M3
open PySem PySem.Spec PyProof.Rows L2
variable [TabsC]
def LkT (K : PySem.W.Frag) (a : Addr) (ds : List (D × D)) : (Addr → Prop) → Hp → Prop := fun O H => ∃ od xs, H a = some (.frz od (dTx a xs)) ∧ ¬ O a ∧ RpTX K O H xs ds
theorem LkT.stable {K : PySem.W.Frag} {a : Addr} {ds : List (D × D)} : Stable (LkT K a ds) := by
  refine ⟨fun P O H O' H' e po ⟨od, xs, h, n, r⟩ => ?_, fun O O' H le ⟨od, xs, h, n, r⟩ => ⟨od, xs, h, fun z => n (le _ z), r.mono le⟩⟩
  exact ⟨od, xs, e.fr _ _ h (fun z => n (po _ z)) rfl, (fun z => (e.ow _ z).elim n fun q => by rw [q] at h; cases h), r.ext e po⟩
section
variable {X : Cx} {E : XK} {tg a b c e f iter : Expr} {ta tb tc te tf : T3} {pos : Pos} {x : Str} {pos' : Pos}
def onLT (K : PySem.W.Frag) (δ : Sl) (i : Nat) (k : List (D × D) → Prop) : Prop := onFv δ i fun a I => ∃ ds, I = LkT K a ds ∧ k ds
theorem onLT.to {K : PySem.W.Frag} {δ : Sl} {i : Nat} {k} (h : onLT K δ i k) : ∃ a ds, δ[i]? = some (some (.fv a (LkT K a ds))) ∧ k ds := by
  obtain ⟨a, I, e, ds, rfl, q⟩ := onFv.to h
  exact ⟨a, ds, e, q⟩
theorem onLT.of {K : PySem.W.Frag} {δ : Sl} {i : Nat} {a : Addr} {ds : List (D × D)} {k : List (D × D) → Prop} (e : δ[i]? = some (some (.fv a (LkT K a ds)))) (h : k ds) : onLT K δ i k := onFv.of e ⟨ds, rfl, h⟩
end
def ItX (d : Addr) (o : Obj) (xs : List (Row × Addr × V)) : It :=
  ⟨fun i H => H d = some (.frz o (dTx d xs)) ∧ i < xs.length, fun i H y H' => ∃ T k b v, xs[i]? = some (k, b, v) ∧ y = .ref T ∧ H T = none ∧ H' = upd H T (.tup [.ref b, v]), fun i H => H d = some (.frz o (dTx d xs)) ∧ xs.length ≤ i⟩
section
variable {P : Program} {w : World} {K : PySem.W.Frag} {d : Addr} {o : Obj} {es : Array DictEntry} {ep : Nat}
end
section
variable {X : Cx} {E : XK} {a : Expr} {pos : Pos} {x : Str} {pos' : Pos}
theorem RpTX.at {K : PySem.W.Frag} {O : Addr → Prop} {H : Hp} : ∀ {xs : List (Row × Addr × V)} {ds : List (D × D)}, RpTX K O H xs ds → ∀ {i : Nat} {y : D × D}, ds[i]? = some y → ∃ k b v, xs[i]? = some (k, b, v) ∧ y.1 = oT k ∧ TT K O H b (k.map oV) ∧ Rp K O H v y.2
  | _, _, .nil, i, y, h => by cases i <;> cases h
  | _, _, .cons (k := k) (b := b) (v := v) r q t, 0, y, h => by cases h; exact ⟨k, b, v, rfl, rfl, r, q⟩
  | _, _, .cons r q t, i + 1, y, h => t.at (by simpa using h)
end
end M3
set_option Elab.async false
set_option linter.all false
set_option maxRecDepth 100000
set_option maxHeartbeats 4000000
namespace M3
open PySem L2
variable [TabsC]
end M3
set_option Elab.async false
set_option linter.all false
set_option maxRecDepth 100000
set_option maxHeartbeats 4000000
namespace M3
open PySem L2
variable [TabsC]
section
variable {K : PySem.W.Frag} {π : Rho} {F : Addr → Prop} {ρ : Rho} {H : Hp} {σ : St} {δ : Sl} {a : Addr}
theorem ArgOk.push {O O' : Addr → Prop} {x : Option V} (le : ∀ b, O' b → O b) {pat : List (Option Nat)} {vs : List V} {ds : List DV} (h : ArgOk K O H σ pat vs ds) : ArgOk K O' H (σ ++ [x]) pat vs ds := by
  induction h with
  | nil => exact .nil
  | d r _ ih => exact .d (r.mono le) ih
  | r e _ ih => exact .r (by rw [List.getElem?_append_left (List.getElem?_eq_some_iff.mp e).1]; exact e) ih
end
section
variable {X : Cx} {E : XK} {e : Expr} {es : List Expr} {te : T3} {to : TW3} {t : TV3} {pat : List (Option Nat)} {pos : Pos}
end
end M3
set_option Elab.async false
set_option linter.all false
set_option maxRecDepth 100000
set_option maxHeartbeats 4000000
namespace M3
open PySem L2
variable [TabsC]
def LtOk (d e : D) : Prop := PySem.W.alike d e = true ∧ d ≠ .none ∧ (∃ k n, k ≤ 60 ∧ Sh k n d) ∧ ∃ k n, k ≤ 60 ∧ Sh k n e
def rLtD (x y : D) (k : D → Prop) : Prop := Ask (LtOk x y) ∧ k (.bool (PySem.W.dataLt x y))
def asTp (x : D) (k : List D → Prop) : Prop := match x with | .tuple xs => k xs | _ => False
theorem asTp.to {x : D} {k : List D → Prop} (h : asTp x k) : ∃ xs, x = .tuple xs ∧ k xs := by
  unfold asTp at h
  split at h
  · exact ⟨_, rfl, h⟩
  · exact h.elim
def rNeDI : R2 := fun x y H Q => ∃ a o kvs i, x = .ref a ∧ y = .int i ∧ H a = some (.frz o (.dK kvs)) ∧ Q (.bl true) H
def rNe4 (x y : D) (k : D → Prop) : Prop := match x, y with
  | .dict _, .int _ => k (.bool true)
  | x, y => rEq3 not x y k
theorem rNe4.to {x y : D} {k : D → Prop} (h : rNe4 x y k) : (∃ ds i, x = .dict ds ∧ y = .int i ∧ k (.bool true)) ∨ rEq3 not x y k := by
  unfold rNe4 at h
  split at h
  · exact .inl ⟨_, _, rfl, rfl, h⟩
  · exact .inr h
section
variable {X : Cx} {E : XK} {a b : Expr} {ta tb : T3} {pos : Pos}
end
end M3
set_option Elab.async false
set_option linter.all false
set_option maxRecDepth 100000
set_option maxHeartbeats 4000000
namespace M3Z
open PySem PySem.Spec PyProof.Rows L2
section
variable {prog : Program} {w : World} {A : Around} {E : Value → Shared → Prop} {s : Shared} {z TI TO T i1 i2 : Addr} {fp1 fp2 : List Addr} {n1 n2 i : Nat} {P1 P2 : Nat → Value → Prop} {St1 St2 : Nat → Heap → Prop} {f : Bool} {oT : Obj}
def ZSt (z TI TO i1 i2 S : Addr) (St1 St2 : Nat → Heap → Prop) (i : Nat) (h : Heap) : Prop :=
  IsTupOf2 h TI (.ref i1) (.ref i2) ∧ St1 i h ∧ St2 i h ∧ ((IsZip h z TI TO .none ∧ ∃ a b, IsTupOf2 h TO a b) ∨ ∃ T f oT, IsZipHeld h z TI TO T f ∧ h.get? T = some oT ∧ T ≠ z ∧ T ≠ i1 ∧ T ≠ i2 ∧ T ≠ S)
theorem ZSt.type {Sx : Addr} (st : ZSt z TI TO i1 i2 Sx St1 St2 i s.heap) : s.TypeIs (.ref z) "zip" := by
  obtain ⟨_, _, _, ⟨hz, _⟩ | ⟨T, f, oT, hz, _⟩⟩ := st
  · exact ⟨_, hz, rfl⟩
  · exact ⟨_, hz, rfl⟩
end
section
variable {X : Cx} {pins : List (Addr × Obj)} {σ : L2.St} {H : Hp} {s : Shared}
theorem adopt {S : Addr} {ob : HO} (I : Inv X pins σ H s) (hf : FpOk X pins H S) (new : ObjOk X.prog X.w (upd H S ob) s.heap S ob) : Inv X pins σ (upd H S ob) s := by
  have hn : H S = none := hf.1
  refine I.step (g' := s.gens) (d' := s.drawn) (t' := s.toks) (h' := s.heap) (ch := [S]) (fun b hb => ?_) (fun b o _ _ hc e _ => e) (fun b o _ _ hc e _ => ⟨o.slots, e⟩)
    (fun b o hb e n => ?_) (fun b o hc e => ⟨o, e⟩) (fun b xs e => ?_) (fun b o u e => ?_) (fun b ps e => ⟨#[], ?_⟩) (fun m hm => hm) (fun b u e => ?_) I.bare
  · rw [List.mem_singleton.mp hb]; exact ⟨hf.2.2.2.1, hf.2.1, hf.2.2.2.2.1, hf.2.2.2.2.2⟩
  · rw [upd_ne (fun z => hb (by rw [z]; exact List.mem_singleton_self _))]; exact n
  · rw [upd_ne (ne_of_none e hn)]; exact e
  · rw [upd_ne (ne_of_none e hn)]; exact e
  · rw [upd_ne (ne_of_none e hn), e]; simp
  · by_cases hb : b = S
    · subst hb
      rw [upd_same] at e
      cases e
      exact new
    · rw [upd_ne hb] at e
      exact (I.hok b u e).stay (fun c v _ q => q) (fun c q => by rw [upd_ne (ne_of_none q hn)]; exact q) fun c xs q => by rw [upd_ne (ne_of_none q hn)]; exact q
def zgo : List V → List V → List V → Hp → (List V → Hp → Prop) → Prop
  | x :: xs, y :: ys, acc, H, Q => ∀ T, H T = none → zgo xs ys (acc ++ [.ref T]) (upd H T (.tup [x, y])) Q
  | [], _, acc, H, Q => Q acc H
  | _ :: _, [], acc, H, Q => Q acc H
variable {z TI TO i1 i2 Sx : Addr} {fp1 fp2 : List Addr} {us1 us2 : Array Value} {St1 St2 : Nat → Heap → Prop} {xs ys : List V}
abbrev zH1 (h : Heap) (l1 : Addr) : Heap := h.push { cls := .type "list_iterator", data := .fields #[.ref l1, .int 0 0] }
abbrev zH2 (h : Heap) (l1 l2 : Addr) : Heap := (zH1 h l1).push { cls := .type "tuple_iterator", data := .fields #[.ref l2, .int 0 0] }
abbrev zH3 (h : Heap) (l1 l2 : Addr) : Heap := (zH2 h l1 l2).push { cls := .type "tuple", data := .seq #[.ref h.objs.size, .ref (zH1 h l1).objs.size] }
abbrev zH4 (h : Heap) (l1 l2 : Addr) : Heap := (zH3 h l1 l2).push { cls := .type "tuple", data := .seq #[.none, .none] }
abbrev zH5 (h : Heap) (l1 l2 : Addr) : Heap := (zH4 h l1 l2).push { cls := .type "zip", data := .fields #[.none, .bool false, .bool false, .ref (zH2 h l1 l2).objs.size, .ref (zH3 h l1 l2).objs.size] }
def tLstZip (K : PySem.W.Frag) (ta tb : TE) : TE := fun σ H Q => ta σ H fun x H1 => tb σ H1 fun y H2 => ∃ pa pb xs ys, x = .ref pa ∧ y = .ref pb ∧ SqL K H2 pa xs ∧ SqT K H2 pb ys ∧ zgo xs ys [] H2 fun vs H3 => ∀ p, H3 p = none → Q (.ref p) (upd H3 p (.lst vs))
end
end M3Z
namespace M3
open PySem L2
variable [TabsC]
theorem asT.of {xs : List D} {k : List D → Prop} (h : k xs) : asT (.tuple xs) k := h
def zipP : List D → List D → List D
  | x :: xs, y :: ys => .tuple [x, y] :: zipP xs ys
  | [], _ => []
  | _ :: _, [] => []
section
variable {X : Cx} {E : XK} {a b : Expr} {ta tb : T3} {pos : Pos}
end
end M3
namespace M3
open PySem L2
variable [TabsC]
def rGeD (x y : D) (k : D → Prop) : Prop := Ask (LtOk x y) ∧ k (.bool (!PySem.W.dataLt x y))
end M3
set_option Elab.async false
set_option linter.all false
set_option maxRecDepth 100000
set_option maxHeartbeats 4000000
namespace M3
open PySem PySem.Spec PyProof.Rows L2
variable [TabsC]
inductive PairsX (K : PySem.W.Frag) (H : Hp) : List V → List (Row × Addr × V) → Prop
  | nil : PairsX K H [] []
  | cons {p b : Addr} {k : Row} {x : V} {vs : List V} {kvs : List (Row × Addr × V)} : SqT K H p [.ref b, x] → SqT K H b (k.map oV) → PairsX K H vs kvs → PairsX K H (.ref p :: vs) ((k, b, x) :: kvs)
section
variable {X : Cx}
end
def pairX (p : Row × D) : D := .tuple [oT p.1, p.2]
section
variable {X : Cx} {E : XK} {a : Expr} {ta : T3} {pos : Pos}
end
end M3
set_option Elab.async false
set_option linter.all false
set_option maxRecDepth 100000
set_option maxHeartbeats 4000000
namespace M3
open PySem PySem.Spec PyProof.Rows L2
variable [TabsC]
def xputAll (xs zs : List (Row × Addr × V)) : List (Row × Addr × V) := zs.foldl (fun acc z => xput acc z.1 z.2.1 z.2.2) xs
def xputAllD (ds es : List (D × D)) : List (D × D) := es.foldl (fun acc z => xputD acc z.1 z.2) ds
section
variable {X : Cx}
def rUpdX (X : Cx) (x w : V) (H : Hp) (Q : VK) : Prop := ∃ l b xs zs, x = .ref l ∧ w = .ref b ∧ l ≠ b ∧ H l = some (dTx l xs) ∧ H b = some (dTx b zs) ∧ AllK X.K H xs ∧ AllK X.K H zs ∧ (xs ≠ [] ∨ (zs.map fun z => thash z.1).Nodup) ∧ xs.length + zs.length ≤ sizeLine ∧ Q .non (upd H l (dTx l (xputAll xs zs)))
end
def HashNd (es : List (D × D)) : Prop := ∃ ks : List Row, es.map (·.1) = ks.map oT ∧ (ks.map thash).Nodup
section
variable {X : Cx} {E : XK} {pos : Pos}
end
end M3
set_option Elab.async false
set_option linter.all false
set_option maxRecDepth 100000
set_option maxHeartbeats 4000000
namespace M3
open PySem PySem.Spec PyProof.Rows L2
variable [TabsC]
section
variable {X : Cx} {o e f : Expr} {apos cpos : Pos} {td ty tx : TE}
def tXGet2 (K : PySem.W.Frag) (td ty tx : TE) : TE := fun σ H Q => td σ H fun x H1 => ∃ a, x = .ref a ∧ (∃ xs, H1 a = some (dTx a xs)) ∧ ty σ H1 fun y H2 => tx σ H2 fun z H3 => ∃ r, XGet K H3 a y r ∧ Q (r.getD z) H3
end
section
variable {X : Cx} {E : XK} {pos : Pos} {e f : Expr} {te tf : T3}
end
end M3
set_option Elab.async false
set_option linter.all false
set_option maxRecDepth 100000
set_option maxHeartbeats 4000000
namespace M3
open PySem PySem.Spec PyProof.Rows L2
variable [TabsC]
def rIdxD (x y : D) (k : D → Prop) : Prop := match x with
  | .list xs => Ask (∃ (n : Nat) (d : D), SeqAt.shaped (.list xs) = true ∧ SeqAt.shaped y = true ∧ xs[n]? = some d ∧ PyData.eqv d y = true ∧ (∀ m z, m < n → xs[m]? = some z → PyData.eqv z y = false) ∧ k (.int (n : Nat)))
  | _ => False
theorem m_rIdxD : M2 rIdxD := fun x y k k' hk h => by
  unfold rIdxD at h ⊢
  split at h
  · obtain ⟨⟨n, d, h1, h2, h3, h4, h5, h6⟩⟩ := h
    exact ⟨⟨n, d, h1, h2, h3, h4, h5, hk _ h6⟩⟩
  · exact h.elim
theorem plain_of_shaped {d : D} (h : SeqAt.shaped d = true) : d.plain = true := by
  unfold SeqAt.shaped at h
  rw [Bool.and_eq_true] at h
  exact plain_of_lay d h.1
section
variable {X : Cx} {E : XK} {a b : Expr} {ta tb : T3}
theorem indexD3 {apos cpos : Pos} (hu : X.A.units + 65 < cLine) (ha : PE3 X E a ta) (hb : PE3 X E b tb)
    (hbase : attributeBase a "index" X.env (eval a X.env) = eval a X.env := by rfl)
    (hfew : ((backTo cpos (starEach [b] X.env)).all (fun x => !x.1) && (backToKw cpos (keywordEach [] X.env)).all (fun x => x.1.isSome)
      && decide (([b] : List Expr).length + ([] : List Keyword).length + (if ([] : List Keyword).isEmpty then 0 else 1) < 30)) = true := by rfl)
    (hline : (apos.endLine == cpos.line) = true := by rfl) (hs : starEach [b] X.env = (false, eval b X.env) :: starEach [] X.env := by rfl) (hplain : (backTo cpos (starEach [] X.env)).any (·.1) = false := by rfl) :
    PE3 X E (.Call (.Attribute a "index" apos) [b] [] cpos) (fun E δ Q => ta E δ fun x δ1 => (match x with | .list _ => True | _ => False) ∧ tb E δ1 fun y δ2 => rIdxD x y fun z => Q z δ2) := by
  refine ⟨fun _ _ _ _ _ hx hq q => ha.mono _ _ _ _ _ hx (fun x δ1 z => ⟨z.1, hb.mono _ _ _ _ _ hx (fun y δ2 => m_rIdxD _ _ _ _ fun z => hq _ _) z.2⟩) q, (pe_bm PySem.F.plainAttrs_list PySem.F.slot_list_index PySem.F.type_list_index (mt_indexD hu) ha.pe (pa_cons hb.pe pa_nil hs) hbase hfew hline hs hplain).imp fun σ H Q h => ?_⟩
  obtain ⟨π, F, ρ, δ, rel, q⟩ := h
  refine ⟨π, F, ρ, δ, rel, ha.mono _ _ _ _ _ (fun _ z => z) (fun x δ1 q v H1 ρ1 e1 rel1 r1 => ?_) q⟩
  obtain ⟨hx, q⟩ := q
  split at hx
  · rename_i xs
    cases r1 with
    | lst ht hr =>
      refine ⟨.inl ⟨rfl, _, ht.sq⟩, π, F, ρ1, δ1, rel1, hb.mono _ _ _ _ _ (liftX.mono e1) (fun y δ2 q u H2 ρ2 e2 rel2 r2 => ?_) q⟩
      obtain ⟨⟨n, d, q1, q2, q3, q4, q5, q6⟩⟩ := q
      have ht' := ht.ext e2.frn fun _ => .inl
      have hr' := hr.ext e2.frn fun _ => .inl
      have hp1 := plain_of_shaped q1
      exact ⟨_, _, y, xs, n, d, rfl, rfl, (Rp.lst ht' hr').dp hp1, r2.dp (plain_of_shaped q2), q1, q2, q3, q4, fun m z' hm' hz' => q5 m z' hm' hz', q6 _ H2 ρ2 (e1.trans e2) rel2 (.int _)⟩
  · exact hx.elim
end
end M3
set_option Elab.async false
set_option linter.all false
set_option maxRecDepth 100000
set_option maxHeartbeats 4000000
namespace M3.DN
open PySem PySem.Spec PyProof.Rows L2 M3
variable [TabsC]
section
variable {prog : Program} {w : World} {A : Around} {R : Result → Shared → Prop} {s : Shared} {kx vx : Expr} {gens : List Comprehension} {scope : Scope} {pos : Pos} {it : Value} {acc : Addr} {env : Env} {t0 i0 : Expr} {ifs0 : List Expr} {n : Nat}
def Piece (prog : Program) (w : World) (A : Around) (kx vx : Expr) (gens : List Comprehension) (scope : Scope) (pos : Pos) (acc : Addr) (env : Env) (E : Value → Shared → Prop) (n : Nat) (Post : Shared → Prop) (s : Shared) : Prop := match gens[n]? with
  | some g' => wpAny (model prog w) A (eval g'.iter env) (fun x s₄ => wpAny (model prog w) A (pyIter x) (fun it1 s₅ =>
      codeAny (model prog w) A (.compStart (.DictComp kx vx gens scope pos) n it1 (.ref acc) env) (fun r s' => match r with
        | .ok _ => Post s'
        | .error _ => False) s₅) E s₄) E s
  | none => wpAny (model prog w) A (eval kx env) (fun kv s₄ => wpAny (model prog w) A (eval vx env) (fun vv s₅ => wpAny (model prog w) A (dictSet acc kv vv) (fun _ s₆ => Post s₆) E s₅) E s₄) E s
theorem Piece.mono {E : Value → Shared → Prop} {P P' : Shared → Prop} (h : Piece prog w A kx vx gens scope pos acc env E n P s) (k : ∀ s, P s → P' s) : Piece prog w A kx vx gens scope pos acc env E n P' s := by
  unfold Piece at h ⊢
  split at h
  · refine wpAny_mono h (fun x s4 h => wpAny_mono h (fun it1 s5 h => codeAny_mono h fun r s' h => ?_) fun _ _ z => z) fun _ _ z => z
    cases r with
    | ok f => exact k _ h
    | error e => exact h
  · exact wpAny_mono h (fun x s4 h => wpAny_mono h (fun _ s5 h => wpAny_mono h (fun _ s6 h => k _ h) fun _ _ z => z) fun _ _ z => z) fun _ _ z => z
end
def tIn (L : Addr) (tk te : TE) : List ClR → L2.St → Hp → (Hp → Prop) → Prop
  | [], σ, H, Nx => tk σ H fun y H6 => te σ H6 fun z H7 => ∃ kvs k, y = kV k ∧ H7 L = some (.dK kvs) ∧ kvs.length < sizeLine ∧ Nx (upd H7 L (.dK (putK kvs k z)))
  | c :: cs, σ, H, Nx => c.wi σ H fun J1 H4 => ∃ W1 : Nat → Nat → Hp → Prop, (∃ m, W1 0 m H4) ∧ ∀ j k H, W1 j k H →
      (J1.stop j H ∧ Nx H) ∨ (J1.go j H ∧ ∃ Nx1 : Hp → Prop, (∀ H', Nx1 H' → ∃ k', k' < k ∧ W1 (j + 1) k' H') ∧ ∀ x H', J1.yld j H x H' → c.g x (wipe σ c.vs) H' fun σ3 H5 => wipe σ3 c.vs = wipe σ c.vs ∧ c.tt σ3 H5 fun b H6 =>
        if b = true then tIn L tk te cs σ3 H6 Nx1 else Nx1 H6)
section
variable {Y : Cx} {kx vx : Expr} {gens : List Comprehension} {scope : Scope} {pos : Pos} {tk te : TE} {L : Addr}
end
def tLcN (c0 : ClR) (cs : List ClR) (tk te : TE) : TE := fun σ H Q => c0.wi σ H fun J H1 => ∀ L, H1 L = none → ∃ W : Nat → Nat → Hp → Prop, (∃ m, W 0 m (upd H1 L (.dK []))) ∧ ∀ i m H, W i m H →
  (J.stop i H ∧ Q (.ref L) H) ∨ (J.go i H ∧ ∃ Nx : Hp → Prop, (∀ H', Nx H' → ∃ m', m' < m ∧ W (i + 1) m' H') ∧ ∀ x H', J.yld i H x H' → c0.g x (wipe σ c0.vs) H' fun σ2 H2 => wipe σ2 c0.vs = wipe σ c0.vs ∧ c0.tt σ2 H2 fun b H3 =>
    if b = true then tIn L tk te cs σ2 H3 Nx else Nx H3)
section
variable {X : Cx}
end
section
variable {X : Cx}
end
def tIn3 (tk te : T3) : List Cl3 → Sl → List (D × D) → (List (D × D) → Sl → Prop) → Prop
  | [], δ, acc, k => tk nox δ fun y δ1 => te nox δ1 fun z δ' => isKey y ∧ acc.length < sizeLine ∧ k (dputD acc y z) δ'
  | c :: cs, δ, acc, k => c.ti nox δ fun ds δ1 => ∃ Pv : Nat → List (D × D) → Sl → Prop, Pv 0 acc δ1 ∧
      (∀ i x acc δ2, ds[i]? = some x → Pv i acc δ2 → c.g x (wipeS δ2 c.vs) fun δ3 => c.tt nox δ3 fun b δ4 => br b (tIn3 tk te cs δ4 acc fun acc' δ5 => Pv (i + 1) acc' (backS δ2 δ5 c.vs)) (Pv (i + 1) acc (backS δ2 δ4 c.vs))) ∧
      ∀ acc δ2, Pv ds.length acc δ2 → k acc δ2
section
variable {K : PySem.W.Frag} {π : Rho} {F : Addr → Prop} {L : Addr} {ρ ρ1 ρ2 : Rho} {H H1 H2 : Hp}
def InOk (K : PySem.W.Frag) (π : Rho) (F : Addr → Prop) (L : Addr) (tk te : T3) (cs : List Cl3) : Prop := ∀ (ρ : Rho) (H : Hp) (σ : L2.St) (δ : Sl) (acc : List (D × D)) (accV : List (Key × V)) (k : List (D × D) → Sl → Prop), Rel K π (FD F L) ρ H σ δ → H L = some (.dK accV) → RpKV K (Ox (FD F L) ρ) H accV acc → tIn3 tk te cs δ acc k →
  ∀ Nx : Hp → Prop, (∀ H' ρ' δ' acc' accV', ExL L ρ H ρ' H' → Rel K π (FD F L) ρ' H' σ δ' → H' L = some (.dK accV') → RpKV K (Ox (FD F L) ρ') H' accV' acc' → k acc' δ' → Nx H') → tIn L (lift K XF (Rp K) tk) (lift K XF (Rp K) te) (cs.map (Cl3.r K XF)) σ H Nx
end
def tLc3N (c0 : Cl3) (cs : List Cl3) (tk te : T3) : G3 (List (D × D)) := fun E δ Q => c0.ti E δ fun ds δ1 => ∃ Pv : Nat → List (D × D) → Sl → Prop, Pv 0 [] δ1 ∧
  (∀ i x acc δ2, ds[i]? = some x → Pv i acc δ2 → c0.g x (wipeS δ2 c0.vs) fun δ3 => c0.tt nox δ3 fun b δ4 => br b (tIn3 tk te cs δ4 acc fun acc' δ5 => Pv (i + 1) acc' (backS δ2 δ5 c0.vs)) (Pv (i + 1) acc (backS δ2 δ4 c0.vs))) ∧
  ∀ acc δ2, Pv ds.length acc δ2 → Q acc δ2
section
variable {X : Cx} {E : XK} {c0 : Cl3} {cs : List Cl3} {tk te : T3}
end
def puts (acc ys : List (D × D)) : List (D × D) := ys.foldl (fun a z => dputD a z.1 z.2) acc
def tInQ (tk te : T3) : List Cl3 → Sl → (List (D × D) → Sl → Prop) → Prop
  | [], δ, k => tk nox δ fun y δ1 => te nox δ1 fun z δ' => isKey y ∧ k [(y, z)] δ'
  | c :: cs, δ, k => c.ti nox δ fun ds δ1 => Ask (∃ yss : List (List (D × D)), yss.length = ds.length ∧
      (∀ (i : Nat) (x : D), ds[i]? = some x → c.g x (wipeS δ1 c.vs) fun δ3 => normK δ3 fun δ3 => c.tt nox δ3 fun b δ4 => br b (tInQ tk te cs δ4 fun ys δ5 => backS δ1 δ5 c.vs = δ1 ∧ yss[i]? = some ys) (backS δ1 δ4 c.vs = δ1 ∧ yss[i]? = some [])) ∧ k yss.flatten δ1)
def tLcQ (c0 : Cl3) (cs : List Cl3) (tk te : T3) : G3 (List (D × D)) := fun E δ Q => c0.ti E δ fun ds δ1 => Ask (∃ yss : List (List (D × D)), yss.length = ds.length ∧
  (∀ (i : Nat) (x : D), ds[i]? = some x → c0.g x (wipeS δ1 c0.vs) fun δ3 => normK δ3 fun δ3 => c0.tt nox δ3 fun b δ4 => br b (tInQ tk te cs δ4 fun ys δ5 => backS δ1 δ5 c0.vs = δ1 ∧ yss[i]? = some ys) (backS δ1 δ4 c0.vs = δ1 ∧ yss[i]? = some [])) ∧ yss.flatten.length ≤ sizeLine ∧ Q yss.flatten δ1)
def BlkIn (X : Cx) (scope : Scope) (c0 : Cl3) (cs : List Cl3) (kx vx : Expr) (tk te : T3) : Prop := ∀ (s : Shared) (H : Hp) (C : Addr) (cl : List (Str × Addr)) (fp : List Addr), PG3 (X.blk s H scope (compEnvC scope cl C X.env) fp) c0.vs c0.tg c0.g ∧ PTs3 (X.blk s H scope (compEnvC scope cl C X.env) fp) XF c0.ifs c0.tt ∧ PE3 (X.blk s H scope (compEnvC scope cl C X.env) fp) XF kx tk ∧ PE3 (X.blk s H scope (compEnvC scope cl C X.env) fp) XF vx te ∧ ∀ c ∈ cs, Cl3In (X.blk s H scope (compEnvC scope cl C X.env) fp) c
section
variable {X : Cx} {E : XK} {c0 : Cl3} {cs : List Cl3} {tk te : T3} {kx vx : Expr} {scope : Scope} {own : List (Str × Nat)} {pos : Pos}
variable (hc : X.calm = true) (hN : X.N.Nodup) (hi : PI3 X E c0.tg c0.iter c0.ti) (hvs : c0.vs = own.map (·.2)) (hnv : NestV (c0.r X.K E :: cs.map (Cl3.r X.K XF))) (ok : BlkOk X.N X.env.scope scope own) (hg : BlkIn X scope c0 cs kx vx tk te) (s0 : Shared)
  (hs : ∀ x, foldedSetIterable c0.iter X.env x = pure x) (hs1 : ∀ c ∈ cs, ∀ env x, foldedSetIterable c.iter env x = pure x)
include hc hN hi hvs hnv ok hg s0 hs hs1
variable (i : Nat) {y : Str} {py spos : Pos} (hsw : swapsWith (.DictComp kx vx (c0.c :: cs.map Cl3.c) scope pos) (some (.Name y py)) spos.line X.env = pure true) (hy : X.N[i]? = some y) (hyl : X.env.scope.names.lookup y = some .local)
include hsw hy hyl
end
section
variable {X : Cx} {E : XK} {tk te : T3} {kx vx : Expr} {scope : Scope} {own : List (Str × Nat)} {pos : Pos}
end
end M3.DN
set_option Elab.async false
set_option linter.all false
set_option maxRecDepth 100000
set_option maxHeartbeats 4000000
namespace M3
open PySem PySem.Spec PyProof.Rows L2
variable [TabsC]
section
variable {X : Cx} {E : XK} {pos : Pos}
end
end M3
set_option Elab.async false
set_option linter.all false
set_option maxRecDepth 100000
set_option maxHeartbeats 4000000
namespace M3.DO
open PySem PySem.Spec PyProof.Rows L2 M3
variable [TabsC]
def OxP (x : Option Int × V) (y : Option Int × Value) : Prop := x.1 = y.1 ∧ RelV x.2 y.2
def DOOk (a : Addr) (xs : List (Option Int × V)) (h : Heap) : Prop := (xs.length ≤ sizeLine ∧ (a == sysModules) = false) ∧ ∃ kvs : List (Option Int × Value), Paired OxP xs kvs ∧ ∀ (P : Program) (w : World), h.DictOf (oiKind P w) a kvs
def dOx (a : Addr) (xs : List (Option Int × V)) : HO := .ext (DOOk a xs)
def oput (xs : List (Option Int × V)) (k : Option Int) (v : V) : List (Option Int × V) := if xs.any (fun x => x.1 = k) then xs.map (fun x => if x.1 = k then (x.1, v) else x) else xs ++ [(k, v)]
section
variable {X : Cx} {pins : List (Addr × Obj)} {σ : L2.St} {H : Hp} {s : Shared}
end
def isOK (y : D) : Prop := ∃ k : Option Int, y = oD k
theorem isOK.to {y : D} (h : isOK y) : ∃ k : Option Int, y = oD k := h
def oputD (ds : List (D × D)) (k v : D) : List (D × D) := if ds.any (fun kv => oEq kv.1 k) then ds.map (fun kv => if oEq kv.1 k = true then (kv.1, v) else kv) else ds ++ [(k, v)]
inductive RpOX (K : PySem.W.Frag) (O : Addr → Prop) (H : Hp) : List (Option Int × V) → List (D × D) → Prop
  | nil : RpOX K O H [] []
  | cons {k : Option Int} {v : V} {vs : List (Option Int × V)} {d : D} {ds : List (D × D)} : Rp K O H v d → RpOX K O H vs ds → RpOX K O H ((k, v) :: vs) ((oD k, d) :: ds)
theorem RpOX.ext {K : PySem.W.Frag} {P O O' : Addr → Prop} {H H' : Hp} (e : Ext P O H O' H') (po : ∀ b, P b → O b) : ∀ {vs : List (Option Int × V)} {ds : List (D × D)}, RpOX K O H vs ds → RpOX K O' H' vs ds
  | _, _, .nil => .nil
  | _, _, .cons r t => .cons (Rp.ext e po r) (RpOX.ext e po t)
theorem RpOX.mono {K : PySem.W.Frag} {O O' : Addr → Prop} {H : Hp} (le : ∀ b, O' b → O b) : ∀ {vs : List (Option Int × V)} {ds : List (D × D)}, RpOX K O H vs ds → RpOX K O' H vs ds
  | _, _, .nil => .nil
  | _, _, .cons r t => .cons (r.mono le) (RpOX.mono le t)
theorem RpOX.length {K : PySem.W.Frag} {O : Addr → Prop} {H : Hp} : ∀ {vs : List (Option Int × V)} {ds : List (D × D)}, RpOX K O H vs ds → vs.length = ds.length
  | _, _, .nil => rfl
  | _, _, .cons _ t => by rw [List.length_cons, List.length_cons, t.length]
theorem oD_eq (a b : Option Int) : oEq (oD a) (oD b) = decide (a = b) := by
  cases a <;> cases b <;> simp [oD, oEq]
theorem RpOX.any {K : PySem.W.Frag} {O : Addr → Prop} {H : Hp} {k : Option Int} : ∀ {vs : List (Option Int × V)} {ds : List (D × D)}, RpOX K O H vs ds → (vs.any fun x => x.1 = k) = ds.any fun kv => oEq kv.1 (oD k)
  | _, _, .nil => rfl
  | _, _, .cons r t => by rw [List.any_cons, List.any_cons, t.any, oD_eq]
theorem RpOX.put {K : PySem.W.Frag} {O : Addr → Prop} {H : Hp} {k : Option Int} {u : V} {z : D} (r0 : Rp K O H u z) {vs : List (Option Int × V)} {ds : List (D × D)} (h : RpOX K O H vs ds) : RpOX K O H (oput vs k u) (oputD ds (oD k) z) := by
  unfold oput oputD
  rw [h.any]
  split
  · have key : ∀ {vs : List (Option Int × V)} {ds : List (D × D)}, RpOX K O H vs ds → RpOX K O H (vs.map fun x => if x.1 = k then (x.1, u) else x) (ds.map fun kv => if oEq kv.1 (oD k) = true then (kv.1, z) else kv) := fun {vs ds} h => by
      induction h with
      | nil => exact .nil
      | cons r t ih =>
        rename_i k0 v0 vs d0 ds
        rw [List.map_cons, List.map_cons]
        simp only [oD_eq, decide_eq_true_eq]
        by_cases e : k0 = k
        · simp only [e, if_true]
          exact .cons r0 ih
        · simp only [e, if_false]
          exact .cons r ih
    exact key h
  · have app : ∀ {vs : List (Option Int × V)} {ds : List (D × D)}, RpOX K O H vs ds → RpOX K O H (vs ++ [(k, u)]) (ds ++ [(oD k, z)]) := fun {vs ds} h => by
      induction h with
      | nil => exact .cons r0 .nil
      | cons r t ih => exact .cons r ih
    exact app h
theorem rp_oD {K : PySem.W.Frag} {O : Addr → Prop} {H : Hp} {w : V} {k : Option Int} (h : Rp K O H w (oD k)) : w = oV k := by
  cases k with
  | none => cases h; rfl
  | some i => cases h; rfl
def tIn (L : Addr) (tk te : TE) : List ClR → L2.St → Hp → (Hp → Prop) → Prop
  | [], σ, H, Nx => tk σ H fun y H6 => te σ H6 fun z H7 => ∃ kvs k, y = oV k ∧ H7 L = some (dOx L kvs) ∧ kvs.length < sizeLine ∧ Nx (upd H7 L (dOx L (oput kvs k z)))
  | c :: cs, σ, H, Nx => c.wi σ H fun J1 H4 => ∃ W1 : Nat → Nat → Hp → Prop, (∃ m, W1 0 m H4) ∧ ∀ j k H, W1 j k H →
      (J1.stop j H ∧ Nx H) ∨ (J1.go j H ∧ ∃ Nx1 : Hp → Prop, (∀ H', Nx1 H' → ∃ k', k' < k ∧ W1 (j + 1) k' H') ∧ ∀ x H', J1.yld j H x H' → c.g x (wipe σ c.vs) H' fun σ3 H5 => wipe σ3 c.vs = wipe σ c.vs ∧ c.tt σ3 H5 fun b H6 =>
        if b = true then tIn L tk te cs σ3 H6 Nx1 else Nx1 H6)
section
variable {Y : Cx} {kx vx : Expr} {gens : List Comprehension} {scope : Scope} {pos : Pos} {tk te : TE} {L : Addr}
end
def tLcN (c0 : ClR) (cs : List ClR) (tk te : TE) : TE := fun σ H Q => c0.wi σ H fun J H1 => ∀ L, H1 L = none → ∃ W : Nat → Nat → Hp → Prop, (∃ m, W 0 m (upd H1 L (dOx L []))) ∧ ∀ i m H, W i m H →
  (J.stop i H ∧ Q (.ref L) H) ∨ (J.go i H ∧ ∃ Nx : Hp → Prop, (∀ H', Nx H' → ∃ m', m' < m ∧ W (i + 1) m' H') ∧ ∀ x H', J.yld i H x H' → c0.g x (wipe σ c0.vs) H' fun σ2 H2 => wipe σ2 c0.vs = wipe σ c0.vs ∧ c0.tt σ2 H2 fun b H3 =>
    if b = true then tIn L tk te cs σ2 H3 Nx else Nx H3)
section
variable {X : Cx}
end
section
variable {X : Cx}
end
def tIn3 (tk te : T3) : List Cl3 → Sl → List (D × D) → (List (D × D) → Sl → Prop) → Prop
  | [], δ, acc, k => tk nox δ fun y δ1 => te nox δ1 fun z δ' => isOK y ∧ acc.length < sizeLine ∧ k (oputD acc y z) δ'
  | c :: cs, δ, acc, k => c.ti nox δ fun ds δ1 => ∃ Pv : Nat → List (D × D) → Sl → Prop, Pv 0 acc δ1 ∧
      (∀ i x acc δ2, ds[i]? = some x → Pv i acc δ2 → c.g x (wipeS δ2 c.vs) fun δ3 => c.tt nox δ3 fun b δ4 => br b (tIn3 tk te cs δ4 acc fun acc' δ5 => Pv (i + 1) acc' (backS δ2 δ5 c.vs)) (Pv (i + 1) acc (backS δ2 δ4 c.vs))) ∧
      ∀ acc δ2, Pv ds.length acc δ2 → k acc δ2
section
variable {K : PySem.W.Frag} {π : Rho} {F : Addr → Prop} {L : Addr} {ρ ρ1 ρ2 : Rho} {H H1 H2 : Hp}
def InOk (K : PySem.W.Frag) (π : Rho) (F : Addr → Prop) (L : Addr) (tk te : T3) (cs : List Cl3) : Prop := ∀ (ρ : Rho) (H : Hp) (σ : L2.St) (δ : Sl) (acc : List (D × D)) (accV : List (Option Int × V)) (k : List (D × D) → Sl → Prop), Rel K π (FD F L) ρ H σ δ → H L = some (dOx L accV) → RpOX K (Ox (FD F L) ρ) H accV acc → tIn3 tk te cs δ acc k →
  ∀ Nx : Hp → Prop, (∀ H' ρ' δ' acc' accV', ExL L ρ H ρ' H' → Rel K π (FD F L) ρ' H' σ δ' → H' L = some (dOx L accV') → RpOX K (Ox (FD F L) ρ') H' accV' acc' → k acc' δ' → Nx H') → tIn L (lift K XF (Rp K) tk) (lift K XF (Rp K) te) (cs.map (Cl3.r K XF)) σ H Nx
end
def tLc3N (c0 : Cl3) (cs : List Cl3) (tk te : T3) : G3 (List (D × D)) := fun E δ Q => c0.ti E δ fun ds δ1 => ∃ Pv : Nat → List (D × D) → Sl → Prop, Pv 0 [] δ1 ∧
  (∀ i x acc δ2, ds[i]? = some x → Pv i acc δ2 → c0.g x (wipeS δ2 c0.vs) fun δ3 => c0.tt nox δ3 fun b δ4 => br b (tIn3 tk te cs δ4 acc fun acc' δ5 => Pv (i + 1) acc' (backS δ2 δ5 c0.vs)) (Pv (i + 1) acc (backS δ2 δ4 c0.vs))) ∧
  ∀ acc δ2, Pv ds.length acc δ2 → Q acc δ2
section
variable {X : Cx} {E : XK} {c0 : Cl3} {cs : List Cl3} {tk te : T3}
end
def oputs (acc ys : List (D × D)) : List (D × D) := ys.foldl (fun a z => oputD a z.1 z.2) acc
def tInQ (tk te : T3) : List Cl3 → Sl → (List (D × D) → Sl → Prop) → Prop
  | [], δ, k => tk nox δ fun y δ1 => te nox δ1 fun z δ' => isOK y ∧ k [(y, z)] δ'
  | c :: cs, δ, k => c.ti nox δ fun ds δ1 => Ask (∃ yss : List (List (D × D)), yss.length = ds.length ∧
      (∀ (i : Nat) (x : D), ds[i]? = some x → c.g x (wipeS δ1 c.vs) fun δ3 => normK δ3 fun δ3 => c.tt nox δ3 fun b δ4 => br b (tInQ tk te cs δ4 fun ys δ5 => backS δ1 δ5 c.vs = δ1 ∧ yss[i]? = some ys) (backS δ1 δ4 c.vs = δ1 ∧ yss[i]? = some [])) ∧ k yss.flatten δ1)
def tLcQ (c0 : Cl3) (cs : List Cl3) (tk te : T3) : G3 (List (D × D)) := fun E δ Q => c0.ti E δ fun ds δ1 => Ask (∃ yss : List (List (D × D)), yss.length = ds.length ∧
  (∀ (i : Nat) (x : D), ds[i]? = some x → c0.g x (wipeS δ1 c0.vs) fun δ3 => normK δ3 fun δ3 => c0.tt nox δ3 fun b δ4 => br b (tInQ tk te cs δ4 fun ys δ5 => backS δ1 δ5 c0.vs = δ1 ∧ yss[i]? = some ys) (backS δ1 δ4 c0.vs = δ1 ∧ yss[i]? = some [])) ∧ yss.flatten.length ≤ sizeLine ∧ Q yss.flatten δ1)
def BlkIn (X : Cx) (scope : Scope) (c0 : Cl3) (cs : List Cl3) (kx vx : Expr) (tk te : T3) : Prop := ∀ (s : Shared) (H : Hp) (C : Addr) (cl : List (Str × Addr)) (fp : List Addr), PG3 (X.blk s H scope (compEnvC scope cl C X.env) fp) c0.vs c0.tg c0.g ∧ PTs3 (X.blk s H scope (compEnvC scope cl C X.env) fp) XF c0.ifs c0.tt ∧ PE3 (X.blk s H scope (compEnvC scope cl C X.env) fp) XF kx tk ∧ PE3 (X.blk s H scope (compEnvC scope cl C X.env) fp) XF vx te ∧ ∀ c ∈ cs, Cl3In (X.blk s H scope (compEnvC scope cl C X.env) fp) c
section
variable {X : Cx} {E : XK} {c0 : Cl3} {cs : List Cl3} {tk te : T3} {kx vx : Expr} {scope : Scope} {own : List (Str × Nat)} {pos : Pos}
end
def LkO (K : PySem.W.Frag) (a : Addr) (ds : List (D × D)) : (Addr → Prop) → Hp → Prop := fun O H => ∃ xs, H a = some (dOx a xs) ∧ ¬ O a ∧ RpOX K O H xs ds
theorem LkO.stable {K : PySem.W.Frag} {a : Addr} {ds : List (D × D)} : Stable (LkO K a ds) := by
  refine ⟨fun P O H O' H' e po ⟨xs, h, n, r⟩ => ?_, fun O O' H le ⟨xs, h, n, r⟩ => ⟨xs, h, fun z => n (le _ z), r.mono le⟩⟩
  exact ⟨xs, e.fr _ _ h (fun z => n (po _ z)) rfl, (fun z => (e.ow _ z).elim n fun q => by rw [q] at h; cases h), r.ext e po⟩
section
variable {X : Cx} {E : XK} {c0 : Cl3} {cs : List Cl3} {tk te : T3} {kx vx : Expr} {scope : Scope} {own : List (Str × Nat)} {pos : Pos}
variable (hc : X.calm = true) (hN : X.N.Nodup) (hi : PI3 X E c0.tg c0.iter c0.ti) (hvs : c0.vs = own.map (·.2)) (hnv : NestV (c0.r X.K E :: cs.map (Cl3.r X.K XF))) (ok : BlkOk X.N X.env.scope scope own) (hg : BlkIn X scope c0 cs kx vx tk te) (s0 : Shared)
  (hs : ∀ x, foldedSetIterable c0.iter X.env x = pure x) (hs1 : ∀ c ∈ cs, ∀ env x, foldedSetIterable c.iter env x = pure x)
include hc hN hi hvs hnv ok hg s0 hs hs1
variable (i : Nat) {y : Str} {py spos : Pos} (hsw : swapsWith (.DictComp kx vx (c0.c :: cs.map Cl3.c) scope pos) (some (.Name y py)) spos.line X.env = pure true) (hy : X.N[i]? = some y) (hyl : X.env.scope.names.lookup y = some .local)
include hsw hy hyl
end
section
variable {X : Cx} {E : XK} {tk te : T3} {kx vx : Expr} {scope : Scope} {own : List (Str × Nat)} {pos : Pos}
end
end M3.DO
set_option Elab.async false
set_option linter.all false
set_option maxRecDepth 100000
set_option maxHeartbeats 4000000
namespace M3
open PySem PySem.Spec PyProof.Rows L2 M3.DO
variable [TabsC]
def onLO (K : PySem.W.Frag) (δ : Sl) (i : Nat) (k : List (D × D) → Prop) : Prop := onFv δ i fun a I => ∃ ds, I = LkO K a ds ∧ k ds
theorem onLO.to {K : PySem.W.Frag} {δ : Sl} {i : Nat} {k} (h : onLO K δ i k) : ∃ a ds, δ[i]? = some (some (.fv a (LkO K a ds))) ∧ k ds := by
  obtain ⟨a, I, e, ds, rfl, q⟩ := onFv.to h
  exact ⟨a, ds, e, q⟩
theorem onLO.of {K : PySem.W.Frag} {δ : Sl} {i : Nat} {a : Addr} {ds : List (D × D)} {k : List (D × D) → Prop} (e : δ[i]? = some (some (.fv a (LkO K a ds)))) (h : k ds) : onLO K δ i k := onFv.of e ⟨ds, rfl, h⟩
def rInOx : R2 := fun y x H Q => ∃ a xs k, x = .ref a ∧ H a = some (dOx a xs) ∧ y = oV k ∧ Q (.bl (xs.any fun p => p.1 = k)) H
section
variable {X : Cx}
variable {E : XK} {a : Expr} {ta : T3} {pos : Pos} {x : Str} {pos' : Pos}
def tInOx (K : PySem.W.Frag) (i : Nat) (ta : T3) : T3 := fun E δ Q => ta E δ fun y δ1 => onLO K δ1 i fun ds => isOK y ∧ Q (.bool (ds.any fun kv => oEq kv.1 y)) δ1
end
end M3
set_option Elab.async false
set_option linter.all false
set_option maxRecDepth 100000
set_option maxHeartbeats 4000000
namespace M3
open PySem PySem.Spec PyProof.Rows L2
variable [TabsC]
section
variable {X : Cx} {E : XK} {a b c e tg : Expr} {ta tb tc te : T3} {pos : Pos}
def rngE (i : Int) (n : Nat) : List D := (List.range n).map fun k => .int (i - (k : Nat))
def tRngE (ta tb tc : T3) : TA3 := fun E δ Q => ta E δ fun x δ1 => tb E δ1 fun y δ2 => tc E δ2 fun z δ3 => asI x fun i => asI y fun j => (z = .int (-1) ∧ -(2 ^ 62) ≤ i ∧ i < 2 ^ 62 ∧ -(2 ^ 62) ≤ j ∧ j < 2 ^ 62) ∧ Q (rngE i (i - j).toNat) δ3
end
end M3
set_option Elab.async false
set_option linter.all false
set_option maxRecDepth 100000
set_option maxHeartbeats 4000000
namespace M3ZM
open PySem PySem.Spec PyProof.Rows L2
theorem sepOf {z TI TO i1 i2 a b : Addr} (D : ZipApart z TI TO i1 i2 a b) : ZipSep2 z TI TO i1 i2 [i1, a] [i2, b] := by
  have nm : ∀ {x c d : Addr}, x ≠ c → x ≠ d → x ∉ [c, d] := fun h1 h2 hm => (List.mem_cons.mp hm).elim h1 fun hm => h2 (List.mem_singleton.mp hm)
  exact ⟨D.TIz, D.TOz, D.TITO, D.TIi1, by simp, nm D.i1z.symm D.l1z.symm, nm D.TOi1 D.l1TO.symm, D.TIi2, by simp, nm D.i2z.symm D.l2z.symm, nm D.TOi2 D.l2TO.symm, nm D.i12 D.l2i1.symm, nm D.i12.symm D.l1i2.symm⟩
theorem endT {prog : Program} {w : World} {A : Around} (hh : A.handled = none) {it t : Addr} {items : Array Value} {i : Nat} (hi : items.size ≤ i) : Draws prog w A it [it, t] i (fun _ _ => False) (fun k h => k = i ∧ h.IsTupleIter it t i ∧ h.IsTuple t items) where
  live := fun _ _ st => let ⟨o, ho, _⟩ := st.2.1; ⟨o, ho⟩
  frame := fun _ _ _ st hk => ⟨st.1, st.2.1.at fun o e => hk it (by simp) o e, st.2.2.at fun o e => hk t (by simp) o e⟩
  item := fun k s Q E hk st _ => absurd st.1 (Nat.ne_of_lt hk)
  done := fun s Q E st hE => wpAny_nextOf_tuple_end hh st.2.1 st.2.2 (Array.getElem?_eq_none hi) hE
theorem endL {prog : Program} {w : World} {A : Around} (hh : A.handled = none) {it t : Addr} {items : Array Value} {i : Nat} (hi : items.size ≤ i) : Draws prog w A it [it, t] i (fun _ _ => False) (fun k h => k = i ∧ h.IsListIter it t i ∧ h.IsList t items) where
  live := fun _ _ st => let ⟨o, ho, _⟩ := st.2.1; ⟨o, ho⟩
  frame := fun _ _ _ st hk => ⟨st.1, st.2.1.at fun o e => hk it (by simp) o e, st.2.2.at fun o e => hk t (by simp) o e⟩
  item := fun k s Q E hk st _ => absurd st.1 (Nat.ne_of_lt hk)
  done := fun s Q E st hE => wpAny_nextOf_list_end hh st.2.1 st.2.2 (Array.getElem?_eq_none hi) hE
theorem anyT {prog : Program} {w : World} {A : Around} (hh : A.handled = none) {it t : Addr} (hne : t ≠ it) {items : Array Value} {i : Nat} {h : Heap} (h1 : h.IsTupleIter it t i) (h2 : h.IsTuple t items) : ∃ n P St, Draws prog w A it [it, t] n P St ∧ St i h ∧ i ≤ n ∧ (items.size ≤ i → i = n) := by
  by_cases hi : items.size ≤ i
  · exact ⟨_, _, _, endT hh hi, ⟨rfl, h1, h2⟩, Nat.le_refl _, fun _ => rfl⟩
  · exact ⟨_, _, _, Draws.tuple hh it t hne items, ⟨h1, h2⟩, Nat.le_of_lt (Nat.lt_of_not_le hi), fun z => absurd z hi⟩
theorem anyL {prog : Program} {w : World} {A : Around} (hh : A.handled = none) {it t : Addr} (hne : t ≠ it) {items : Array Value} {i : Nat} {h : Heap} (h1 : h.IsListIter it t i) (h2 : h.IsList t items) : ∃ n P St, Draws prog w A it [it, t] n P St ∧ St i h ∧ i ≤ n ∧ (items.size ≤ i → i = n) := by
  by_cases hi : items.size ≤ i
  · exact ⟨_, _, _, endL hh hi, ⟨rfl, h1, h2⟩, Nat.le_refl _, fun _ => rfl⟩
  · exact ⟨_, _, _, Draws.list hh it t hne items, ⟨h1, h2⟩, Nat.le_of_lt (Nat.lt_of_not_le hi), fun z => absurd z hi⟩
def ItzM (K : PySem.W.Frag) (a b : Addr) : It :=
  ⟨fun i H => ∃ (xs ys : List V) (x y : V), SqT K H a xs ∧ SqL K H b ys ∧ xs[i]? = some x ∧ ys[i]? = some y,
    fun i H v H' => ∃ T x y, v = .ref T ∧ H T = none ∧ H' = upd H T (.tup [x, y]) ∧ (∀ xs, SqT K H a xs → xs[i]? = some x) ∧ ∀ ys, SqL K H b ys → ys[i]? = some y,
    fun i H => ∃ xs ys : List V, SqT K H a xs ∧ SqL K H b ys ∧ (xs.length ≤ i ∨ ys.length ≤ i)⟩
abbrev yH1 (h : Heap) (l1 : Addr) : Heap := h.push { cls := .type "tuple_iterator", data := .fields #[.ref l1, .int 0 0] }
abbrev yH2 (h : Heap) (l1 l2 : Addr) : Heap := (yH1 h l1).push { cls := .type "list_iterator", data := .fields #[.ref l2, .int 0 0] }
abbrev yH3 (h : Heap) (l1 l2 : Addr) : Heap := (yH2 h l1 l2).push { cls := .type "tuple", data := .seq #[.ref h.objs.size, .ref (yH1 h l1).objs.size] }
abbrev yH4 (h : Heap) (l1 l2 : Addr) : Heap := (yH3 h l1 l2).push { cls := .type "tuple", data := .seq #[.none, .none] }
abbrev yH5 (h : Heap) (l1 l2 : Addr) : Heap := (yH4 h l1 l2).push { cls := .type "zip", data := .fields #[.none, .bool false, .bool false, .ref (yH2 h l1 l2).objs.size, .ref (yH3 h l1 l2).objs.size] }
def iZipM (K : PySem.W.Frag) (ta : TA) : TI := fun σ H R => ta σ H fun vs H1 => ∃ a b xs ys, vs = [.ref a, .ref b] ∧ SqT K H1 a xs ∧ SqL K H1 b ys ∧ R (ItzM K a b) H1
end M3ZM
namespace M3
open PySem L2
variable [TabsC]
section
variable {X : Cx} {E : XK} {a b : Expr} {ta tb : T3} {pos : Pos}
def asZipM (x y : D) (k : List D → Prop) : Prop := match x, y with
  | .tuple xs, .list ys => k (zipD xs ys)
  | _, _ => False
theorem asZipM.imp {x y : D} {k k' : List D → Prop} (h : asZipM x y k) (f : ∀ xs, k xs → k' xs) : asZipM x y k' := by
  unfold asZipM at h ⊢
  split at h
  · exact f _ h
  · exact h.elim
def tZipM (ta tb : T3) : TA3 := fun E δ Q => ta E δ fun x δ1 => tb E δ1 fun y δ2 => asZipM x y fun xs => Q xs δ2
end
end M3
set_option Elab.async false
set_option linter.all false
set_option maxRecDepth 100000
set_option maxHeartbeats 4000000
namespace M3
open PySem L2
variable [TabsC]
section
variable {X : Cx} {E : XK} {a b : Expr} {ta tb : T3} {pos : Pos}
end
end M3
set_option Elab.async false
set_option linter.all false
set_option maxRecDepth 100000
set_option maxHeartbeats 4000000
namespace M3
open PySem L2 L2H PyProof.Rows
variable [TabsC]
section
variable {X : Cx}
theorem inst_at {h : Heap} {a C : Addr} {oe : Obj} (hget : h.get? a = some oe) (hz : Zc (.ref C) none oe) (hf : ∃ vs, oe.data = .fields vs) : PySem.W.InstAt h a oe C none := by
  obtain ⟨vs, hv⟩ := hf
  obtain ⟨oc, od, oda, osl⟩ := oe
  obtain ⟨h1, h2⟩ := hz
  dsimp only at h1 h2 hv
  subst h1 h2 hv
  exact ⟨hget, rfl, rfl, trivial⟩
theorem call_isG {a D : Addr} {oe : Obj} (C : ExcC X.K D) (hp : (a, oe) ∈ X.pn) (hz : Zc (.ref D) none oe) (hf : ∃ vs, oe.data = .fields vs) : CallR X (.builtin "isinstance") (rIsE X.K D a) := by
  intro pins s σ H xs us Q I r h
  obtain ⟨c, cv, b, rfl, hcv, e, q⟩ := h
  obtain ⟨u1, u2, rfl, r1, r2⟩ := vals2 r
  cases (show u1 = Value.ref a from r1)
  have ec := hcv _ r2
  subst ec
  exact PySem.W.kia_one (PySem.W.handS_kitx_exc C.hg C.hk C.hs C.hd C.ha C.hn C.ht C.hm) I.kIn (inst_at (I.pin (a, oe) (List.mem_append.mpr (.inl hp))).1 hz hf) e (fun z => nomatch z) fun tk => ⟨.bl b, H, I.kept (t' := tk) fun _ _ z => z, rfl, q⟩
def rIsET (K : PySem.W.Frag) (D a : Addr) : List V → Hp → VK → Prop := fun xs H Q => ∃ (tp : Addr) (cs : List V) (us : List Value) (b : Bool), xs = [.ref a, .ref tp] ∧ H tp = some (.tup cs) ∧ Paired ClsV cs us ∧ PySem.W.kitAny K (.ref D) us = some b ∧ Q (.bl b) H
theorem call_isGT {a D : Addr} {oe : Obj} (C : ExcC X.K D) (hp : (a, oe) ∈ X.pn) (hz : Zc (.ref D) none oe) (hf : ∃ vs, oe.data = .fields vs) : CallR X (.builtin "isinstance") (rIsET X.K D a) := by
  intro pins s σ H xs us Q I r h
  obtain ⟨tp, cs, ws, b, rfl, hT, k, e, q⟩ := h
  obtain ⟨u1, u2, rfl, r1, r2⟩ := vals2 r
  cases (show u1 = Value.ref a from r1)
  cases (show u2 = Value.ref tp from r2)
  obtain ⟨_, its, rv, o, h1, h2, n, h3⟩ := (show ObjOk X.prog X.w H s.heap tp (.tup cs) from I.hok tp _ hT)
  have e3 := ClsV.all k rv
  subst e3
  obtain ⟨oc, od, dt, sl⟩ := o
  simp only at h2 h3
  subst h2 h3
  exact PySem.W.kia_tup (PySem.W.handS_kitx_exc C.hg C.hk C.hs C.hd C.ha C.hn C.ht C.hm) I.kIn (inst_at (I.pin (a, oe) (List.mem_append.mpr (.inl hp))).1 hz hf) h1 e (fun z => nomatch z) fun tk => ⟨.bl b, H, I.kept (t' := tk) fun _ _ z => z, rfl, q⟩
theorem isG3 (i : Nat) {E : XK} {a C : Addr} {oe : Obj} {y cn : Str} {c : V} {cv : Value} {p p1 p2 pos : Pos} (hp : (a, oe) ∈ X.pn) (hz : Zc (.ref C) none oe) (hf : ∃ vs, oe.data = .fields vs)
    (hg : Gl X "isinstance") (hm : X.mg "isinstance" = none) (hcv : ∀ u, RelV c u → u = cv) (hc : PE X (.Name cn p2) (tC c))
    (hN : X.N[i]? = some y := by rfl) (hv : Vis X.env.scope y := by first | exact Or.inl rfl | exact Or.inr (Or.inl rfl) | exact Or.inr (Or.inr rfl)) (hd : (y == ("__debug__" : Str)) = false := by decide) (hcd : (y == ("__classdict__" : Str)) = false := by decide)
    (he : starEach [.Name y p1, .Name cn p2] X.env = (false, eval (.Name y p1) X.env) :: starEach [.Name cn p2] X.env := by rfl) (he2 : starEach [.Name cn p2] X.env = (false, eval (.Name cn p2) X.env) :: starEach [] X.env := by rfl)
    (hpl : (backTo pos (starEach [.Name cn p2] X.env)).any (·.1) = false := by rfl) :
    PE3 X E (.Call (.Name "isinstance" p) [.Name y p1, .Name cn p2] [] pos) (fun _ δ Q => onAd δ i fun a' => a' = a ∧ ∃ (b : Bool), ExcC X.K C ∧ PySem.W.kitOne X.K (.ref C) cv = some b ∧ Q (.bool b) δ) := by
  refine ⟨fun _ _ _ _ _ _ hq q => ?_, ⟨fun pins s σ H Q I h => ?_⟩⟩
  · obtain ⟨a', e, rfl, b, h3, h4, h5⟩ := q.to
    exact onAd.of e ⟨rfl, b, h3, h4, hq _ _ h5⟩
  · obtain ⟨π, F, ρ, δ, rel, q⟩ := h
    obtain ⟨a', e, rfl, b, h3, h4, h5⟩ := q.to
    obtain ⟨v, k1, k2⟩ := rel.dat i (.ad a') e
    have k2 : v = .ref a' := k2
    subst k2
    exact (mk2 (call_isG h3 hp hz hf) hg hm (by decide +kernel) (pe_var hN hv hd hcd) hc (by decide) (by decide) he he2 hpl).run pins s σ H Q I ⟨_, k1, c, cv, b, rfl, hcv, h4, h5 _ H ρ Ext.refl rel (.bl _)⟩
theorem kitAny_no {K : PySem.W.Frag} {t : Value} : ∀ {us : List Value}, (∀ c ∈ us, PySem.W.kitOne K t c = some false) → PySem.W.kitAny K t us = some false
  | [], _ => kitAny_nil
  | c :: us, h => kitAny_cons (h c List.mem_cons_self) (fun _ => kitAny_no fun c hc => h c (List.mem_cons_of_mem _ hc)) (fun z => nomatch z)
theorem cls_refs : ∀ cs : List Addr, Paired ClsV (cs.map V.ref) (cs.map Value.ref)
  | [] => .nil
  | c :: cs => .cons (.own c) (cls_refs cs)
theorem isGT3 (i : Nat) {E : XK} {a C : Addr} {oe : Obj} {y : Str} {elts : List Expr} {cs : List Addr} {j : Nat} {p p1 p3 pos : Pos} (hp : (a, oe) ∈ X.pn) (hz : Zc (.ref C) none oe) (hf : ∃ vs, oe.data = .fields vs)
    (hg : Gl X "isinstance") (hm : X.mg "isinstance" = none) (hcs : PA X elts (fun _ H Q => Q (cs.map V.ref) H)) (hlen : (cs.map V.ref).length ≤ sizeLine := by first | decide | exact Nat.le_of_ble_eq_true rfl)
    (hN : X.N[i]? = some y := by rfl) (hv : Vis X.env.scope y := by first | exact Or.inl rfl | exact Or.inr (Or.inl rfl) | exact Or.inr (Or.inr rfl)) (hd : (y == ("__debug__" : Str)) = false := by decide) (hcd : (y == ("__classdict__" : Str)) = false := by decide)
    (he : starEach [.Name y p1, .Tuple elts j p3] X.env = (false, eval (.Name y p1) X.env) :: starEach [.Tuple elts j p3] X.env := by rfl) (he2 : starEach [.Tuple elts j p3] X.env = (false, eval (.Tuple elts j p3) X.env) :: starEach [] X.env := by rfl)
    (hpl : (backTo pos (starEach [.Tuple elts j p3] X.env)).any (·.1) = false := by rfl) :
    PE3 X E (.Call (.Name "isinstance" p) [.Name y p1, .Tuple elts j p3] [] pos) (fun _ δ Q => onAd δ i fun a' => a' = a ∧ ∃ (b : Bool), ExcC X.K C ∧ PySem.W.kitAny X.K (.ref C) (cs.map Value.ref) = some b ∧ Q (.bool b) δ) := by
  refine ⟨fun _ _ _ _ _ _ hq q => ?_, ⟨fun pins s σ H Q I h => ?_⟩⟩
  · obtain ⟨a', e, rfl, b, h3, h4, h5⟩ := q.to
    exact onAd.of e ⟨rfl, b, h3, h4, hq _ _ h5⟩
  · obtain ⟨π, F, ρ, δ, rel, q⟩ := h
    obtain ⟨a', e, rfl, b, h3, h4, h5⟩ := q.to
    obtain ⟨v, k1, k2⟩ := rel.dat i (.ad a') e
    have k2 : v = .ref a' := k2
    subst k2
    exact (mk2 (call_isGT h3 hp hz hf) hg hm (by decide +kernel) (pe_var hN hv hd hcd) (pe_tup hcs) (by decide) (by decide) he he2 hpl).run pins s σ H Q I
      ⟨_, k1, hlen, fun tp htp => ⟨tp, _, _, b, rfl, upd_same, cls_refs cs, h4, h5 _ _ ρ (Ext.same (same_upd htp)) (rel.same (same_upd htp)) (.bl _)⟩⟩
theorem _root_.L2H.RoomH.units {k : Nat} {A : Around} (r : RoomH k A) : A.units + 64 < cLine := by have := r.un; omega
theorem _root_.L2H.RoomH.units65 {k : Nat} {A : Around} (r : RoomH k A) : A.units + 65 < cLine := by have := r.un; omega
theorem pcs_nil : PA X [] (fun _ H Q => Q (([] : List Addr).map V.ref) H) := pa_nil
theorem pcs_cons {cn : Str} {C : Addr} {cs : List Addr} {es : List Expr} {p : Pos} (hm : X.mg cn = some (.ref C)) (hr : PA X es (fun _ H Q => Q (cs.map V.ref) H)) (hg : Gl X cn := by rfl) (hd : (cn == ("__debug__" : Str)) = false := by decide)
    (hs : starEach (.Name cn p :: es) X.env = (false, eval (.Name cn p) X.env) :: starEach es X.env := by rfl) : PA X (.Name cn p :: es) (fun _ H Q => Q ((C :: cs).map V.ref) H) := pa_cons (pe_glob (v := .ref C) hg hm rfl hd) hr hs
theorem re3 (i : Nat) {E : XK} {es : List Expr} {pat : List (Option Nat)} {t : TV3} {y : Str} {pos : Pos} (hr : PAr X E es pat t) (hN : X.N[i]? = some y := by rfl) (hv : Vis X.env.scope y := by first | exact Or.inl rfl | exact Or.inr (Or.inl rfl) | exact Or.inr (Or.inr rfl)) (hd : (y == ("__debug__" : Str)) = false := by decide) (hcd : (y == ("__classdict__" : Str)) = false := by decide)
    (hs : starEach (.Name y pos :: es) X.env = (false, eval (.Name y pos) X.env) :: starEach es X.env := by rfl) :
    PAr X E (.Name y pos :: es) (none :: pat) (fun E δ Q => onAd δ i fun a => t E δ fun ys δ1 => Q (.ad a :: ys) δ1) := by
  refine ⟨fun _ _ _ _ _ he hq q => ?_, (pa_cons (pe_var hN hv hd hcd) hr.pa hs).imp fun σ H Q h => ?_⟩
  · obtain ⟨a, e, q⟩ := q.to
    exact onAd.of e (hr.mono _ _ _ _ _ he (fun ys δ1 => hq _ _) q)
  · obtain ⟨π, F, ρ, δ, rel, q⟩ := h
    obtain ⟨a, e, q⟩ := q.to
    obtain ⟨v, k1, k2⟩ := rel.dat i (.ad a) e
    refine ⟨v, k1, π, F, ρ, δ, rel, hr.mono _ _ _ _ _ (fun _ z => z) (fun y δ2 q us H2 ρ2 e2 rel2 r2 => ?_) q⟩
    exact q (_ :: us) H2 ρ2 e2 rel2 (.d (x := .ad a) k2 r2)
end
structure FnE (P : Program) (w : World) (K : PySem.W.Frag) (mg : Str → Option Value) (base : Heap) (k : Nat) (f : Addr) (fd : FuncData) (ps : List Str) (S : Addr → Addr → PrmC) : Prop where
  len : ∀ a C ws Q, (S a C).sp ws Q → ws.length = ps.length
  run : ∀ (A : Around) (outer : List Env) (s : Shared) (H : Hp) (args : PySem.Args) (us : List Value) (vs : List V) (Q : VK) (E : XK) (p : Addr × Obj) (C : Addr), RoomH k A → PinOk outer H s p → Zc (.ref C) none p.2 → (∃ vs, p.2.data = .fields vs) → Env0 P w K mg base A outer s H → BindsTo s fd args (ps.zip us) → Vals vs us → liftF K (S p.1 C).p vs H Q E →
    codeAny (model P w) A (.call (.ref f) args) (CR CX0 outer P w H s Q E) s
theorem fnE {P : Program} {w : World} {K : PySem.W.Frag} {mg : Str → Option Value} {base : Heap} {x qual : Str} {st : Stmt} {f : Addr} {fd : FuncData} {N ps : List Str} {k : Nat} {S : Addr → Addr → PrmC} (F : Fun K x qual st f fd) (Sc : FnScope N ps (defScope st)) (len : ∀ a C ws Q, (S a C).sp ws Q → ws.length = ps.length)
    (hbody : ∀ (cdv : Value) (A : Around) (outer : List Env) (s : Shared) (H : Hp) (E : XK) (a : Addr) (oe : Obj) (C : Addr), Zc (.ref C) none oe → (∃ vs, oe.data = .fields vs) → RoomH k (A.deeper (envOfC qual (defScope st) s.heap.objs.size f cdv)) →
      ∃ t, PSs3 (cxH CX0 P w K mg base N qual (defScope st) f cdv A outer s H E (a, oe)).nox XF (defBody st) t ∧ ∀ (ws : List W) (Q : R3 → List Ob → Prop), (S a C).sp ws Q → normK (start3 N ws) fun δ => t (fun _ => False) (ends ws Q) δ) :
    FnE P w K mg base (k + 1) f fd ps S := by
  obtain ⟨oc, od, kV, doc, pm, an, cdv, ct, osl, rfl, lk, hcd⟩ := F.ex
  refine ⟨len, fun A outer s H args us vs Q E p C hr hpin hz hf e0 hb r hsp => ?_⟩
  have hl : vs.length = ps.length := by
    obtain ⟨π, Fo, ρ, ws, rel, _, _, h⟩ := hsp
    rw [← len _ _ ws _ h]
    simpa using rel.len
  have KX : K.In s.heap := e0.mod.kin.keeps fun b o e => (e0.bs b o e).1
  have lim : s.heap.NoLimit := e0.mod.nolimit.keeps fun b o e => (e0.bs b o e).1
  have hkind : ∀ y ∈ ps.zip us, (defScope st).names.lookup y.1 = some .local ∨ ((defScope st).names.lookup y.1 = some .cell ∧ ((cellsFrom (s.heap.objs.size + 1) (defScope st).names []).lookup y.1).isSome = true) := fun ⟨n, v⟩ hy => by
    rcases Sc.par n (List.of_mem_zip hy).1 with q | q
    · exact .inl q
    · exact .inr ⟨q, PySem.W.cellsFrom_some _ _ _ (.inl q)⟩
  refine codeAny_call_function hr.depth (KX _ _ lk) rfl Sc.co Sc.gen rfl (PySem.W.codeRec_of KX hcd) (hb _ _ _ _ ?_)
  refine wpAny_newFunctionEnv_cells Sc.kind hkind fun env he s1 x => ?_
  subst he
  refine ⟨lim.keeps x.toInCall.keep, codeAny_func ?_⟩
  obtain ⟨t, h1, h2⟩ := hbody cdv A outer s H E p.1 p.2 C hz hf (hr.deeper _)
  have I : Inv (cxH CX0 P w K mg base N qual (defScope st) f cdv A outer s H E p) [] (L2.start N vs) H s1 := inv_startH Sc hpin e0 hl r x
  obtain ⟨π, Fo, ρ, ws, rel, tg, hk, h⟩ := hsp
  have h3 := h2 ws _ h
  rw [normK_eq] at h3
  have hq : liftS K XF t { nx := fun _ H' => Q .non H', rt := Q } (L2.start N vs) H := by
    refine ⟨π, Fo, ρ, _, rel.start N, h1.mono _ _ _ _ _ (fun _ z => z.elim) ⟨fun δ q σ' H' ρ' e' rel' => ?_, fun r δ q v σ' H' ρ' e' rel' rr => ?_, fun _ (z : False) => z.elim, fun _ (z : False) => z.elim⟩ h3⟩
    · obtain ⟨os, q1, q2⟩ := outs_ok rel' ws 0 _ q
      exact q1 .non H' ρ' e' q2 rel'.trk rel'.dis .non
    · obtain ⟨os, q1, q2⟩ := outs_ok rel' ws 0 _ q
      exact q1 v H' ρ' e' q2 rel'.trk rel'.dis rr
  refine wpAny_mono ((h1.ps.nox).run [] s1 (L2.start N vs) H _ I hq) (fun fl s' hs => ?_) fun e s' hs => hs
  have fin : ∀ {σ' : L2.St} {H' : Hp} {v : V} {u : Value}, Inv (cxH CX0 P w K mg base N qual (defScope st) f cdv A outer s H E p) [] σ' H' s' → RelV v u → Q v H' → CE outer P w H s Q u s' :=
    fun {σ' H' v u} J rv q => ⟨v, H', J.os, J.bare, J.base, J.hok, rv, q⟩
  cases fl with
  | ret u =>
    obtain ⟨v, σ', H', J, rv, q⟩ := hs
    exact fin J rv q
  | next =>
    obtain ⟨σ', H', J, q⟩ := hs
    exact fin (v := V.non) (u := Value.none) J rfl q
  | brk =>
    obtain ⟨_, _, _, q⟩ := hs
    exact False.elim q
  | cont =>
    obtain ⟨_, _, _, q⟩ := hs
    exact False.elim q
structure CalE (P : Program) (w : World) (K : PySem.W.Frag) (mg : Str → Option Value) (base : Heap) (k : Nat) (x : Str) (ps : List Str) (S : Addr → Addr → PrmC) : Prop where
  ex : ∃ f fd, FnE P w K mg base k f fd ps S ∧ mg x = some (.ref f) ∧ PySem.W.keepIn K (.ref f) = true ∧ Binds K fd ps []
section
variable {X : Cx} {k : Nat} {f : Addr} {fd : FuncData} {ps : List Str} {S : Addr → Addr → PrmC} {E : XK} {x : Str} {q pos : Pos} {e : Expr} {es : List Expr} {t : TA} {a C : Addr} {oe : Obj}
theorem pe_callE (F : FnE X.prog X.w X.K X.mg X.base k f fd ps S) (hr : RoomH k X.A) (hp : (a, oe) ∈ X.pn) (hz : Zc (.ref C) none oe) (hf : ∃ vs, oe.data = .fields vs) (hg : Gl X x) (hm : X.mg x = some (.ref f)) (hk : PySem.W.keepIn X.K (.ref f) = true) (hb : Binds X.K fd ps [])
    (ha : PA X (e :: es) t) (hdb : (x == ("__debug__" : Str)) = false) (he : starEach (e :: es) X.env = (false, eval e X.env) :: starEach es X.env) (hpl : (backTo pos (starEach es X.env)).any (·.1) = false) :
    PE X (.Call (.Name x q) (e :: es) [] pos) (fun σ H Q => t σ H fun vs H1 => liftF X.K (S a C).p vs H1 Q E) := by
  refine ⟨fun pins s σ H Q I h => ?_⟩
  refine wpAny_Call_Name_kw (ld_glob I hg hm ?_ hdb)
  refine PySem.W.callWith_K (h₀ := X.base) I.ok.mod.kin hk (thn (ha.run pos pins s σ H _ I h) fun us s1 ⟨vs, H1, I1, r, h⟩ => ⟨I1.kIn, ?_⟩) he hpl
  have hl : us.length = ps.length := by
    rw [← r.length]
    obtain ⟨π, Fo, ρ, ws, rel, _, _, h⟩ := h
    rw [← F.len _ _ ws _ h]
    simpa using rel.len
  have b := hb s1 us I1.kIn (by rw [List.append_nil]; exact hl)
  rw [List.append_nil] at b
  have P1 := I1.pin (a, oe) (List.mem_append_left _ hp)
  have hpin : PinOk X.stack H1 s1 (a, oe) := ⟨P1.1, P1.2.1, fun hm => (List.mem_cons.mp (I1.stkSub _ hm)).elim P1.2.2.1 P1.2.2.2.1, P1.2.2.2.2⟩
  refine wpAny_call (codeAny_mono (F.run X.A X.stack s1 H1 ⟨us, []⟩ us vs Q E (a, oe) C hr hpin hz hf I1.env0 b r h) fun r s' hq => ?_)
  cases r with
  | error e => exact False.elim hq
  | ok fl =>
    cases fl with
    | ret u => exact I1.after hq
    | next => exact False.elim hq
    | brk => exact False.elim hq
    | cont => exact False.elim hq
end
section
variable {X : Cx} {k j : Nat} {ps : List Str} {S : Addr → Addr → PrmC} {x : Str} {p pos : Pos} {e : Expr} {es : List Expr} {pat : List (Option Nat)} {t : TV3} {a : Addr} {oe : Obj} {cls : Value} {d : Option Addr} {pn : List (Addr × Obj)}
theorem clE (C : CalE X.prog X.w X.K X.mg X.base k x ps S) (hr : Room j X.A) (hz : Zc cls d oe) (hf : ∃ vs, oe.data = .fields vs) (ha : PAr (X.suite a ((a, oe) :: pn)) XF (e :: es) pat t) (hk : k ≤ j := by first | decide | omega) (hg : Gl X x := by rfl) (nd : (pat.filterMap id).Nodup := by decide) (hdb : (x == ("__debug__" : Str)) = false := by decide)
    (he : starEach (e :: es) X.env = (false, eval e X.env) :: starEach es X.env := by rfl) (hpl : (backTo pos (starEach es X.env)).any (·.1) = false := by rfl) : PE3 (X.suite a ((a, oe) :: pn)) XF (.Call (.Name x p) (e :: es) [] pos) (fun E δ Q => ∃ D, cls = .ref D ∧ d = none ∧ tCall3 (S a D).p pat t E δ Q) := by
  refine ⟨fun _ _ _ _ _ he hq ⟨D, e1, e2, q⟩ => ⟨D, e1, e2, ha.mono _ _ _ _ _ he (fun ds δ1 => mkW_mono (fun ws => (S a D).monoP _ _ _ _ _ (fun r os => retD_mono fun x => hq _ _) he) _ _ _ _) q⟩, ⟨fun pins s σ H Q I h => ?_⟩⟩
  obtain ⟨π, Fo, ρ, δ, rel, D, rfl, rfl, q⟩ := h
  obtain ⟨f, fd, F, hm, hk', hb⟩ := C.ex
  have hrH : RoomH k (X.suite a ((a, oe) :: pn)).A := by
    have := hr.mono hk
    exact ⟨this.dp, this.un⟩
  refine (pe_callE (E := XF) (X := X.suite a ((a, oe) :: pn)) F hrH List.mem_cons_self hz hf hg hm hk' hb ha.pa hdb he hpl).run pins s σ H Q I ?_
  refine ⟨π, Fo, ρ, δ, rel, ha.mono _ _ _ _ _ (fun _ z => z) (fun ds δ1 q vs H1 ρ1 e1 rel1 ao => ?_) q⟩
  obtain ⟨ws, q, ar⟩ := args_of ao 0 _ q
  have relc := ar.rel rel1 nd
  refine ⟨piC pat ρ1, FC Fo ρ1 pat, piC pat ρ1, ws, relc, ar.tagged, fun j hj => ?_, (S a D).monoP _ _ _ _ _ (fun r os q v H' ρ' e' oo tk ds rr => ?_) (fun ex z => liftX.call ex (liftX.mono e1 ex z)) q⟩
  · unfold piC
    rw [List.getElem?_eq_none (by rw [ar.len.2]; exact hj)]; rfl
  · obtain ⟨r2, ex2, lex⟩ := ar.after rel1 e' oo (fun _ _ => rfl) rel1.inj (fun _ z => .inl z) (fun b z => tk b (.inl z))
    unfold retD at q
    split at q
    · exact q v H' ρ1 (e1.trans ex2) r2 (Rp.mono lex rr)
    · obtain ⟨a', rfl, oa, na, vs', h1, h2⟩ := rr
      refine q _ H' ρ1 (e1.trans ex2) r2 (.lst ⟨h1, fun z => ?_⟩ (h2.mono lex))
      have : H1 a' = none := by
        rcases e'.ow a' oa with w | w
        · obtain ⟨j, w⟩ := w; exact absurd w (na j)
        · exact w
      obtain ⟨u, hu⟩ := rel1.trk a' z
      rw [this] at hu; cases hu
    · exact q.elim
end
def wordW (l : List (Addr × D)) (a C : Addr) : PrmC := ⟨fun ws Q => ws = [.ad a] ∧ ∃ d, (C, d) ∈ l ∧ Q (.d d) [], fun _ _ _ h ⟨e, d, m, q⟩ => ⟨e, d, m, h _ _ q⟩⟩
end M3
set_option Elab.async false
set_option linter.all false
set_option maxRecDepth 100000
set_option maxHeartbeats 4000000
namespace M3ZL
open PySem PySem.Spec PyProof.Rows L2
open M3ZM (sepOf endT endL anyT anyL)
def ItzN (K : PySem.W.Frag) (a b : Addr) : It :=
  ⟨fun i H => ∃ (xs ys : List V) (x y : V), SqL K H a xs ∧ SqT K H b ys ∧ xs[i]? = some x ∧ ys[i]? = some y,
    fun i H v H' => ∃ T x y, v = .ref T ∧ H T = none ∧ H' = upd H T (.tup [x, y]) ∧ (∀ xs, SqL K H a xs → xs[i]? = some x) ∧ ∀ ys, SqT K H b ys → ys[i]? = some y,
    fun i H => ∃ xs ys : List V, SqL K H a xs ∧ SqT K H b ys ∧ (xs.length ≤ i ∨ ys.length ≤ i)⟩
abbrev yH1 (h : Heap) (l1 : Addr) : Heap := h.push { cls := .type "list_iterator", data := .fields #[.ref l1, .int 0 0] }
abbrev yH2 (h : Heap) (l1 l2 : Addr) : Heap := (yH1 h l1).push { cls := .type "tuple_iterator", data := .fields #[.ref l2, .int 0 0] }
abbrev yH3 (h : Heap) (l1 l2 : Addr) : Heap := (yH2 h l1 l2).push { cls := .type "tuple", data := .seq #[.ref h.objs.size, .ref (yH1 h l1).objs.size] }
abbrev yH4 (h : Heap) (l1 l2 : Addr) : Heap := (yH3 h l1 l2).push { cls := .type "tuple", data := .seq #[.none, .none] }
abbrev yH5 (h : Heap) (l1 l2 : Addr) : Heap := (yH4 h l1 l2).push { cls := .type "zip", data := .fields #[.none, .bool false, .bool false, .ref (yH2 h l1 l2).objs.size, .ref (yH3 h l1 l2).objs.size] }
def iZipN (K : PySem.W.Frag) (ta : TA) : TI := fun σ H R => ta σ H fun vs H1 => ∃ a b xs ys, vs = [.ref a, .ref b] ∧ SqL K H1 a xs ∧ SqT K H1 b ys ∧ R (ItzN K a b) H1
end M3ZL
namespace M3
open PySem L2
variable [TabsC]
section
variable {X : Cx} {E : XK} {a b : Expr} {ta tb : T3} {pos : Pos}
def asZipN (x y : D) (k : List D → Prop) : Prop := match x, y with
  | .list xs, .tuple ys => k (zipD xs ys)
  | _, _ => False
theorem asZipN.imp {x y : D} {k k' : List D → Prop} (h : asZipN x y k) (f : ∀ xs, k xs → k' xs) : asZipN x y k' := by
  unfold asZipN at h ⊢
  split at h
  · exact f _ h
  · exact h.elim
def tZipN (ta tb : T3) : TA3 := fun E δ Q => ta E δ fun x δ1 => tb E δ1 fun y δ2 => asZipN x y fun xs => Q xs δ2
end
end M3
set_option Elab.async false
set_option linter.all false
set_option maxRecDepth 100000
set_option maxHeartbeats 4000000
namespace M3
open PySem L2 L2H PyProof.Rows
variable [TabsC]
section
variable {X : Cx} {E : XK} {pos : Pos}
def tSlO (i : Nat) (tl th : TO3) : T3 := fun E δ Q => onLst δ i fun _ => tl E δ fun l δ1 => th E δ1 fun u δ2 => onLst δ2 i fun xs => Q (.list (cutG xs l u)) δ2
end
end M3
set_option Elab.async false
set_option linter.all false
set_option maxRecDepth 100000
set_option maxHeartbeats 4000000
namespace M3
open PySem PySem.Spec PyProof.Rows L2 NdefX LamX
variable [TabsC]
mutual
def wgD : D → Nat
  | .tuple xs => 1 + wgDs xs
  | .list xs => 1 + wgDs xs
  | _ => 3
def wgDs : List D → Nat
  | [] => 0
  | x :: xs => wgD x + wgDs xs
end
inductive Okd (B : Nat) : D → Prop
  | non : Okd B .none
  | bl {b : Bool} : Okd B (.bool b)
  | int {i : Int} : i.natAbs < B → Okd B (.int i)
  | str {x : Str} : (PyData.shown (.str x)).length ≤ 80 → Okd B (.str x)
  | tup {xs : List D} : (∀ x ∈ xs, Okd B x) → Okd B (.tuple xs)
  | lst {xs : List D} : (∀ x ∈ xs, Okd B x) → Okd B (.list xs)
  | emp : Okd B (.dict [])
theorem Okd.mono {B C : Nat} (hB : B ≤ C) {d : D} (h : Okd B d) : Okd C d := by
  induction h with
  | non => exact .non
  | bl => exact .bl
  | int h => exact .int (by omega)
  | str h => exact .str h
  | tup _ ih => exact .tup ih
  | lst _ ih => exact .lst ih
  | emp => exact .emp
theorem log_small2 {i : Int} (h : i.natAbs < 10 ^ 60) : i.natAbs.log2 < 1920 := by
  by_cases h0 : i.natAbs = 0
  · rw [h0]; decide
  · exact (Nat.log2_lt h0).mpr (Nat.lt_of_lt_of_le h (Nat.le_trans (show 10 ^ 60 ≤ 2 ^ 250 by decide) (Nat.pow_le_pow_right (by decide) (by decide))))
theorem wgD_mem {x : D} : ∀ {xs : List D}, x ∈ xs → wgD x ≤ wgDs xs
  | y :: ys, h => by
    simp only [wgDs]
    rcases List.mem_cons.mp h with rfl | h
    · omega
    · have := wgD_mem h; omega
theorem wgD_app : ∀ xs ys : List D, wgDs (xs ++ ys) = wgDs xs + wgDs ys
  | [], ys => by simp [wgDs]
  | x :: xs, ys => by simp only [List.cons_append, wgDs, wgD_app xs ys]; omega
theorem sum_all2 : ∀ xs : List D, (∀ x ∈ xs, (x.shown.length + 2 ≤ 30 * wgD x)) → ((PyData.shownAll xs).map (·.length)).sum + 2 * (PyData.shownAll xs).length ≤ 30 * wgDs xs
  | [], _ => by simp [PyData.shownAll]
  | x :: xs, h => by
    have h1 := h x List.mem_cons_self
    have h2 := sum_all2 xs fun y hy => h y (List.mem_cons_of_mem _ hy)
    simp only [PyData.shownAll, List.map_cons, List.sum_cons, List.length_cons, wgDs]
    omega
theorem piled_all2 : ∀ xs : List D, (∀ x ∈ xs, (x.shown.length + 2 ≤ 30 * wgD x)) → piled (PyData.shownAll xs) ≤ 30 * wgDs xs
  | [], _ => by simp [PyData.shownAll, piled]
  | x :: xs, h => by
    have h1 := h x List.mem_cons_self
    have h2 := piled_all2 xs fun y hy => h y (List.mem_cons_of_mem _ hy)
    rw [PyData.shownAll, piled_cons, wgDs]
    omega
theorem dictText_nil : (dictText []).length = 2 := by decide +kernel
theorem Okd.text {B : Nat} (hB : B ≤ 10 ^ 60) {d : D} (h : Okd B d) : d.showable = true ∧ d.shown.length + 2 ≤ 30 * wgD d := by
  induction h with
  | non => exact ⟨rfl, by rw [show (PyData.shown .none).length = 4 by decide +kernel]; simp [wgD]⟩
  | bl =>
    rename_i b
    refine ⟨rfl, ?_⟩
    have : (PyData.shown (.bool b)).length ≤ 5 := by cases b <;> decide +kernel
    simp only [wgD]; omega
  | int hi =>
    rename_i i
    have hi := Nat.lt_of_lt_of_le hi hB
    refine ⟨by simp only [PyData.showable]; exact decide_eq_true (log_small2 hi), ?_⟩
    have h1 := PySem.int_text_length_le10 (a := i) (k := 60) (by decide) hi
    have h2 : (PyData.shown (.int i)).length = (toString i).length := PySem.ofString_length _
    simp only [wgD]; omega
  | str h => exact ⟨rfl, by simp only [wgD]; omega⟩
  | tup h ih =>
    rename_i xs
    have t1 : (tupleText (PyData.shownAll xs)).length ≤ piled (PyData.shownAll xs) + 2 := fmt_text _
    have t2 := piled_all2 xs fun x hx => (ih x hx).2
    refine ⟨?_, ?_⟩
    · simp only [PyData.showable]; exact sh_show xs fun x hx => (ih x hx).1
    · simp only [PyData.shown, wgD]; omega
  | lst h ih =>
    rename_i xs
    have t1 := listText_len_le (PyData.shownAll xs)
    have t2 := sum_all2 xs fun x hx => (ih x hx).2
    refine ⟨?_, ?_⟩
    · simp only [PyData.showable]; exact sh_show xs fun x hx => (ih x hx).1
    · simp only [PyData.shown, wgD]; omega
  | emp =>
    refine ⟨rfl, ?_⟩
    have : (PyData.shown (.dict [])).length = 2 := by simp only [PyData.shown, PyData.shownKv]; exact dictText_nil
    simp only [wgD]; omega
section
variable {P : Program} {w : World} {h : Heap}
def Pt (P : Program) (w : World) (h : Heap) (u : Value) (d : D) : Prop := ∃ as bs, Reads h u d as ∧ ReadAtMost h d.depth bs ∧ ReprK P w bs h d.depth u d.shown
def PtAll (P : Program) (w : World) (h : Heap) (us : List Value) (ds : List D) : Prop := ∃ as bs, ReadsAll h us ds as ∧ ReadAtMost h (PyData.depthAll ds) bs ∧ ReprAllK P w bs h (PyData.depthAll ds) us (PyData.shownAll ds)
theorem PtAll.nil : PtAll P w h [] [] := ⟨_, [], .nil, fun _ h => (nomatch h), by simp only [PyData.shownAll]; exact .nil⟩
theorem PtAll.cons {u : Value} {d : D} {us : List Value} {ds : List D} (p : Pt P w h u d) (q : PtAll P w h us ds) : PtAll P w h (u :: us) (d :: ds) := by
  obtain ⟨a1, b1, r1, m1, k1⟩ := p
  obtain ⟨a2, b2, r2, m2, k2⟩ := q
  refine ⟨_, b1 ++ b2, .cons r1 r2, fun b hm => ?_, ?_⟩
  · simp only [PyData.depthAll]
    rcases List.mem_append.mp hm with hm | hm
    · obtain ⟨d', as', r', hd'⟩ := m1 b hm
      exact ⟨d', as', r', Nat.le_trans hd' (Nat.le_max_left _ _)⟩
    · obtain ⟨d', as', r', hd'⟩ := m2 b hm
      exact ⟨d', as', r', Nat.le_trans hd' (Nat.le_max_right _ _)⟩
  · simp only [PyData.depthAll, PyData.shownAll]
    exact .cons ((k1.more fun b hb => List.mem_append_left _ hb).level_le (Nat.le_max_left _ _)) (k2.more_le (fun b hb => List.mem_append_right _ hb) (Nat.le_max_right _ _))
end
section
variable {X : Cx} {pins : List (Addr × Obj)} {σ : L2.St} {H : Hp} {s : Shared} {O : Addr → Prop}
theorem ptAll_of {ds : List D} (h : ∀ d ∈ ds, ∀ (v : V) (u : Value), Rp X.K O H v d → RelV v u → Pt X.prog X.w s.heap u d) : ∀ {vs : List V} {us : List Value}, RpAll X.K O H vs ds → Vals vs us → PtAll X.prog X.w s.heap us ds := by
  induction ds with
  | nil =>
    intro vs us r q
    cases r; cases q; exact PtAll.nil
  | cons d ds ih =>
    intro vs us r q
    cases r with
    | cons r1 r2 =>
      cases q with
      | cons q1 q2 => exact PtAll.cons (h d List.mem_cons_self _ _ r1 q1) (ih (fun y hy => h y (List.mem_cons_of_mem _ hy)) r2 q2)
theorem emp_obj (I : Inv X pins σ H s) {a : Addr} {o : Obj} {kvs : List (Key × V)} (ha : H a = some (.frz o (.dK kvs))) (r : RpKV X.K O H kvs []) : (a == sysModules) = false ∧ ∃ (oo : Obj) (es : Array DictEntry) (n : Nat), s.heap.get? a = some oo ∧ oo.cls = .type "dict" ∧ oo.data = .dict es n ∧ es.toList = [] := by
  cases r
  obtain ⟨_, hs, vs, kv, oo, es, ep, h1, h2, h3, _, h5, _⟩ := dk_rd I.hok (.inr ⟨o, ha⟩)
  cases kv
  exact ⟨hs, oo, es, ep, h1, h2.1, h3, by generalize es.toList = l at h5; cases h5; rfl⟩
theorem pt_of (I : Inv X pins σ H s) {B : Nat} (hB : B ≤ 10 ^ 60) {d : D} (h : Okd B d) (hn : 30 * wgD d ≤ sizeLine) : ∀ (v : V) (u : Value), Rp X.K O H v d → RelV v u → Pt X.prog X.w s.heap u d := by
  induction h with
  | non =>
    intro v u r q
    cases r
    cases (show u = Value.none from q)
    exact ⟨_, [], .none, fun _ h => (nomatch h), by simp only [PyData.shown]; exact .of_is ReprIs.none _ _ _⟩
  | bl =>
    intro v u r q
    cases r
    cases (show u = Value.bool _ from q)
    exact ⟨_, [], .bool _, fun _ h => (nomatch h), by simp only [PyData.shown]; exact .of_is (ReprIs.bool _) _ _ _⟩
  | int hi =>
    intro v u r q
    cases r
    obtain ⟨t, rfl⟩ := q
    exact ⟨_, [], .int _ _, fun _ h => (nomatch h), by simp only [PyData.shown]; exact .of_is (ReprIs.int t (log_small2 (Nat.lt_of_lt_of_le hi hB))) _ _ _⟩
  | str hz =>
    intro v u r q
    cases r
    obtain ⟨t, rfl⟩ := q
    exact ⟨_, [], .str _ _, fun _ h => (nomatch h), by simp only [PyData.shown] at hz ⊢; exact .of_is (ReprIs.str _ t (by rw [show sizeLine = 16777216 from rfl]; omega)) _ _ _⟩
  | tup h ih =>
    rename_i xs
    intro v u r q
    cases r with
    | tup ht ha =>
      cases (show u = Value.ref _ from q)
      obtain ⟨its, rv, ⟨o, ho, hcl, m, hd⟩, _⟩ := I.tuple ht.sq
      have hm2 : ∀ x ∈ xs, 30 * wgD x ≤ sizeLine := fun x hx => by
        have := wgD_mem hx
        simp only [wgD] at hn
        omega
      obtain ⟨as, bs, h1, h2, h3⟩ := ptAll_of (O := O) (fun d hd => ih d hd (hm2 d hd)) ha rv
      have r0 : Reads s.heap (.ref _) (.tuple xs) _ := .tuple ho hcl hd (by simpa using h1)
      refine ⟨_, _ :: bs, r0, ReadAtMost.cons r0 (by simp only [PyData.depth]; omega) h2, ?_⟩
      simp only [PyData.depth, PyData.shown]
      exact ReprK.tuple ho hcl hd (not_mem_of_deeper r0 (by simp only [PyData.depth]; omega) h2) (by simpa using h3)
  | lst h ih =>
    rename_i xs
    intro v u r q
    cases r with
    | lst ht ha =>
      cases (show u = Value.ref _ from q)
      obtain ⟨its, rv, ⟨o, ho, hcl, hd⟩, _⟩ := I.list ht.sq
      have hm2 : ∀ x ∈ xs, 30 * wgD x ≤ sizeLine := fun x hx => by
        have := wgD_mem hx
        simp only [wgD] at hn
        omega
      obtain ⟨as, bs, h1, h2, h3⟩ := ptAll_of (O := O) (fun d hd => ih d hd (hm2 d hd)) ha rv
      have r0 : Reads s.heap (.ref _) (.list xs) _ := .list hcl hd.1 hd.2.2 (by simpa using h1)
      have hna := not_mem_of_deeper r0 (by simp only [PyData.depth]; omega) h2
      refine ⟨_, _ :: bs, r0, ReadAtMost.cons r0 (by simp only [PyData.depth]; omega) h2, ?_⟩
      simp only [PyData.depth, PyData.shown]
      cases its with
      | nil =>
        cases h1
        simp only [PyData.shownAll, listText_nil]
        exact ReprK.listEmpty hcl hd.1 hd.2.2
      | cons x l => exact ReprK.list hcl hd.1 hd.2.2 hna (by simpa using h3.length_eq) (fun i y e => h3.item i y (by simpa using e))
  | emp =>
    intro v u r q
    cases r with
    | dic ha hO hr =>
      cases (show u = Value.ref _ from q)
      obtain ⟨hs, oo, es, n, h1, h2, h3, h4⟩ := emp_obj I ha hr
      have r0 : Reads s.heap (.ref _) (.dict []) _ := .dict h1 h2 h3 (by rw [h4]; exact .nil) (by rw [h4]; exact .nil)
      refine ⟨_, [_], r0, ReadAtMost.cons (n := 0) r0 (by simp only [PyData.depth]; omega) fun _ h => (nomatch h), ?_⟩
      simp only [PyData.depth, PyData.shown, PyData.shownKv]
      exact ReprK.dict h1 h2 h3 hs (by simp) (by rw [h4]; exact .nil)
end
section
variable {X : Cx} {E : XK} {a : Expr} {ta : T3} {pos : Pos}
def rRepr2 (x : D) (k : D → Prop) : Prop := Ask (∃ B, Okd B x ∧ B ≤ 10 ^ 60 ∧ x.depth ≤ 60 ∧ wgD x ≤ 500000) ∧ k (.str x.shown)
theorem call_repr_any {j : Nat} (hgd : X.A.guards = some []) (hr : Room j X.A) : CallR X (.builtin "repr") (fun xs H Q => ∃ (v : V) (x : D) (O : Addr → Prop), xs = [v] ∧ Rp X.K O H v x ∧ (∃ B, Okd B x ∧ B ≤ 10 ^ 60 ∧ x.depth ≤ 60 ∧ wgD x ≤ 500000) ∧ Q (.str x.shown) H) := by
  intro pins s σ H xs us Q I r h
  obtain ⟨v, x, O, rfl, rx, ⟨B, sh, hB, h2, hn⟩, q⟩ := h
  cases r with
  | cons r rr =>
    cases rr
    rename_i u
    have hu := hr.units65
    have h3 := (sh.text hB).2
    have hz : x.shown.length ≤ sizeLine := by rw [show sizeLine = 16777216 from rfl]; omega
    have fin : ∀ h' t tk, (∀ b o, s.heap.get? b = some o → h'.get? b = some o) → EP X pins σ Q (.str x.shown t) { s with heap := h', toks := tk } := fun h' t tk hk => ⟨.str _, H, I.kept hk, ⟨_, rfl⟩, q⟩
    cases sh with
    | non =>
      cases rx
      cases (show u = Value.none from r)
      exact PySem.P.repr_of_none (by simpa only [PyData.shown] using fin s.heap _ _ fun _ _ e => e)
    | bl =>
      cases rx
      cases (show u = Value.bool _ from r)
      exact PySem.P.repr_of_bool (by simpa only [PyData.shown] using fin s.heap _ _ fun _ _ e => e)
    | int hi =>
      cases rx
      obtain ⟨t, rfl⟩ := r
      exact PySem.P.repr_of_int (log_small2 (Nat.lt_of_lt_of_le hi hB)) (by simpa only [PyData.shown] using fin s.heap _ _ fun _ _ e => e)
    | str _ =>
      cases rx
      obtain ⟨t, rfl⟩ := r
      exact PySem.P.repr_of_str (by simpa only [PyData.shown] using fin s.heap _ _ fun _ _ e => e) (by simpa only [PyData.shown] using hz)
    | tup h =>
      rename_i xs
      cases rx with
      | tup ht ha =>
        cases (show u = Value.ref _ from r)
        obtain ⟨its, rv, ⟨o, ho, hcl, m, hd⟩, _⟩ := I.tuple ht.sq
        have hm2 : ∀ x ∈ xs, 30 * wgD x ≤ sizeLine := fun x hx => by
          have := wgD_mem hx
          simp only [wgD] at hn
          rw [show sizeLine = 16777216 from rfl]; omega
        obtain ⟨as, bs, h4, h5, h6⟩ := ptAll_of (O := O) (fun d hd => pt_of I hB (h d hd) (hm2 d hd)) ha rv
        have r0 : Reads s.heap (.ref _) (.tuple xs) _ := .tuple ho hcl hd (by simpa using h4)
        have hna := not_mem_of_deeper r0 (by simp only [PyData.depth]; omega) h5
        simp only [PyData.depth] at h2
        simp only [PyData.shown] at fin hz
        exact call_repr_slot (T := "tuple") (by omega) ⟨o, ho, hcl⟩ F.slot_tuple_repr (call_tuple_reprK (h₀ := s.heap) ho hcl hd hna (by simpa using h6) hgd (fun b _ => Clear.nil b) (by show X.A.units + 1 + _ < cLine; omega) (fun _ _ e => e) (fun h' u tk hk => ⟨_, _, rfl, fin h' _ tk hk⟩) hz)
    | lst h =>
      rename_i xs
      cases rx with
      | lst ht ha =>
        cases (show u = Value.ref _ from r)
        obtain ⟨its, rv, ⟨o, m, ho, hcl, _, hd⟩, _⟩ := I.list ht.sq
        have hm2 : ∀ x ∈ xs, 30 * wgD x ≤ sizeLine := fun x hx => by
          have := wgD_mem hx
          simp only [wgD] at hn
          rw [show sizeLine = 16777216 from rfl]; omega
        obtain ⟨as, bs, h4, h5, h6⟩ := ptAll_of (O := O) (fun d hd => pt_of I hB (h d hd) (hm2 d hd)) ha rv
        have r0 : Reads s.heap (.ref _) (.list xs) _ := .list ho hcl hd (by simpa using h4)
        have hna := not_mem_of_deeper r0 (by simp only [PyData.depth]; omega) h5
        simp only [PyData.depth] at h2
        simp only [PyData.shown] at fin hz
        refine call_repr_slot (T := "list") (by omega) ⟨o, ho, hcl⟩ F.slot_list_repr.toG ?_
        cases its with
        | nil =>
          cases h4
          simp only [PyData.shownAll, listText_nil] at fin
          exact call_list_repr_empty ⟨o, ho, hcl⟩ ho hd ⟨_, _, rfl, fin _ _ _ fun _ _ e => e⟩
        | cons x l => exact call_list_reprK (h₀ := s.heap) ho hcl hd hna (by simpa using h6.length_eq) (fun i y e => h6.item i y (by simpa using e)) hgd (fun b _ => Clear.nil b) (by show X.A.units + 1 + _ < cLine; omega) (fun _ _ e => e) (fun h' u tk hk => ⟨_, _, rfl, fin h' _ tk hk⟩) hz
    | emp =>
      cases rx with
      | dic ha hO hr' =>
        cases (show u = Value.ref _ from r)
        obtain ⟨hs, oo, es, m, g1, g2, g3, g4⟩ := emp_obj I ha hr'
        simp only [PyData.depth, PyData.depthKv] at h2
        simp only [PyData.shown, PyData.shownKv] at fin hz
        exact call_repr_slot (T := "dict") (by omega) ⟨oo, g1, g2⟩ F.slot_dict_repr (call_dict_reprK (h₀ := s.heap) (as := []) (d := 0) g1 g2 g3 hs (by simp) (by rw [g4]; exact .nil) hgd (fun b _ => Clear.nil b) (by show X.A.units + 1 + _ < cLine; omega) (fun _ _ e => e) (fun h' u tk hk => ⟨_, _, rfl, fin h' _ tk hk⟩) hz)
theorem reprR4 {p : Pos} {j : Nat} (hgd : X.A.guards = some []) (hr : Room j X.A) (hg : Gl X "repr") (hm : X.mg "repr" = none) (ha : PE3 X E a ta) (he : starEach [a] X.env = (false, eval a X.env) :: starEach [] X.env := by rfl) : PE3 X E (.Call (.Name "repr" p) [a] [] pos) (tU3 rRepr2 ta) :=
  un3 (fun _ h => mkB (call_repr_any hgd hr) hg hm (by decide +kernel) h (by decide) (by decide) he) (fun O H v x k Q tr rx h hq => by
    obtain ⟨⟨hs⟩, h⟩ := h
    exact ⟨_, _, O, rfl, rx, hs, hq _ _ H (Same.refl H) (.str _) h⟩) (fun x k k' hk h => ⟨h.1, hk _ h.2⟩) ha
end
structure CalG (P : Program) (w : World) (K : PySem.W.Frag) (mg : Str → Option Value) (base : Heap) (k : Nat) (x : Str) (ps : List Str) (S : PrmC) : Prop where
  ex : ∃ f fd, FnG P w K mg base CX0 k f fd ps (liftF K S.p) ∧ mg x = some (.ref f) ∧ PySem.W.keepIn K (.ref f) = true ∧ Binds K fd ps []
section
variable {X : Cx} {k : Nat} {f : Addr} {fd : FuncData} {ps : List Str} {S : PrmC} {E : XK} {x : Str} {q pos : Pos} {e : Expr} {es : List Expr} {t : TA}
theorem pe_callG (F : FnG X.prog X.w X.K X.mg X.base CX0 k f fd ps (liftF X.K S.p)) (hlen : ∀ ws Q, S.sp ws Q → ws.length = ps.length) (hgd : X.A.guards = some []) (hr : Room k X.A) (hg : Gl X x) (hm : X.mg x = some (.ref f)) (hk : PySem.W.keepIn X.K (.ref f) = true) (hb : Binds X.K fd ps [])
    (ha : PA X (e :: es) t) (hdb : (x == ("__debug__" : Str)) = false) (he : starEach (e :: es) X.env = (false, eval e X.env) :: starEach es X.env) (hpl : (backTo pos (starEach es X.env)).any (·.1) = false) :
    PE X (.Call (.Name x q) (e :: es) [] pos) (fun σ H Q => t σ H fun vs H1 => liftF X.K S.p vs H1 Q E) := by
  refine ⟨fun pins s σ H Q I h => ?_⟩
  refine wpAny_Call_Name_kw (ld_glob I hg hm ?_ hdb)
  refine PySem.W.callWith_K (h₀ := X.base) I.ok.mod.kin hk (thn (ha.run pos pins s σ H _ I h) fun us s1 ⟨vs, H1, I1, r, h⟩ => ⟨I1.kIn, ?_⟩) he hpl
  have hl : us.length = ps.length := by
    rw [← r.length]
    obtain ⟨π, Fo, ρ, ws, rel, _, _, h⟩ := h
    rw [← hlen ws _ h]
    simpa using rel.len
  have b := hb s1 us I1.kIn (by rw [List.append_nil]; exact hl)
  rw [List.append_nil] at b
  refine wpAny_call (codeAny_mono (F.run X.A X.stack s1 H1 ⟨us, []⟩ us vs Q E hgd hr I1.env0 b r h) fun r s' hq => ?_)
  cases r with
  | error e => exact False.elim hq
  | ok fl =>
    cases fl with
    | ret u => exact I1.after hq
    | next => exact False.elim hq
    | brk => exact False.elim hq
    | cont => exact False.elim hq
end
section
variable {X : Cx} {k j : Nat} {ps : List Str} {S : PrmC} {x : Str} {p pos : Pos} {e : Expr} {es : List Expr} {pat : List (Option Nat)} {t : TV3}
theorem clG (C : CalG X.prog X.w X.K X.mg X.base k x ps S) (hlen : ∀ ws Q, S.sp ws Q → ws.length = ps.length) (hgd : X.A.guards = some []) (hr : Room j X.A) (ha : PAr X XF (e :: es) pat t) (hk : k ≤ j := by first | decide | omega) (hg : Gl X x := by rfl) (nd : (pat.filterMap id).Nodup := by decide) (hdb : (x == ("__debug__" : Str)) = false := by decide)
    (he : starEach (e :: es) X.env = (false, eval e X.env) :: starEach es X.env := by rfl) (hpl : (backTo pos (starEach es X.env)).any (·.1) = false := by rfl) : PE3 X XF (.Call (.Name x p) (e :: es) [] pos) (tCall3 S.p pat t) := by
  refine ⟨fun _ _ _ _ _ he hq q => ha.mono _ _ _ _ _ he (fun ds δ1 => mkW_mono (fun ws => S.monoP _ _ _ _ _ (fun r os => retD_mono fun x => hq _ _) he) _ _ _ _) q, ⟨fun pins s σ H Q I h => ?_⟩⟩
  obtain ⟨π, Fo, ρ, δ, rel, q⟩ := h
  obtain ⟨f, fd, F, hm, hk', hb⟩ := C.ex
  refine (pe_callG (E := XF) F hlen hgd (hr.mono hk) hg hm hk' hb ha.pa hdb he hpl).run pins s σ H Q I ?_
  refine ⟨π, Fo, ρ, δ, rel, ha.mono _ _ _ _ _ (fun _ z => z) (fun ds δ1 q vs H1 ρ1 e1 rel1 ao => ?_) q⟩
  obtain ⟨ws, q, ar⟩ := args_of ao 0 _ q
  have relc := ar.rel rel1 nd
  refine ⟨piC pat ρ1, FC Fo ρ1 pat, piC pat ρ1, ws, relc, ar.tagged, fun j hj => ?_, S.monoP _ _ _ _ _ (fun r os q v H' ρ' e' oo tk ds rr => ?_) (fun ex z => liftX.call ex (liftX.mono e1 ex z)) q⟩
  · unfold piC
    rw [List.getElem?_eq_none (by rw [ar.len.2]; exact hj)]; rfl
  · obtain ⟨r2, ex2, lex⟩ := ar.after rel1 e' oo (fun _ _ => rfl) rel1.inj (fun _ z => .inl z) (fun b z => tk b (.inl z))
    unfold retD at q
    split at q
    · exact q v H' ρ1 (e1.trans ex2) r2 (Rp.mono lex rr)
    · obtain ⟨a', rfl, oa, na, vs', h1, h2⟩ := rr
      refine q _ H' ρ1 (e1.trans ex2) r2 (.lst ⟨h1, fun z => ?_⟩ (h2.mono lex))
      have : H1 a' = none := by
        rcases e'.ow a' oa with w | w
        · obtain ⟨j, w⟩ := w; exact absurd w (na j)
        · exact w
      obtain ⟨u, hu⟩ := rel1.trk a' z
      rw [this] at hu; cases hu
    · exact q.elim
end
end M3
set_option Elab.async false
set_option linter.all false
set_option maxRecDepth 100000
set_option maxHeartbeats 4000000
namespace M3
open PySem PySem.Spec PyProof.Rows L2
variable [TabsC]
section
variable {X : Cx}
def rCntR (K : PySem.W.Frag) : V → List V → Hp → VK → Prop := fun x xs H Q => ∃ (a : Addr) (y : V) (d : PyData) (ds : List PyData), x = V.ref a ∧ xs = [y] ∧ Dp K H (V.ref a) (.list ds) ∧ Dp K H y d ∧ SeqAt.shaped (.list ds) = true ∧ SeqAt.shaped d = true ∧ Q (.int ((ds.countP fun z => PyData.eqv z d : Nat) : Int)) H
theorem mt_countR (hu : X.A.units + 65 < cLine) : MtR X "list.count" (rCntR X.K) := by
  intro pins s σ H x xs v us Q I rx rxs h
  obtain ⟨a, y, d, ds, rfl, rfl, hl, hy, sl, sd, q⟩ := h
  cases rx
  cases rxs with
  | cons ry rt =>
    rename_i uy ut
    cases rt
    obtain ⟨bs, r1⟩ := Dp.reads I d y uy hy ry
    have hxs : PyData.canLayAll0 ds = true := SeqAt.canLay_of_shaped sl
    have hroom : X.A.units + 1 + min (PyData.depthAll ds) d.depth < cLine := room_in_shaped sd hu
    cases hl with
    | lst hs ha =>
      obtain ⟨its, rv, ⟨⟨cls, dd, data, sls⟩, n, ho, hc, hdn, hdt⟩, hlen⟩ := I.list hs
      simp only at hc hdt
      subst hc hdt
      obtain ⟨as, h4⟩ := Dp.readsAll I ds _ its ha rv
      have hmap : its.map (SeqAt.readOf s.heap) = ds := SeqAt.readsAll_map ds its as hxs h4
      refine call_meets PySem.F.slot_list_count ⟨_, ho, rfl⟩ PySem.F.entry_list_count (PySem.F.args_list_count_2 _ _)
        (SeqAt.list_countAt a its.toArray n dd sls uy (fun u => PyData.eqv (SeqAt.readOf s.heap u) d)) ⟨ho, SeqAt.items_eqAt (vs := its.toArray) (show ReadsAll s.heap its.toArray.toList ds as from h4) r1 hxs (SeqAt.canLay_of_shaped sd) hroom, ?_⟩
      refine ⟨.int _, H, I.tok _, ⟨s.toks, ?_⟩, q⟩
      show Value.int ((its.toArray.toList.countP _ : Nat) : Int) s.toks = Value.int ((ds.countP _ : Nat) : Int) s.toks
      rw [← hmap, List.countP_map]
      rfl
end
def rCntD (x y : D) (k : D → Prop) : Prop := match x with
  | .list xs => (SeqAt.shaped (.list xs) = true ∧ SeqAt.shaped y = true) ∧ k (.int ((xs.countP fun z => PyData.eqv z y : Nat) : Int))
  | _ => False
theorem m_rCntD : M2 rCntD := fun x y k k' hk h => by
  unfold rCntD at h ⊢
  split at h
  · exact ⟨h.1, hk _ h.2⟩
  · exact h.elim
section
variable {X : Cx} {E : XK} {a b : Expr} {ta tb : T3}
theorem countD3 {apos cpos : Pos} (hu : X.A.units + 65 < cLine) (ha : PE3 X E a ta) (hb : PE3 X E b tb)
    (hbase : attributeBase a "count" X.env (eval a X.env) = eval a X.env := by rfl)
    (hfew : ((backTo cpos (starEach [b] X.env)).all (fun x => !x.1) && (backToKw cpos (keywordEach [] X.env)).all (fun x => x.1.isSome)
      && decide (([b] : List Expr).length + ([] : List Keyword).length + (if ([] : List Keyword).isEmpty then 0 else 1) < 30)) = true := by rfl)
    (hline : (apos.endLine == cpos.line) = true := by rfl) (hs : starEach [b] X.env = (false, eval b X.env) :: starEach [] X.env := by rfl) (hplain : (backTo cpos (starEach [] X.env)).any (·.1) = false := by rfl) :
    PE3 X E (.Call (.Attribute a "count" apos) [b] [] cpos) (fun E δ Q => ta E δ fun x δ1 => (match x with | .list _ => True | _ => False) ∧ tb E δ1 fun y δ2 => rCntD x y fun z => Q z δ2) := by
  refine ⟨fun _ _ _ _ _ hx hq q => ha.mono _ _ _ _ _ hx (fun x δ1 z => ⟨z.1, hb.mono _ _ _ _ _ hx (fun y δ2 => m_rCntD _ _ _ _ fun z => hq _ _) z.2⟩) q, (pe_bm PySem.F.plainAttrs_list PySem.F.slot_list_count PySem.F.type_list_count (mt_countR hu) ha.pe (pa_cons hb.pe pa_nil hs) hbase hfew hline hs hplain).imp fun σ H Q h => ?_⟩
  obtain ⟨π, F, ρ, δ, rel, q⟩ := h
  refine ⟨π, F, ρ, δ, rel, ha.mono _ _ _ _ _ (fun _ z => z) (fun x δ1 q v H1 ρ1 e1 rel1 r1 => ?_) q⟩
  obtain ⟨hx, q⟩ := q
  split at hx
  · rename_i xs
    cases r1 with
    | lst ht hr =>
      refine ⟨.inl ⟨rfl, _, ht.sq⟩, π, F, ρ1, δ1, rel1, hb.mono _ _ _ _ _ (liftX.mono e1) (fun y δ2 q u H2 ρ2 e2 rel2 r2 => ?_) q⟩
      obtain ⟨⟨q1, q2⟩, q6⟩ := q
      have ht' := ht.ext e2.frn fun _ => .inl
      have hr' := hr.ext e2.frn fun _ => .inl
      have hp1 := plain_of_shaped q1
      exact ⟨_, _, y, xs, rfl, rfl, (Rp.lst ht' hr').dp hp1, r2.dp (plain_of_shaped q2), q1, q2, q6 _ H2 ρ2 (e1.trans e2) rel2 (.int _)⟩
  · exact hx.elim
end
end M3
set_option Elab.async false
set_option linter.all false
set_option maxRecDepth 100000
set_option maxHeartbeats 4000000
namespace M3
open PySem PySem.Spec PyProof.Rows L2
variable [TabsC]
def rEqRS (K : PySem.W.Frag) : R2 := fun x y H Q => ∃ a t, x = .ref a ∧ y = .str t ∧ ((∃ o kvs, H a = some (.frz o (.dK kvs))) ∨ ∃ vs, SqL K H a vs ∨ SqT K H a vs) ∧ Q (.bl false) H
def rEqS (x y : D) (k : D → Prop) : Prop := match x, y with
  | .str i, .str j => k (.bool (decide (i = j)))
  | x, .str j => k (.bool false)
  | _, _ => False
def isStr3 (x : D) : Bool := match x with | .str _ => true | _ => false
theorem rEqS.to {x y : D} {k : D → Prop} (h : rEqS x y k) : ∃ j, y = .str j ∧ ((∃ i, x = .str i ∧ k (.bool (decide (i = j)))) ∨ (isStr3 x = false ∧ k (.bool false))) := by
  cases y <;> cases x
  all_goals first
    | exact (show False from h).elim
    | exact ⟨_, rfl, .inr ⟨rfl, h⟩⟩
    | exact ⟨_, rfl, .inl ⟨_, rfl, h⟩⟩
section
variable {X : Cx} {E : XK} {a b : Expr} {ta tb : T3} {pos : Pos}
end
section
variable {X : Cx} {E : XK} {a b : Expr} {rest : List Expr} {ta tb : T3} {pos : Pos}
def tOrNV (ta tb : TE) : TE := fun σ H Q => ta σ H fun x H1 => (x = .non ∧ tb σ H1 Q) ∨ (∃ i : Int, x = .int i ∧ if i = 0 then tb σ H1 Q else Q (.int i) H1)
def asN (x : D) (k : Prop) (k2 : Int → Prop) : Prop := match x with | .none => k | .int i => k2 i | _ => False
def tOrN3 (ta tb : T3) : T3 := fun E δ Q => ta E δ fun x δ1 => asN x (tb E δ1 Q) fun i => br (decide (i = 0)) (tb E δ1 Q) (Q (.int i) δ1)
end
def asDc (o : Ob) (k : List (D × D) → Prop) : Prop := match o with | .dct ds => k ds | _ => False
theorem asDc.to {o : Ob} {k : List (D × D) → Prop} (h : asDc o k) : ∃ ds, o = .dct ds ∧ k ds := by
  unfold asDc at h
  split at h
  · exact ⟨_, rfl, h⟩
  · exact h.elim
section
variable {X : Cx} {E : XK} {k j : Nat} {ps : List Str} {e : Expr} {es : List Expr} {x : Str} {p pos : Pos} {pat : List (Option Nat)} {t : TV3}
end
end M3
set_option Elab.async false
set_option linter.all false
set_option maxRecDepth 100000
namespace M3
open PySem L2
variable [TabsC]
theorem nt {b : Bool} (h : b = false) : (!b) = true := by rw [h]; rfl
theorem nf {b : Bool} (h : b = true) : (!b) = false := by rw [h]; rfl
def isW (d : D) : Bool := match d with | .int _ => true | _ => false
def isB (d : D) (m : Int) : Bool := match d with | .int i => decide (0 ≤ i) && decide (i < m) | _ => false
def isC (d : D) : Bool := match d with | .int i => decide (1 ≤ i) && decide (i ≤ 9) | _ => false
def isRw (d : D) (n : Int) : Bool := match d with | .tuple xs => decide ((xs.length : Int) = n) | _ => false
def cellB (m : Int) (c : D) : Bool := isNone c || isB c m
def rowB (n m : Int) (d : D) : Bool := match d with | .tuple cs => decide ((cs.length : Int) = n) && cs.all (cellB m) | _ => false
def roomB (s n m : Int) (d : D) : Bool := match d with | .tuple rs => decide ((rs.length : Int) = s) && rs.all (rowB n m) | _ => false
def intOf (d : D) : Int := match d with | .int i => i | _ => 0
def sayB (d : D) : Bool := match d with
  | .tuple [x, y, .tuple rooms] => isC x && isC y && (decide (1 ≤ (rooms.length : Int)) && decide ((rooms.length : Int) ≤ 100)) && rooms.all (roomB (intOf x) (intOf y) rooms.length)
  | _ => false
theorem three {d : D} (h : isRw d 3 = true) : ∃ x y z, d = .tuple [x, y, z] := by
  cases d <;> try exact Bool.noConfusion (show false = true from h)
  rename_i xs
  have h' : ((xs.length : Nat) : Int) = 3 := of_decide_eq_true h
  match xs, h' with
  | [x, y, z], _ => exact ⟨x, y, z, rfl⟩
  | [], h' => simp at h'
  | [_], h' => simp at h'
  | [_, _], h' => simp at h'
  | _ :: _ :: _ :: _ :: r, h' => simp at h'; omega
theorem two {d : D} (h : isRw d 2 = true) : ∃ x y, d = .tuple [x, y] := by
  cases d <;> try exact Bool.noConfusion (show false = true from h)
  rename_i xs
  have h' : ((xs.length : Nat) : Int) = 2 := of_decide_eq_true h
  match xs, h' with
  | [x, y], _ => exact ⟨x, y, rfl⟩
  | [], h' => simp at h'
  | [_], h' => simp at h'
  | _ :: _ :: _ :: r, h' => simp at h'; omega
theorem not_three {d : D} (h : isRw d 3 = false) : sayB d = false := by
  unfold sayB
  split
  · exact Bool.noConfusion (show true = false from h)
  · rfl
theorem isC_int {d : D} (h : isC d = true) : ∃ i, d = .int i ∧ 1 ≤ i ∧ i ≤ 9 := by
  cases d <;> try exact Bool.noConfusion (show false = true from h)
  rename_i i
  have h' : (decide (1 ≤ i) && decide (i ≤ 9)) = true := h
  simp at h'
  exact ⟨i, rfl, h'.1, h'.2⟩
theorem isW_int {d : D} (h : isW d = true) : ∃ i, d = .int i := by cases d <;> first | exact ⟨_, rfl⟩ | exact Bool.noConfusion (show false = true from h)
theorem tup_or (d : D) : (∃ xs, d = .tuple xs) ∨ isTup d = false := by cases d <;> simp [isTup]
theorem all_take_succ {α : Type} {p : α → Bool} {xs : List α} {i : Nat} {x : α} (h : xs[i]? = some x) (h1 : (xs.take i).all p = true) (h2 : p x = true) : (xs.take (i + 1)).all p = true := by
  rw [List.take_succ, h, List.all_append, h1]
  simp [h2]
theorem all_false {α : Type} {p : α → Bool} {xs : List α} {i : Nat} {x : α} (h : xs[i]? = some x) (h2 : p x = false) : xs.all p = false := by
  rw [Bool.eq_false_iff]
  intro z
  rw [List.all_eq_true.mp z x (List.mem_of_getElem? h)] at h2
  cases h2
theorem qb {Q : R3 → List Ob → Prop} {b c : Bool} (h : Q (.d (.bool b)) []) (e : b = c) : Q (.d (.bool c)) [] := by rw [← e]; exact h
theorem atI_nat {α : Type} {xs : List α} {i : Int} {x : α} (h0 : 0 ≤ i) (h : xs[i.toNat]? = some x) : atI xs i = some x := by
  have hl : i.toNat < xs.length := by
    rcases Nat.lt_or_ge i.toNat xs.length with z | z
    · exact z
    · rw [List.getElem?_eq_none z] at h; cases h
  unfold atI ixN
  rw [if_pos h0, if_pos (by omega)]
  exact h
theorem at_lt {α : Type} {xs : List α} {i : Int} (h0 : 0 ≤ i) (h : i < (xs.length : Int)) : ∃ x, atI xs i = some x ∧ xs[i.toNat]? = some x := by
  have hl : i.toNat < xs.length := by omega
  exact ⟨xs[i.toNat], atI_nat h0 (List.getElem?_eq_getElem hl), List.getElem?_eq_getElem hl⟩
theorem at_ints {ns : List Int} {k : Int} (h0 : 0 ≤ k) (h : k < ((ns.map PyData.int).length : Int)) : ∃ m, atI (ns.map PyData.int) k = some (.int m) := by
  obtain ⟨x, h1, h2⟩ := at_lt h0 h
  rw [List.getElem?_map] at h2
  cases e : ns[k.toNat]? with
  | none => rw [e] at h2; cases h2
  | some m => rw [e] at h2; cases h2; exact ⟨m, h1⟩
theorem rng_len {a : Int} {n : Nat} : (rngD a n).length = n := by unfold rngD; simp
theorem rng_at {a : Int} {n k : Nat} {x : D} (h : (rngD a n)[k]? = some x) : x = .int (a + k) ∧ k < n := by
  unfold rngD at h
  rw [List.getElem?_map] at h
  have hk : k < n := by
    rcases Nat.lt_or_ge k n with z | z
    · exact z
    · rw [List.getElem?_eq_none (by simpa using z)] at h; cases h
  rw [List.getElem?_range hk] at h
  exact ⟨(Option.some.inj h).symm, hk⟩
theorem sIx_nat {n d : Nat} {j : Int} (h : 0 ≤ j) : HT.sIx n d (some j) = min j.toNat n := by
  unfold HT.sIx
  simp
  omega
theorem cut_hi {xs : List D} {j : Int} (h : 0 ≤ j) : cutG xs none (some j) = xs.take j.toNat := by
  unfold cutG
  rw [sIx_nat h]
  simp [HT.sIx]
theorem cut_lo {xs : List D} {j : Int} (h : 0 ≤ j) : cutG xs (some j) none = xs.drop j.toNat := by
  unfold cutG
  rw [sIx_nat h]
  simp only [HT.sIx]
  rw [List.take_of_length_le (by simp)]
  rcases Nat.le_total j.toNat xs.length with z | z
  · rw [Nat.min_eq_left z]
  · rw [Nat.min_eq_right z, List.drop_of_length_le (Nat.le_refl _), List.drop_of_length_le z]
theorem cut_len {xs : List D} {a b : Option Int} : (cutG xs a b).length ≤ xs.length := by
  unfold cutG; simp; omega
def IsPot (c : Nat) (o : Ob) : Prop := ∃ x y z : Int, o = .lst [.int x, .int y, .int z] ∧ 0 ≤ x ∧ 0 ≤ y ∧ y < 2 ^ 61 ∧ 0 ≤ z ∧ z ≤ c
theorem IsPot.mono {c c' : Nat} {o : Ob} (h : IsPot c o) (hc : c ≤ c') : IsPot c' o := by
  obtain ⟨x, y, z, e, h1, h2, h3, h4, h5⟩ := h
  exact ⟨x, y, z, e, h1, h2, h3, h4, Int.le_trans h5 (Int.ofNat_le.mpr hc)⟩
theorem sizeLine24 : sizeLine = 16777216 := rfl
def cellD : Option Nat → D
  | none => .none
  | some n => .int (n : Int)
def rowD (r : List (Option Nat)) : D := .tuple (r.map cellD)
def roomD (r : List (List (Option Nat))) : D := .tuple (r.map rowD)
structure Say where
  signs : Int
  deeds : Int
  rooms : List (List (List (Option Nat)))
def Say.d (S : Say) : D := .tuple [.int S.signs, .int S.deeds, .tuple (S.rooms.map roomD)]
def Say.Wf (S : Say) : Prop := ∀ room ∈ S.rooms, (room.length : Int) = S.signs ∧ ∀ row ∈ room, (row.length : Int) = S.deeds ∧ ∀ n, some n ∈ row → n < S.rooms.length
structure Say.Ok (S : Say) : Prop where
  wf : S.Wf
  s1 : 1 ≤ S.signs
  s9 : S.signs ≤ 9
  d1 : 1 ≤ S.deeds
  d9 : S.deeds ≤ 9
  r1 : 1 ≤ S.rooms.length
  r100 : S.rooms.length ≤ 100
def Say.go (S : Say) (r s d : Nat) : Option Nat := ((((S.rooms[r]?).getD [])[s]?).getD [])[d]?.getD none
theorem cellB_cell {m : Int} {c : Option Nat} : cellB m (cellD c) = true ↔ ∀ n, c = some n → (n : Int) < m := by
  cases c with
  | none => simp [cellB, cellD, isNone]
  | some n => simp [cellB, cellD, isNone, isB]
theorem cell_of {m : Int} {x : D} (h : cellB m x = true) : ∃ c, x = cellD c := by
  cases x with
  | none => exact ⟨none, rfl⟩
  | int i =>
    have h' : (decide (0 ≤ i) && decide (i < m)) = true := by simpa [cellB, isNone, isB] using h
    simp at h'
    exact ⟨some i.toNat, by simp only [cellD]; congr 1; omega⟩
  | _ => exact Bool.noConfusion (show false = true from h)
theorem all_typed {α : Type} {f : α → D} {p : D → Bool} (h : ∀ x, p x = true → ∃ a, x = f a) : ∀ xs : List D, xs.all p = true → ∃ as : List α, xs = as.map f
  | [], _ => ⟨[], rfl⟩
  | x :: r, hx => by
    simp only [List.all_cons, Bool.and_eq_true] at hx
    obtain ⟨a, rfl⟩ := h x hx.1
    obtain ⟨as, rfl⟩ := all_typed h r hx.2
    exact ⟨a :: as, rfl⟩
theorem row_of {n m : Int} {x : D} (h : rowB n m x = true) : ∃ r, x = rowD r := by
  cases x with
  | tuple cs =>
    simp only [rowB, Bool.and_eq_true] at h
    obtain ⟨as, rfl⟩ := all_typed (fun x => cell_of) cs h.2
    exact ⟨as, rfl⟩
  | _ => exact Bool.noConfusion (show false = true from h)
theorem room_of {s n m : Int} {x : D} (h : roomB s n m x = true) : ∃ r, x = roomD r := by
  cases x with
  | tuple cs =>
    simp only [roomB, Bool.and_eq_true] at h
    obtain ⟨as, rfl⟩ := all_typed (fun x => row_of) cs h.2
    exact ⟨as, rfl⟩
  | _ => exact Bool.noConfusion (show false = true from h)
theorem rowB_row {n m : Int} {r : List (Option Nat)} : rowB n m (rowD r) = true ↔ (r.length : Int) = n ∧ ∀ k, some k ∈ r → (k : Int) < m := by
  simp only [rowB, rowD, Bool.and_eq_true, decide_eq_true_eq, List.length_map, List.all_map, List.all_eq_true]
  refine and_congr Iff.rfl ⟨fun h k hk => ?_, fun h c hc => ?_⟩
  · exact cellB_cell.mp (h _ hk) k rfl
  · exact cellB_cell.mpr fun k hk => h k (hk ▸ hc)
theorem roomB_room {s n m : Int} {r : List (List (Option Nat))} : roomB s n m (roomD r) = true ↔ (r.length : Int) = s ∧ ∀ row ∈ r, (row.length : Int) = n ∧ ∀ k, some k ∈ row → (k : Int) < m := by
  simp only [roomB, roomD, Bool.and_eq_true, decide_eq_true_eq, List.length_map, List.all_map, List.all_eq_true]
  exact and_congr Iff.rfl ⟨fun h row hr => rowB_row.mp (h row hr), fun h row hr => rowB_row.mpr (h row hr)⟩
theorem Say.sayB {S : Say} (h : S.Ok) : M3.sayB S.d = true := by
  simp only [M3.sayB, Say.d, isC, intOf, Bool.and_eq_true, decide_eq_true_eq, List.length_map, List.all_map, List.all_eq_true]
  refine ⟨⟨⟨⟨h.s1, h.s9⟩, h.d1, h.d9⟩, by have := h.r1; omega, by have := h.r100; omega⟩, fun room hr => roomB_room.mpr ?_⟩
  obtain ⟨h1, h2⟩ := h.wf room hr
  exact ⟨h1, fun row hrow => ⟨(h2 row hrow).1, fun k hk => by have := (h2 row hrow).2 k hk; omega⟩⟩
theorem say_of {x : D} (h : sayB x = true) : ∃ S : Say, S.Ok ∧ x = S.d := by
  unfold sayB at h
  split at h
  · rename_i x y rooms
    simp only [Bool.and_eq_true, decide_eq_true_eq] at h
    obtain ⟨⟨⟨h1, h2⟩, h3, h4⟩, h5⟩ := h
    obtain ⟨i, rfl, hi1, hi2⟩ := isC_int h1
    obtain ⟨j, rfl, hj1, hj2⟩ := isC_int h2
    obtain ⟨rs, rfl⟩ := all_typed (fun x => room_of) rooms h5
    simp only [intOf, List.all_map, List.all_eq_true, List.length_map] at h3 h4 h5
    refine ⟨⟨i, j, rs⟩, ⟨fun room hr => ?_, hi1, hi2, hj1, hj2, (show 1 ≤ rs.length by omega), (show rs.length ≤ 100 by omega)⟩, rfl⟩
    obtain ⟨k1, k2⟩ := roomB_room.mp (h5 room hr)
    exact ⟨k1, fun row hrow => ⟨(k2 row hrow).1, fun k hk => by have := (k2 row hrow).2 k hk; exact Int.ofNat_lt.mp this⟩⟩
  · cases h
def stepD (p : Nat × Nat) : D := .tuple [.int (p.1 : Int), .int (p.2 : Int)]
def runD (r : List (Nat × Nat)) : D := .tuple (r.map stepD)
def stepB (s d : Int) (x : D) : Bool := match x with | .tuple [a, b] => isB a s && isB b d | _ => false
def runB (s d : Int) (x : D) : Bool := match x with | .tuple xs => xs.all (stepB s d) | _ => false
def RunOk (s d : Int) (r : List (Nat × Nat)) : Prop := ∀ p ∈ r, (p.1 : Int) < s ∧ (p.2 : Int) < d
theorem isB_of {n : Nat} {m : Int} : isB (.int (n : Int)) m = decide ((n : Int) < m) := by simp [isB]
theorem stepB_step {s d : Int} {p : Nat × Nat} : stepB s d (stepD p) = true ↔ (p.1 : Int) < s ∧ (p.2 : Int) < d := by
  simp [stepB, stepD, isB_of]
theorem atI_map {α : Type} {f : α → D} {xs : List α} {i : Int} (h0 : 0 ≤ i) (h : i < (xs.length : Int)) : ∃ a, atI (xs.map f) i = some (f a) ∧ xs[i.toNat]? = some a := by
  obtain ⟨x, h1, h2⟩ := at_lt (xs := xs.map f) h0 (by simpa using h)
  rw [List.getElem?_map] at h2
  cases e : xs[i.toNat]? with
  | none => rw [e] at h2; cases h2
  | some a => rw [e] at h2; exact ⟨a, by rw [h1]; exact h2.symm, rfl⟩
def S_is_whole : PrmC where
  sp := sD fun (d : D) => sEnd fun Q => (True) ∧ Q (.d (.bool (isW d))) []
  mono := sD.mono fun _ => sEnd.mono fun Q Q' hq ⟨pre, q⟩ => ⟨pre, hq _ _ q⟩
def S_is_below : PrmC where
  sp := sD fun (d : D) => sI fun (m : Int) => sEnd fun Q => (True) ∧ Q (.d (.bool (isB d m))) []
  mono := sD.mono fun _ => sI.mono fun _ => sEnd.mono fun Q Q' hq ⟨pre, q⟩ => ⟨pre, hq _ _ q⟩
def S_is_count : PrmC where
  sp := sD fun (d : D) => sEnd fun Q => (True) ∧ Q (.d (.bool (isC d))) []
  mono := sD.mono fun _ => sEnd.mono fun Q Q' hq ⟨pre, q⟩ => ⟨pre, hq _ _ q⟩
def S_is_row : PrmC where
  sp := sD fun (d : D) => sI fun (m : Int) => sEnd fun Q => (True) ∧ Q (.d (.bool (isRw d m))) []
  mono := sD.mono fun _ => sI.mono fun _ => sEnd.mono fun Q Q' hq ⟨pre, q⟩ => ⟨pre, hq _ _ q⟩
def S_is_room : PrmC where
  sp := sD fun (d : D) => sI fun (s1 : Int) => sI fun (n1 : Int) => sI fun (m1 : Int) => sEnd fun Q => (True) ∧ Q (.d (.bool (roomB s1 n1 m1 d))) []
  mono := sD.mono fun _ => sI.mono fun _ => sI.mono fun _ => sI.mono fun _ => sEnd.mono fun Q Q' hq ⟨pre, q⟩ => ⟨pre, hq _ _ q⟩
def S_is_saying : PrmC where
  sp := sD fun (d : D) => sEnd fun Q => (True) ∧ Q (.d (.bool (sayB d))) []
  mono := sD.mono fun _ => sEnd.mono fun Q Q' hq ⟨pre, q⟩ => ⟨pre, hq _ _ q⟩
def S_are_steps : PrmC where
  sp := sD fun (d : D) => sI fun (s1 : Int) => sI fun (n1 : Int) => sEnd fun Q => (True) ∧ Q (.d (.bool (runB s1 n1 d))) []
  mono := sD.mono fun _ => sI.mono fun _ => sI.mono fun _ => sEnd.mono fun Q Q' hq ⟨pre, q⟩ => ⟨pre, hq _ _ q⟩
def S_need_saying : PrmC where
  sp := sD fun (d : D) => sEnd fun Q => (sayB d = true) ∧ Q (.d .none) []
  mono := sD.mono fun _ => sEnd.mono fun Q Q' hq ⟨pre, q⟩ => ⟨pre, hq _ _ q⟩
def S_need_run : PrmC where
  sp := sD fun (d : D) => sI fun (s1 : Int) => sI fun (n1 : Int) => sEnd fun Q => (runB s1 n1 d = true) ∧ Q (.d .none) []
  mono := sD.mono fun _ => sI.mono fun _ => sI.mono fun _ => sEnd.mono fun Q Q' hq ⟨pre, q⟩ => ⟨pre, hq _ _ q⟩
def S_need_counts : PrmC where
  sp := sI fun (i : Int) => sI fun (j : Int) => sEnd fun Q => ((1 ≤ i ∧ i ≤ 9) ∧ (1 ≤ j ∧ j ≤ 9)) ∧ Q (.d .none) []
  mono := sI.mono fun _ => sI.mono fun _ => sEnd.mono fun Q Q' hq ⟨pre, q⟩ => ⟨pre, hq _ _ q⟩
def S_take : PrmC where
  sp := sO 1 fun (ob : Ob) => sI fun (many : Int) => sEnd fun Q => ∃ (c : Nat), (IsPot c ob ∧ c ≤ 10 ^ 12 ∧ 0 < many ∧ many < 2 ^ 29) ∧ ∀ (r : Nat) (o : Ob), ((r : Int) < many ∧ IsPot (c + 1) o) → Q (.d (.int (r : Int))) [o]
  mono := sO.mono fun _ => sI.mono fun _ => sEnd.mono fun Q Q' hq ⟨c, pre, q⟩ => ⟨c, pre, fun r o h => hq _ _ (q r o h)⟩
def S_pot : PrmC where
  sp := sR fun (v0 : List D) => sI fun (k : Int) => sEnd fun Q => ∃ (ns : List Int), v0 = (ns.map .int) ∧ (0 ≤ k ∧ k ≤ 10 ^ 12) ∧ ∀ (o : Ob), IsPot 0 o → Q (.own o) []
  mono := sR.mono fun _ => sI.mono fun _ => sEnd.mono fun Q Q' hq ⟨ns, e0, pre, q⟩ => ⟨ns, e0, pre, fun o h => hq _ _ (q o h)⟩
def S_room : PrmC where
  sp := sO 1 fun (ob : Ob) => sI fun (rooms : Int) => sI fun (rate : Int) => sEnd fun Q => ∃ (c : Nat), (IsPot c ob ∧ c ≤ 10 ^ 11 ∧ (0 < rooms ∧ rooms < 2 ^ 29) ∧ (0 < rate ∧ rate < 2 ^ 29)) ∧ ∀ (x : Option Nat) (o : Ob), ((∀ n, x = some n → (n : Int) < rooms) ∧ IsPot (c + 2) o) → Q (.d (cellD x)) [o]
  mono := sO.mono fun _ => sI.mono fun _ => sI.mono fun _ => sEnd.mono fun Q Q' hq ⟨c, pre, q⟩ => ⟨c, pre, fun x o h => hq _ _ (q x o h)⟩
def S_sayg : PrmC where
  sp := sO 1 fun (ob : Ob) => sI fun (signs : Int) => sI fun (deeds : Int) => sI fun (rooms : Int) => sI fun (rate : Int) => sEnd fun Q => ∃ (c : Nat), (IsPot c ob ∧ c ≤ 10 ^ 10 ∧ (0 ≤ signs ∧ signs ≤ 200) ∧ (0 ≤ deeds ∧ deeds ≤ 200) ∧ (0 < rooms ∧ rooms ≤ 200) ∧ (0 < rate ∧ rate < 2 ^ 29)) ∧ ∀ (rs : List (List (List (Option Nat)))) (o : Ob), ((rs.length : Int) = rooms ∧ Say.Wf ⟨signs, deeds, rs⟩ ∧ IsPot (c + 20000000) o) → Q (.d (Say.d ⟨signs, deeds, rs⟩)) [o]
  mono := sO.mono fun _ => sI.mono fun _ => sI.mono fun _ => sI.mono fun _ => sI.mono fun _ => sEnd.mono fun Q Q' hq ⟨c, pre, q⟩ => ⟨c, pre, fun rs o h => hq _ _ (q rs o h)⟩
def Say.trail (S : Say) : Nat → List (Nat × Nat) → List Nat
  | _, [] => []
  | r, p :: ps => match S.go r p.1 p.2 with | none => [] | some r' => r' :: Say.trail S r' ps
def Say.brk (S : Say) : Nat → List (Nat × Nat) → Option Nat
  | _, [] => none
  | r, p :: ps => match S.go r p.1 p.2 with | none => some 0 | some r' => (Say.brk S r' ps).map (· + 1)
def intsD (xs : List Nat) : List D := xs.map fun (n : Nat) => .int (n : Int)
def endD : Option Nat → List D
  | none => []
  | some _ => [.none]
def freeS (i j : Int) : Say := ⟨i, j, [List.replicate i.toNat (List.replicate j.toNat (some 0))]⟩
def S_is_run : PrmC where
  sp := sD fun (v0 : D) => sD fun (x : D) => sEnd fun Q => ∃ (S : Say), v0 = S.d ∧ (S.Ok) ∧ Q (.d (.bool (runB S.signs S.deeds x))) []
  mono := sD.mono fun _ => sD.mono fun _ => sEnd.mono fun Q Q' hq ⟨S, e0, pre, q⟩ => ⟨S, e0, pre, hq _ _ q⟩
def S_walked : PrmC where
  sp := sD fun (v0 : D) => sD fun (v1 : D) => sEnd fun Q => ∃ (S : Say) (R : List (Nat × Nat)), v0 = S.d ∧ v1 = (runD R) ∧ (S.Ok ∧ RunOk S.signs S.deeds R ∧ R.length ≤ 100000) ∧ Q (.d (.tuple [.tuple (intsD (0 :: Say.trail S 0 R)), cellD (Say.brk S 0 R)])) []
  mono := sD.mono fun _ => sD.mono fun _ => sEnd.mono fun Q Q' hq ⟨S, R, e0, e1, pre, q⟩ => ⟨S, R, e0, e1, pre, hq _ _ q⟩
def S_rooms_of : PrmC where
  sp := sD fun (v0 : D) => sD fun (v1 : D) => sEnd fun Q => ∃ (S : Say) (R : List (Nat × Nat)), v0 = S.d ∧ v1 = (runD R) ∧ (S.Ok ∧ RunOk S.signs S.deeds R ∧ R.length ≤ 2000) ∧ Q (.d (.tuple (intsD (0 :: Say.trail S 0 R)))) []
  mono := sD.mono fun _ => sD.mono fun _ => sEnd.mono fun Q Q' hq ⟨S, R, e0, e1, pre, q⟩ => ⟨S, R, e0, e1, pre, hq _ _ q⟩
def S_broken_at : PrmC where
  sp := sD fun (v0 : D) => sD fun (v1 : D) => sEnd fun Q => ∃ (S : Say) (R : List (Nat × Nat)), v0 = S.d ∧ v1 = (runD R) ∧ (S.Ok ∧ RunOk S.signs S.deeds R ∧ R.length ≤ 2000) ∧ Q (.d (cellD (Say.brk S 0 R))) []
  mono := sD.mono fun _ => sD.mono fun _ => sEnd.mono fun Q Q' hq ⟨S, R, e0, e1, pre, q⟩ => ⟨S, R, e0, e1, pre, hq _ _ q⟩
def S_free : PrmC where
  sp := sI fun (i : Int) => sI fun (j : Int) => sEnd fun Q => ((1 ≤ i ∧ i ≤ 9) ∧ (1 ≤ j ∧ j ≤ 9)) ∧ Q (.d (freeS i j).d) []
  mono := sI.mono fun _ => sI.mono fun _ => sEnd.mono fun Q Q' hq ⟨pre, q⟩ => ⟨pre, hq _ _ q⟩
def S_lrun : PrmC where
  sp := sO 1 fun (ob : Ob) => sI fun (signs : Int) => sI fun (deeds : Int) => sI fun (many : Int) => sEnd fun Q => ∃ (c : Nat), (IsPot c ob ∧ c ≤ 10 ^ 10 ∧ (0 < signs ∧ signs ≤ 200) ∧ (0 < deeds ∧ deeds ≤ 200) ∧ (0 ≤ many ∧ many ≤ 2000)) ∧ ∀ (R : List (Nat × Nat)) (o : Ob), ((R.length : Int) = many ∧ RunOk signs deeds R ∧ IsPot (c + 4000) o) → Q (.d (runD R)) [o]
  mono := sO.mono fun _ => sI.mono fun _ => sI.mono fun _ => sI.mono fun _ => sEnd.mono fun Q Q' hq ⟨c, pre, q⟩ => ⟨c, pre, fun R o h => hq _ _ (q R o h)⟩
def S_lwalk : PrmC where
  sp := sD fun (v0 : D) => sD fun (v1 : D) => sEnd fun Q => ∃ (S : Say) (R : List (Nat × Nat)), v0 = S.d ∧ v1 = (runD R) ∧ (S.Ok ∧ RunOk S.signs S.deeds R ∧ R.length ≤ 2000) ∧ Q (.own (.lst (intsD (0 :: Say.trail S 0 R) ++ endD (Say.brk S 0 R)))) []
  mono := sD.mono fun _ => sD.mono fun _ => sEnd.mono fun Q Q' hq ⟨S, R, e0, e1, pre, q⟩ => ⟨S, R, e0, e1, pre, hq _ _ q⟩
def nest : Nat → D → Prop
  | 0, d => (match d with | .none => True | .int _ => True | _ => False)
  | n + 1, d => (match d with | .none => True | .int _ => True | .tuple xs => xs.length ≤ 4000 ∧ ∀ x ∈ xs, nest n x | _ => False)
def S_same (n : Nat) : PrmC where
  sp := sD fun (x : D) => sD fun (y : D) => sEnd fun Q => (x = y ∧ nest n y) ∧ Q (.d (.bool true)) []
  mono := sD.mono fun _ => sD.mono fun _ => sEnd.mono fun Q Q' hq ⟨pre, q⟩ => ⟨pre, hq _ _ q⟩
theorem go_at {S : Say} (h : S.Ok) {r s d : Nat} (hr : r < S.rooms.length) (hs : (s : Int) < S.signs) (hd : (d : Int) < S.deeds) : ∃ room row, atI (S.rooms.map roomD) (r : Int) = some (roomD room) ∧ atI (room.map rowD) (s : Int) = some (rowD row) ∧ atI (row.map cellD) (d : Int) = some (cellD (S.go r s d)) ∧ ∀ n, S.go r s d = some n → n < S.rooms.length := by
  obtain ⟨room, h1, h2⟩ := atI_map (f := roomD) (xs := S.rooms) (i := (r : Int)) (by omega) (by omega)
  have h2' : S.rooms[r]? = some room := by simpa using h2
  obtain ⟨k1, k2⟩ := h.wf room (List.mem_of_getElem? h2')
  obtain ⟨row, h3, h4⟩ := atI_map (f := rowD) (xs := room) (i := (s : Int)) (by omega) (by omega)
  have h4' : room[s]? = some row := by simpa using h4
  obtain ⟨k3, k4⟩ := k2 row (List.mem_of_getElem? h4')
  obtain ⟨c, h5, h6⟩ := atI_map (f := cellD) (xs := row) (i := (d : Int)) (by omega) (by omega)
  have h6' : row[d]? = some c := by simpa using h6
  have e : S.go r s d = c := by simp [Say.go, h2', h4', h6']
  refine ⟨room, row, h1, h3, by rw [e]; exact h5, fun n hn => k4 n ?_⟩
  rw [← hn, e]; exact List.mem_of_getElem? h6'
def posD (p : List (List (Nat × Nat))) : D := .tuple (p.map runD)
def gameD (g : List (List (List (Nat × Nat)))) : D := .tuple (g.map posD)
def isBt (d : D) (a b : Int) : Bool := match d with | .int i => decide (a ≤ i) && decide (i ≤ b) | _ => false
def ansB (m : Int) (d : D) : Bool := match d with | .tuple [p, t] => isBt p 0 99 && isB t m | _ => false
def askB (m : Int) (d : D) : Bool := match d with | .tuple xs => (decide (1 ≤ (xs.length : Int)) && decide ((xs.length : Int) ≤ 9)) && xs.all (ansB m) | _ => false
def posB (m : Int) (d : D) : Bool := match d with | .tuple xs => (decide (1 ≤ (xs.length : Int)) && decide ((xs.length : Int) ≤ 81)) && xs.all (askB m) | _ => false
def gameB (d : D) : Bool := match d with | .tuple xs => (decide (1 ≤ (xs.length : Int)) && decide ((xs.length : Int) ≤ 100)) && xs.all (posB xs.length) | _ => false
abbrev Game := List (List (List (Nat × Nat)))
def AskOk (m : Nat) (ask : List (Nat × Nat)) : Prop := 1 ≤ ask.length ∧ ask.length ≤ 9 ∧ ∀ a ∈ ask, a.1 ≤ 99 ∧ a.2 < m
def PosOk (m : Nat) (p : List (List (Nat × Nat))) : Prop := 1 ≤ p.length ∧ p.length ≤ 81 ∧ ∀ ask ∈ p, AskOk m ask
def GameOk (g : Game) : Prop := 1 ≤ g.length ∧ g.length ≤ 100 ∧ ∀ p ∈ g, PosOk g.length p
def minI : List Int → Int
  | [] => 0
  | [x] => x
  | x :: y :: r => min x (minI (y :: r))
def maxI : List Int → Int
  | [] => 0
  | [x] => x
  | x :: y :: r => max x (maxI (y :: r))
def intT (xs : List Int) : D := .tuple (xs.map .int)
def costs (ask : List (Nat × Nat)) (row : List Int) : List Int := ask.map fun a => (a.1 : Int) + (row[a.2]?.getD 0)
def leastI (ask : List (Nat × Nat)) (row : List Int) : Int := minI (costs ask row)
def behindI (g : Game) (row : List Int) : List Int := g.map fun asks => maxI (asks.map fun ask => leastI ask row)
def stepRow (g : Game) : Nat → List Int
  | 0 => List.replicate g.length 0
  | n + 1 => behindI g (stepRow g n)
def rowsI (g : Game) (n : Nat) : List D := (List.range (n + 1)).map fun k => intT (stepRow g k)
theorem rep1 (n : Nat) (x : D) : (List.replicate n [x]).flatten = List.replicate n x := by
  induction n with
  | zero => rfl
  | succ n ih => rw [List.replicate_succ, List.flatten_cons, ih]; rfl
theorem row0 {g : Game} : PyData.tuple (List.replicate (g.length : Int).toNat [PyData.int 0]).flatten = intT (stepRow g 0) := by
  rw [rep1]; simp [intT, stepRow]
theorem map_at {α : Type} {f : α → D} {xs : List α} {i : Nat} {x : D} (h : (xs.map f)[i]? = some x) : ∃ a, xs[i]? = some a ∧ x = f a ∧ a ∈ xs := by
  rw [List.getElem?_map] at h
  cases e : xs[i]? with
  | none => rw [e] at h; cases h
  | some a => rw [e] at h; exact ⟨a, rfl, (Option.some.inj h).symm, List.mem_of_getElem? e⟩
def S_is_between : PrmC where
  sp := sD fun (d : D) => sI fun (a : Int) => sI fun (b : Int) => sEnd fun Q => (True) ∧ Q (.d (.bool (isBt d a b))) []
  mono := sD.mono fun _ => sI.mono fun _ => sI.mono fun _ => sEnd.mono fun Q Q' hq ⟨pre, q⟩ => ⟨pre, hq _ _ q⟩
def S_is_answer : PrmC where
  sp := sD fun (d : D) => sI fun (m : Int) => sEnd fun Q => (True) ∧ Q (.d (.bool (ansB m d))) []
  mono := sD.mono fun _ => sI.mono fun _ => sEnd.mono fun Q Q' hq ⟨pre, q⟩ => ⟨pre, hq _ _ q⟩
def S_is_ask : PrmC where
  sp := sD fun (d : D) => sI fun (m : Int) => sEnd fun Q => (True) ∧ Q (.d (.bool (askB m d))) []
  mono := sD.mono fun _ => sI.mono fun _ => sEnd.mono fun Q Q' hq ⟨pre, q⟩ => ⟨pre, hq _ _ q⟩
def S_is_game : PrmC where
  sp := sD fun (d : D) => sEnd fun Q => (True) ∧ Q (.d (.bool (gameB d))) []
  mono := sD.mono fun _ => sEnd.mono fun Q Q' hq ⟨pre, q⟩ => ⟨pre, hq _ _ q⟩
def S_need_game : PrmC where
  sp := sD fun (d : D) => sEnd fun Q => (gameB d = true) ∧ Q (.d .none) []
  mono := sD.mono fun _ => sEnd.mono fun Q Q' hq ⟨pre, q⟩ => ⟨pre, hq _ _ q⟩
def S_need_many : PrmC where
  sp := sI fun (i : Int) => sEnd fun Q => (0 ≤ i ∧ i ≤ 60) ∧ Q (.d .none) []
  mono := sI.mono fun _ => sEnd.mono fun Q Q' hq ⟨pre, q⟩ => ⟨pre, hq _ _ q⟩
def S_least_of : PrmC where
  sp := sD fun (v0 : D) => sD fun (v1 : D) => sEnd fun Q => ∃ (ask : List (Nat × Nat)) (row : List Int), v0 = (runD ask) ∧ v1 = (intT row) ∧ (AskOk row.length ask) ∧ Q (.d (.int (leastI ask row))) []
  mono := sD.mono fun _ => sD.mono fun _ => sEnd.mono fun Q Q' hq ⟨ask, row, e0, e1, pre, q⟩ => ⟨ask, row, e0, e1, pre, hq _ _ q⟩
def S_row_behind : PrmC where
  sp := sD fun (v0 : D) => sD fun (v1 : D) => sEnd fun Q => ∃ (g : Game) (row : List Int), v0 = (gameD g) ∧ v1 = (intT row) ∧ (GameOk g ∧ row.length = g.length) ∧ Q (.d (intT (behindI g row))) []
  mono := sD.mono fun _ => sD.mono fun _ => sEnd.mono fun Q Q' hq ⟨g, row, e0, e1, pre, q⟩ => ⟨g, row, e0, e1, pre, hq _ _ q⟩
def S_prices_of : PrmC where
  sp := sD fun (v0 : D) => sI fun (i : Int) => sEnd fun Q => ∃ (g : Game), v0 = (gameD g) ∧ (GameOk g ∧ 0 ≤ i ∧ i ≤ 60) ∧ Q (.d (.tuple (rowsI g i.toNat))) []
  mono := sD.mono fun _ => sI.mono fun _ => sEnd.mono fun Q Q' hq ⟨g, e0, pre, q⟩ => ⟨g, e0, pre, hq _ _ q⟩
def S_lrows : PrmC where
  sp := sD fun (v0 : D) => sI fun (i : Int) => sEnd fun Q => ∃ (g : Game), v0 = (gameD g) ∧ (GameOk g ∧ 0 ≤ i ∧ i ≤ 60) ∧ Q (.d (.tuple (rowsI g i.toNat))) []
  mono := sD.mono fun _ => sI.mono fun _ => sEnd.mono fun Q Q' hq ⟨g, e0, pre, q⟩ => ⟨g, e0, pre, hq _ _ q⟩
def S_lanswer : PrmC where
  sp := sO 1 fun (ob : Ob) => sI fun (many : Int) => sI fun (top : Int) => sEnd fun Q => ∃ (c : Nat), (IsPot c ob ∧ c ≤ 10 ^ 11 ∧ (0 < many ∧ many ≤ 100) ∧ (0 ≤ top ∧ top ≤ 99)) ∧ ∀ (a : Nat × Nat) (o : Ob), (a.1 ≤ 99 ∧ (a.2 : Int) < many ∧ (a.1 : Int) ≤ top ∧ IsPot (c + 3) o) → Q (.d (stepD a)) [o]
  mono := sO.mono fun _ => sI.mono fun _ => sI.mono fun _ => sEnd.mono fun Q Q' hq ⟨c, pre, q⟩ => ⟨c, pre, fun a o h => hq _ _ (q a o h)⟩
def S_lgame : PrmC where
  sp := sO 1 fun (ob : Ob) => sI fun (many : Int) => sI fun (asks : Int) => sI fun (answers : Int) => sI fun (top : Int) => sEnd fun Q => ∃ (c : Nat), (IsPot c ob ∧ c ≤ 10 ^ 10 ∧ (0 < many ∧ many ≤ 100) ∧ (0 < asks ∧ asks ≤ 81) ∧ (0 < answers ∧ answers ≤ 9) ∧ (0 ≤ top ∧ top ≤ 99)) ∧ ∀ (g : Game) (o : Ob), ((g.length : Int) = many ∧ GameOk g ∧ IsPot (c + 1000000) o) → Q (.d (gameD g)) [o]
  mono := sO.mono fun _ => sI.mono fun _ => sI.mono fun _ => sI.mono fun _ => sI.mono fun _ => sEnd.mono fun Q Q' hq ⟨c, pre, q⟩ => ⟨c, pre, fun g o h => hq _ _ (q g o h)⟩
def firstMax (ns : List Int) : Int := (ns.idxOf (maxI ns) : Nat)
def firstMin (ns : List Int) : Int := (ns.idxOf (minI ns) : Nat)
def askOf (row : List Int) (asks : List (List (Nat × Nat))) : Int := firstMax (asks.map fun ask => leastI ask row)
def planA (g : Game) (n : Nat) : List D := (List.range n).map fun k => intT (g.map (askOf (stepRow g k)))
def ansOf (row : List Int) (asks : List (List (Nat × Nat))) : List Int := asks.map fun ask => firstMin (costs ask row)
def planB (g : Game) (n : Nat) : List D := (List.range n).map fun k => .tuple (g.map fun asks => intT (ansOf (stepRow g k) asks))
def S_first_ask : PrmC where
  sp := sD fun (v0 : D) => sD fun (v1 : D) => sEnd fun Q => ∃ (asks : List (List (Nat × Nat))) (row : List Int), v0 = (posD asks) ∧ v1 = (intT row) ∧ (PosOk row.length asks) ∧ Q (.d (.int (askOf row asks))) []
  mono := sD.mono fun _ => sD.mono fun _ => sEnd.mono fun Q Q' hq ⟨asks, row, e0, e1, pre, q⟩ => ⟨asks, row, e0, e1, pre, hq _ _ q⟩
def S_first_answer : PrmC where
  sp := sD fun (v0 : D) => sD fun (v1 : D) => sEnd fun Q => ∃ (ask : List (Nat × Nat)) (row : List Int), v0 = (runD ask) ∧ v1 = (intT row) ∧ (AskOk row.length ask) ∧ Q (.d (.int (firstMin (costs ask row)))) []
  mono := sD.mono fun _ => sD.mono fun _ => sEnd.mono fun Q Q' hq ⟨ask, row, e0, e1, pre, q⟩ => ⟨ask, row, e0, e1, pre, hq _ _ q⟩
def S_asks_plan : PrmC where
  sp := sD fun (v0 : D) => sI fun (i : Int) => sEnd fun Q => ∃ (g : Game), v0 = (gameD g) ∧ (GameOk g ∧ 0 ≤ i ∧ i ≤ 60) ∧ Q (.d (.tuple (planA g i.toNat))) []
  mono := sD.mono fun _ => sI.mono fun _ => sEnd.mono fun Q Q' hq ⟨g, e0, pre, q⟩ => ⟨g, e0, pre, hq _ _ q⟩
def S_answers_plan : PrmC where
  sp := sD fun (v0 : D) => sI fun (i : Int) => sEnd fun Q => ∃ (g : Game), v0 = (gameD g) ∧ (GameOk g ∧ 0 ≤ i ∧ i ≤ 60) ∧ Q (.d (.tuple (planB g i.toNat))) []
  mono := sD.mono fun _ => sI.mono fun _ => sEnd.mono fun Q Q' hq ⟨g, e0, pre, q⟩ => ⟨g, e0, pre, hq _ _ q⟩
def S_lfirsts : PrmC where
  sp := sD fun (v0 : D) => sD fun (v1 : D) => sEnd fun Q => ∃ (g : Game) (n : Nat), v0 = (gameD g) ∧ v1 = (.tuple (rowsI g n)) ∧ (GameOk g ∧ n ≤ 60) ∧ Q (.d (.tuple [.tuple (planA g n), .tuple (planB g n)])) []
  mono := sD.mono fun _ => sD.mono fun _ => sEnd.mono fun Q Q' hq ⟨g, n, e0, e1, pre, q⟩ => ⟨g, n, e0, e1, pre, hq _ _ q⟩
def sw (p k : Nat) : Nat := if k = 0 then p else if k = p then 0 else k
def swAsk (p : Nat) (ask : List (Nat × Nat)) : List (Nat × Nat) := ask.map fun a => (a.1, sw p a.2)
def begG (g : Game) (p : Nat) : Game := (List.range g.length).map fun k => ((g[sw p k]?).getD []).map (swAsk p)
def valR (g : Game) (n at_ : Nat) : Int := (stepRow g n)[at_]?.getD 0
def swRow (g : Game) (p : Nat) (row : List Int) : List Int := (List.range g.length).map fun k => row[sw p k]?.getD 0
def gget (g : Game) (s k a : Nat) : Nat × Nat := ((((g[s]?).getD [])[k]?).getD [])[a]?.getD (0, 0)
def MvOk (g : Game) (s : Nat) (m : Nat × Nat) : Prop := m.1 < ((g[s]?).getD []).length ∧ m.2 < (((g[s]?).getD [])[m.1]?.getD []).length
def MovOk (g : Game) : Nat → List (Nat × Nat) → Prop
  | _, [] => True
  | s, m :: r => MvOk g s m ∧ MovOk g (gget g s m.1 m.2).2 r
def endM (g : Game) : Nat → List (Nat × Nat) → Nat
  | s, [] => s
  | s, m :: r => endM g (gget g s m.1 m.2).2 r
def posM (g : Game) : Nat → List (Nat × Nat) → List Nat
  | s, [] => [s]
  | s, m :: r => s :: posM g (gget g s m.1 m.2).2 r
def payM (g : Game) : Nat → List (Nat × Nat) → List Nat
  | _, [] => []
  | s, m :: r => (gget g s m.1 m.2).1 :: payM g (gget g s m.1 m.2).2 r
def bF (g : Game) (f : Nat → Int) (s : Nat) : Int := maxI (((g[s]?).getD []).map fun ask => minI (ask.map fun a => (a.1 : Int) + f a.2))
def Dom (d : Int) (g g' : Game) : Prop := ∀ s < g.length, ∀ ask ∈ (g[s]?).getD [], ∃ ask' ∈ (g'[s]?).getD [], ∀ a' ∈ ask', ∃ a ∈ ask, a.2 = a'.2 ∧ (a.1 : Int) ≤ a'.1 + d
theorem Dom.refl {g : Game} : Dom 0 g g := fun s _ ask ha => ⟨ask, ha, fun a h => ⟨a, h, rfl, by omega⟩⟩
def twiG (g : Game) : Game := g.map fun asks => asks.map fun ask => ask.map fun a => (2 * a.1, a.2)
def besAsk (m : Nat) (one two : List (Nat × Nat)) : List (Nat × Nat) := one.flatMap fun a => two.map fun b => (a.1 + b.1, a.2 * m + b.2)
def besPos (m : Nat) (p q : List (List (Nat × Nat))) : List (List (Nat × Nat)) := p.flatMap fun ask => q.map fun sec => besAsk m ask sec
def besG (g h : Game) : Game := g.flatMap fun p => h.map fun q => besPos h.length p q
def GameIn (m n t : Nat) (g : Game) : Prop := ∀ p ∈ g, p.length ≤ m ∧ ∀ ask ∈ p, ask.length ≤ n ∧ ∀ a ∈ ask, a.1 ≤ t
def ansBy (p : List (List (Nat × Nat))) (d : D) : D := match d with
  | .tuple [k, a] => bif isB k (p.length : Int) && isB a ((((p[(intOf k).toNat]?).getD []).length : Nat) : Int) then stepD ((((p[(intOf k).toNat]?).getD [])[(intOf a).toNat]?).getD (0, 0)) else .none
  | _ => .none
theorem at_map_nat {α : Type} {f : α → D} {xs : List α} {n : Nat} {a : α} (h : xs[n]? = some a) : atI (xs.map f) (n : Int) = some (f a) :=
  atI_nat (by omega) (by rw [Int.toNat_natCast, List.getElem?_map, h]; rfl)
def dearA (ask : List (Nat × Nat)) : Int := maxI (ask.map fun a => (a.1 : Int))
def dearP (p : List (List (Nat × Nat))) : Int := maxI (p.map dearA)
def dearG (g : Game) : Int := maxI (g.map dearP)
def DN (x : Option M3.W) : Prop := x = none ∨ ∃ d, x = some (.d d)
def S_lgame2 : PrmC where
  sp := sO 1 fun (ob : Ob) => sI fun (many : Int) => sI fun (asks : Int) => sI fun (answers : Int) => sI fun (top : Int) => sEnd fun Q => ∃ (c : Nat), (IsPot c ob ∧ c ≤ 10 ^ 10 ∧ (0 < many ∧ many ≤ 100) ∧ (0 < asks ∧ asks ≤ 81) ∧ (0 < answers ∧ answers ≤ 9) ∧ (0 ≤ top ∧ top ≤ 99)) ∧ ∀ (g : Game) (o : Ob), ((g.length : Int) = many ∧ GameOk g ∧ GameIn asks.toNat answers.toNat top.toNat g ∧ IsPot (c + 1000000) o) → Q (.d (gameD g)) [o]
  mono := sO.mono fun _ => sI.mono fun _ => sI.mono fun _ => sI.mono fun _ => sI.mono fun _ => sEnd.mono fun Q Q' hq ⟨c, pre, q⟩ => ⟨c, pre, fun g o h => hq _ _ (q g o h)⟩
def S_begun_at : PrmC where
  sp := sD fun (v0 : D) => sD fun (v1 : D) => sEnd fun Q => ∃ (g : Game) (p : Nat), v0 = (gameD g) ∧ v1 = (.int (p : Int)) ∧ (GameOk g ∧ p < g.length) ∧ Q (.d (gameD (begG g p))) []
  mono := sD.mono fun _ => sD.mono fun _ => sEnd.mono fun Q Q' hq ⟨g, p, e0, e1, pre, q⟩ => ⟨g, p, e0, e1, pre, hq _ _ q⟩
def S_answer_by : PrmC where
  sp := sD fun (v0 : D) => sD fun (d : D) => sEnd fun Q => ∃ (p : List (List (Nat × Nat))), v0 = (posD p) ∧ (True) ∧ ∀ (r : D), (r = ansBy p d) → Q (.d r) []
  mono := sD.mono fun _ => sD.mono fun _ => sEnd.mono fun Q Q' hq ⟨p, e0, pre, q⟩ => ⟨p, e0, pre, fun r h => hq _ _ (q r h)⟩
def S_moved : PrmC where
  sp := sD fun (v0 : D) => sD fun (v1 : D) => sEnd fun Q => ∃ (g : Game) (M : List (Nat × Nat)), v0 = (gameD g) ∧ v1 = (runD M) ∧ (GameOk g ∧ MovOk g 0 M ∧ M.length ≤ 10000) ∧ Q (.d (.tuple [.tuple (intsD (posM g 0 M)), .int ((payM g 0 M).sum : Nat)])) []
  mono := sD.mono fun _ => sD.mono fun _ => sEnd.mono fun Q Q' hq ⟨g, M, e0, e1, pre, q⟩ => ⟨g, M, e0, e1, pre, hq _ _ q⟩
def optN (f : Nat → Nat) : Option Nat → Nat
  | none => 0
  | some t => f t
def rowSum (f : Nat → Nat) (row : List (Option Nat)) : Nat := (row.map (optN f)).sum
def roomSum (f : Nat → Nat) (room : List (List (Option Nat))) : Nat := (room.map (rowSum f)).sum
def cnt (S : Say) : Nat → Nat → Nat
  | 0, _ => 1
  | n + 1, r => roomSum (cnt S n) ((S.rooms[r]?).getD [])
def wgt (f : Nat → Nat) (ds : List (Nat × Nat)) : Nat := (ds.map fun p => p.2 * f p.1).sum
def tget (ds : List (Nat × Nat)) (k : Nat) : Nat := ((ds.find? fun p => decide (p.1 = k)).map (·.2)).getD 0
def tput (ds : List (Nat × Nat)) (k v : Nat) : List (Nat × Nat) := if (ds.any fun p => decide (p.1 = k)) = true then ds.map (fun p => if p.1 = k then (p.1, v) else p) else ds ++ [(k, v)]
theorem filt_len {L : Nat} : ∀ {xs : List Nat}, xs.Nodup → xs.length ≤ (xs.filter fun x => decide (x ≠ L)).length + 1
  | [], _ => by simp
  | x :: r, h => by
    rw [List.nodup_cons] at h
    by_cases e : x = L
    · have : r.filter (fun x => decide (x ≠ L)) = r := List.filter_eq_self.mpr fun y hy => by
        simp only [ne_eq, decide_eq_true_eq]
        intro z; rw [z, ← e] at hy; exact h.1 hy
      rw [List.filter_cons_of_neg (by simp [e]), this]; simp
    · rw [List.filter_cons_of_pos (by simp [e])]
      have := filt_len (L := L) h.2
      simp only [List.length_cons]; omega
theorem nodup_bound : ∀ (L : Nat) (xs : List Nat), xs.Nodup → (∀ x ∈ xs, x < L) → xs.length ≤ L
  | 0, [], _, _ => Nat.le_refl _
  | 0, x :: r, _, h => absurd (h x List.mem_cons_self) (by omega)
  | L + 1, xs, h, hl => by
    have h1 := filt_len (L := L) h
    have h2 := nodup_bound L (xs.filter fun x => decide (x ≠ L)) (h.filter _) fun x hx => by
      obtain ⟨a, b⟩ := List.mem_filter.mp hx
      have := hl x a
      simp at b; omega
    omega
def begS (S : Say) (g : Nat) : Say := ⟨S.signs, S.deeds, (List.range S.rooms.length).map fun k => ((S.rooms[sw g k]?).getD []).map fun row => row.map (Option.map (sw g))⟩
def stepsN (s d : Nat) : List (Nat × Nat) := (List.range (s * d)).map fun a => (a / d, a % d)
def allR (st : List (Nat × Nat)) : Nat → List (List (Nat × Nat))
  | 0 => [[]]
  | n + 1 => (allR st n).flatMap fun run => st.map fun p => run ++ [p]
def endR (S : Say) : Nat → List (Nat × Nat) → Option Nat
  | r, [] => some r
  | r, p :: ps => match S.go r p.1 p.2 with | none => none | some r' => endR S r' ps
theorem go_lt {S : Say} (h : S.Ok) {r s d n : Nat} (e : S.go r s d = some n) : n < S.rooms.length := by
  unfold Say.go at e
  cases e1 : S.rooms[r]? with
  | none => rw [e1] at e; simp at e
  | some room =>
    rw [e1] at e
    simp only [Option.getD_some] at e
    cases e2 : room[s]? with
    | none => rw [e2] at e; simp at e
    | some row =>
      rw [e2] at e
      simp only [Option.getD_some] at e
      cases e3 : row[d]? with
      | none => rw [e3] at e; simp at e
      | some c =>
        rw [e3] at e
        simp only [Option.getD_some] at e
        subst e
        exact ((h.wf _ (List.mem_of_getElem? e1)).2 _ (List.mem_of_getElem? e2)).2 n (List.mem_of_getElem? e3)
def dctD (ds : List (Nat × Nat)) : List (D × D) := ds.map fun p => (PyData.int (p.1 : Int), PyData.int (p.2 : Int))
def S_many_lawful : PrmC where
  sp := sD fun (v0 : D) => sI fun (i : Int) => sEnd fun Q => ∃ (S : Say), v0 = S.d ∧ (S.Ok ∧ 0 ≤ i ∧ i ≤ 60) ∧ Q (.d (.int ((cnt S i.toNat 0 : Nat) : Int))) []
  mono := sD.mono fun _ => sI.mono fun _ => sEnd.mono fun Q Q' hq ⟨S, e0, pre, q⟩ => ⟨S, e0, pre, hq _ _ q⟩
structure Wat where
  signs : Int
  deeds : Int
  states : Game
def Wat.d (W : Wat) : D := .tuple [.int W.signs, .int W.deeds, .tuple (W.states.map posD)]
def Wat.Wf (W : Wat) : Prop := ∀ st ∈ W.states, (st.length : Int) = W.signs ∧ ∀ row ∈ st, (row.length : Int) = W.deeds ∧ ∀ p ∈ row, (p.1 : Int) < W.deeds ∧ p.2 < W.states.length
structure Wat.Ok (W : Wat) : Prop where
  wf : W.Wf
  s1 : 1 ≤ W.signs
  s9 : W.signs ≤ 9
  d1 : 1 ≤ W.deeds
  d9 : W.deeds ≤ 9
  r1 : 1 ≤ W.states.length
  r100 : W.states.length ≤ 100
def wrowB (n m : Int) (d : D) : Bool := match d with | .tuple cs => decide ((cs.length : Int) = n) && cs.all (stepB n m) | _ => false
def stateB (s n m : Int) (d : D) : Bool := match d with | .tuple rs => decide ((rs.length : Int) = s) && rs.all (wrowB n m) | _ => false
def watB (d : D) : Bool := match d with
  | .tuple [x, y, .tuple sts] => isC x && isC y && (decide (1 ≤ (sts.length : Int)) && decide ((sts.length : Int) ≤ 100)) && sts.all (stateB (intOf x) (intOf y) sts.length)
  | _ => false
def S_is_cell : PrmC where
  sp := sD fun (d : D) => sI fun (n : Int) => sI fun (m : Int) => sEnd fun Q => (True) ∧ Q (.d (.bool (stepB n m d))) []
  mono := sD.mono fun _ => sI.mono fun _ => sI.mono fun _ => sEnd.mono fun Q Q' hq ⟨pre, q⟩ => ⟨pre, hq _ _ q⟩
def S_is_state : PrmC where
  sp := sD fun (d : D) => sI fun (s1 : Int) => sI fun (n1 : Int) => sI fun (m1 : Int) => sEnd fun Q => (n1 ≤ 1000) ∧ Q (.d (.bool (stateB s1 n1 m1 d))) []
  mono := sD.mono fun _ => sI.mono fun _ => sI.mono fun _ => sI.mono fun _ => sEnd.mono fun Q Q' hq ⟨pre, q⟩ => ⟨pre, hq _ _ q⟩
def S_is_watcher : PrmC where
  sp := sD fun (d : D) => sEnd fun Q => (True) ∧ Q (.d (.bool (watB d))) []
  mono := sD.mono fun _ => sEnd.mono fun Q Q' hq ⟨pre, q⟩ => ⟨pre, hq _ _ q⟩
def S_lwatcher : PrmC where
  sp := sO 1 fun (ob : Ob) => sI fun (signs : Int) => sI fun (deeds : Int) => sI fun (states : Int) => sI fun (rate : Int) => sEnd fun Q => ∃ (c : Nat), (IsPot c ob ∧ c ≤ 10 ^ 10 ∧ (0 ≤ signs ∧ signs ≤ 10) ∧ (0 < deeds ∧ deeds ≤ 10) ∧ (0 < states ∧ states ≤ 200) ∧ (0 < rate ∧ rate ≤ 1000)) ∧ ∀ (st : Game) (o : Ob), ((st.length : Int) = states ∧ Wat.Wf ⟨signs, deeds, st⟩ ∧ IsPot (c + 1000000) o) → Q (.d (Wat.d ⟨signs, deeds, st⟩)) [o]
  mono := sO.mono fun _ => sI.mono fun _ => sI.mono fun _ => sI.mono fun _ => sI.mono fun _ => sEnd.mono fun Q Q' hq ⟨c, pre, q⟩ => ⟨c, pre, fun st o h => hq _ _ (q st o h)⟩
def priceB (own : Bool) (d : D) : Bool := if own then (match d with | .int i => decide (i = 0) | _ => false) else (isNone d || isBt d 1 99)
def prowB (n : Int) (w : Nat) (d : D) : Bool := match d with | .tuple xs => decide ((xs.length : Int) = n) && (xs.zipIdx.all fun p => priceB (decide (p.2 = w)) p.1) | _ => false
def pricesB (n : Int) (d : D) : Bool := match d with | .none => true | .tuple rs => decide ((rs.length : Int) = n) && (rs.zipIdx.all fun p => prowB n p.2 p.1) | _ => false
abbrev Prc := Option (List (List (Option Nat)))
def prcD : Prc → D
  | none => .none
  | some tb => roomD tb
def priceOk (own : Bool) (c : Option Nat) : Prop := if own then c = some 0 else ∀ n, c = some n → 1 ≤ n ∧ n ≤ 99
def PrcOk (n : Int) : Prc → Prop
  | none => True
  | some tb => (tb.length : Int) = n ∧ ∀ (w : Nat) (row : List (Option Nat)), tb[w]? = some row → (row.length : Int) = n ∧ ∀ (g : Nat) (c : Option Nat), row[g]? = some c → priceOk (decide (g = w)) c
def priceOf (p : Prc) (w g : Nat) : Option Nat := match p with
  | none => some (if w = g then 0 else 1)
  | some tb => ((tb[w]?).getD [])[g]?.getD none
def S_is_price : PrmC where
  sp := sD fun (d : D) => sD fun (v1 : D) => sEnd fun Q => ∃ (own : Bool), v1 = (.bool own) ∧ (True) ∧ Q (.d (.bool (priceB own d))) []
  mono := sD.mono fun _ => sD.mono fun _ => sEnd.mono fun Q Q' hq ⟨own, e0, pre, q⟩ => ⟨own, e0, pre, hq _ _ q⟩
def S_are_prices : PrmC where
  sp := sI fun (n : Int) => sD fun (d : D) => sEnd fun Q => (n ≤ 1000) ∧ Q (.d (.bool (pricesB n d))) []
  mono := sI.mono fun _ => sD.mono fun _ => sEnd.mono fun Q Q' hq ⟨pre, q⟩ => ⟨pre, hq _ _ q⟩
def S_need_prices : PrmC where
  sp := sI fun (n : Int) => sD fun (d : D) => sEnd fun Q => (n ≤ 1000 ∧ pricesB n d = true) ∧ Q (.d .none) []
  mono := sI.mono fun _ => sD.mono fun _ => sEnd.mono fun Q Q' hq ⟨pre, q⟩ => ⟨pre, hq _ _ q⟩
def S_cost : PrmC where
  sp := sD fun (v0 : D) => sD fun (v1 : D) => sD fun (v2 : D) => sEnd fun Q => ∃ (p : Prc) (n : Int) (w : Nat) (g : Nat), v0 = (prcD p) ∧ v1 = (.int (w : Int)) ∧ v2 = (.int (g : Int)) ∧ (PrcOk n p ∧ (w : Int) < n ∧ (g : Int) < n) ∧ Q (.d (cellD (priceOf p w g))) []
  mono := sD.mono fun _ => sD.mono fun _ => sD.mono fun _ => sEnd.mono fun Q Q' hq ⟨p, n, w, g, e0, e1, e2, pre, q⟩ => ⟨p, n, w, g, e0, e1, e2, pre, hq _ _ q⟩
def S_need_watcher : PrmC where
  sp := sD fun (d : D) => sEnd fun Q => (watB d = true) ∧ Q (.d .none) []
  mono := sD.mono fun _ => sEnd.mono fun Q Q' hq ⟨pre, q⟩ => ⟨pre, hq _ _ q⟩
def Wat.get (W : Wat) (s sg d : Nat) : Nat × Nat := ((((W.states[s]?).getD [])[sg]?).getD [])[d]?.getD (0, 0)
abbrev Quad := Nat × Nat × Nat × Nat
def quadD (q : Quad) : D := .tuple [.int (q.1 : Int), .int (q.2.1 : Int), .int (q.2.2.1 : Int), .int (q.2.2.2 : Int)]
def stepsW (W : Wat) : Nat → List (Nat × Nat) → List Quad
  | _, [] => []
  | s, p :: ps => (p.1, p.2, W.get s p.1 p.2) :: stepsW W (W.get s p.1 p.2).2 ps
theorem Wat.watB {W : Wat} (h : W.Ok) : M3.watB W.d = true := by
  simp only [M3.watB, Wat.d, isC, intOf, Bool.and_eq_true, decide_eq_true_eq, List.length_map, List.all_map, List.all_eq_true]
  refine ⟨⟨⟨⟨h.s1, h.s9⟩, h.d1, h.d9⟩, by have := h.r1; omega, by have := h.r100; omega⟩, fun st hs => ?_⟩
  obtain ⟨h1, h2⟩ := h.wf st hs
  simp only [Function.comp, stateB, posD, List.length_map, h1, decide_true, Bool.true_and, List.all_map, List.all_eq_true]
  intro row hr
  obtain ⟨h3, h4⟩ := h2 row hr
  simp only [Function.comp, wrowB, runD, List.length_map, h3, decide_true, Bool.true_and, List.all_map, List.all_eq_true]
  intro p hp
  exact stepB_step.mpr ⟨(h4 p hp).1, by have := (h4 p hp).2; omega⟩
def costS (p : Prc) : List Quad → Option Nat
  | [] => some 0
  | q :: r => match priceOf p q.2.1 q.2.2.1 with | none => none | some a => (costS p r).map (a + ·)
def changesI : Nat → List Quad → List Nat
  | _, [] => []
  | k, q :: r => if q.2.2.1 = q.2.1 then changesI (k + 1) r else k :: changesI (k + 1) r
def mendR (st : List Quad) : List (Nat × Nat) := st.map fun q => (q.1, q.2.2.1)
def statesR (st : List Quad) : List Nat := st.map fun q => q.2.2.2
def letRow (j : Int) : List (Nat × Nat) := (List.range j.toNat).map fun d => (d, 0)
def letS (i j : Int) : Wat := ⟨i, j, [List.replicate i.toNat (letRow j)]⟩
def S_letting : PrmC where
  sp := sI fun (i : Int) => sI fun (j : Int) => sEnd fun Q => ((1 ≤ i ∧ i ≤ 9) ∧ (1 ≤ j ∧ j ≤ 9)) ∧ Q (.d (letS i j).d) []
  mono := sI.mono fun _ => sI.mono fun _ => sEnd.mono fun Q Q' hq ⟨pre, q⟩ => ⟨pre, hq _ _ q⟩
def S_steps_by : PrmC where
  sp := sD fun (v0 : D) => sD fun (v1 : D) => sEnd fun Q => ∃ (W : Wat) (R : List (Nat × Nat)), v0 = W.d ∧ v1 = (runD R) ∧ (W.Ok ∧ RunOk W.signs W.deeds R ∧ R.length ≤ 10000) ∧ Q (.own (.lst ((stepsW W 0 R).map quadD))) []
  mono := sD.mono fun _ => sD.mono fun _ => sEnd.mono fun Q Q' hq ⟨W, R, e0, e1, pre, q⟩ => ⟨W, R, e0, e1, pre, hq _ _ q⟩
def S_cost_of : PrmC where
  sp := sD fun (v0 : D) => sD fun (v1 : D) => sD fun (v2 : D) => sEnd fun Q => ∃ (W : Wat) (R : List (Nat × Nat)) (p : Prc), v0 = W.d ∧ v1 = (runD R) ∧ v2 = (prcD p) ∧ (W.Ok ∧ RunOk W.signs W.deeds R ∧ R.length ≤ 10000 ∧ PrcOk W.deeds p) ∧ Q (.d (cellD (costS p (stepsW W 0 R)))) []
  mono := sD.mono fun _ => sD.mono fun _ => sD.mono fun _ => sEnd.mono fun Q Q' hq ⟨W, R, p, e0, e1, e2, pre, q⟩ => ⟨W, R, p, e0, e1, e2, pre, hq _ _ q⟩
def S_mended : PrmC where
  sp := sD fun (v0 : D) => sD fun (v1 : D) => sEnd fun Q => ∃ (W : Wat) (R : List (Nat × Nat)), v0 = W.d ∧ v1 = (runD R) ∧ (W.Ok ∧ RunOk W.signs W.deeds R ∧ R.length ≤ 10000) ∧ Q (.d (runD (mendR (stepsW W 0 R)))) []
  mono := sD.mono fun _ => sD.mono fun _ => sEnd.mono fun Q Q' hq ⟨W, R, e0, e1, pre, q⟩ => ⟨W, R, e0, e1, pre, hq _ _ q⟩
def S_states_of : PrmC where
  sp := sD fun (v0 : D) => sD fun (v1 : D) => sEnd fun Q => ∃ (W : Wat) (R : List (Nat × Nat)), v0 = W.d ∧ v1 = (runD R) ∧ (W.Ok ∧ RunOk W.signs W.deeds R ∧ R.length ≤ 10000) ∧ Q (.d (.tuple (intsD (0 :: statesR (stepsW W 0 R))))) []
  mono := sD.mono fun _ => sD.mono fun _ => sEnd.mono fun Q Q' hq ⟨W, R, e0, e1, pre, q⟩ => ⟨W, R, e0, e1, pre, hq _ _ q⟩
def S_changed_at : PrmC where
  sp := sD fun (v0 : D) => sD fun (v1 : D) => sEnd fun Q => ∃ (W : Wat) (R : List (Nat × Nat)), v0 = W.d ∧ v1 = (runD R) ∧ (W.Ok ∧ RunOk W.signs W.deeds R ∧ R.length ≤ 10000) ∧ Q (.d (.tuple (intsD (changesI 0 (stepsW W 0 R))))) []
  mono := sD.mono fun _ => sD.mono fun _ => sEnd.mono fun Q Q' hq ⟨W, R, e0, e1, pre, q⟩ => ⟨W, R, e0, e1, pre, hq _ _ q⟩
structure Mac where
  signs : Int
  deeds : Int
  rooms : List (List (Nat × Nat))
def Mac.d (M : Mac) : D := .tuple [.int M.signs, .int M.deeds, .tuple (M.rooms.map runD)]
def Mac.Wf (M : Mac) : Prop := ∀ row ∈ M.rooms, (row.length : Int) = M.signs ∧ ∀ p ∈ row, (p.1 : Int) < M.deeds ∧ p.2 < M.rooms.length
structure Mac.Ok (M : Mac) : Prop where
  wf : M.Wf
  s1 : 1 ≤ M.signs
  s9 : M.signs ≤ 9
  d1 : 1 ≤ M.deeds
  d9 : M.deeds ≤ 9
  r1 : 1 ≤ M.rooms.length
  r100 : M.rooms.length ≤ 100
def mrowB (s n m : Int) (d : D) : Bool := match d with | .tuple cs => decide ((cs.length : Int) = s) && cs.all (stepB n m) | _ => false
def macB (d : D) : Bool := match d with
  | .tuple [x, y, .tuple sts] => isC x && isC y && (decide (1 ≤ (sts.length : Int)) && decide ((sts.length : Int) ≤ 100)) && sts.all (mrowB (intOf x) (intOf y) sts.length)
  | _ => false
theorem Mac.macB {M : Mac} (h : M.Ok) : M3.macB M.d = true := by
  simp only [M3.macB, Mac.d, isC, intOf, Bool.and_eq_true, decide_eq_true_eq, List.length_map, List.all_map, List.all_eq_true]
  refine ⟨⟨⟨⟨h.s1, h.s9⟩, h.d1, h.d9⟩, by have := h.r1; omega, by have := h.r100; omega⟩, fun row hr => ?_⟩
  obtain ⟨h3, h4⟩ := h.wf row hr
  simp only [Function.comp, mrowB, runD, List.length_map, h3, decide_true, Bool.true_and, List.all_map, List.all_eq_true]
  intro p hp
  exact stepB_step.mpr ⟨(h4 p hp).1, by have := (h4 p hp).2; omega⟩
def Mac.get (M : Mac) (r sg : Nat) : Nat × Nat := ((M.rooms[r]?).getD [])[sg]?.getD (0, 0)
def runM (M : Mac) : Nat → List Nat → List (Nat × Nat)
  | _, [] => []
  | r, x :: xs => (x, (M.get r x).1) :: runM M (M.get r x).2 xs
def idxP {α : Type} [DecidableEq α] (xs : List α) (x : α) : Nat := xs.idxOf x
def placesD {α : Type} (f : α → D) : Nat → List α → List (D × D)
  | _, [] => []
  | k, a :: r => (f a, .int (k : Int)) :: placesD f (k + 1) r
theorem placesD_len {α : Type} {f : α → D} : ∀ (xs : List α) (k : Nat), (placesD f k xs).length = xs.length
  | [], _ => rfl
  | a :: r, k => by simp [placesD, placesD_len r]
theorem place_get {α : Type} [DecidableEq α] {f : α → D} (hf : ∀ a b, tEq (f a) (f b) = decide (a = b)) (x : α) : ∀ (xs : List α) (k : Nat), xgetD (placesD f k xs) (f x) = if x ∈ xs then some (.int ((k + idxP xs x : Nat) : Int)) else none
  | [], k => by simp [placesD, xgetD]
  | a :: r, k => by
    have ih := place_get hf x r (k + 1)
    unfold xgetD idxP at ih ⊢
    simp only [placesD, List.find?_cons, hf]
    by_cases e : a = x
    · subst e
      simp
    · have e' : ¬ x = a := fun z => e z.symm
      simp only [e, decide_false, ih, List.mem_cons, e', false_or, List.idxOf_cons]
      have : (a == x) = false := by simpa using e
      rw [this]
      split <;> simp [Nat.add_comm, Nat.add_left_comm, Nat.add_assoc]
theorem place_put {α : Type} [DecidableEq α] {f : α → D} (hf : ∀ a b, tEq (f a) (f b) = decide (a = b)) {x : α} {xs : List α} (hx : x ∉ xs) {k : Nat} : xputD (placesD f k xs) (f x) (.int ((k + xs.length : Nat) : Int)) = placesD f k (xs ++ [x]) := by
  have h := place_get hf x xs k
  rw [if_neg hx] at h
  unfold xputD
  rw [h]
  simp only [Option.isSome_none, Bool.false_eq_true, if_false]
  have go : ∀ (ys : List α) (k : Nat), placesD f k ys ++ [(f x, .int ((k + ys.length : Nat) : Int))] = placesD f k (ys ++ [x]) := fun ys => by
    induction ys with
    | nil => intro k; simp [placesD]
    | cons y ys ih => intro k; simp only [placesD, List.cons_append, List.length_cons]; rw [← ih (k + 1)]; simp [Nat.add_comm, Nat.add_left_comm]
  exact go xs k
def addP {α : Type} [DecidableEq α] (ps : List α) (x : α) : List α := if x ∈ ps then ps else ps ++ [x]
theorem addP_mem {α : Type} [DecidableEq α] {ps : List α} {x : α} : x ∈ addP ps x := by unfold addP; split <;> simp_all
theorem addP_pre {α : Type} [DecidableEq α] {ps : List α} {x : α} : ps <+: addP ps x := by
  unfold addP; split
  · exact List.prefix_refl _
  · exact List.prefix_append _ _
theorem idx_pre {α : Type} [DecidableEq α] {ps qs : List α} {x : α} (h : ps <+: qs) (hx : x ∈ ps) : idxP qs x = idxP ps x := by
  unfold idxP
  obtain ⟨t, rfl⟩ := h
  rw [List.idxOf_append, if_pos hx]
def addAll {α : Type} [DecidableEq α] (ps xs : List α) : List α := xs.foldl addP ps
theorem addAll_pre {α : Type} [DecidableEq α] : ∀ (xs ps : List α), ps <+: addAll ps xs
  | [], _ => List.prefix_refl _
  | x :: xs, ps => (addP_pre (x := x)).trans (addAll_pre xs (addP ps x))
theorem addAll_mem {α : Type} [DecidableEq α] : ∀ (xs ps : List α) (x : α), x ∈ xs → x ∈ addAll ps xs
  | y :: xs, ps, x, h => by
    rcases List.mem_cons.mp h with rfl | h
    · exact (addAll_pre xs _).subset addP_mem
    · exact addAll_mem xs _ x h
theorem addAll_all {α : Type} [DecidableEq α] {P : α → Prop} : ∀ (xs ps : List α), (∀ x ∈ ps, P x) → (∀ x ∈ xs, P x) → ∀ x ∈ addAll ps xs, P x
  | [], ps, h1, _ => h1
  | y :: xs, ps, h1, h2 => addAll_all xs _ (fun x hx => by
      unfold addP at hx
      split at hx
      · exact h1 x hx
      · rcases List.mem_append.mp hx with hx | hx
        · exact h1 x hx
        · rw [List.mem_singleton.mp hx]; exact h2 y List.mem_cons_self) fun x hx => h2 x (List.mem_cons_of_mem _ hx)
theorem addAll_app {α : Type} [DecidableEq α] {ps xs ys : List α} : addAll ps (xs ++ ys) = addAll (addAll ps xs) ys := by simp [addAll, List.foldl_append]
theorem addAll_snoc {α : Type} [DecidableEq α] {ps xs : List α} {x : α} : addAll ps (xs ++ [x]) = addP (addAll ps xs) x := by simp [addAll, List.foldl_append]
section
variable {α β : Type} [DecidableEq α] (out : α → List (β × α)) (b0 : α)
def come : Nat → List α
  | 0 => [b0]
  | n + 1 => match (come n)[n]? with
    | some x => addAll (come n) ((out x).map (·.2))
    | none => come n
def rowC (n : Nat) : List (β × Nat) := match (come out b0 n)[n]? with
  | some x => (out x).map fun o => (o.1, idxP (come out b0 (n + 1)) o.2)
  | none => []
def Going (n : Nat) : Prop := ∀ m, m < n → m < (come out b0 m).length ∧ (come out b0 m).length ≤ 100
variable {out b0}
theorem come_succ {n : Nat} {x : α} (h : (come out b0 n)[n]? = some x) : come out b0 (n + 1) = addAll (come out b0 n) ((out x).map (·.2)) := by
  rw [come, h]
theorem come_pre (n : Nat) : come out b0 n <+: come out b0 (n + 1) := by
  show _ <+: (match (come out b0 n)[n]? with | some x => addAll (come out b0 n) ((out x).map (·.2)) | none => come out b0 n)
  split
  · exact addAll_pre _ _
  · exact List.prefix_refl _
theorem come_le {n m : Nat} (h : n ≤ m) : come out b0 n <+: come out b0 m := by
  induction m with
  | zero => rw [Nat.le_zero.mp h]; exact List.prefix_refl _
  | succ m ih =>
    rcases Nat.lt_or_ge n (m + 1) with h1 | h1
    · exact (ih (by omega)).trans (come_pre m)
    · rw [show n = m + 1 by omega]; exact List.prefix_refl _
theorem come_all {P : α → Prop} (h0 : P b0) (hs : ∀ x, P x → ∀ o ∈ out x, P o.2) : ∀ n, ∀ x ∈ come out b0 n, P x
  | 0, x, hx => by rw [List.mem_singleton.mp hx]; exact h0
  | n + 1, x, hx => by
    have ih := come_all h0 hs n
    have hx : x ∈ (match (come out b0 n)[n]? with | some x => addAll (come out b0 n) ((out x).map fun (o : β × α) => o.2) | none => come out b0 n) := hx
    split at hx
    · rename_i y hy
      refine addAll_all _ _ ih (fun z hz => ?_) x hx
      obtain ⟨o, ho, rfl⟩ := List.mem_map.mp hz
      exact hs y (ih y (List.mem_of_getElem? hy)) o ho
    · exact ih x hx
theorem going_le {n : Nat} (h : Going out b0 n) : n ≤ 100 := by
  cases n with
  | zero => omega
  | succ n => have := h n (by omega); omega
theorem going_len {n : Nat} (h : Going out b0 n) : n ≤ (come out b0 n).length := by
  cases n with
  | zero => exact Nat.zero_le _
  | succ n => have h1 := (h n (by omega)).1; have h2 := (come_pre (out := out) (b0 := b0) n).length_le; omega
theorem going_one {n m : Nat} (h1 : Going out b0 n) (e1 : n = (come out b0 n).length ∨ 100 < (come out b0 n).length) (h2 : Going out b0 m) (e2 : m = (come out b0 m).length ∨ 100 < (come out b0 m).length) : n = m := by
  rcases Nat.lt_trichotomy n m with h | h | h
  · have := h2 n h; omega
  · exact h
  · have := h1 m h; omega
theorem come_len0 (n : Nat) : 1 ≤ (come out b0 n).length := by
  have := (come_le (out := out) (b0 := b0) (Nat.zero_le n)).length_le
  exact this
end
def prodOut (M : Mac) (W : Wat) (p : Nat × Nat) : List (Nat × (Nat × Nat)) := (List.range M.signs.toNat).map fun sg => ((W.get p.2 sg (M.get p.1 sg).1).1, ((M.get p.1 sg).2, (W.get p.2 sg (M.get p.1 sg).1).2))
def prodM (M : Mac) (W : Wat) (n : Nat) : Mac := ⟨M.signs, M.deeds, (List.range n).map (rowC (prodOut M W) (0, 0))⟩
abbrev prodC (M : Mac) (W : Wat) (n : Nat) : List (Nat × Nat) := come (prodOut M W) (0, 0) n
abbrev Done (M : Mac) (W : Wat) (n : Nat) : Prop := Going (prodOut M W) (0, 0) n ∧ n = (prodC M W n).length ∧ n ≤ 100
abbrev Wid (M : Mac) (W : Wat) : Prop := ∃ n, Going (prodOut M W) (0, 0) n ∧ 100 < (prodC M W n).length
theorem pre_get {α : Type} {xs ys : List α} (h : xs <+: ys) {i : Nat} {x : α} (hx : xs[i]? = some x) : ys[i]? = some x := by
  obtain ⟨t, rfl⟩ := h
  rw [List.getElem?_append_left (List.getElem?_eq_some_iff.mp hx).1]; exact hx
theorem idx_get {α : Type} [DecidableEq α] {x : α} {xs : List α} (h : x ∈ xs) : xs[idxP xs x]? = some x := by
  unfold idxP
  have := List.idxOf_lt_length_of_mem h
  rw [List.getElem?_eq_getElem this, List.getElem_idxOf]
def S_is_go : PrmC where
  sp := sD fun (d : D) => sI fun (n : Int) => sI fun (m : Int) => sEnd fun Q => (True) ∧ Q (.d (.bool (stepB n m d))) []
  mono := sD.mono fun _ => sI.mono fun _ => sI.mono fun _ => sEnd.mono fun Q Q' hq ⟨pre, q⟩ => ⟨pre, hq _ _ q⟩
def S_is_machine : PrmC where
  sp := sD fun (d : D) => sEnd fun Q => (True) ∧ Q (.d (.bool (macB d))) []
  mono := sD.mono fun _ => sEnd.mono fun Q Q' hq ⟨pre, q⟩ => ⟨pre, hq _ _ q⟩
def S_need_machine : PrmC where
  sp := sD fun (d : D) => sEnd fun Q => (macB d = true) ∧ Q (.d .none) []
  mono := sD.mono fun _ => sEnd.mono fun Q Q' hq ⟨pre, q⟩ => ⟨pre, hq _ _ q⟩
def S_need_alike : PrmC where
  sp := sD fun (v0 : D) => sD fun (v1 : D) => sEnd fun Q => ∃ (i : Int) (j : Int) (x : D) (y : D), v0 = (.tuple [.int i, .int j, x]) ∧ v1 = (.tuple [.int i, .int j, y]) ∧ (True) ∧ Q (.d .none) []
  mono := sD.mono fun _ => sD.mono fun _ => sEnd.mono fun Q Q' hq ⟨i, j, x, y, e0, e1, pre, q⟩ => ⟨i, j, x, y, e0, e1, pre, hq _ _ q⟩
def S_run_of : PrmC where
  sp := sD fun (v0 : D) => sD fun (v1 : D) => sEnd fun Q => ∃ (M : Mac) (xs : List Nat), v0 = M.d ∧ v1 = (.tuple (intsD xs)) ∧ (M.Ok ∧ (∀ x ∈ xs, (x : Int) < M.signs) ∧ xs.length ≤ 1000) ∧ Q (.d (runD (runM M 0 xs))) []
  mono := sD.mono fun _ => sD.mono fun _ => sEnd.mono fun Q Q' hq ⟨M, xs, e0, e1, pre, q⟩ => ⟨M, xs, e0, e1, pre, hq _ _ q⟩
def S_lmac : PrmC where
  sp := sO 1 fun (ob : Ob) => sI fun (signs : Int) => sI fun (deeds : Int) => sI fun (rooms : Int) => sEnd fun Q => ∃ (c : Nat), (IsPot c ob ∧ c ≤ 10 ^ 10 ∧ (0 ≤ signs ∧ signs ≤ 10) ∧ (0 < deeds ∧ deeds ≤ 10) ∧ (0 < rooms ∧ rooms ≤ 200)) ∧ ∀ (rs : List (List (Nat × Nat))) (o : Ob), ((rs.length : Int) = rooms ∧ Mac.Wf ⟨signs, deeds, rs⟩ ∧ IsPot (c + 10000) o) → Q (.d (Mac.d ⟨signs, deeds, rs⟩)) [o]
  mono := sO.mono fun _ => sI.mono fun _ => sI.mono fun _ => sI.mono fun _ => sEnd.mono fun Q Q' hq ⟨c, pre, q⟩ => ⟨c, pre, fun rs o h => hq _ _ (q rs o h)⟩
abbrev Rw := List (Option Nat)
def rowO : Option Rw → D
  | none => .none
  | some r => rowD r
theorem cellD_oEq (a b : Option Nat) : oEq (cellD a) (cellD b) = decide (a = b) := by
  cases a <;> cases b <;> simp [oEq, cellD, Int.ofNat_inj]
theorem rowEq_cells : ∀ a b : Rw, rowEq (a.map cellD) (b.map cellD) = decide (a = b)
  | [], [] => rfl
  | [], _ :: _ => rfl
  | _ :: _, [] => rfl
  | x :: xs, y :: ys => by
    simp only [List.map_cons, rowEq, cellD_oEq, rowEq_cells xs ys]
    by_cases h : x = y <;> by_cases h' : xs = ys <;> simp [h, h']
theorem tEq_row (a b : Rw) : tEq (rowD a) (rowD b) = decide (a = b) := rowEq_cells a b
theorem tkB_row (a : Rw) : tkB (rowD a) = true := by
  simp only [rowD, tkB, List.all_map, List.all_eq_true]
  intro c _
  cases c <;> rfl
section
variable (a b : Nat) (step : Rw → Nat → Nat → Option Rw) (b0 : Rw)
def fcNew (x : Rw) (s : Nat) : List Rw := (List.range b).filterMap (step x s)
def fcAll (x : Rw) (s : Nat) : List Rw := (List.range s).flatMap (fcNew b step x)
def fcOut (x : Rw) : List (Unit × Rw) := (fcAll b step x a).map fun y => ((), y)
abbrev fcC (n : Nat) : List Rw := come (fcOut a b step) b0 n
def fcRow (n : Nat) (x : Rw) (s : Nat) : Rw := (List.range b).map fun d => (step x s d).map (idxP (fcC a b step b0 (n + 1)))
def fcRoom (n : Nat) : List Rw := match (fcC a b step b0 n)[n]? with
  | some x => (List.range a).map (fcRow a b step b0 n x)
  | none => []
def fcT (n : Nat) : List (List Rw) := (List.range n).map (fcRoom a b step b0)
def FDone (n : Nat) : Prop := Going (fcOut a b step) b0 n ∧ n = (fcC a b step b0 n).length ∧ n ≤ 100
def FWid : Prop := ∃ n, Going (fcOut a b step) b0 n ∧ 100 < (fcC a b step b0 n).length
variable {a b step b0}
theorem fcAll_succ {x : Rw} {s : Nat} : fcAll b step x (s + 1) = fcAll b step x s ++ fcNew b step x s := by
  unfold fcAll; rw [List.range_succ, List.flatMap_append]; simp
theorem fc_succ {n : Nat} {x : Rw} (h : (fcC a b step b0 n)[n]? = some x) : fcC a b step b0 (n + 1) = addAll (fcC a b step b0 n) (fcAll b step x a) := by
  have := come_succ (out := fcOut a b step) h
  rw [fcOut, List.map_map] at this
  refine this.trans ?_
  congr 1
  exact List.map_id' _
theorem fcAll_pre {x : Rw} {s t : Nat} (h : s ≤ t) : fcAll b step x s <+: fcAll b step x t := by
  induction t with
  | zero => rw [Nat.le_zero.mp h]; exact List.prefix_refl _
  | succ t ih =>
    rcases Nat.lt_or_ge s (t + 1) with h1 | h1
    · rw [fcAll_succ]; exact (ih (by omega)).trans (List.prefix_append _ _)
    · rw [show s = t + 1 by omega]; exact List.prefix_refl _
theorem addAll_pre2 {α : Type} [DecidableEq α] {ps xs ys : List α} (h : xs <+: ys) : addAll ps xs <+: addAll ps ys := by
  obtain ⟨t, rfl⟩ := h
  rw [addAll_app]; exact addAll_pre _ _
theorem fcNew_take {x : Rw} {s k : Nat} : ((List.range b).map (step x s)).filterMap id = fcNew b step x s := by
  unfold fcNew; rw [List.filterMap_map]; rfl
theorem fdone_one {n m : Nat} (h1 : FDone a b step b0 n) (h2 : FDone a b step b0 m) : n = m := going_one h1.1 (.inl h1.2.1) h2.1 (.inl h2.2.1)
theorem fdone_wid {n : Nat} (h1 : FDone a b step b0 n) (h2 : FWid a b step b0) : False := by
  obtain ⟨m, h3, h4⟩ := h2
  obtain rfl := going_one h1.1 (.inl h1.2.1) h3 (.inr h4)
  have := h1.2
  omega
theorem going_succ {n : Nat} (h : Going (fcOut a b step) b0 n) (h1 : n < (fcC a b step b0 n).length) (h2 : (fcC a b step b0 n).length ≤ 100) : Going (fcOut a b step) b0 (n + 1) := fun m hm => by
  rcases Nat.lt_or_ge m n with z | z
  · exact h m z
  · obtain rfl : m = n := by omega
    exact ⟨h1, h2⟩
theorem fc_ok {ok : Rw → Prop} (h0 : ok b0) (hs : ∀ r s d r', ok r → s < a → d < b → step r s d = some r' → ok r') : ∀ n, ∀ x ∈ fcC a b step b0 n, ok x := come_all h0 fun x hx o ho => by
  simp only [fcOut, fcAll, fcNew, List.mem_map, List.mem_flatMap, List.mem_filterMap, List.mem_range] at ho
  obtain ⟨y, ⟨s, hs1, d, hd1, hy⟩, rfl⟩ := ho
  exact hs x s d y hx hs1 hd1 hy
theorem fcT_len {n : Nat} : (fcT a b step b0 n).length = n := by simp [fcT]
theorem idx_lt {α : Type} [DecidableEq α] {x : α} {xs : List α} (h : x ∈ xs) : idxP xs x < xs.length := List.idxOf_lt_length_of_mem h
theorem fc_mem {n : Nat} {x y : Rw} {s d : Nat} (h : (fcC a b step b0 n)[n]? = some x) (hs : s < a) (hd : d < b) (e : step x s d = some y) : y ∈ fcC a b step b0 (n + 1) := by
  rw [fc_succ h]
  refine addAll_mem _ _ _ ?_
  simp only [fcAll, fcNew, List.mem_flatMap, List.mem_filterMap, List.mem_range]
  exact ⟨s, hs, d, hd, e⟩
theorem fc_say {i j : Int} {n : Nat} (ha : a = i.toNat) (hb : b = j.toNat) (hi : 1 ≤ i ∧ i ≤ 9) (hj : 1 ≤ j ∧ j ≤ 9) (h : FDone a b step b0 n) : (⟨i, j, fcT a b step b0 n⟩ : Say).Ok := by
  have h1 := come_len0 (out := fcOut a b step) (b0 := b0) n
  have h2 : n = (come (fcOut a b step) b0 n).length := h.2.1
  refine ⟨fun room hr => ?_, hi.1, hi.2, hj.1, hj.2, (by show 1 ≤ (fcT a b step b0 n).length; rw [fcT_len]; omega), (by show (fcT a b step b0 n).length ≤ 100; rw [fcT_len]; exact h.2.2)⟩
  obtain ⟨m, hm, rfl⟩ := List.mem_map.mp (show room ∈ (List.range n).map (fcRoom a b step b0) from hr)
  rw [List.mem_range] at hm
  have hg := h.1 m hm
  obtain ⟨x, hx⟩ : ∃ x, (fcC a b step b0 m)[m]? = some x := ⟨_, List.getElem?_eq_getElem hg.1⟩
  have e : fcRoom a b step b0 m = (List.range a).map (fcRow a b step b0 m x) := by unfold fcRoom; rw [hx]
  rw [e]
  refine ⟨by simp [ha]; omega, fun row hrow => ?_⟩
  obtain ⟨s, hs, rfl⟩ := List.mem_map.mp hrow
  rw [List.mem_range] at hs
  refine ⟨by simp [fcRow, hb]; omega, fun k hk => ?_⟩
  simp only [fcRow, List.mem_map, List.mem_range] at hk
  obtain ⟨d, hd, hk⟩ := hk
  cases hst : step x s d with
  | none => rw [hst] at hk; cases hk
  | some y =>
    rw [hst] at hk
    obtain rfl : idxP (fcC a b step b0 (m + 1)) y = k := by simpa using hk
    have h3 := idx_lt (fc_mem hx hs hd hst)
    have h4 := (come_le (out := fcOut a b step) (b0 := b0) (show m + 1 ≤ n by omega)).length_le
    show _ < (fcT a b step b0 n).length
    rw [fcT_len]
    have h3 : idxP (fcC a b step b0 (m + 1)) y < (come (fcOut a b step) b0 (m + 1)).length := h3
    omega
end
def S_step (i j : Int) (step : Rw → Nat → Nat → Option Rw) (ok : Rw → Prop) : PrmC where
  sp := sD fun (v0 : D) => sD fun (v1 : D) => sD fun (v2 : D) => sEnd fun Q => ∃ (r : Rw) (s1 : Nat) (d1 : Nat), v0 = (rowD r) ∧ v1 = (.int (s1 : Int)) ∧ v2 = (.int (d1 : Int)) ∧ (ok r ∧ (s1 : Int) < i ∧ (d1 : Int) < j) ∧ Q (.d (rowO (step r s1 d1))) []
  mono := sD.mono fun _ => sD.mono fun _ => sD.mono fun _ => sEnd.mono fun Q Q' hq ⟨r, s1, d1, e0, e1, e2, pre, q⟩ => ⟨r, s1, d1, e0, e1, e2, pre, hq _ _ q⟩
def X_first (P : Program) (w : World) (K : PySem.W.Frag) (mg : Str → Option Value) (base : Heap) (cc : Str → Addr) : PrmX where
  p := fun ws Q E => (sI fun (i : Int) => sI fun (j : Int) => sD fun (x : D) => sF fun (fa : Addr) (FI : (Addr → Prop) → Hp → Prop) => sEnd fun Q => ∃ (b0 : Rw) (step : Rw → Nat → Nat → Option Rw) (ok : Rw → Prop) (k : Nat), (x = rowD b0 ∧ (1 ≤ i ∧ i ≤ 9) ∧ (1 ≤ j ∧ j ≤ 9) ∧ ok b0 ∧ (∀ r s d r', ok r → s < i.toNat → d < j.toNat → step r s d = some r' → ok r') ∧ k ≤ 12 ∧ Callv P w K mg base k fa FI (S_step i j step ok)) ∧ (∀ n, FDone i.toNat j.toNat step b0 n → Q (.d (.tuple [.tuple ((fcC i.toNat j.toNat step b0 n).map rowD), .tuple ((fcT i.toNat j.toNat step b0 n).map roomD)])) []) ∧ (FWid i.toNat j.toNat step b0 → E ⟨.ref (cc "TooWide"), none⟩)) ws Q
  mono := fun ws Q Q' E E' hq he h0 => by
    obtain ⟨i, ws0, rfl, h1⟩ := sI.inv h0; obtain ⟨j, ws1, rfl, h2⟩ := sI.inv h1; obtain ⟨x, ws2, rfl, h3⟩ := sD.inv h2; obtain ⟨fa, FI, ws3, rfl, h4⟩ := sF.inv h3; obtain ⟨rfl, h⟩ := sEnd.inv h4
    show ∃ (b0 : Rw) (step : Rw → Nat → Nat → Option Rw) (ok : Rw → Prop) (k : Nat), (x = rowD b0 ∧ (1 ≤ i ∧ i ≤ 9) ∧ (1 ≤ j ∧ j ≤ 9) ∧ ok b0 ∧ (∀ r s d r', ok r → s < i.toNat → d < j.toNat → step r s d = some r' → ok r') ∧ k ≤ 12 ∧ Callv P w K mg base k fa FI (S_step i j step ok)) ∧ (∀ n, FDone i.toNat j.toNat step b0 n → Q' (.d (.tuple [.tuple ((fcC i.toNat j.toNat step b0 n).map rowD), .tuple ((fcT i.toNat j.toNat step b0 n).map roomD)])) []) ∧ (FWid i.toNat j.toNat step b0 → E' ⟨.ref (cc "TooWide"), none⟩)
    repeat' (first | exact h | exact hq _ _ h | exact he _ h | exact fun r => hq _ _ (h r) | exact fun r => he _ (h r) | exact fun r e => hq _ _ (h r e) | (refine br.imp h (fun h => ?_) (fun h => ?_)) | (refine And.imp_right (fun h => ?_) h) | (refine Exists.imp (fun w h => ?_) h) | (refine And.imp (fun h => ?_) (fun h => ?_) h))
def saysD (Ss : List Say) : D := .tuple (Ss.map Say.d)
def AllS (i j : Int) (Ss : List Say) : Prop := (1 ≤ Ss.length ∧ Ss.length ≤ 4) ∧ (1 ≤ i ∧ i ≤ 9) ∧ (1 ≤ j ∧ j ≤ 9) ∧ ∀ S ∈ Ss, S.Ok ∧ S.signs = i ∧ S.deeds = j
def OkR (Ss : List Say) (r : Rw) : Prop := r.length = Ss.length ∧ ∀ (i : Nat) (S : Say) (k : Nat), Ss[i]? = some S → r[i]? = some (some k) → k < S.rooms.length
def behindR (Ss : List Say) (r : Rw) (s d : Nat) : Rw := List.zipWith (fun (S : Say) (c : Option Nat) => c.bind fun k => S.go k s d) Ss r
def lostB (b : Bool) (a : Rw) : Bool := if b then a.all Option.isNone else a.any Option.isNone
def stepX (b : Bool) (Ss : List Say) (r : Rw) (s d : Nat) : Option Rw := if lostB b (behindR Ss r s d) = true then none else some (behindR Ss r s d)
def begR (Ss : List Say) : Rw := List.replicate Ss.length (some 0)
def ToldF (i j : Int) (step : Rw → Nat → Nat → Option Rw) (b0 : Rw) (x : D) : Prop := (∃ n, FDone i.toNat j.toNat step b0 n ∧ x = Say.d ⟨i, j, fcT i.toNat j.toNat step b0 n⟩) ∨ (FWid i.toNat j.toNat step b0 ∧ x = .none)
theorem cells_lay : ∀ r : Rw, PyData.canLayAll0 (r.map cellD) = true
  | [] => rfl
  | c :: r => by
    rw [List.map_cons, PyData.canLayAll0, cells_lay r]
    cases c <;> rfl
theorem cells_none (r : Rw) : ((r.map cellD).any fun z => PyData.eqv z .none) = r.any Option.isNone := by
  rw [List.any_map]
  congr 1
  funext c
  cases c <;> simp [cellD, PyData.eqv]
def S_behind : PrmC where
  sp := sD fun (v0 : D) => sD fun (v1 : D) => sD fun (v2 : D) => sD fun (v3 : D) => sEnd fun Q => ∃ (Ss : List Say) (i : Int) (j : Int) (r : Rw) (s1 : Nat) (d1 : Nat), v0 = (saysD Ss) ∧ v1 = (rowD r) ∧ v2 = (.int (s1 : Int)) ∧ v3 = (.int (d1 : Int)) ∧ (AllS i j Ss ∧ OkR Ss r ∧ (s1 : Int) < i ∧ (d1 : Int) < j) ∧ Q (.d (rowD (behindR Ss r s1 d1))) []
  mono := sD.mono fun _ => sD.mono fun _ => sD.mono fun _ => sD.mono fun _ => sEnd.mono fun Q Q' hq ⟨Ss, i, j, r, s1, d1, e0, e1, e2, e3, pre, q⟩ => ⟨Ss, i, j, r, s1, d1, e0, e1, e2, e3, pre, hq _ _ q⟩
def S_ltab : PrmC where
  sp := sD fun (v0 : D) => sD fun (v1 : D) => sEnd fun Q => ∃ (Ss : List Say) (i : Int) (j : Int) (b : Bool), v0 = (saysD Ss) ∧ v1 = (.bool b) ∧ (AllS i j Ss) ∧ ∀ (x : D), ToldF i j (stepX b Ss) (begR Ss) x → Q (.d x) []
  mono := sD.mono fun _ => sD.mono fun _ => sEnd.mono fun Q Q' hq ⟨Ss, i, j, b, e0, e1, pre, q⟩ => ⟨Ss, i, j, b, e0, e1, pre, fun x h => hq _ _ (q x h)⟩
def S_need_says : PrmC where
  sp := sD fun (v0 : D) => sI fun (m : Int) => sEnd fun Q => ∃ (Ss : List Say) (i : Int) (j : Int), v0 = (saysD Ss) ∧ (AllS i j Ss ∧ (Ss.length : Int) ≤ m) ∧ Q (.d .none) []
  mono := sD.mono fun _ => sI.mono fun _ => sEnd.mono fun Q Q' hq ⟨Ss, i, j, e0, pre, q⟩ => ⟨Ss, i, j, e0, pre, hq _ _ q⟩
def S_need_ra : PrmC where
  sp := sD fun (v0 : D) => sEnd fun Q => ∃ (Ss : List Say) (i : Int) (j : Int), v0 = (saysD Ss) ∧ (AllS i j Ss) ∧ Q (.d .none) []
  mono := sD.mono fun _ => sEnd.mono fun Q Q' hq ⟨Ss, i, j, e0, pre, q⟩ => ⟨Ss, i, j, e0, pre, hq _ _ q⟩
def X_join (b : Bool) (cc : Str → Addr) : PrmX where
  p := fun ws Q E => (sD fun (x : D) => sEnd fun Q => ∃ (Ss : List Say) (i j : Int), (x = saysD Ss ∧ AllS i j Ss) ∧ (∀ n, FDone i.toNat j.toNat (stepX b Ss) (begR Ss) n → Q (.d (Say.d ⟨i, j, fcT i.toNat j.toNat (stepX b Ss) (begR Ss) n⟩)) []) ∧ (FWid i.toNat j.toNat (stepX b Ss) (begR Ss) → E ⟨.ref (cc "TooWide"), none⟩)) ws Q
  mono := fun ws Q Q' E E' hq he h0 => by
    obtain ⟨x, ws0, rfl, h1⟩ := sD.inv h0; obtain ⟨rfl, h⟩ := sEnd.inv h1
    show ∃ (Ss : List Say) (i j : Int), (x = saysD Ss ∧ AllS i j Ss) ∧ (∀ n, FDone i.toNat j.toNat (stepX b Ss) (begR Ss) n → Q' (.d (Say.d ⟨i, j, fcT i.toNat j.toNat (stepX b Ss) (begR Ss) n⟩)) []) ∧ (FWid i.toNat j.toNat (stepX b Ss) (begR Ss) → E' ⟨.ref (cc "TooWide"), none⟩)
    repeat' (first | exact h | exact hq _ _ h | exact he _ h | exact fun r => hq _ _ (h r) | exact fun r => he _ (h r) | exact fun r e => hq _ _ (h r e) | (refine br.imp h (fun h => ?_) (fun h => ?_)) | (refine And.imp_right (fun h => ?_) h) | (refine Exists.imp (fun w h => ?_) h) | (refine And.imp (fun h => ?_) (fun h => ?_) h))
def S_lwide : PrmC where
  sp := sO 1 fun (ob : Ob) => sEnd fun Q => ∃ (c : Nat), (IsPot c ob ∧ c ≤ 10 ^ 10) ∧ ∀ (i j m : Nat) (o : Ob), ((1 ≤ i ∧ i ≤ 9) ∧ (1 ≤ j ∧ j ≤ 9) ∧ (1 ≤ m ∧ m ≤ 12) ∧ IsPot (c + 10) o) → Q (.d (.tuple [.int (i : Int), .int (j : Int), .int (m : Int)])) [o]
  mono := sO.mono fun _ => sEnd.mono fun Q Q' hq ⟨c, pre, q⟩ => ⟨c, pre, fun i j m o h => hq _ _ (q i j m o h)⟩
def S_lring : PrmC where
  sp := sR fun (v0 : List D) => sI fun (first : Int) => sO 3 fun (ob : Ob) => sI fun (signs : Int) => sI fun (deeds : Int) => sI fun (most : Int) => sEnd fun Q => ∃ (ns : List Int) (c : Nat), v0 = (ns.map .int) ∧ ((0 ≤ first ∧ first ≤ 10 ^ 9) ∧ IsPot c ob ∧ c ≤ 10 ^ 10 ∧ (1 ≤ signs ∧ signs ≤ 9) ∧ (1 ≤ deeds ∧ deeds ≤ 9) ∧ (1 ≤ most ∧ most ≤ 12)) ∧ ∀ (rs : List (List (List (Option Nat)))) (o : Ob), ((1 ≤ rs.length ∧ (rs.length : Int) ≤ most) ∧ Say.Wf ⟨signs, deeds, rs⟩ ∧ IsPot (c + 200) o) → Q (.d (Say.d ⟨signs, deeds, rs⟩)) [o]
  mono := sR.mono fun _ => sI.mono fun _ => sO.mono fun _ => sI.mono fun _ => sI.mono fun _ => sI.mono fun _ => sEnd.mono fun Q Q' hq ⟨ns, c, e0, pre, q⟩ => ⟨ns, c, e0, pre, fun rs o h => hq _ _ (q rs o h)⟩
def S_lprice : PrmC where
  sp := sO 1 fun (ob : Ob) => sI fun (wn : Int) => sI fun (gv : Int) => sI fun (top : Int) => sEnd fun Q => ∃ (c : Nat), (IsPot c ob ∧ c ≤ 10 ^ 11 ∧ 0 < top ∧ top ≤ 99) ∧ ∀ (x : Option Nat) (o : Ob), (priceOk (decide (gv = wn)) x ∧ IsPot (c + 2) o) → Q (.d (cellD x)) [o]
  mono := sO.mono fun _ => sI.mono fun _ => sI.mono fun _ => sI.mono fun _ => sEnd.mono fun Q Q' hq ⟨c, pre, q⟩ => ⟨c, pre, fun x o h => hq _ _ (q x o h)⟩
def S_lprices : PrmC where
  sp := sO 1 fun (ob : Ob) => sI fun (deeds : Int) => sI fun (top : Int) => sEnd fun Q => ∃ (c : Nat), (IsPot c ob ∧ c ≤ 10 ^ 10 ∧ (0 < deeds ∧ deeds ≤ 9) ∧ 0 < top ∧ top ≤ 99) ∧ ∀ (p : Prc) (o : Ob), (PrcOk deeds p ∧ IsPot (c + 1000) o) → Q (.d (prcD p)) [o]
  mono := sO.mono fun _ => sI.mono fun _ => sI.mono fun _ => sEnd.mono fun Q Q' hq ⟨c, pre, q⟩ => ⟨c, pre, fun p o h => hq _ _ (q p o h)⟩
def answersN (p : Prc) (n w : Nat) : List Nat := (List.range n).filter fun g => (priceOf p w g).isSome
def goodD (L : List Nat) : List (D × D) := L.map fun (k : Nat) => (.int (k : Int), .bool true)
def inL (L : List Nat) : Option Nat → Bool
  | some k => decide (k ∈ L)
  | none => false
def keepN (S : Say) (p : Prc) (L : List Nat) (r s w : Nat) : List Nat := (answersN p S.deeds.toNat w).filter fun g => inL L (S.go r s g)
theorem go_row {S : Say} (h : S.Ok) {r s : Nat} (hr : r < S.rooms.length) (hs : (s : Int) < S.signs) : ∃ room row, atI (S.rooms.map roomD) (r : Int) = some (roomD room) ∧ atI (room.map rowD) (s : Int) = some (rowD row) ∧ ∀ d : Nat, (d : Int) < S.deeds → atI (row.map cellD) (d : Int) = some (cellD (S.go r s d)) := by
  obtain ⟨room, h1, h2⟩ := atI_map (f := roomD) (xs := S.rooms) (i := (r : Int)) (by omega) (by omega)
  have h2' : S.rooms[r]? = some room := by simpa using h2
  obtain ⟨k1, k2⟩ := h.wf room (List.mem_of_getElem? h2')
  obtain ⟨row, h3, h4⟩ := atI_map (f := rowD) (xs := room) (i := (s : Int)) (by omega) (by omega)
  have h4' : room[s]? = some row := by simpa using h4
  obtain ⟨k3, k4⟩ := k2 row (List.mem_of_getElem? h4')
  refine ⟨room, row, h1, h3, fun d hd => ?_⟩
  obtain ⟨c, h5, h6⟩ := atI_map (f := cellD) (xs := row) (i := (d : Int)) (by omega) (by omega)
  have h6' : row[d]? = some c := by simpa using h6
  have e : S.go r s d = c := by simp [Say.go, h2', h4', h6']
  rw [e]; exact h5
def S_answers : PrmC where
  sp := sI fun (n : Int) => sD fun (v1 : D) => sD fun (v2 : D) => sEnd fun Q => ∃ (w : Nat) (p : Prc), v1 = (.int (w : Int)) ∧ v2 = (prcD p) ∧ (PrcOk n p ∧ (w : Int) < n ∧ n ≤ 9) ∧ Q (.d (.list (intsD (answersN p n.toNat w)))) []
  mono := sI.mono fun _ => sD.mono fun _ => sD.mono fun _ => sEnd.mono fun Q Q' hq ⟨w, p, e0, e1, pre, q⟩ => ⟨w, p, e0, e1, pre, hq _ _ q⟩
def S_keepers : PrmC where
  sp := sD fun (v0 : D) => sD fun (v1 : D) => sD fun (g : D) => sD fun (v3 : D) => sD fun (v4 : D) => sD fun (v5 : D) => sEnd fun Q => ∃ (S : Say) (p : Prc) (L : List Nat) (r : Nat) (s1 : Nat) (w : Nat), v0 = S.d ∧ v1 = (prcD p) ∧ v3 = (.int (r : Int)) ∧ v4 = (.int (s1 : Int)) ∧ v5 = (.int (w : Int)) ∧ (S.Ok ∧ PrcOk S.deeds p ∧ (g = .dict (goodD L) ∨ g = .tuple (intsD L)) ∧ L.length ≤ 100 ∧ r < S.rooms.length ∧ (s1 : Int) < S.signs ∧ (w : Int) < S.deeds) ∧ Q (.d (.list (intsD (keepN S p L r s1 w)))) []
  mono := sD.mono fun _ => sD.mono fun _ => sD.mono fun _ => sD.mono fun _ => sD.mono fun _ => sD.mono fun _ => sEnd.mono fun Q Q' hq ⟨S, p, L, r, s1, w, e0, e1, e2, e3, e4, pre, q⟩ => ⟨S, p, L, r, s1, w, e0, e1, e2, e3, e4, pre, hq _ _ q⟩
def loseS (S : Say) (p : Prc) (L : List Nat) (r s : Nat) : Option (Nat × Nat) := (List.range S.deeds.toNat).findSome? fun w => if keepN S p L r s w = [] then some (s, w) else none
def loseN (S : Say) (p : Prc) (L : List Nat) (r : Nat) : Option (Nat × Nat) := (List.range S.signs.toNat).findSome? (loseS S p L r)
def loseD : Option (Nat × Nat) → D
  | none => .none
  | some q => stepD q
def S_losing : PrmC where
  sp := sD fun (v0 : D) => sD fun (v1 : D) => sD fun (g : D) => sD fun (v3 : D) => sEnd fun Q => ∃ (S : Say) (p : Prc) (L : List Nat) (r : Nat), v0 = S.d ∧ v1 = (prcD p) ∧ v3 = (.int (r : Int)) ∧ (S.Ok ∧ PrcOk S.deeds p ∧ (g = .dict (goodD L) ∨ g = .tuple (intsD L)) ∧ L.length ≤ 100 ∧ r < S.rooms.length) ∧ Q (.d (loseD (loseN S p L r))) []
  mono := sD.mono fun _ => sD.mono fun _ => sD.mono fun _ => sD.mono fun _ => sEnd.mono fun Q Q' hq ⟨S, p, L, r, e0, e1, e2, pre, q⟩ => ⟨S, p, L, r, e0, e1, e2, pre, hq _ _ q⟩
def whysN (S : Say) (p : Prc) (L : List Nat) : List (Nat × (Nat × Nat)) := L.filterMap fun r => (loseN S p L r).map fun q => (r, q)
def standN (S : Say) (p : Prc) : Nat → List Nat
  | 0 => List.range S.rooms.length
  | k + 1 => (standN S p k).filter fun r => (loseN S p (standN S p k) r).isNone
def lostL (S : Say) (p : Prc) (k : Nat) : List (Nat × (Nat × (Nat × Nat))) := (List.range k).flatMap fun m => (whysN S p (standN S p m)).map fun q => (q.1, (m + 1, q.2))
def lostE (q : Nat × (Nat × (Nat × Nat))) : D × D := (.int (q.1 : Int), .tuple [.int (q.2.1 : Int), .int (q.2.2.1 : Int), .int (q.2.2.2 : Int)])
def Still (S : Say) (p : Prc) (n : Nat) : Prop := whysN S p (standN S p n) = [] ∧ ∀ m, m < n → whysN S p (standN S p m) ≠ []
def natKV {α : Type} (f : α → D) (xs : List (Nat × α)) : List (D × D) := xs.map fun p => (.int (p.1 : Int), f p.2)
section
variable {S : Say} {p : Prc}
def whysT (S : Say) (p : Prc) (k i : Nat) : List (Nat × (Nat × Nat)) := ((standN S p k).take i).filterMap fun r => (loseN S p (standN S p k) r).map fun q => (r, q)
def goodT (S : Say) (p : Prc) (k i : Nat) : List Nat := (standN S p k).filter fun r => decide (r ∉ (whysT S p k i).map (·.1))
def foundT (S : Say) (p : Prc) (k i : Nat) : List (Nat × (Nat × (Nat × Nat))) := lostL S p k ++ (whysT S p k i).map fun q => (q.1, (k + 1, q.2))
def lostV (q : Nat × (Nat × Nat)) : D := .tuple [.int (q.1 : Int), .int (q.2.1 : Int), .int (q.2.2 : Int)]
end
def S_lost_in : PrmC where
  sp := sD fun (v0 : D) => sD fun (v1 : D) => sEnd fun Q => ∃ (S : Say) (p : Prc), v0 = S.d ∧ v1 = (prcD p) ∧ (S.Ok ∧ PrcOk S.deeds p) ∧ ∀ (n : Nat), Still S p n → Q (.own (.dct ((lostL S p n).map lostE))) []
  mono := sD.mono fun _ => sD.mono fun _ => sEnd.mono fun Q Q' hq ⟨S, p, e0, e1, pre, q⟩ => ⟨S, p, e0, e1, pre, fun n h => hq _ _ (q n h)⟩
abbrev Way := (Nat × Nat) × (Option ((Nat × Nat) × (Nat × Nat)) × List (Nat × Nat))
def wayD : Option ((Nat × Nat) × (Nat × Nat)) → D
  | none => .none
  | some (p, st) => .tuple [stepD p, stepD st]
def wayKV (p : Way) : D × D := (stepD p.1, wayD p.2.1)
def keysW (W : List Way) : List (Nat × Nat) := W.map (·.1)
def stepAt (A : Say) (j : Nat) : Nat × Nat := (j / A.deeds.toNat, j % A.deeds.toNat)
def numSt (A : Say) : Nat := A.signs.toNat * A.deeds.toNat
def bothGo (A B : Say) (p st : Nat × Nat) : Option (Option (Nat × Nat)) := (A.go p.1 st.1 st.2).map fun a => (B.go p.2 st.1 st.2).map fun b => (a, b)
def wIn (A B : Say) (W : List Way) (p : Way) (st : Nat × Nat) : List Way := match bothGo A B p.1 st with
  | some (some q) => if q ∈ keysW W then W else W ++ [(q, some (p.1, st), p.2.2 ++ [st])]
  | _ => W
def wRow (A B : Say) (W : List Way) (p : Way) : Nat → List Way
  | 0 => W
  | j + 1 => wIn A B (wRow A B W p j) p (stepAt A j)
def wN (A B : Say) : Nat → List Way
  | 0 => [((0, 0), none, [])]
  | n + 1 => match (wN A B n)[n]? with | some p => wRow A B (wN A B n) p (numSt A) | none => wN A B n
def NoB (A B : Say) (p : Way) (j : Nat) : Prop := ∀ i, i < j → bothGo A B p.1 (stepAt A i) ≠ some none
def WGo (A B : Say) (n : Nat) : Prop := ∀ m, m < n → ∃ p, (wN A B m)[m]? = some p ∧ NoB A B p (numSt A)
def WDone (A B : Say) (n : Nat) : Prop := WGo A B n ∧ n = (wN A B n).length
def WBey (A B : Say) (n j : Nat) (p : Way) : Prop := WGo A B n ∧ (wN A B n)[n]? = some p ∧ j < numSt A ∧ NoB A B p j ∧ bothGo A B p.1 (stepAt A j) = some none
def leP (a b : Nat × Nat) : Bool := decide (a.1 < b.1 ∨ (a.1 = b.1 ∧ a.2 ≤ b.2))
def srtP (ps : List (Nat × Nat)) : List (Nat × Nat) := ps.mergeSort leP
def ToldW (A B : Say) (x : D) : Prop := (∃ n, WDone A B n ∧ x = .tuple [.str "within", runD (srtP (keysW (wN A B n)))]) ∨ (∃ n j p, WBey A B n j p ∧ x = .tuple [.str "beyond", runD (p.2.2 ++ [stepAt A j])])
structure WOk (A B : Say) (W : List Way) : Prop where
  nd : (keysW W).Nodup
  zero : W[0]? = some ((0, 0), none, [])
  ent : ∀ (i : Nat) (p : Way), W[i]? = some p → (p.1.1 < A.rooms.length ∧ p.1.2 < B.rooms.length) ∧ RunOk A.signs A.deeds p.2.2 ∧ endR A 0 p.2.2 = some p.1.1 ∧ endR B 0 p.2.2 = some p.1.2 ∧ p.2.2.length ≤ i
  way : ∀ (i : Nat) (p : Way), W[i]? = some p → match p.2.1 with | none => p.2.2 = [] | some (q, st) => ∃ (i' : Nat) (q' : Way), i' < i ∧ W[i']? = some q' ∧ q'.1 = q ∧ p.2.2 = q'.2.2 ++ [st]
theorem pair_bound {a b : Nat} {ps : List (Nat × Nat)} (h : ps.Nodup) (hb : ∀ p ∈ ps, p.1 < a ∧ p.2 < b) : ps.length ≤ a * b := by
  have h1 : (ps.map fun p => p.1 * b + p.2).Nodup := by
    induction ps with
    | nil => simp
    | cons p ps ih =>
      rw [List.nodup_cons] at h
      rw [List.map_cons, List.nodup_cons]
      refine ⟨fun z => ?_, ih h.2 fun q hq => hb q (List.mem_cons_of_mem _ hq)⟩
      obtain ⟨q, hq, e⟩ := List.mem_map.mp z
      have h1 := hb p List.mem_cons_self
      have h2 := hb q (List.mem_cons_of_mem _ hq)
      have e1 : q.1 = p.1 := by
        have a1 : (q.1 * b + q.2) / b = q.1 := by rw [Nat.mul_comm, Nat.mul_add_div (by omega), Nat.div_eq_of_lt h2.2]; omega
        have a2 : (p.1 * b + p.2) / b = p.1 := by rw [Nat.mul_comm, Nat.mul_add_div (by omega), Nat.div_eq_of_lt h1.2]; omega
        rw [← a1, ← a2, e]
      have e2 : q.2 = p.2 := by rw [e1] at e; omega
      exact h.1 (by rw [← show q = p from Prod.ext e1 e2]; exact hq)
  have := nodup_bound (a * b) _ h1 fun x hx => by
    obtain ⟨p, hp, rfl⟩ := List.mem_map.mp hx
    obtain ⟨k1, k2⟩ := hb p hp
    calc p.1 * b + p.2 < p.1 * b + b := by omega
      _ = (p.1 + 1) * b := by rw [Nat.add_mul]; omega
      _ ≤ a * b := Nat.mul_le_mul_right _ k1
  simpa using this
theorem WOk.len {A B : Say} (hA : A.Ok) (hB : B.Ok) {W : List Way} (h : WOk A B W) : W.length ≤ 10000 := by
  have := pair_bound h.nd (a := A.rooms.length) (b := B.rooms.length) fun p hp => by
    obtain ⟨x, hx, rfl⟩ := List.mem_map.mp hp
    obtain ⟨i, hi⟩ := List.mem_iff_getElem?.mp hx
    exact (h.ent i x hi).1
  have h2 : A.rooms.length * B.rooms.length ≤ 100 * 100 := Nat.mul_le_mul hA.r100 hB.r100
  unfold keysW at this
  rw [List.length_map] at this
  omega
def S_way_to : PrmC where
  sp := sO 1 fun (v0 : Ob) => sD fun (v1 : D) => sEnd fun Q => ∃ (A : Say) (B : Say) (W : List Way) (i : Nat) (p : Way), v0 = (.dcT (W.map wayKV)) ∧ v1 = (stepD p.1) ∧ (WOk A B W ∧ W[i]? = some p ∧ W.length ≤ 10000) ∧ Q (.d (runD p.2.2)) [.dcT (W.map wayKV)]
  mono := sO.mono fun _ => sD.mono fun _ => sEnd.mono fun Q Q' hq ⟨A, B, W, i, p, e0, e1, pre, q⟩ => ⟨A, B, W, i, p, e0, e1, pre, hq _ _ q⟩
def S_need_two : PrmC where
  sp := sD fun (v0 : D) => sD fun (v1 : D) => sEnd fun Q => ∃ (A : Say) (B : Say), v0 = A.d ∧ v1 = B.d ∧ (A.Ok ∧ B.Ok ∧ B.signs = A.signs ∧ B.deeds = A.deeds) ∧ Q (.d .none) []
  mono := sD.mono fun _ => sD.mono fun _ => sEnd.mono fun Q Q' hq ⟨A, B, e0, e1, pre, q⟩ => ⟨A, B, e0, e1, pre, hq _ _ q⟩
def S_within : PrmC where
  sp := sD fun (v0 : D) => sD fun (v1 : D) => sEnd fun Q => ∃ (A : Say) (B : Say), v0 = A.d ∧ v1 = B.d ∧ (A.Ok ∧ B.Ok ∧ B.signs = A.signs ∧ B.deeds = A.deeds) ∧ ∀ (x : D), ToldW A B x → Q (.d x) []
  mono := sD.mono fun _ => sD.mono fun _ => sEnd.mono fun Q Q' hq ⟨A, B, e0, e1, pre, q⟩ => ⟨A, B, e0, e1, pre, fun x h => hq _ _ (q x h)⟩
def ambD (L : List (Nat × Nat)) : List (D × D) := L.map fun p => (stepD p, .bool true)
def okW (A B : Say) (ps : List (Nat × Nat)) (p st : Nat × Nat) : Prop := bothGo A B p st = none ∨ ∃ q, bothGo A B p st = some (some q) ∧ q ∈ ps
def InP (A B : Say) (ps : List (Nat × Nat)) : Prop := ∀ p ∈ ps, p.1 < A.rooms.length ∧ p.2 < B.rooms.length
def PairsGood (A B : Say) (x : D) : Prop := ∃ ps : List (Nat × Nat), x = runD ps ∧ InP A B ps ∧ (0, 0) ∈ ps ∧ ps = srtP (addAll [] ps) ∧ ∀ p ∈ ps, ∀ s d : Nat, (s : Int) < A.signs → (d : Int) < A.deeds → okW A B ps p (s, d)
def RunGood (A B : Say) (x : D) : Prop := ∃ (R : List (Nat × Nat)) (st : Nat × Nat), x = runD (R ++ [st]) ∧ RunOk A.signs A.deeds (R ++ [st]) ∧ endR A 0 (R ++ [st]) ≠ none ∧ endR B 0 R ≠ none ∧ endR B 0 (R ++ [st]) = none
def S_run_good : PrmC where
  sp := sD fun (v0 : D) => sD fun (v1 : D) => sD fun (x : D) => sEnd fun Q => ∃ (A : Say) (B : Say), v0 = A.d ∧ v1 = B.d ∧ (A.Ok ∧ B.Ok ∧ B.signs = A.signs ∧ B.deeds = A.deeds) ∧ ∀ (b : Bool), (b = true ↔ RunGood A B x) → Q (.d (.bool b)) []
  mono := sD.mono fun _ => sD.mono fun _ => sD.mono fun _ => sEnd.mono fun Q Q' hq ⟨A, B, e0, e1, pre, q⟩ => ⟨A, B, e0, e1, pre, fun b h => hq _ _ (q b h)⟩
def Shown (A B : Say) (x : D) : Prop := (∃ y, x = .tuple [.str "within", y] ∧ PairsGood A B y) ∨ (∃ y, x = .tuple [.str "beyond", y] ∧ RunGood A B y)
def S_lshown : PrmC where
  sp := sD fun (v0 : D) => sD fun (v1 : D) => sD fun (x : D) => sEnd fun Q => ∃ (A : Say) (B : Say), v0 = A.d ∧ v1 = B.d ∧ (A.Ok ∧ B.Ok ∧ B.signs = A.signs ∧ B.deeds = A.deeds) ∧ ∀ (b : Bool), (b = true ↔ Shown A B x) → Q (.d (.bool b)) []
  mono := sD.mono fun _ => sD.mono fun _ => sD.mono fun _ => sEnd.mono fun Q Q' hq ⟨A, B, e0, e1, pre, q⟩ => ⟨A, B, e0, e1, pre, fun b h => hq _ _ (q b h)⟩
def S_lnear : PrmC where
  sp := sR fun (v0 : List D) => sI fun (first : Int) => sO 3 fun (ob : Ob) => sD fun (v3 : D) => sEnd fun Q => ∃ (ns : List Int) (c : Nat) (A : Say), v0 = (ns.map .int) ∧ v3 = A.d ∧ ((0 ≤ first ∧ first ≤ 10 ^ 9) ∧ IsPot c ob ∧ c ≤ 10 ^ 10 ∧ A.Ok ∧ A.rooms.length ≤ 12) ∧ ∀ (rs : List (List (List (Option Nat)))) (o : Ob), (rs.length = 2 * A.rooms.length ∧ Say.Wf ⟨A.signs, A.deeds, rs⟩ ∧ IsPot (c + 100) o) → Q (.d (Say.d ⟨A.signs, A.deeds, rs⟩)) [o]
  mono := sR.mono fun _ => sI.mono fun _ => sO.mono fun _ => sD.mono fun _ => sEnd.mono fun Q Q' hq ⟨ns, c, A, e0, e1, pre, q⟩ => ⟨ns, c, A, e0, e1, pre, fun rs o h => hq _ _ (q rs o h)⟩
def S_ltwo : PrmC where
  sp := sR fun (v0 : List D) => sO 2 fun (ob : Ob) => sEnd fun Q => ∃ (ns : List Int) (c : Nat), v0 = (ns.map .int) ∧ (IsPot c ob ∧ c ≤ 10 ^ 9) ∧ ∀ (A B : Say) (o : Ob), (A.Ok ∧ B.Ok ∧ B.signs = A.signs ∧ B.deeds = A.deeds) → Q (.d (.tuple [A.d, B.d])) [o]
  mono := sR.mono fun _ => sO.mono fun _ => sEnd.mono fun Q Q' hq ⟨ns, c, e0, pre, q⟩ => ⟨ns, c, e0, pre, fun A B o h => hq _ _ (q A B o h)⟩
def S_lrings : PrmC where
  sp := sO 1 fun (ob : Ob) => sEnd fun Q => ∃ (c : Nat), (IsPot c ob ∧ c ≤ 10 ^ 9) ∧ ∀ (A B : Say) (o : Ob), ((A.Ok ∧ B.Ok ∧ B.signs = A.signs ∧ B.deeds = A.deeds) ∧ (A.signs = 1 ∧ A.deeds = 2) ∧ A.rooms.length ≤ 21 ∧ B.rooms.length ≤ 21) → Q (.d (.tuple [A.d, B.d])) [o]
  mono := sO.mono fun _ => sEnd.mono fun Q Q' hq ⟨c, pre, q⟩ => ⟨c, pre, fun A B o h => hq _ _ (q A B o h)⟩
def optR : Option (List Rw) → D
  | none => .none
  | some r => roomD r
def RmOk (s d : Int) (n : Nat) (room : List Rw) : Prop := (room.length : Int) = s ∧ ∀ row ∈ room, (row.length : Int) = d ∧ ∀ (k : Nat), some k ∈ row → k < n
def S_pairs_good : PrmC where
  sp := sD fun (v0 : D) => sD fun (v1 : D) => sD fun (x : D) => sEnd fun Q => ∃ (A : Say) (B : Say), v0 = A.d ∧ v1 = B.d ∧ (A.Ok ∧ B.Ok ∧ B.signs = A.signs ∧ B.deeds = A.deeds) ∧ ∀ (b : Bool), (b = true ↔ PairsGood A B x) → Q (.d (.bool b)) []
  mono := sD.mono fun _ => sD.mono fun _ => sD.mono fun _ => sEnd.mono fun Q Q' hq ⟨A, B, e0, e1, pre, q⟩ => ⟨A, B, e0, e1, pre, fun b h => hq _ _ (q b h)⟩
theorem eqvAll_inj {α : Type} {f : α → D} (h : ∀ a b, PyData.eqv (f a) (f b) = true → a = b) : ∀ xs ys : List α, PyData.eqvAll (xs.map f) (ys.map f) = true → xs = ys
  | [], [], _ => rfl
  | [], _ :: _, e => by cases e
  | _ :: _, [], e => by cases e
  | x :: xs, y :: ys, e => by
    simp only [List.map_cons, PyData.eqvAll, Bool.and_eq_true] at e
    rw [h x y e.1, eqvAll_inj h xs ys e.2]
theorem eqv_cell (a b : Option Nat) (h : PyData.eqv (cellD a) (cellD b) = true) : a = b := by
  cases a <;> cases b <;> simp [cellD, PyData.eqv] at h ⊢
  exact Int.ofNat_inj.mp h
theorem eqv_row (a b : List (Option Nat)) (h : PyData.eqv (rowD a) (rowD b) = true) : a = b := eqvAll_inj eqv_cell a b (by simpa [rowD, PyData.eqv] using h)
def calmR (room : List (List (Option Nat))) : List (List (Option Nat)) := [[((room[0]?.getD [])[0]?.getD none), ((room[0]?.getD [])[0]?.getD none)]]
def calmS (T : Say) : Say := ⟨1, 2, T.rooms.map calmR⟩
def rowOf (Ss : List Say) (R : List (Nat × Nat)) : Rw := Ss.map fun S => endR S 0 R
def runRow (b : Bool) (Ss : List Say) (R : List (Nat × Nat)) : Option Rw := if lostB b (rowOf Ss R) = true then none else some (rowOf Ss R)
theorem RunOk.pre {s d : Int} {R : List (Nat × Nat)} {p : Nat × Nat} (h : RunOk s d (R ++ [p])) : RunOk s d R ∧ (p.1 : Int) < s ∧ (p.2 : Int) < d := ⟨fun q hq => h q (List.mem_append.mpr (.inl hq)), h p (List.mem_append.mpr (.inr (List.mem_singleton.mpr rfl)))⟩
section
variable {a b : Nat} {step : Rw → Nat → Nat → Option Rw} {b0 : Rw}
end
def law (S : Say) (R : List (Nat × Nat)) : Bool := (endR S 0 R).isSome
abbrev Tri := Option Nat × Option Nat × Option Nat
def tri (A B C : Say) (R : List (Nat × Nat)) : Tri := (endR A 0 R, endR B 0 R, endR C 0 R)
def GoesBy (i j : Int) (A B C : Say) (D : Say) : Prop := ∃ g : Tri → Option Nat, ∀ R, RunOk i j R → endR D 0 R = g (tri A B C R)
def opts (k : Nat) : List (Option Nat) := none :: (List.range k).map some
def tris (k : Nat) : List Tri := (opts k).flatMap fun x => (opts k).flatMap fun y => (opts k).map fun z => (x, y, z)
def Incl (A B : Say) : Prop := ∀ R, RunOk A.signs A.deeds R → law A R = true → law B R = true
def wk (S : Say) (R : List (Nat × Nat)) : Nat := (Say.brk S 0 R).getD R.length
theorem RunOk.take {s d : Int} {R : List (Nat × Nat)} (h : RunOk s d R) (k : Nat) : RunOk s d (R.take k) := fun p hp => h p (List.mem_of_mem_take hp)
structure Made (i j : Int) (A B C : Say) (f : Bool → Bool → Bool → Bool) (E : Say) : Prop where
  ok : E.Ok
  s : E.signs = i
  d : E.deeds = j
  by_ : GoesBy i j A B C E
  law : ∀ R, RunOk i j R → law E R = f (law A R) (law B R) (law C R)
def S_inside : PrmC where
  sp := sD fun (v0 : D) => sD fun (v1 : D) => sEnd fun Q => ∃ (A : Say) (B : Say), v0 = A.d ∧ v1 = B.d ∧ (A.Ok ∧ B.Ok ∧ B.signs = A.signs ∧ B.deeds = A.deeds) ∧ ∀ (b : Bool), (b = true ↔ Incl A B) → Q (.d (.bool b)) []
  mono := sD.mono fun _ => sD.mono fun _ => sEnd.mono fun Q Q' hq ⟨A, B, e0, e1, pre, q⟩ => ⟨A, B, e0, e1, pre, fun b h => hq _ _ (q b h)⟩
def S_alike11 : PrmC where
  sp := sD fun (v0 : D) => sD fun (v1 : D) => sEnd fun Q => ∃ (A : Say) (B : Say), v0 = A.d ∧ v1 = B.d ∧ (A.Ok ∧ B.Ok ∧ B.signs = A.signs ∧ B.deeds = A.deeds) ∧ ∀ (b : Bool), (b = true ↔ (Incl A B ∧ Incl B A)) → Q (.d (.bool b)) []
  mono := sD.mono fun _ => sD.mono fun _ => sEnd.mono fun Q Q' hq ⟨A, B, e0, e1, pre, q⟩ => ⟨A, B, e0, e1, pre, fun b h => hq _ _ (q b h)⟩
def S_counted11 : PrmC where
  sp := sD fun (v0 : D) => sD fun (v1 : D) => sD fun (v2 : D) => sD fun (v3 : D) => sI fun (m : Int) => sEnd fun Q => ∃ (A : Say) (B : Say) (C : Say) (E : Say), v0 = A.d ∧ v1 = B.d ∧ v2 = C.d ∧ v3 = E.d ∧ ((A.Ok ∧ B.Ok ∧ C.Ok ∧ E.Ok) ∧ 0 ≤ m ∧ m ≤ 60) ∧ Q (.d (.bool (decide (((cnt A m.toNat 0 : Nat) : Int) + ((cnt B m.toNat 0 : Nat) : Int) = ((cnt C m.toNat 0 : Nat) : Int) + ((cnt E m.toNat 0 : Nat) : Int))))) []
  mono := sD.mono fun _ => sD.mono fun _ => sD.mono fun _ => sD.mono fun _ => sI.mono fun _ => sEnd.mono fun Q Q' hq ⟨A, B, C, E, e0, e1, e2, e3, pre, q⟩ => ⟨A, B, C, E, e0, e1, e2, e3, pre, hq _ _ q⟩
def S_wk : PrmC where
  sp := sD fun (v0 : D) => sD fun (v1 : D) => sEnd fun Q => ∃ (S : Say) (R : List (Nat × Nat)), v0 = S.d ∧ v1 = (.list (R.map stepD)) ∧ (S.Ok ∧ RunOk S.signs S.deeds R ∧ R.length ≤ 500) ∧ Q (.d (.int ((wk S R : Nat) : Int))) []
  mono := sD.mono fun _ => sD.mono fun _ => sEnd.mono fun Q Q' hq ⟨S, R, e0, e1, pre, q⟩ => ⟨S, R, e0, e1, pre, hq _ _ q⟩
def S_run_by11 : PrmC where
  sp := sR fun (v0 : List D) => sI fun (signs : Int) => sI fun (deeds : Int) => sEnd fun Q => ∃ (ns : List Int), v0 = (ns.map .int) ∧ (ns.length ≤ 63 ∧ (1 ≤ signs ∧ signs ≤ 9) ∧ (1 ≤ deeds ∧ deeds ≤ 9)) ∧ ∀ (R : List (Nat × Nat)), (RunOk signs deeds R ∧ R.length ≤ 500) → Q (.own (.lst (R.map stepD))) []
  mono := sR.mono fun _ => sI.mono fun _ => sI.mono fun _ => sEnd.mono fun Q Q' hq ⟨ns, e0, pre, q⟩ => ⟨ns, e0, pre, fun R h => hq _ _ (q R h)⟩
def GoodR (S : Say) (xs : List D) : Prop := ∃ rows : List Rw, xs = rows.map rowD ∧ (rows.length : Int) = S.signs ∧ ∀ row ∈ rows, (row.length : Int) = S.deeds ∧ ∀ n : Nat, some n ∈ row → n < S.rooms.length
def S_lsunk : PrmC where
  sp := sO 1 fun (ob : Ob) => sD fun (v1 : D) => sEnd fun Q => ∃ (c : Nat) (S : Say), v1 = S.d ∧ (IsPot c ob ∧ c ≤ 10 ^ 10 ∧ S.Ok) ∧ ∀ (rs : List (List Rw)) (o : Ob), (rs.length = S.rooms.length ∧ Say.Wf ⟨S.signs, S.deeds, rs⟩ ∧ IsPot (c + 5000) o) → Q (.d (Say.d ⟨S.signs, S.deeds, rs⟩)) [o]
  mono := sO.mono fun _ => sD.mono fun _ => sEnd.mono fun Q Q' hq ⟨c, S, e0, pre, q⟩ => ⟨c, S, e0, pre, fun rs o h => hq _ _ (q rs o h)⟩
def S_need_both : PrmC where
  sp := sD fun (v0 : D) => sD fun (v1 : D) => sEnd fun Q => ∃ (S : Say) (p : Prc), v0 = S.d ∧ v1 = (prcD p) ∧ (S.Ok ∧ PrcOk S.deeds p) ∧ Q (.d .none) []
  mono := sD.mono fun _ => sD.mono fun _ => sEnd.mono fun Q Q' hq ⟨S, p, e0, e1, pre, q⟩ => ⟨S, p, e0, e1, pre, hq _ _ q⟩
def S_kept_in : PrmC where
  sp := sD fun (v0 : D) => sD fun (v1 : D) => sEnd fun Q => ∃ (S : Say) (p : Prc), v0 = S.d ∧ v1 = (prcD p) ∧ (S.Ok ∧ PrcOk S.deeds p) ∧ ∀ (n : Nat), Still S p n → Q (.d (.tuple (intsD (standN S p n)))) []
  mono := sD.mono fun _ => sD.mono fun _ => sEnd.mono fun Q Q' hq ⟨S, p, e0, e1, pre, q⟩ => ⟨S, p, e0, e1, pre, fun n h => hq _ _ (q n h)⟩
def rankN (S : Say) (p : Prc) (n r : Nat) : Option Nat := ((lostL S p n).find? fun q => decide (q.1 = r)).map fun q => q.2.1
def ranksN (S : Say) (p : Prc) (n : Nat) : List (Option Nat) := (List.range S.rooms.length).map (rankN S p n)
def S_ranks_of : PrmC where
  sp := sD fun (v0 : D) => sD fun (v1 : D) => sEnd fun Q => ∃ (S : Say) (p : Prc), v0 = S.d ∧ v1 = (prcD p) ∧ (S.Ok ∧ PrcOk S.deeds p) ∧ ∀ (n : Nat), Still S p n → Q (.d (.tuple ((ranksN S p n).map cellD))) []
  mono := sD.mono fun _ => sD.mono fun _ => sEnd.mono fun Q Q' hq ⟨S, p, e0, e1, pre, q⟩ => ⟨S, p, e0, e1, pre, fun n h => hq _ _ (q n h)⟩
def S_lanswers : PrmC where
  sp := sD fun (v0 : D) => sI fun (n : Int) => sD fun (v2 : D) => sEnd fun Q => ∃ (w : Nat) (p : Prc), v0 = (prcD p) ∧ v2 = (.int (w : Int)) ∧ (PrcOk n p ∧ (w : Int) < n ∧ n ≤ 9) ∧ Q (.d (.list (intsD (answersN p n.toNat w)))) []
  mono := sD.mono fun _ => sI.mono fun _ => sD.mono fun _ => sEnd.mono fun Q Q' hq ⟨w, p, e0, e1, pre, q⟩ => ⟨w, p, e0, e1, pre, hq _ _ q⟩
def S_lheld : PrmC where
  sp := sD fun (v0 : D) => sD fun (v1 : D) => sD fun (gd : D) => sD fun (v3 : D) => sEnd fun Q => ∃ (S : Say) (p : Prc) (L : List Nat) (r : Nat), v0 = S.d ∧ v1 = (prcD p) ∧ v3 = (.int (r : Int)) ∧ (S.Ok ∧ PrcOk S.deeds p ∧ (gd = .dict (goodD L) ∨ gd = .list (intsD L)) ∧ L.length ≤ 100 ∧ r < S.rooms.length) ∧ Q (.d (.bool (decide (loseN S p L r = none)))) []
  mono := sD.mono fun _ => sD.mono fun _ => sD.mono fun _ => sD.mono fun _ => sEnd.mono fun Q Q' hq ⟨S, p, L, r, e0, e1, e2, pre, q⟩ => ⟨S, p, L, r, e0, e1, e2, pre, hq _ _ q⟩
def S_lranks : PrmC where
  sp := sD fun (v0 : D) => sD fun (v1 : D) => sEnd fun Q => ∃ (S : Say) (p : Prc), v0 = S.d ∧ v1 = (prcD p) ∧ (S.Ok ∧ PrcOk S.deeds p) ∧ ∀ (n : Nat), Still S p n → Q (.own (.lst ((ranksN S p n).map cellD))) []
  mono := sD.mono fun _ => sD.mono fun _ => sEnd.mono fun Q Q' hq ⟨S, p, e0, e1, pre, q⟩ => ⟨S, p, e0, e1, pre, fun n h => hq _ _ (q n h)⟩
def S_ltold13 : PrmC where
  sp := sD fun (v0 : D) => sD fun (v1 : D) => sEnd fun Q => ∃ (S : Say) (p : Prc), v0 = S.d ∧ v1 = (prcD p) ∧ (S.Ok ∧ PrcOk S.deeds p) ∧ Q (.d (.bool true)) []
  mono := sD.mono fun _ => sD.mono fun _ => sEnd.mono fun Q Q' hq ⟨S, p, e0, e1, pre, q⟩ => ⟨S, p, e0, e1, pre, hq _ _ q⟩
def S_lworld : PrmC where
  sp := sO 1 fun (ob : Ob) => sI fun (k : Int) => sEnd fun Q => ∃ (c : Nat), (IsPot c ob ∧ c ≤ 10 ^ 8 ∧ 0 ≤ k ∧ k ≤ 1000) ∧ ∀ (S : Say) (o : Ob), (S.Ok ∧ IsPot (c + 30000000) o) → Q (.d S.d) [o]
  mono := sO.mono fun _ => sI.mono fun _ => sEnd.mono fun Q Q' hq ⟨c, pre, q⟩ => ⟨c, pre, fun S o h => hq _ _ (q S o h)⟩
section
variable {S : Say} {p : Prc}
def lostK (S : Say) (p : Prc) (k : Nat) : List Nat := (lostL S p k).map (·.1)
def fallN (S : Say) (p : Prc) (k : Nat) : List Nat := (standN S p k).filter fun r => (loseN S p (standN S p k) r).isSome
def rankT (S : Say) (p : Prc) (k i r : Nat) : Option Nat := if r ∈ (fallN S p k).take i then some (k + 1) else rankN S p k r
def standT (S : Say) (p : Prc) (k i : Nat) : List Nat := (standN S p k).filter fun r => decide (r ∉ (fallN S p k).take i)
end
def trimC (L : List Nat) (c : Option Nat) : Option Nat := if inL L c = true then c else none
def trimS (S : Say) (L : List Nat) : Say := ⟨S.signs, S.deeds, S.rooms.map fun room => room.map fun row => row.map (trimC L)⟩
def tripD (t : Nat × Nat × Nat) : D := .tuple [.int (t.1 : Int), .int (t.2.1 : Int), .int (t.2.2 : Int)]
def TripOk (S : Say) (t : Nat × Nat × Nat) : Prop := t.1 < S.rooms.length ∧ (t.2.1 : Int) < S.signs ∧ (t.2.2 : Int) < S.deeds
def S_trimmed : PrmC where
  sp := sD fun (v0 : D) => sD fun (v1 : D) => sEnd fun Q => ∃ (S : Say) (p : Prc), v0 = S.d ∧ v1 = (prcD p) ∧ (S.Ok ∧ PrcOk S.deeds p) ∧ ∀ (n : Nat), Still S p n → Q (.d (trimS S (standN S p n)).d) []
  mono := sD.mono fun _ => sD.mono fun _ => sEnd.mono fun Q Q' hq ⟨S, p, e0, e1, pre, q⟩ => ⟨S, p, e0, e1, pre, fun n h => hq _ _ (q n h)⟩
def S_ltrimmed : PrmC where
  sp := sD fun (v0 : D) => sD fun (v1 : D) => sEnd fun Q => ∃ (S : Say) (L : List Nat), v0 = S.d ∧ v1 = (.dict (goodD L)) ∧ (S.Ok ∧ L.length ≤ 100) ∧ Q (.d (trimS S L).d) []
  mono := sD.mono fun _ => sD.mono fun _ => sEnd.mono fun Q Q' hq ⟨S, L, e0, e1, pre, q⟩ => ⟨S, L, e0, e1, pre, hq _ _ q⟩
def S_keeping : PrmC where
  sp := sD fun (v0 : D) => sD fun (v1 : D) => sD fun (v2 : D) => sD fun (v3 : D) => sD fun (v4 : D) => sEnd fun Q => ∃ (S : Say) (p : Prc) (r : Nat) (s1 : Nat) (w : Nat), v0 = S.d ∧ v1 = (.int (r : Int)) ∧ v2 = (.int (s1 : Int)) ∧ v3 = (.int (w : Int)) ∧ v4 = (prcD p) ∧ (S.Ok ∧ PrcOk S.deeds p ∧ r < S.rooms.length ∧ (s1 : Int) < S.signs ∧ (w : Int) < S.deeds) ∧ ∀ (n : Nat), Still S p n → Q (.d (.tuple (intsD (keepN S p (standN S p n) r s1 w)))) []
  mono := sD.mono fun _ => sD.mono fun _ => sD.mono fun _ => sD.mono fun _ => sD.mono fun _ => sEnd.mono fun Q Q' hq ⟨S, p, r, s1, w, e0, e1, e2, e3, e4, pre, q⟩ => ⟨S, p, r, s1, w, e0, e1, e2, e3, e4, pre, fun n h => hq _ _ (q n h)⟩
def S_lsteps15 : PrmC where
  sp := sO 1 fun (ob : Ob) => sD fun (v1 : D) => sI fun (many : Int) => sEnd fun Q => ∃ (c : Nat) (S : Say), v1 = S.d ∧ (IsPot c ob ∧ c ≤ 10 ^ 10 ∧ S.Ok ∧ 0 < many ∧ many ≤ 20) ∧ ∀ (ts : List (Nat × Nat × Nat)) (o : Ob), ((ts.length ≤ 20 ∧ ∀ t ∈ ts, TripOk S t) ∧ IsPot (c + 20) o) → Q (.own (.lst (ts.map tripD))) [o]
  mono := sO.mono fun _ => sD.mono fun _ => sI.mono fun _ => sEnd.mono fun Q Q' hq ⟨c, S, e0, pre, q⟩ => ⟨c, S, e0, pre, fun ts o h => hq _ _ (q ts o h)⟩
def S_lkeeps : PrmC where
  sp := sD fun (v0 : D) => sD fun (v1 : D) => sD fun (v2 : D) => sD fun (v3 : D) => sEnd fun Q => ∃ (S : Say) (p : Prc) (n : Nat) (t : Nat × Nat × Nat), v0 = S.d ∧ v1 = (prcD p) ∧ v2 = (.dict (goodD (standN S p n))) ∧ v3 = (tripD t) ∧ (S.Ok ∧ PrcOk S.deeds p ∧ Still S p n ∧ TripOk S t) ∧ Q (.d (.bool true)) []
  mono := sD.mono fun _ => sD.mono fun _ => sD.mono fun _ => sD.mono fun _ => sEnd.mono fun Q Q' hq ⟨S, p, n, t, e0, e1, e2, e3, pre, q⟩ => ⟨S, p, n, t, e0, e1, e2, e3, pre, hq _ _ q⟩
def cst (p : Prc) (w g : Nat) : Nat := (priceOf p w g).getD 0
def lexB (c : Nat → Nat) (y a : Nat) : Bool := decide (c y < c a ∨ (c y = c a ∧ y < a))
def leastM (c : Nat → Nat) : List Nat → Nat
  | [] => 0
  | g :: gs => gs.foldl (fun a y => if lexB c y a = true then y else a) g
def IsLeast (c : Nat → Nat) (xs : List Nat) (g : Nat) : Prop := g ∈ xs ∧ ∀ y ∈ xs, c g < c y ∨ (c g = c y ∧ g ≤ y)
theorem IsLeast.one {c : Nat → Nat} {xs : List Nat} {g h : Nat} (a : IsLeast c xs g) (b : IsLeast c xs h) : g = h := by
  rcases a.2 h b.1 with z | ⟨z, z1⟩ <;> rcases b.2 g a.1 with y | ⟨y, y1⟩ <;> omega
def cgD (c : Nat → Nat) (g : Nat) : D := .tuple [.int (c g : Int), .int (g : Int)]
def natPl (L : List Nat) : List (D × D) := natKV (fun (k : Nat) => .int (k : Int)) L.zipIdx
abbrev Spot := Nat × Nat × Nat
def spotsN (a b : Nat) (L : List Nat) : List Spot := L.flatMap fun r => (List.range a).flatMap fun s => (List.range b).map fun w => (r, s, w)
def spotKV (F : Spot → D) (ts : List Spot) : List (D × D) := ts.map fun t => (tripD t, F t)
structure OnL (S : Say) (L : List Nat) : Prop where
  nd : L.Nodup
  lt : ∀ r ∈ L, r < S.rooms.length
  len : L.length ≤ 100
def onW (S : Say) (L : List Nat) (f : Spot → Nat) : Wat := ⟨S.signs, S.deeds, L.map fun r => (List.range S.signs.toNat).map fun s => (List.range S.deeds.toNat).map fun w => (f (r, s, w), idxP L ((S.go r s (f (r, s, w))).getD 0))⟩
def StaysL (S : Say) (L : List Nat) (f : Spot → Nat) : Prop := ∀ t ∈ spotsN S.signs.toNat S.deeds.toNat L, (f t : Int) < S.deeds ∧ ∃ k ∈ L, S.go t.1 t.2.1 (f t) = some k
def mildF (S : Say) (p : Prc) (L : List Nat) (t : Spot) : Nat := leastM (cst p t.2.2) (keepN S p L t.1 t.2.1 t.2.2)
def mildW (S : Say) (p : Prc) (L : List Nat) : Wat := onW S L (mildF S p L)
def rowW (S : Say) (L : List Nat) (f : Spot → Nat) (r s : Nat) : List (Nat × Nat) := (List.range S.deeds.toNat).map fun w => (f (r, s, w), idxP L ((S.go r s (f (r, s, w))).getD 0))
def stW (S : Say) (L : List Nat) (f : Spot → Nat) (r : Nat) : List (List (Nat × Nat)) := (List.range S.signs.toNat).map (rowW S L f r)
def choiceF (S : Say) (p : Prc) (L : List Nat) (t : Spot) : D := .list (intsD (keepN S p L t.1 t.2.1 t.2.2))
def ansF (f : Spot → Nat) (t : Spot) : D := .int (f t : Int)
def spotsS (S : Say) (L : List Nat) : List Spot := spotsN S.signs.toNat S.deeds.toNat L
def S_choices_of : PrmC where
  sp := sD fun (v0 : D) => sD fun (v1 : D) => sD fun (v2 : D) => sEnd fun Q => ∃ (S : Say) (p : Prc) (L : List Nat), v0 = S.d ∧ v1 = (prcD p) ∧ v2 = (.tuple (intsD L)) ∧ (S.Ok ∧ PrcOk S.deeds p ∧ OnL S L) ∧ Q (.own (.dcT (spotKV (choiceF S p L) (spotsS S L)))) []
  mono := sD.mono fun _ => sD.mono fun _ => sD.mono fun _ => sEnd.mono fun Q Q' hq ⟨S, p, L, e0, e1, e2, pre, q⟩ => ⟨S, p, L, e0, e1, e2, pre, hq _ _ q⟩
def S_leastM : PrmC where
  sp := sD fun (v0 : D) => sD fun (v1 : D) => sD fun (v2 : D) => sEnd fun Q => ∃ (p : Prc) (n : Int) (w : Nat) (xs : List Nat), v0 = (prcD p) ∧ v1 = (.int (w : Int)) ∧ v2 = (.list (intsD xs)) ∧ ((PrcOk n p ∧ n ≤ 9) ∧ (w : Int) < n ∧ xs ≠ [] ∧ xs.length ≤ 9 ∧ ∀ g ∈ xs, (g : Int) < n ∧ (priceOf p w g).isSome = true) ∧ Q (.d (.int (leastM (cst p w) xs : Nat))) []
  mono := sD.mono fun _ => sD.mono fun _ => sD.mono fun _ => sEnd.mono fun Q Q' hq ⟨p, n, w, xs, e0, e1, e2, pre, q⟩ => ⟨p, n, w, xs, e0, e1, e2, pre, hq _ _ q⟩
def S_on_rooms : PrmC where
  sp := sD fun (v0 : D) => sD fun (v1 : D) => sO 3 fun (v2 : Ob) => sEnd fun Q => ∃ (S : Say) (L : List Nat) (f : Spot → Nat), v0 = S.d ∧ v1 = (.tuple (intsD L)) ∧ v2 = (.dcT (spotKV (ansF f) (spotsS S L))) ∧ (S.Ok ∧ OnL S L ∧ StaysL S L f) ∧ Q (.d (onW S L f).d) [.dcT (spotKV (ansF f) (spotsS S L))]
  mono := sD.mono fun _ => sD.mono fun _ => sO.mono fun _ => sEnd.mono fun Q Q' hq ⟨S, L, f, e0, e1, e2, pre, q⟩ => ⟨S, L, f, e0, e1, e2, pre, hq _ _ q⟩
def S_mildest_on : PrmC where
  sp := sD fun (v0 : D) => sD fun (v1 : D) => sD fun (v2 : D) => sEnd fun Q => ∃ (S : Say) (p : Prc) (n : Nat), v0 = S.d ∧ v1 = (prcD p) ∧ v2 = (.tuple (intsD (standN S p n))) ∧ (S.Ok ∧ PrcOk S.deeds p ∧ Still S p n) ∧ Q (.d (mildW S p (standN S p n)).d) []
  mono := sD.mono fun _ => sD.mono fun _ => sD.mono fun _ => sEnd.mono fun Q Q' hq ⟨S, p, n, e0, e1, e2, pre, q⟩ => ⟨S, p, n, e0, e1, e2, pre, hq _ _ q⟩
def S_lkept : PrmC where
  sp := sD fun (v0 : D) => sD fun (v1 : D) => sEnd fun Q => ∃ (S : Say) (p : Prc), v0 = S.d ∧ v1 = (prcD p) ∧ (S.Ok ∧ PrcOk S.deeds p) ∧ ∀ (n : Nat), Still S p n → Q (.d (.list (intsD (standN S p n)))) []
  mono := sD.mono fun _ => sD.mono fun _ => sEnd.mono fun Q Q' hq ⟨S, p, e0, e1, pre, q⟩ => ⟨S, p, e0, e1, pre, fun n h => hq _ _ (q n h)⟩
def S_lsome : PrmC where
  sp := sD fun (v0 : D) => sD fun (v1 : D) => sD fun (v2 : D) => sD fun (v3 : D) => sD fun (v4 : D) => sD fun (v5 : D) => sEnd fun Q => ∃ (S : Say) (p : Prc) (L : List Nat) (r : Nat) (s1 : Nat) (w : Nat), v0 = S.d ∧ v1 = (prcD p) ∧ v2 = (.list (intsD L)) ∧ v3 = (.int (r : Int)) ∧ v4 = (.int (s1 : Int)) ∧ v5 = (.int (w : Int)) ∧ (S.Ok ∧ PrcOk S.deeds p ∧ L.length ≤ 100 ∧ r < S.rooms.length ∧ (s1 : Int) < S.signs ∧ (w : Int) < S.deeds) ∧ Q (.d (.list (intsD (keepN S p L r s1 w)))) []
  mono := sD.mono fun _ => sD.mono fun _ => sD.mono fun _ => sD.mono fun _ => sD.mono fun _ => sD.mono fun _ => sEnd.mono fun Q Q' hq ⟨S, p, L, r, s1, w, e0, e1, e2, e3, e4, e5, pre, q⟩ => ⟨S, p, L, r, s1, w, e0, e1, e2, e3, e4, e5, pre, hq _ _ q⟩
def S_lmild : PrmC where
  sp := sD fun (v0 : D) => sD fun (v1 : D) => sD fun (v2 : D) => sEnd fun Q => ∃ (S : Say) (p : Prc) (n : Nat), v0 = S.d ∧ v1 = (prcD p) ∧ v2 = (.list (intsD (standN S p n))) ∧ (S.Ok ∧ PrcOk S.deeds p ∧ Still S p n) ∧ Q (.d (mildW S p (standN S p n)).d) []
  mono := sD.mono fun _ => sD.mono fun _ => sD.mono fun _ => sEnd.mono fun Q Q' hq ⟨S, p, n, e0, e1, e2, pre, q⟩ => ⟨S, p, n, e0, e1, e2, pre, hq _ _ q⟩
def S_lworld26 : PrmC where
  sp := sO 1 fun (ob : Ob) => sI fun (wide : Int) => sEnd fun Q => ∃ (c : Nat), (IsPot c ob ∧ c ≤ 10 ^ 8 ∧ 0 ≤ wide ∧ wide ≤ 1) ∧ ∀ (S : Say) (p : Prc) (o : Ob), (S.Ok ∧ PrcOk S.deeds p ∧ IsPot (c + 30000000) o) → Q (.d (.tuple [S.d, prcD p])) [o]
  mono := sO.mono fun _ => sI.mono fun _ => sEnd.mono fun Q Q' hq ⟨c, pre, q⟩ => ⟨c, pre, fun S p o h => hq _ _ (q S p o h)⟩
def S_ltold26 : PrmC where
  sp := sD fun (v0 : D) => sD fun (v1 : D) => sD fun (v2 : D) => sEnd fun Q => ∃ (S : Say) (p : Prc) (n : Nat) (b : Bool), v0 = S.d ∧ v1 = (prcD p) ∧ v2 = (.bool b) ∧ (S.Ok ∧ PrcOk S.deeds p ∧ Still S p n ∧ (b = true → p = none)) ∧ Q (.d (if 0 ∈ standN S p n then (mildW S p (standN S p n)).d else .none)) []
  mono := sD.mono fun _ => sD.mono fun _ => sD.mono fun _ => sEnd.mono fun Q Q' hq ⟨S, p, n, b, e0, e1, e2, pre, q⟩ => ⟨S, p, n, b, e0, e1, e2, pre, hq _ _ q⟩
def X_need_kept (cc : Str → Addr) : PrmX where
  p := fun ws Q E => (sD fun (x : D) => sD fun (y : D) => sEnd fun Q => ∃ (S : Say) (p : Prc) (n : Nat), (x = S.d ∧ y = prcD p ∧ S.Ok ∧ PrcOk S.deeds p ∧ Still S p n) ∧ br (decide (0 ∈ standN S p n)) (Q (.d (.tuple (intsD (standN S p n)))) []) (E ⟨.ref (cc "NoKeep"), none⟩)) ws Q
  mono := fun ws Q Q' E E' hq he h0 => by
    obtain ⟨x, ws0, rfl, h1⟩ := sD.inv h0; obtain ⟨y, ws1, rfl, h2⟩ := sD.inv h1; obtain ⟨rfl, h⟩ := sEnd.inv h2
    show ∃ (S : Say) (p : Prc) (n : Nat), (x = S.d ∧ y = prcD p ∧ S.Ok ∧ PrcOk S.deeds p ∧ Still S p n) ∧ br (decide (0 ∈ standN S p n)) (Q' (.d (.tuple (intsD (standN S p n)))) []) (E' ⟨.ref (cc "NoKeep"), none⟩)
    repeat' (first | exact h | exact hq _ _ h | exact he _ h | exact fun r => hq _ _ (h r) | exact fun r => he _ (h r) | exact fun r e => hq _ _ (h r e) | (refine br.imp h (fun h => ?_) (fun h => ?_)) | (refine And.imp_right (fun h => ?_) h) | (refine Exists.imp (fun w h => ?_) h) | (refine And.imp (fun h => ?_) (fun h => ?_) h))
def X_mildest (cc : Str → Addr) : PrmX where
  p := fun ws Q E => (sD fun (x : D) => sD fun (y : D) => sEnd fun Q => ∃ (S : Say) (p : Prc) (n : Nat), (x = S.d ∧ y = prcD p ∧ S.Ok ∧ PrcOk S.deeds p ∧ Still S p n) ∧ br (decide (0 ∈ standN S p n)) (Q (.d (mildW S p (standN S p n)).d) []) (E ⟨.ref (cc "NoKeep"), none⟩)) ws Q
  mono := fun ws Q Q' E E' hq he h0 => by
    obtain ⟨x, ws0, rfl, h1⟩ := sD.inv h0; obtain ⟨y, ws1, rfl, h2⟩ := sD.inv h1; obtain ⟨rfl, h⟩ := sEnd.inv h2
    show ∃ (S : Say) (p : Prc) (n : Nat), (x = S.d ∧ y = prcD p ∧ S.Ok ∧ PrcOk S.deeds p ∧ Still S p n) ∧ br (decide (0 ∈ standN S p n)) (Q' (.d (mildW S p (standN S p n)).d) []) (E' ⟨.ref (cc "NoKeep"), none⟩)
    repeat' (first | exact h | exact hq _ _ h | exact he _ h | exact fun r => hq _ _ (h r) | exact fun r => he _ (h r) | exact fun r e => hq _ _ (h r e) | (refine br.imp h (fun h => ?_) (fun h => ?_)) | (refine And.imp_right (fun h => ?_) h) | (refine Exists.imp (fun w h => ?_) h) | (refine And.imp (fun h => ?_) (fun h => ?_) h))
def RoomsGood (S : Say) (p : Prc) (x : D) : Prop := ∃ L : List Nat, x = .tuple (intsD L) ∧ (∀ r ∈ L, r < S.rooms.length) ∧ 0 ∈ L ∧ L.Pairwise (· < ·) ∧ ∀ r ∈ L, loseN S p L r = none
def rowOkB (S : Say) (d : D) : Bool := match d with | .tuple [a, b, c, e] => isB a S.rooms.length && (isW b && decide (1 ≤ intOf b)) && isB c S.signs && isB e S.deeds | _ => false
def LRowOk (S : Say) (q : Quad) : Prop := q.1 < S.rooms.length ∧ 1 ≤ q.2.1 ∧ (q.2.2.1 : Int) < S.signs ∧ (q.2.2.2 : Int) < S.deeds
def Falls (S : Say) (p : Prc) (qs : List Quad) : Prop := ∀ q ∈ qs, ∀ g ∈ answersN p S.deeds.toNat q.2.2.2, ∀ k, S.go q.1 q.2.2.1 g = some k → ∃ q' ∈ qs, q'.1 = k ∧ q'.2.1 < q.2.1
def RowsGood (S : Say) (p : Prc) (x : D) : Prop := ∃ qs : List Quad, x = .tuple (qs.map quadD) ∧ (∀ q ∈ qs, LRowOk S q) ∧ (qs.map (·.1)).Pairwise (· < ·) ∧ Falls S p qs ∧ 0 ∈ qs.map (·.1)
def PaperGood (S : Say) (p : Prc) (x : D) : Prop := (∃ y, x = .tuple [.str "kept", y] ∧ RoomsGood S p y) ∨ (∃ y, x = .tuple [.str "lost", y] ∧ RowsGood S p y)
def deepN (S : Say) (p : Prc) (n : Nat) : Nat := (rankN S p n 0).getD 0
def pickL (S : Say) (p : Prc) (n : Nat) : List Quad := (lostL S p n).filter fun q => decide (q.1 = 0 ∨ q.2.1 < deepN S p n)
def leQ (a b : Quad) : Bool := decide (a.1 ≤ b.1)
def lostRows (S : Say) (p : Prc) (n : Nat) : List Quad := (pickL S p n).mergeSort leQ
def toldK (S : Say) (p : Prc) (n : Nat) : D := if 0 ∈ standN S p n then .tuple [.str "kept", .tuple (intsD (standN S p n))] else .tuple [.str "lost", .tuple ((lostRows S p n).map quadD)]
def adjB : List Nat → List Bool
  | a :: b :: r => decide (a < b) :: adjB (b :: r)
  | _ => []
def FallQ (S : Say) (p : Prc) (qs : List Quad) (q : Quad) : Prop := ∀ g ∈ answersN p S.deeds.toNat q.2.2.2, ∀ k, S.go q.1 q.2.2.1 g = some k → ∃ q' ∈ qs, q'.1 = k ∧ q'.2.1 < q.2.1
def S_kept_or_lost : PrmC where
  sp := sD fun (v0 : D) => sD fun (v1 : D) => sEnd fun Q => ∃ (S : Say) (p : Prc), v0 = S.d ∧ v1 = (prcD p) ∧ (S.Ok ∧ PrcOk S.deeds p) ∧ ∀ (n : Nat), Still S p n → Q (.d (toldK S p n)) []
  mono := sD.mono fun _ => sD.mono fun _ => sEnd.mono fun Q Q' hq ⟨S, p, e0, e1, pre, q⟩ => ⟨S, p, e0, e1, pre, fun n h => hq _ _ (q n h)⟩
def S_are_rising : PrmC where
  sp := sD fun (x : D) => sEnd fun Q => ∃ (L : List Nat), ((x = .tuple (intsD L) ∨ x = .list (intsD L)) ∧ L.length ≤ 6000) ∧ ∀ (b : Bool), (b = true ↔ L.Pairwise (· < ·)) → Q (.d (.bool b)) []
  mono := sD.mono fun _ => sEnd.mono fun Q Q' hq ⟨L, pre, q⟩ => ⟨L, pre, fun b h => hq _ _ (q b h)⟩
def S_shows_rooms : PrmC where
  sp := sD fun (v0 : D) => sD fun (v1 : D) => sD fun (x : D) => sEnd fun Q => ∃ (S : Say) (p : Prc), v0 = S.d ∧ v1 = (prcD p) ∧ (S.Ok ∧ PrcOk S.deeds p ∧ (∀ xs, x = .tuple xs → xs.length ≤ 6000)) ∧ ∀ (b : Bool), (b = true ↔ RoomsGood S p x) → Q (.d (.bool b)) []
  mono := sD.mono fun _ => sD.mono fun _ => sD.mono fun _ => sEnd.mono fun Q Q' hq ⟨S, p, e0, e1, pre, q⟩ => ⟨S, p, e0, e1, pre, fun b h => hq _ _ (q b h)⟩
def S_is_lost_row : PrmC where
  sp := sD fun (v0 : D) => sD fun (x : D) => sEnd fun Q => ∃ (S : Say), v0 = S.d ∧ (S.Ok) ∧ Q (.d (.bool (rowOkB S x))) []
  mono := sD.mono fun _ => sD.mono fun _ => sEnd.mono fun Q Q' hq ⟨S, e0, pre, q⟩ => ⟨S, e0, pre, hq _ _ q⟩
def S_shows_rows : PrmC where
  sp := sD fun (v0 : D) => sD fun (v1 : D) => sD fun (x : D) => sEnd fun Q => ∃ (S : Say) (p : Prc), v0 = S.d ∧ v1 = (prcD p) ∧ (S.Ok ∧ PrcOk S.deeds p ∧ (∀ xs, x = .tuple xs → xs.length ≤ 6000)) ∧ ∀ (b : Bool), (b = true ↔ RowsGood S p x) → Q (.d (.bool b)) []
  mono := sD.mono fun _ => sD.mono fun _ => sD.mono fun _ => sEnd.mono fun Q Q' hq ⟨S, p, e0, e1, pre, q⟩ => ⟨S, p, e0, e1, pre, fun b h => hq _ _ (q b h)⟩
def thin6 (x : D) : Prop := ∀ y z, x = .tuple [y, z] → ∀ xs, z = .tuple xs → xs.length ≤ 6000
def thin (x : D) : Prop := ∀ y z, x = .tuple [y, z] → ∀ xs, z = .tuple xs → xs.length ≤ 4000
def S_is_paper : PrmC where
  sp := sD fun (v0 : D) => sD fun (v1 : D) => sD fun (x : D) => sEnd fun Q => ∃ (S : Say) (p : Prc), v0 = S.d ∧ v1 = (prcD p) ∧ (S.Ok ∧ PrcOk S.deeds p ∧ thin6 x) ∧ ∀ (b : Bool), (b = true ↔ PaperGood S p x) → Q (.d (.bool b)) []
  mono := sD.mono fun _ => sD.mono fun _ => sD.mono fun _ => sEnd.mono fun Q Q' hq ⟨S, p, e0, e1, pre, q⟩ => ⟨S, p, e0, e1, pre, fun b h => hq _ _ (q b h)⟩
def S_shows_kept : PrmC where
  sp := sD fun (v0 : D) => sD fun (x : D) => sD fun (v2 : D) => sEnd fun Q => ∃ (S : Say) (p : Prc), v0 = S.d ∧ v2 = (prcD p) ∧ (S.Ok ∧ PrcOk S.deeds p ∧ thin6 x) ∧ ∀ (b : Bool), (b = true ↔ PaperGood S p x) → Q (.d (.bool b)) []
  mono := sD.mono fun _ => sD.mono fun _ => sD.mono fun _ => sEnd.mono fun Q Q' hq ⟨S, p, e0, e1, pre, q⟩ => ⟨S, p, e0, e1, pre, fun b h => hq _ _ (q b h)⟩
def MoreP (n : Int) (p p' : Prc) : Prop := ∀ w g : Nat, (w : Int) < n → (g : Int) < n → (priceOf p w g).isSome = true → (priceOf p' w g).isSome = true
structure MoreS (S S' : Say) : Prop where
  s : S'.signs = S.signs
  d : S'.deeds = S.deeds
  l : S'.rooms.length = S.rooms.length
  go : ∀ r s g k, S.go r s g = some k → S'.go r s g = some k
theorem MoreP.rfl {n : Int} {p : Prc} : MoreP n p p := fun _ _ _ _ h => h
theorem MoreS.rfl {S : Say} : MoreS S S := ⟨.refl _, .refl _, .refl _, fun _ _ _ _ h => h⟩
def fillR (r nw : Rw) : Rw := List.zipWith (fun x y => x.or y) r nw
theorem eqvAll_self : ∀ xs : List D, (∀ x ∈ xs, PyData.eqv x x = true) → PyData.eqvAll xs xs = true
  | [], _ => rfl
  | x :: xs, h => by
    rw [PyData.eqvAll, h x List.mem_cons_self, eqvAll_self xs fun y hy => h y (List.mem_cons_of_mem _ hy)]; rfl
def S_lwider : PrmC where
  sp := sO 1 fun (ob : Ob) => sD fun (v1 : D) => sEnd fun Q => ∃ (c : Nat) (p : Prc) (n : Int), v1 = (prcD p) ∧ (IsPot c ob ∧ c ≤ 10 ^ 10 ∧ PrcOk n p ∧ n ≤ 9) ∧ ∀ (p' : Prc) (o : Ob), (PrcOk n p' ∧ MoreP n p p' ∧ IsPot (c + 1000) o) → Q (.d (prcD p')) [o]
  mono := sO.mono fun _ => sD.mono fun _ => sEnd.mono fun Q Q' hq ⟨c, p, n, e0, pre, q⟩ => ⟨c, p, n, e0, pre, fun p' o h => hq _ _ (q p' o h)⟩
def S_llonger : PrmC where
  sp := sO 1 fun (ob : Ob) => sD fun (v1 : D) => sEnd fun Q => ∃ (c : Nat) (S : Say), v1 = S.d ∧ (IsPot c ob ∧ c ≤ 10 ^ 10 ∧ S.Ok) ∧ ∀ (S' : Say) (o : Ob), (S'.Ok ∧ MoreS S S' ∧ IsPot (c + 20000) o) → Q (.d S'.d) [o]
  mono := sO.mono fun _ => sD.mono fun _ => sEnd.mono fun Q Q' hq ⟨c, S, e0, pre, q⟩ => ⟨c, S, e0, pre, fun S' o h => hq _ _ (q S' o h)⟩
def S_lnofewer : PrmC where
  sp := sD fun (v0 : D) => sD fun (v1 : D) => sD fun (v2 : D) => sD fun (v3 : D) => sEnd fun Q => ∃ (S : Say) (S' : Say) (p : Prc) (p' : Prc), v0 = S.d ∧ v1 = (prcD p) ∧ v2 = S'.d ∧ v3 = (prcD p') ∧ (S.Ok ∧ S'.Ok ∧ PrcOk S.deeds p ∧ PrcOk S'.deeds p' ∧ MoreS S S' ∧ MoreP S.deeds p p') ∧ Q (.d (.bool true)) []
  mono := sD.mono fun _ => sD.mono fun _ => sD.mono fun _ => sD.mono fun _ => sEnd.mono fun Q Q' hq ⟨S, S', p, p', e0, e1, e2, e3, pre, q⟩ => ⟨S, S', p, p', e0, e1, e2, e3, pre, hq _ _ q⟩
def S_ltrimright : PrmC where
  sp := sD fun (v0 : D) => sD fun (v1 : D) => sEnd fun Q => ∃ (S : Say) (p : Prc), v0 = S.d ∧ v1 = (prcD p) ∧ (S.Ok ∧ PrcOk S.deeds p) ∧ Q (.d (.bool true)) []
  mono := sD.mono fun _ => sD.mono fun _ => sEnd.mono fun Q Q' hq ⟨S, p, e0, e1, pre, q⟩ => ⟨S, p, e0, e1, pre, hq _ _ q⟩
def S_ltogether : PrmC where
  sp := sD fun (v0 : D) => sD fun (v1 : D) => sD fun (v2 : D) => sEnd fun Q => ∃ (A : Say) (B : Say) (p : Prc), v0 = A.d ∧ v1 = B.d ∧ v2 = (prcD p) ∧ (A.Ok ∧ B.Ok ∧ B.signs = A.signs ∧ B.deeds = A.deeds ∧ PrcOk A.deeds p ∧ (A.rooms.length + 1) * (B.rooms.length + 1) ≤ 100) ∧ Q (.d (.bool true)) []
  mono := sD.mono fun _ => sD.mono fun _ => sD.mono fun _ => sEnd.mono fun Q Q' hq ⟨A, B, p, e0, e1, e2, pre, q⟩ => ⟨A, B, p, e0, e1, e2, pre, hq _ _ q⟩
def RisP (ps : List (Nat × Nat)) : Prop := ps.Pairwise fun a b => a.1 < b.1 ∨ (a.1 = b.1 ∧ a.2 < b.2)
def adjP : List (Nat × Nat) → List Bool
  | a :: b :: r => decide (a.1 < b.1 ∨ (a.1 = b.1 ∧ a.2 < b.2)) :: adjP (b :: r)
  | _ => []
def ArePairs (A B : Say) (x : D) : Prop := ∃ ps : List (Nat × Nat), x = runD ps ∧ InP A B ps ∧ ps[0]? = some (0, 0) ∧ RisP ps
def ClosedP (A B : Say) (ps : List (Nat × Nat)) : Prop := ∀ p ∈ ps, ∀ s d : Nat, (s : Int) < A.signs → (d : Int) < A.deeds → okW A B ps p (s, d)
def ringS (m : Nat) : Say := ⟨1, 1, (List.range m).map fun r => [[some ((r + 1) % m)]]⟩
def ringP (m n : Nat) : List (Nat × Nat) := srtP (addAll [] ((List.range (m * n)).map fun k => (k % m, k % n)))
def S_are_pairs : PrmC where
  sp := sD fun (v0 : D) => sD fun (v1 : D) => sD fun (x : D) => sEnd fun Q => ∃ (A : Say) (B : Say), v0 = A.d ∧ v1 = B.d ∧ (A.Ok ∧ B.Ok ∧ (∀ xs, x = .tuple xs → xs.length ≤ 100000)) ∧ ∀ (b : Bool), (b = true ↔ ArePairs A B x) → Q (.d (.bool b)) []
  mono := sD.mono fun _ => sD.mono fun _ => sD.mono fun _ => sEnd.mono fun Q Q' hq ⟨A, B, e0, e1, pre, q⟩ => ⟨A, B, e0, e1, pre, fun b h => hq _ _ (q b h)⟩
def S_are_closed : PrmC where
  sp := sD fun (v0 : D) => sD fun (v1 : D) => sD fun (v2 : D) => sEnd fun Q => ∃ (A : Say) (B : Say) (ps : List (Nat × Nat)), v0 = A.d ∧ v1 = B.d ∧ v2 = (runD ps) ∧ (A.Ok ∧ B.Ok ∧ B.signs = A.signs ∧ B.deeds = A.deeds ∧ InP A B ps ∧ ps.Nodup ∧ ps.length ≤ 100000) ∧ ∀ (b : Bool), (b = true ↔ ClosedP A B ps) → Q (.d (.bool b)) []
  mono := sD.mono fun _ => sD.mono fun _ => sD.mono fun _ => sEnd.mono fun Q Q' hq ⟨A, B, ps, e0, e1, e2, pre, q⟩ => ⟨A, B, ps, e0, e1, e2, pre, fun b h => hq _ _ (q b h)⟩
def S_shows_within : PrmC where
  sp := sD fun (v0 : D) => sD fun (v1 : D) => sD fun (x : D) => sEnd fun Q => ∃ (A : Say) (B : Say), v0 = A.d ∧ v1 = B.d ∧ ((A.Ok ∧ B.Ok ∧ B.signs = A.signs ∧ B.deeds = A.deeds) ∧ (∀ y z, x = .tuple [y, z] → ∀ xs, z = .tuple xs → xs.length ≤ 100000)) ∧ ∀ (b : Bool), (b = true ↔ Shown A B x) → Q (.d (.bool b)) []
  mono := sD.mono fun _ => sD.mono fun _ => sD.mono fun _ => sEnd.mono fun Q Q' hq ⟨A, B, e0, e1, pre, q⟩ => ⟨A, B, e0, e1, pre, fun b h => hq _ _ (q b h)⟩
def SearchOk (A B : Say) (a b : Nat) (x : D) : Prop := ((∃ ps : List (Nat × Nat), x = .tuple [.str "within", runD ps] ∧ InP A B ps ∧ ps.length ≤ 10000) ∨ (∃ R : List (Nat × Nat), x = .tuple [.str "beyond", runD R] ∧ RunOk A.signs A.deeds R ∧ R.length ≤ 10001)) ∧ ((a, b) = (0, 0) → ToldW A B x)
def wG (A B : Say) (s : Nat × Nat) : Nat → List Way
  | 0 => [(s, none, [])]
  | n + 1 => match (wG A B s n)[n]? with | some p => wRow A B (wG A B s n) p (numSt A) | none => wG A B s n
structure WGk (A B : Say) (W : List Way) : Prop where
  nd : (keysW W).Nodup
  ent : ∀ (i : Nat) (p : Way), W[i]? = some p → (p.1.1 < A.rooms.length ∧ p.1.2 < B.rooms.length) ∧ RunOk A.signs A.deeds p.2.2 ∧ p.2.2.length ≤ i
theorem WGk.len {A B : Say} (hA : A.Ok) (hB : B.Ok) {W : List Way} (h : WGk A B W) : W.length ≤ 10000 := by
  have := pair_bound h.nd (a := A.rooms.length) (b := B.rooms.length) fun p hp => by
    obtain ⟨x, hx, rfl⟩ := List.mem_map.mp hp
    obtain ⟨i, hi⟩ := List.mem_iff_getElem?.mp hx
    exact (h.ent i x hi).1
  have h2 : A.rooms.length * B.rooms.length ≤ 100 * 100 := Nat.mul_le_mul hA.r100 hB.r100
  unfold keysW at this
  rw [List.length_map] at this
  omega
def runKV (p : Way) : D × D := (stepD p.1, runD p.2.2)
def GoG (A B : Say) (s : Nat × Nat) (n : Nat) : Prop := ∀ m, m < n → ∃ p, (wG A B s m)[m]? = some p ∧ NoB A B p (numSt A)
def S_lsearch : PrmC where
  sp := sD fun (v0 : D) => sD fun (v1 : D) => sD fun (v2 : D) => sEnd fun Q => ∃ (A : Say) (B : Say) (a : Nat) (b : Nat), v0 = A.d ∧ v1 = B.d ∧ v2 = (stepD (a, b)) ∧ (A.Ok ∧ B.Ok ∧ B.signs = A.signs ∧ B.deeds = A.deeds ∧ a < A.rooms.length ∧ b < B.rooms.length) ∧ ∀ (x : D), SearchOk A B a b x → Q (.d x) []
  mono := sD.mono fun _ => sD.mono fun _ => sD.mono fun _ => sEnd.mono fun Q Q' hq ⟨A, B, a, b, e0, e1, e2, pre, q⟩ => ⟨A, B, a, b, e0, e1, e2, pre, fun x h => hq _ _ (q x h)⟩
def S_lrings9 : PrmC where
  sp := sO 1 fun (ob : Ob) => sEnd fun Q => ∃ (c : Nat), (IsPot c ob ∧ c ≤ 10 ^ 9) ∧ ∀ (m n : Nat) (o : Ob), ((2 ≤ m ∧ m ≤ 21) ∧ (2 ≤ n ∧ n ≤ 21)) → Q (.d (.tuple [(ringS m).d, (ringS n).d, runD (ringP m n)])) [o]
  mono := sO.mono fun _ => sEnd.mono fun Q Q' hq ⟨c, pre, q⟩ => ⟨c, pre, fun m n o h => hq _ _ (q m n o h)⟩
def watsD (Ws : List Wat) : D := .tuple (Ws.map Wat.d)
def AllW (i j : Int) (Ws : List Wat) : Prop := (1 ≤ Ws.length ∧ Ws.length ≤ 4) ∧ (1 ≤ i ∧ i ≤ 9) ∧ (1 ≤ j ∧ j ≤ 9) ∧ ∀ W ∈ Ws, W.Ok ∧ W.signs = i ∧ W.deeds = j
def OkN (Ws : List Wat) (ms : List Nat) : Prop := ms.length = Ws.length ∧ ∀ (k : Nat) (W : Wat) (m : Nat), Ws[k]? = some W → ms[k]? = some m → m < W.states.length
def letR : List Wat → List Nat → Nat → Nat → Nat × List Nat
  | W :: Ws, m :: ms, s, d => ((letR Ws ms s (W.get m s d).1).1, (W.get m s d).2 :: (letR Ws ms s (W.get m s d).1).2)
  | _, _, _, d => (d, [])
abbrev someR (ns : List Nat) : Rw := ns.map some
def numR (r : Rw) : List Nat := r.map fun c => c.getD 0
def stepR (Ws : List Wat) (r : Rw) (s d : Nat) : Option Rw := some (someR (letR Ws (numR r) s d).2)
def okR (Ws : List Wat) (r : Rw) : Prop := ∃ ms, r = someR ms ∧ OkN Ws ms
def begN (Ws : List Wat) : Rw := someR (List.replicate Ws.length 0)
def toldRow (b : Nat) (Ws : List Wat) (C : List Rw) (x : Rw) (s : Nat) : List (Nat × Nat) := (List.range b).map fun d => ((letR Ws (numR x) s d).1, idxP C (someR (letR Ws (numR x) s d).2))
def toldS (a b : Nat) (Ws : List Wat) (C : List Rw) (x : Rw) : List (List (Nat × Nat)) := (List.range a).map (toldRow b Ws C x)
abbrev fcW (i j : Int) (Ws : List Wat) (n : Nat) : List Rw := fcC i.toNat j.toNat (stepR Ws) (begN Ws) n
def lineW (i j : Int) (Ws : List Wat) (n : Nat) : Wat := ⟨i, j, (fcW i j Ws n).map (toldS i.toNat j.toNat Ws (fcW i j Ws n))⟩
abbrev DoneW (i j : Int) (Ws : List Wat) (n : Nat) : Prop := FDone i.toNat j.toNat (stepR Ws) (begN Ws) n
abbrev WideW (i j : Int) (Ws : List Wat) : Prop := FWid i.toNat j.toNat (stepR Ws) (begN Ws)
def ToldR (i j : Int) (Ws : List Wat) (x : D) : Prop := (∃ n, DoneW i j Ws n ∧ x = Wat.d (lineW i j Ws n)) ∨ (WideW i j Ws ∧ x = .none)
def toldAt (i j : Int) (Ws : List Wat) (k : Nat) : List (List (Nat × Nat)) := match (fcW i j Ws k)[k]? with
  | some x => toldS i.toNat j.toNat Ws (fcW i j Ws (k + 1)) x
  | none => []
def S_let_on : PrmC where
  sp := sD fun (v0 : D) => sD fun (v1 : D) => sD fun (v2 : D) => sD fun (v3 : D) => sEnd fun Q => ∃ (Ws : List Wat) (i : Int) (j : Int) (ms : List Nat) (s1 : Nat) (d1 : Nat), v0 = (watsD Ws) ∧ v1 = (rowD (someR ms)) ∧ v2 = (.int (s1 : Int)) ∧ v3 = (.int (d1 : Int)) ∧ (AllW i j Ws ∧ OkN Ws ms ∧ (s1 : Int) < i ∧ (d1 : Int) < j) ∧ Q (.d (.tuple [.int ((letR Ws ms s1 d1).1 : Int), rowD (someR (letR Ws ms s1 d1).2)])) []
  mono := sD.mono fun _ => sD.mono fun _ => sD.mono fun _ => sD.mono fun _ => sEnd.mono fun Q Q' hq ⟨Ws, i, j, ms, s1, d1, e0, e1, e2, e3, pre, q⟩ => ⟨Ws, i, j, ms, s1, d1, e0, e1, e2, e3, pre, hq _ _ q⟩
def S_lined : PrmC where
  sp := sD fun (v0 : D) => sEnd fun Q => ∃ (Ws : List Wat) (i : Int) (j : Int), v0 = (watsD Ws) ∧ (AllW i j Ws) ∧ ∀ (x : D), ToldR i j Ws x → Q (.d x) []
  mono := sD.mono fun _ => sEnd.mono fun Q Q' hq ⟨Ws, i, j, e0, pre, q⟩ => ⟨Ws, i, j, e0, pre, fun x h => hq _ _ (q x h)⟩
def S_need_raW : PrmC where
  sp := sD fun (v0 : D) => sEnd fun Q => ∃ (Ws : List Wat) (i : Int) (j : Int), v0 = (watsD Ws) ∧ (AllW i j Ws) ∧ Q (.d .none) []
  mono := sD.mono fun _ => sEnd.mono fun Q Q' hq ⟨Ws, i, j, e0, pre, q⟩ => ⟨Ws, i, j, e0, pre, hq _ _ q⟩
def X_row (cc : Str → Addr) : PrmX where
  p := fun ws Q E => (sD fun (x : D) => sEnd fun Q => ∃ (Ws : List Wat) (i j : Int), (x = watsD Ws ∧ AllW i j Ws) ∧ (∀ n, DoneW i j Ws n → Q (.d (Wat.d (lineW i j Ws n))) []) ∧ (WideW i j Ws → E ⟨.ref (cc "TooWide"), none⟩)) ws Q
  mono := fun ws Q Q' E E' hq he h0 => by
    obtain ⟨x, ws0, rfl, h1⟩ := sD.inv h0; obtain ⟨rfl, h⟩ := sEnd.inv h1
    show ∃ (Ws : List Wat) (i j : Int), (x = watsD Ws ∧ AllW i j Ws) ∧ (∀ n, DoneW i j Ws n → Q' (.d (Wat.d (lineW i j Ws n))) []) ∧ (WideW i j Ws → E' ⟨.ref (cc "TooWide"), none⟩)
    repeat' (first | exact h | exact hq _ _ h | exact he _ h | exact fun r => hq _ _ (h r) | exact fun r => he _ (h r) | exact fun r e => hq _ _ (h r e) | (refine br.imp h (fun h => ?_) (fun h => ?_)) | (refine And.imp_right (fun h => ?_) h) | (refine Exists.imp (fun w h => ?_) h) | (refine And.imp (fun h => ?_) (fun h => ?_) h))
def S_lward : PrmC where
  sp := sR fun (v0 : List D) => sI fun (first : Int) => sO 3 fun (ob : Ob) => sI fun (signs : Int) => sI fun (deeds : Int) => sI fun (most : Int) => sEnd fun Q => ∃ (ns : List Int) (c : Nat), v0 = (ns.map .int) ∧ ((0 ≤ first ∧ first ≤ 10 ^ 9) ∧ IsPot c ob ∧ c ≤ 10 ^ 10 ∧ (1 ≤ signs ∧ signs ≤ 9) ∧ (1 ≤ deeds ∧ deeds ≤ 9) ∧ (1 ≤ most ∧ most ≤ 12)) ∧ ∀ (rs : Game) (o : Ob), ((1 ≤ rs.length ∧ (rs.length : Int) ≤ most) ∧ Wat.Wf ⟨signs, deeds, rs⟩ ∧ IsPot (c + 200) o) → Q (.d (Wat.d ⟨signs, deeds, rs⟩)) [o]
  mono := sR.mono fun _ => sI.mono fun _ => sO.mono fun _ => sI.mono fun _ => sI.mono fun _ => sI.mono fun _ => sEnd.mono fun Q Q' hq ⟨ns, c, e0, pre, q⟩ => ⟨ns, c, e0, pre, fun rs o h => hq _ _ (q rs o h)⟩
def letGW (W : Wat) (t s d : Nat) : Option Nat := if (W.get t s d).1 = d then some (W.get t s d).2 else none
def letSay (W : Wat) : Say := ⟨W.signs, W.deeds, (List.range W.states.length).map fun t => (List.range W.signs.toNat).map fun s => (List.range W.deeds.toNat).map fun d => letGW W t s d⟩
def letN (A : Say) (t : Nat) (j : Nat) : List ((Nat × Nat) × Nat) := (List.range j).filterMap fun i => (A.go t (stepAt A i).1 (stepAt A i).2).map fun far => (stepAt A i, far)
def letD (e : (Nat × Nat) × Nat) : D := .tuple [stepD e.1, .int (e.2 : Int)]
def swp (p : Nat × Nat) : Nat × Nat := (p.2, p.1)
def swW (w : Way) : Way := (swp w.1, w.2.1.map fun z => (swp z.1, z.2), w.2.2)
def ToldMi (one other : Wat) (x : D) : Prop := (∃ n, WDone (letSay other) (letSay one) n ∧ x = .tuple [.str "milder", runD (srtP ((keysW (wN (letSay other) (letSay one) n)).map swp))]) ∨ (∃ n j p, WBey (letSay other) (letSay one) n j p ∧ x = .tuple [.str "not", runD (p.2.2 ++ [stepAt (letSay other) j])])
def S_let_wholly : PrmC where
  sp := sD fun (v0 : D) => sD fun (v1 : D) => sEnd fun Q => ∃ (W : Wat) (t : Nat), v0 = W.d ∧ v1 = (.int (t : Int)) ∧ (W.Ok ∧ t < W.states.length) ∧ Q (.d (.list ((letN (letSay W) t (numSt (letSay W))).map letD))) []
  mono := sD.mono fun _ => sD.mono fun _ => sEnd.mono fun Q Q' hq ⟨W, t, e0, e1, pre, q⟩ => ⟨W, t, e0, e1, pre, hq _ _ q⟩
def S_steps_to : PrmC where
  sp := sD fun (v0 : D) => sO 2 fun (v1 : Ob) => sEnd fun Q => ∃ (A : Say) (B : Say) (W : List Way) (i : Nat) (p : Way), v0 = (stepD (swp p.1)) ∧ v1 = (.dcT ((W.map swW).map wayKV)) ∧ (WOk A B W ∧ W[i]? = some p ∧ W.length ≤ 10000) ∧ Q (.d (runD p.2.2)) [.dcT ((W.map swW).map wayKV)]
  mono := sD.mono fun _ => sO.mono fun _ => sEnd.mono fun Q Q' hq ⟨A, B, W, i, p, e0, e1, pre, q⟩ => ⟨A, B, W, i, p, e0, e1, pre, hq _ _ q⟩
def S_milder : PrmC where
  sp := sD fun (v0 : D) => sD fun (v1 : D) => sEnd fun Q => ∃ (one : Wat) (other : Wat), v0 = one.d ∧ v1 = other.d ∧ (one.Ok ∧ other.Ok ∧ other.signs = one.signs ∧ other.deeds = one.deeds) ∧ ∀ (x : D), ToldMi one other x → Q (.d x) []
  mono := sD.mono fun _ => sD.mono fun _ => sEnd.mono fun Q Q' hq ⟨one, other, e0, e1, pre, q⟩ => ⟨one, other, e0, e1, pre, fun x h => hq _ _ (q x h)⟩
structure PhW (S : Say) (p : Prc) (L : List Nat) (ph : Nat) (V : Wat) : Prop where
  pos : 1 ≤ ph
  si : V.signs = S.signs
  de : V.deeds = S.deeds
  len : V.states.length = L.length * ph
  step : ∀ (i r s w : Nat), i < L.length * ph → L[i / ph]? = some r → s < S.signs.toNat → w < S.deeds.toNat → (V.get i s w).1 ∈ keepN S p L r s w ∧ (V.get i s w).2 < L.length * ph ∧ ∀ r', S.go r s (V.get i s w).1 = some r' → (V.get i s w).2 / ph = idxP L r'
def S_lmended30 : PrmC where
  sp := sD fun (v0 : D) => sD fun (v1 : D) => sD fun (v2 : D) => sD fun (v3 : D) => sD fun (v4 : D) => sEnd fun Q => ∃ (S : Say) (p : Prc) (n : Nat) (R : List (Nat × Nat)), v0 = S.d ∧ v1 = (prcD p) ∧ v2 = (.list (intsD (standN S p n))) ∧ v3 = (mildW S p (standN S p n)).d ∧ v4 = (runD R) ∧ (S.Ok ∧ PrcOk S.deeds p ∧ Still S p n ∧ 0 ∈ standN S p n ∧ RunOk S.signs S.deeds R ∧ R.length ≤ 10000) ∧ Q (.d (.bool true)) []
  mono := sD.mono fun _ => sD.mono fun _ => sD.mono fun _ => sD.mono fun _ => sD.mono fun _ => sEnd.mono fun Q Q' hq ⟨S, p, n, R, e0, e1, e2, e3, e4, pre, q⟩ => ⟨S, p, n, R, e0, e1, e2, e3, e4, pre, hq _ _ q⟩
def S_lphased : PrmC where
  sp := sO 1 fun (ob : Ob) => sD fun (v1 : D) => sD fun (v2 : D) => sD fun (v3 : D) => sEnd fun Q => ∃ (c : Nat) (S : Say) (p : Prc) (n : Nat), v1 = S.d ∧ v2 = (prcD p) ∧ v3 = (.list (intsD (standN S p n))) ∧ (IsPot c ob ∧ c ≤ 10 ^ 9 ∧ S.Ok ∧ PrcOk S.deeds p ∧ Still S p n ∧ 0 ∈ standN S p n) ∧ ∀ (V : Wat) (ph : Nat) (o : Ob), (PhW S p (standN S p n) ph V ∧ V.Ok ∧ IsPot (c + 30000) o) → Q (.d V.d) [o]
  mono := sO.mono fun _ => sD.mono fun _ => sD.mono fun _ => sD.mono fun _ => sEnd.mono fun Q Q' hq ⟨c, S, p, n, e0, e1, e2, pre, q⟩ => ⟨c, S, p, n, e0, e1, e2, pre, fun V ph o h => hq _ _ (q V ph o h)⟩
def S_lletrun : PrmC where
  sp := sO 1 fun (ob : Ob) => sD fun (v1 : D) => sI fun (many : Int) => sEnd fun Q => ∃ (c : Nat) (W : Wat), v1 = W.d ∧ (IsPot c ob ∧ c ≤ 10 ^ 9 ∧ W.Ok ∧ 0 ≤ many ∧ many ≤ 100) ∧ ∀ (R : List (Nat × Nat)) (o : Ob), ((R.length : Int) = many ∧ RunOk W.signs W.deeds R ∧ IsPot (c + 300) o) → Q (.d (runD R)) [o]
  mono := sO.mono fun _ => sD.mono fun _ => sI.mono fun _ => sEnd.mono fun Q Q' hq ⟨c, W, e0, pre, q⟩ => ⟨c, W, e0, pre, fun R o h => hq _ _ (q R o h)⟩
def S_lispair30 : PrmC where
  sp := sD fun (v0 : D) => sD fun (v1 : D) => sD fun (v2 : D) => sEnd fun Q => ∃ (W1 : Wat) (W2 : Wat) (pr : Nat × Nat), v0 = (stepD pr) ∧ v1 = W1.d ∧ v2 = W2.d ∧ (pr.1 < W1.states.length ∧ pr.2 < W2.states.length ∧ W1.Ok ∧ W2.Ok) ∧ Q (.d (.bool true)) []
  mono := sD.mono fun _ => sD.mono fun _ => sD.mono fun _ => sEnd.mono fun Q Q' hq ⟨W1, W2, pr, e0, e1, e2, pre, q⟩ => ⟨W1, W2, pr, e0, e1, e2, pre, hq _ _ q⟩
def S_lpairs30 : PrmC where
  sp := sD fun (v0 : D) => sD fun (v1 : D) => sD fun (v2 : D) => sEnd fun Q => ∃ (one : Wat) (other : Wat) (n : Nat), v0 = one.d ∧ v1 = other.d ∧ v2 = (runD (srtP ((keysW (wN (letSay other) (letSay one) n)).map swp))) ∧ (one.Ok ∧ other.Ok ∧ other.signs = one.signs ∧ other.deeds = one.deeds ∧ WDone (letSay other) (letSay one) n) ∧ Q (.d (.bool true)) []
  mono := sD.mono fun _ => sD.mono fun _ => sD.mono fun _ => sEnd.mono fun Q Q' hq ⟨one, other, n, e0, e1, e2, pre, q⟩ => ⟨one, other, n, e0, e1, e2, pre, hq _ _ q⟩
def S_lright30 : PrmC where
  sp := sD fun (v0 : D) => sD fun (v1 : D) => sD fun (v2 : D) => sEnd fun Q => ∃ (one : Wat) (other : Wat) (n : Nat), v0 = one.d ∧ v1 = other.d ∧ v2 = (.tuple [.str "milder", runD (srtP ((keysW (wN (letSay other) (letSay one) n)).map swp))]) ∧ (one.Ok ∧ other.Ok ∧ other.signs = one.signs ∧ other.deeds = one.deeds ∧ WDone (letSay other) (letSay one) n) ∧ Q (.d (.bool true)) []
  mono := sD.mono fun _ => sD.mono fun _ => sD.mono fun _ => sEnd.mono fun Q Q' hq ⟨one, other, n, e0, e1, e2, pre, q⟩ => ⟨one, other, n, e0, e1, e2, pre, hq _ _ q⟩
def S_false2 : PrmC where
  sp := sD fun (x : D) => sD fun (y : D) => sEnd fun Q => (False) ∧ Q (.d .none) []
  mono := sD.mono fun _ => sD.mono fun _ => sEnd.mono fun Q Q' hq ⟨pre, q⟩ => ⟨pre, hq _ _ q⟩
def S_false3 : PrmC where
  sp := sD fun (x : D) => sD fun (y : D) => sD fun (z : D) => sEnd fun Q => (False) ∧ Q (.d .none) []
  mono := sD.mono fun _ => sD.mono fun _ => sD.mono fun _ => sEnd.mono fun Q Q' hq ⟨pre, q⟩ => ⟨pre, hq _ _ q⟩
def S_lnever30 : PrmC where
  sp := sD fun (v0 : D) => sD fun (v1 : D) => sD fun (v2 : D) => sD fun (v3 : D) => sD fun (v4 : D) => sEnd fun Q => ∃ (S : Say) (p : Prc) (n : Nat) (ph : Nat) (V : Wat) (R : List (Nat × Nat)), v0 = S.d ∧ v1 = (prcD p) ∧ v2 = (mildW S p (standN S p n)).d ∧ v3 = V.d ∧ v4 = (runD R) ∧ (S.Ok ∧ PrcOk S.deeds p ∧ Still S p n ∧ 0 ∈ standN S p n ∧ PhW S p (standN S p n) ph V ∧ V.Ok ∧ RunOk S.signs S.deeds R ∧ R.length ≤ 10000) ∧ Q (.d (.bool true)) []
  mono := sD.mono fun _ => sD.mono fun _ => sD.mono fun _ => sD.mono fun _ => sD.mono fun _ => sEnd.mono fun Q Q' hq ⟨S, p, n, ph, V, R, e0, e1, e2, e3, e4, pre, q⟩ => ⟨S, p, n, ph, V, R, e0, e1, e2, e3, e4, pre, hq _ _ q⟩
def S_lleast30 : PrmC where
  sp := sO 1 fun (ob : Ob) => sD fun (v1 : D) => sD fun (v2 : D) => sD fun (v3 : D) => sD fun (v4 : D) => sI fun (turns : Int) => sEnd fun Q => ∃ (c : Nat) (S : Say) (p : Prc) (n : Nat), v1 = S.d ∧ v2 = (prcD p) ∧ v3 = (.list (intsD (standN S p n))) ∧ v4 = (mildW S p (standN S p n)).d ∧ (IsPot c ob ∧ c ≤ 10 ^ 8 ∧ S.Ok ∧ PrcOk S.deeds p ∧ Still S p n ∧ 0 ∈ standN S p n ∧ 0 ≤ turns ∧ turns ≤ 2) ∧ ∀ (o : Ob), IsPot (c + 200000) o → Q (.d (.bool true)) [o]
  mono := sO.mono fun _ => sD.mono fun _ => sD.mono fun _ => sD.mono fun _ => sD.mono fun _ => sI.mono fun _ => sEnd.mono fun Q Q' hq ⟨c, S, p, n, e0, e1, e2, e3, pre, q⟩ => ⟨c, S, p, n, e0, e1, e2, e3, pre, fun o h => hq _ _ (q o h)⟩
def pairAt (M : Mac) (r : Nat) : Nat × Nat := (r / M.rooms.length, r % M.rooms.length)
def pairN (S : Say) (M : Mac) : Nat := S.rooms.length * M.rooms.length
def pairGo (S : Say) (M : Mac) (r s g : Nat) : Option Nat := (S.go (pairAt M r).1 s g).map fun x => x * M.rooms.length + (M.get (pairAt M r).2 s).2
def prodP (S : Say) (M : Mac) (p : Prc) : Say := ⟨S.signs, S.deeds, (List.range (pairN S M)).map fun r => (List.range S.signs.toNat).map fun s => (List.range S.deeds.toNat).map fun g => if (priceOf p (M.get (pairAt M r).2 s).1 g).isSome = true then pairGo S M r s g else none⟩
def okP (S : Say) (M : Mac) (p : Prc) (L : List Nat) (r s : Nat) : Bool := (answersN p S.deeds.toNat (M.get (pairAt M r).2 s).1).any fun g => inL L (pairGo S M r s g)
def loseP (S : Say) (M : Mac) (p : Prc) (L : List Nat) (r : Nat) : Option Nat := (List.range S.signs.toNat).find? fun s => !okP S M p L r s
structure PairOk (S : Say) (M : Mac) (p : Prc) : Prop where
  s : S.Ok
  m : M.Ok
  e1 : M.signs = S.signs
  e2 : M.deeds = S.deeds
  p : PrcOk S.deeds p
  r1 : S.rooms.length ≤ 24
  r2 : M.rooms.length ≤ 24
theorem PairOk.len {S : Say} {M : Mac} {p : Prc} (h : PairOk S M p) : 1 ≤ pairN S M ∧ pairN S M ≤ 576 := by
  have a1 := h.s.r1
  have a2 := h.m.r1
  unfold pairN
  exact ⟨Nat.mul_pos (by omega) (by omega), Nat.mul_le_mul h.r1 h.r2⟩
def twoD (M : Mac) (r : Nat) : D := stepD (pairAt M r)
def pairKV {α : Type} (M : Mac) (f : α → D) (xs : List (Nat × α)) : List (D × D) := xs.map fun q => (twoD M q.1, f q.2)
def hk24 : List Int := (List.range 576).map fun i => thash [some ((i / 24 : Nat) : Int), some ((i % 24 : Nat) : Int)]
def bitB : List Nat → Nat → Bool
  | [], _ => true
  | x :: xs, acc => !(acc.testBit x) && bitB xs (acc ||| (1 <<< x))
def prRow (M : Mac) (r : Nat) : Row := [some ((pairAt M r).1 : Int), some ((pairAt M r).2 : Int)]
def lostXV (q : Nat × (Nat × Nat)) : D := .tuple [.int (q.1 : Int), .int (q.2.1 : Int)]
def lostX (S : Say) (M : Mac) (p : Prc) (k : Nat) : List (D × D) := pairKV M lostXV (lostL (prodP S M p) none k)
def quadX (M : Mac) (q : Nat × (Nat × (Nat × Nat))) : D := quadD ((pairAt M q.1).1, (pairAt M q.1).2, q.2.1, q.2.2.1)
def rowsX (S : Say) (M : Mac) (p : Prc) (n : Nat) : List Quad := (lostL (prodP S M p) none n).mergeSort leQ
def toldX (S : Say) (M : Mac) (p : Prc) (n : Nat) : D := if 0 ∈ standN (prodP S M p) none n then .tuple [.str "kept", .tuple ((standN (prodP S M p) none n).map (twoD M))] else .tuple [.str "lost", .tuple ((rowsX S M p n).map (quadX M))]
def OffL (S : Say) (M : Mac) (L : List Nat) (ds : List (D × D)) : Prop := ∀ (c : Option Nat) (t : Nat), (∀ x, c = some x → x < S.rooms.length) → t < M.rooms.length → (xgetD ds (.tuple [cellD c, .int (t : Int)])).isSome = (c.isSome && !inL L (c.map fun x => x * M.rooms.length + t))
def leftKV (M : Mac) (L : List Nat) : List (D × D) := L.map fun r => (twoD M r, .bool true)
def PairsGX (S : Say) (M : Mac) (p : Prc) (x : D) : Prop := ∃ L : List Nat, x = .tuple (L.map (twoD M)) ∧ (∀ r ∈ L, r < pairN S M) ∧ 0 ∈ L ∧ L.Pairwise (· < ·) ∧ ∀ r ∈ L, loseP S M p L r = none
def FallX (S : Say) (M : Mac) (p : Prc) (qs : List Quad) (q : Quad) : Prop := ∀ g ∈ answersN p S.deeds.toNat (M.get (pairAt M q.1).2 q.2.2.1).1, ∀ k, pairGo S M q.1 q.2.2.1 g = some k → ∃ q' ∈ qs, q'.1 = k ∧ q'.2.1 < q.2.1
def RowXOk (S : Say) (M : Mac) (q : Quad) : Prop := q.1 < pairN S M ∧ 1 ≤ q.2.1 ∧ (q.2.2.1 : Int) < S.signs
def RowsGX (S : Say) (M : Mac) (p : Prc) (x : D) : Prop := ∃ qs : List Quad, x = .tuple (qs.map (quadX M)) ∧ (∀ q ∈ qs, RowXOk S M q) ∧ (qs.map (·.1)).Pairwise (· < ·) ∧ (∀ q ∈ qs, FallX S M p qs q) ∧ 0 ∈ qs.map (·.1)
def WithGood (S : Say) (M : Mac) (p : Prc) (x : D) : Prop := (∃ y, x = .tuple [.str "kept", y] ∧ PairsGX S M p y) ∨ (∃ y, x = .tuple [.str "lost", y] ∧ RowsGX S M p y)
def rowXB (S : Say) (M : Mac) (d : D) : Bool := match d with | .tuple [a, b, c, e] => isB a S.rooms.length && isB b M.rooms.length && (isW c && decide (1 ≤ intOf c)) && isB e S.signs | _ => false
def rankKV (M : Mac) (qs : List Quad) : List (D × D) := qs.map fun q => (twoD M q.1, .int (q.2.1 : Int))
def RowsG3 (S : Say) (M : Mac) (p : Prc) (qs : List Quad) : Prop := (qs.map (·.1)).Pairwise (· < ·) ∧ (∀ q ∈ qs, FallX S M p qs q) ∧ 0 ∈ qs.map (·.1)
def S_need_with : PrmC where
  sp := sD fun (v0 : D) => sD fun (v1 : D) => sD fun (v2 : D) => sEnd fun Q => ∃ (S : Say) (M : Mac) (p : Prc), v0 = S.d ∧ v1 = M.d ∧ v2 = (prcD p) ∧ (PairOk S M p) ∧ Q (.d .none) []
  mono := sD.mono fun _ => sD.mono fun _ => sD.mono fun _ => sEnd.mono fun Q Q' hq ⟨S, M, p, e0, e1, e2, pre, q⟩ => ⟨S, M, p, e0, e1, e2, pre, hq _ _ q⟩
def S_pairs_of : PrmC where
  sp := sD fun (v0 : D) => sD fun (v1 : D) => sEnd fun Q => ∃ (S : Say) (M : Mac), v0 = S.d ∧ v1 = M.d ∧ (S.Ok ∧ M.Ok ∧ S.rooms.length ≤ 24 ∧ M.rooms.length ≤ 24) ∧ Q (.d (.list ((List.range (pairN S M)).map (twoD M)))) []
  mono := sD.mono fun _ => sD.mono fun _ => sEnd.mono fun Q Q' hq ⟨S, M, e0, e1, pre, q⟩ => ⟨S, M, e0, e1, pre, hq _ _ q⟩
def S_sign_against : PrmC where
  sp := sD fun (v0 : D) => sD fun (v1 : D) => sD fun (v2 : D) => sD fun (v3 : D) => sO 5 fun (v4 : Ob) => sEnd fun Q => ∃ (S : Say) (M : Mac) (p : Prc) (L : List Nat) (ds : List (D × D)) (r : Nat), v0 = S.d ∧ v1 = M.d ∧ v2 = (prcD p) ∧ v3 = (twoD M r) ∧ v4 = (.dcT ds) ∧ (PairOk S M p ∧ r < pairN S M ∧ OffL S M L ds) ∧ Q (.d (cellD (loseP S M p L r))) [.dcT ds]
  mono := sD.mono fun _ => sD.mono fun _ => sD.mono fun _ => sD.mono fun _ => sO.mono fun _ => sEnd.mono fun Q Q' hq ⟨S, M, p, L, ds, r, e0, e1, e2, e3, e4, pre, q⟩ => ⟨S, M, p, L, ds, r, e0, e1, e2, e3, e4, pre, hq _ _ q⟩
def S_lost_pairs : PrmC where
  sp := sD fun (v0 : D) => sD fun (v1 : D) => sD fun (v2 : D) => sEnd fun Q => ∃ (S : Say) (M : Mac) (p : Prc), v0 = S.d ∧ v1 = M.d ∧ v2 = (prcD p) ∧ (PairOk S M p) ∧ ∀ (n : Nat), Still (prodP S M p) none n → Q (.own (.dcT (lostX S M p n))) []
  mono := sD.mono fun _ => sD.mono fun _ => sD.mono fun _ => sEnd.mono fun Q Q' hq ⟨S, M, p, e0, e1, e2, pre, q⟩ => ⟨S, M, p, e0, e1, e2, pre, fun n h => hq _ _ (q n h)⟩
def S_kept_pairs : PrmC where
  sp := sD fun (v0 : D) => sD fun (v1 : D) => sD fun (v2 : D) => sEnd fun Q => ∃ (S : Say) (M : Mac) (p : Prc), v0 = S.d ∧ v1 = M.d ∧ v2 = (prcD p) ∧ (PairOk S M p) ∧ ∀ (n : Nat), Still (prodP S M p) none n → Q (.d (.tuple ((standN (prodP S M p) none n).map (twoD M)))) []
  mono := sD.mono fun _ => sD.mono fun _ => sD.mono fun _ => sEnd.mono fun Q Q' hq ⟨S, M, p, e0, e1, e2, pre, q⟩ => ⟨S, M, p, e0, e1, e2, pre, fun n h => hq _ _ (q n h)⟩
def S_kept_with : PrmC where
  sp := sD fun (v0 : D) => sD fun (v1 : D) => sD fun (v2 : D) => sEnd fun Q => ∃ (S : Say) (M : Mac) (p : Prc), v0 = S.d ∧ v1 = M.d ∧ v2 = (prcD p) ∧ (PairOk S M p) ∧ ∀ (n : Nat), Still (prodP S M p) none n → Q (.d (toldX S M p n)) []
  mono := sD.mono fun _ => sD.mono fun _ => sD.mono fun _ => sEnd.mono fun Q Q' hq ⟨S, M, p, e0, e1, e2, pre, q⟩ => ⟨S, M, p, e0, e1, e2, pre, fun n h => hq _ _ (q n h)⟩
def S_lpairheld : PrmC where
  sp := sD fun (v0 : D) => sD fun (v1 : D) => sD fun (v2 : D) => sO 4 fun (v3 : Ob) => sD fun (v4 : D) => sEnd fun Q => ∃ (S : Say) (M : Mac) (p : Prc) (L : List Nat) (r : Nat), v0 = S.d ∧ v1 = (prcD p) ∧ v2 = M.d ∧ v3 = (.dcT (leftKV M L)) ∧ v4 = (twoD M r) ∧ (PairOk S M p ∧ r < pairN S M) ∧ Q (.d (.bool (decide (loseP S M p L r = none)))) [.dcT (leftKV M L)]
  mono := sD.mono fun _ => sD.mono fun _ => sD.mono fun _ => sO.mono fun _ => sD.mono fun _ => sEnd.mono fun Q Q' hq ⟨S, M, p, L, r, e0, e1, e2, e3, e4, pre, q⟩ => ⟨S, M, p, L, r, e0, e1, e2, e3, e4, pre, hq _ _ q⟩
def S_lpairswith : PrmC where
  sp := sD fun (v0 : D) => sD fun (v1 : D) => sD fun (v2 : D) => sEnd fun Q => ∃ (S : Say) (M : Mac) (p : Prc), v0 = S.d ∧ v1 = (prcD p) ∧ v2 = M.d ∧ (PairOk S M p) ∧ ∀ (n : Nat), Still (prodP S M p) none n → Q (.d (.list ((standN (prodP S M p) none n).map (twoD M)))) []
  mono := sD.mono fun _ => sD.mono fun _ => sD.mono fun _ => sEnd.mono fun Q Q' hq ⟨S, M, p, e0, e1, e2, pre, q⟩ => ⟨S, M, p, e0, e1, e2, pre, fun n h => hq _ _ (q n h)⟩
def S_lispair : PrmC where
  sp := sD fun (d : D) => sI fun (m : Int) => sI fun (n : Int) => sEnd fun Q => (True) ∧ Q (.d (.bool (stepB m n d))) []
  mono := sD.mono fun _ => sI.mono fun _ => sI.mono fun _ => sEnd.mono fun Q Q' hq ⟨pre, q⟩ => ⟨pre, hq _ _ q⟩
def S_lpairskept : PrmC where
  sp := sD fun (v0 : D) => sD fun (v1 : D) => sD fun (v2 : D) => sD fun (x : D) => sEnd fun Q => ∃ (S : Say) (M : Mac) (p : Prc), v0 = S.d ∧ v1 = (prcD p) ∧ v2 = M.d ∧ (PairOk S M p ∧ (∀ xs, x = .tuple xs → xs.length ≤ 4000)) ∧ ∀ (b : Bool), (b = true ↔ PairsGX S M p x) → Q (.d (.bool b)) []
  mono := sD.mono fun _ => sD.mono fun _ => sD.mono fun _ => sD.mono fun _ => sEnd.mono fun Q Q' hq ⟨S, M, p, e0, e1, e2, pre, q⟩ => ⟨S, M, p, e0, e1, e2, pre, fun b h => hq _ _ (q b h)⟩
def S_llostrow : PrmC where
  sp := sD fun (v0 : D) => sD fun (v1 : D) => sD fun (d : D) => sEnd fun Q => ∃ (S : Say) (M : Mac), v0 = S.d ∧ v1 = M.d ∧ (S.Ok ∧ M.Ok ∧ M.signs = S.signs) ∧ Q (.d (.bool (rowXB S M d))) []
  mono := sD.mono fun _ => sD.mono fun _ => sD.mono fun _ => sEnd.mono fun Q Q' hq ⟨S, M, e0, e1, pre, q⟩ => ⟨S, M, e0, e1, pre, hq _ _ q⟩
def S_lrowslost : PrmC where
  sp := sD fun (v0 : D) => sD fun (v1 : D) => sD fun (v2 : D) => sD fun (x : D) => sEnd fun Q => ∃ (S : Say) (M : Mac) (p : Prc), v0 = S.d ∧ v1 = (prcD p) ∧ v2 = M.d ∧ (PairOk S M p ∧ (∀ xs, x = .tuple xs → xs.length ≤ 4000)) ∧ ∀ (b : Bool), (b = true ↔ RowsGX S M p x) → Q (.d (.bool b)) []
  mono := sD.mono fun _ => sD.mono fun _ => sD.mono fun _ => sD.mono fun _ => sEnd.mono fun Q Q' hq ⟨S, M, p, e0, e1, e2, pre, q⟩ => ⟨S, M, p, e0, e1, e2, pre, fun b h => hq _ _ (q b h)⟩
def S_lwithright : PrmC where
  sp := sD fun (v0 : D) => sD fun (v1 : D) => sD fun (v2 : D) => sD fun (x : D) => sEnd fun Q => ∃ (S : Say) (M : Mac) (p : Prc), v0 = S.d ∧ v1 = (prcD p) ∧ v2 = M.d ∧ (PairOk S M p ∧ thin x) ∧ ∀ (b : Bool), (b = true ↔ WithGood S M p x) → Q (.d (.bool b)) []
  mono := sD.mono fun _ => sD.mono fun _ => sD.mono fun _ => sD.mono fun _ => sEnd.mono fun Q Q' hq ⟨S, M, p, e0, e1, e2, pre, q⟩ => ⟨S, M, p, e0, e1, e2, pre, fun b h => hq _ _ (q b h)⟩
def S_lworlds54 : PrmC where
  sp := sO 1 fun (ob : Ob) => sI fun (wide : Int) => sEnd fun Q => ∃ (c : Nat), (IsPot c ob ∧ c ≤ 10 ^ 9 ∧ (wide = 0 ∨ wide = 1)) ∧ ∀ (S : Say) (p : Prc) (M : Mac) (o : Ob), (PairOk S M p ∧ IsPot (c + 10 ^ 8) o) → Q (.d (.tuple [S.d, prcD p, M.d])) [o]
  mono := sO.mono fun _ => sI.mono fun _ => sEnd.mono fun Q Q' hq ⟨c, pre, q⟩ => ⟨c, pre, fun S p M o h => hq _ _ (q S p M o h)⟩
def S_lrings54 : PrmC where
  sp := sO 1 fun (ob : Ob) => sEnd fun Q => ∃ (c : Nat), (IsPot c ob ∧ c ≤ 10 ^ 9) ∧ ∀ (S : Say) (M : Mac) (o : Ob), ((S.Ok ∧ M.Ok ∧ M.signs = S.signs ∧ M.deeds = S.deeds ∧ S.deeds = 2 ∧ S.rooms.length ≤ 24 ∧ M.rooms.length ≤ 24) ∧ IsPot (c + 1) o) → Q (.d (.tuple [S.d, M.d])) [o]
  mono := sO.mono fun _ => sEnd.mono fun Q Q' hq ⟨c, pre, q⟩ => ⟨c, pre, fun S M o h => hq _ _ (q S M o h)⟩
def S_lright54 : PrmC where
  sp := sD fun (v0 : D) => sD fun (v1 : D) => sD fun (v2 : D) => sEnd fun Q => ∃ (S : Say) (M : Mac) (p : Prc), v0 = S.d ∧ v1 = (prcD p) ∧ v2 = M.d ∧ (PairOk S M p) ∧ Q (.d (.bool true)) []
  mono := sD.mono fun _ => sD.mono fun _ => sD.mono fun _ => sEnd.mono fun Q Q' hq ⟨S, M, p, e0, e1, e2, pre, q⟩ => ⟨S, M, p, e0, e1, e2, pre, hq _ _ q⟩
def macWat (M : Mac) : Wat := ⟨M.signs, M.deeds, M.rooms.map fun row => row.map fun p => List.replicate M.deeds.toNat p⟩
abbrev macSay (M : Mac) : Say := letSay (macWat M)
def wayO : Option ((Nat × Nat) × (Nat × Nat)) → D
  | none => .none
  | some z => .tuple [stepD z.1, .int (z.2.1 : Int)]
def wayKO (p : Way) : D × D := (stepD p.1, wayO p.2.1)
def signsW (p : Way) : List Nat := p.2.2.map (·.1)
def ToldO (M : Mac) (S : Say) (x : D) : Prop := (∃ n, WDone (macSay M) S n ∧ x = .tuple [.str "obeys", runD (srtP (keysW (wN (macSay M) S n)))]) ∨ (∃ n j p, WBey (macSay M) S n j p ∧ x = .tuple [.str "breaks", .tuple (intsD ((p.2.2 ++ [stepAt (macSay M) j]).map (·.1)))])
structure ObeyOk (M : Mac) (S : Say) : Prop where
  m : M.Ok
  s : S.Ok
  e1 : M.signs = S.signs
  e2 : M.deeds = S.deeds
structure ObK (M : Mac) (S : Say) (K : List (Nat × Nat)) : Prop where
  lt : ∀ z ∈ K, z.1 < M.rooms.length ∧ z.2 < S.rooms.length
  zero : (0, 0) ∈ K
  cl : ∀ z ∈ K, ∀ s : Nat, (s : Int) < S.signs → ∃ b, S.go z.2 s (M.get z.1 s).1 = some b ∧ ((M.get z.1 s).2, b) ∈ K
def keepPr (S : Say) (M : Mac) (p : Prc) (L : List Nat) (r s : Nat) : List Nat := (answersN p S.deeds.toNat (M.get (pairAt M r).2 s).1).filter fun g => inL L (pairGo S M r s g)
def madeCell (S : Say) (M : Mac) (p : Prc) (L : List Nat) (r s : Nat) : Nat × Nat := (((keepPr S M p L r s)[0]?).getD 0, idxP L ((pairGo S M r s (((keepPr S M p L r s)[0]?).getD 0)).getD 0))
def madeRow (S : Say) (M : Mac) (p : Prc) (L : List Nat) (r s : Nat) : List (Nat × Nat) := ((List.range M.deeds.toNat).map fun w => (w, 0)).set (M.get (pairAt M r).2 s).1 (madeCell S M p L r s)
def madeW (S : Say) (M : Mac) (p : Prc) (L : List Nat) : Wat := ⟨M.signs, M.deeds, L.map fun r => (List.range M.signs.toNat).map (madeRow S M p L r)⟩
def Few (S : Say) (M : Mac) : Prop := S.rooms.length ≤ 9 ∧ M.rooms.length ≤ 9
structure ClosedX (S : Say) (M : Mac) (p : Prc) (L : List Nat) : Prop where
  lt : ∀ r ∈ L, r < pairN S M
  nd : L.Nodup
  len : L.length ≤ 81
  ok : ∀ r ∈ L, ∀ s : Nat, (s : Int) < S.signs → okP S M p L r s = true
  zero : L[0]? = some 0
def bpKV (M : Mac) (qs : List Quad) : List (D × D) := qs.map fun q => (twoD M q.1, .tuple [.int (q.2.1 : Int), .int (q.2.2.1 : Int)])
def AnsW (S : Say) (p : Prc) (W : Wat) : Prop := ∀ st s d : Nat, st < W.states.length → (s : Int) < S.signs → (d : Int) < S.deeds → (W.get st s d).1 ∈ answersN p S.deeds.toNat d
def X_watched (cc : Str → Addr) : PrmX where
  p := fun ws Q E => (sD fun (x : D) => sD fun (y : D) => sEnd fun Q => ∃ (M : Mac) (W : Wat), (x = M.d ∧ y = W.d ∧ M.Ok ∧ W.Ok ∧ W.signs = M.signs ∧ W.deeds = M.deeds) ∧ (∀ n, Done M W n → Q (.d (prodM M W n).d) []) ∧ (Wid M W → E ⟨.ref (cc "TooWide"), none⟩)) ws Q
  mono := fun ws Q Q' E E' hq he h0 => by
    obtain ⟨x, ws0, rfl, h1⟩ := sD.inv h0; obtain ⟨y, ws1, rfl, h2⟩ := sD.inv h1; obtain ⟨rfl, h⟩ := sEnd.inv h2
    show ∃ (M : Mac) (W : Wat), (x = M.d ∧ y = W.d ∧ M.Ok ∧ W.Ok ∧ W.signs = M.signs ∧ W.deeds = M.deeds) ∧ (∀ n, Done M W n → Q' (.d (prodM M W n).d) []) ∧ (Wid M W → E' ⟨.ref (cc "TooWide"), none⟩)
    repeat' (first | exact h | exact hq _ _ h | exact he _ h | exact fun r => hq _ _ (h r) | exact fun r => he _ (h r) | exact fun r e => hq _ _ (h r e) | (refine br.imp h (fun h => ?_) (fun h => ?_)) | (refine And.imp_right (fun h => ?_) h) | (refine Exists.imp (fun w h => ?_) h) | (refine And.imp (fun h => ?_) (fun h => ?_) h))
def S_signs_to : PrmC where
  sp := sD fun (v0 : D) => sO 2 fun (v1 : Ob) => sEnd fun Q => ∃ (A : Say) (B : Say) (W : List Way) (i : Nat) (p : Way), v0 = (stepD p.1) ∧ v1 = (.dcT (W.map wayKO)) ∧ (WOk A B W ∧ W[i]? = some p ∧ W.length ≤ 10000) ∧ Q (.d (.tuple (intsD (signsW p)))) [.dcT (W.map wayKO)]
  mono := sD.mono fun _ => sO.mono fun _ => sEnd.mono fun Q Q' hq ⟨A, B, W, i, p, e0, e1, pre, q⟩ => ⟨A, B, W, i, p, e0, e1, pre, hq _ _ q⟩
def S_obeys_or_breaks : PrmC where
  sp := sD fun (v0 : D) => sD fun (v1 : D) => sEnd fun Q => ∃ (M : Mac) (S : Say), v0 = M.d ∧ v1 = S.d ∧ (ObeyOk M S) ∧ ∀ (x : D), ToldO M S x → Q (.d x) []
  mono := sD.mono fun _ => sD.mono fun _ => sEnd.mono fun Q Q' hq ⟨M, S, e0, e1, pre, q⟩ => ⟨M, S, e0, e1, pre, fun x h => hq _ _ (q x h)⟩
def S_lmade : PrmC where
  sp := sD fun (v0 : D) => sD fun (v1 : D) => sD fun (v2 : D) => sD fun (v3 : D) => sEnd fun Q => ∃ (S : Say) (M : Mac) (p : Prc) (L : List Nat), v0 = S.d ∧ v1 = (prcD p) ∧ v2 = M.d ∧ v3 = (.list (L.map (twoD M))) ∧ (PairOk S M p ∧ ClosedX S M p L) ∧ Q (.d (madeW S M p L).d) []
  mono := sD.mono fun _ => sD.mono fun _ => sD.mono fun _ => sD.mono fun _ => sEnd.mono fun Q Q' hq ⟨S, M, p, L, e0, e1, e2, e3, pre, q⟩ => ⟨S, M, p, L, e0, e1, e2, e3, pre, hq _ _ q⟩
def S_lgoeson : PrmC where
  sp := sO 1 fun (ob : Ob) => sD fun (v1 : D) => sD fun (v2 : D) => sD fun (v3 : D) => sD fun (v4 : D) => sI fun (many : Int) => sEnd fun Q => ∃ (c : Nat) (S : Say) (M : Mac) (p : Prc) (L : List Nat), v1 = S.d ∧ v2 = (prcD p) ∧ v3 = M.d ∧ v4 = (.list (L.map (twoD M))) ∧ (IsPot c ob ∧ c ≤ 10 ^ 10 ∧ PairOk S M p ∧ ClosedX S M p L ∧ 0 ≤ many ∧ many ≤ 100) ∧ ∀ (o : Ob), IsPot (c + 200) o → Q (.d (.bool true)) [o]
  mono := sO.mono fun _ => sD.mono fun _ => sD.mono fun _ => sD.mono fun _ => sD.mono fun _ => sI.mono fun _ => sEnd.mono fun Q Q' hq ⟨c, S, M, p, L, e0, e1, e2, e3, pre, q⟩ => ⟨c, S, M, p, L, e0, e1, e2, e3, pre, fun o h => hq _ _ (q o h)⟩
def S_lanswering : PrmC where
  sp := sO 1 fun (ob : Ob) => sD fun (v1 : D) => sD fun (v2 : D) => sI fun (states : Int) => sEnd fun Q => ∃ (c : Nat) (S : Say) (p : Prc), v1 = S.d ∧ v2 = (prcD p) ∧ (IsPot c ob ∧ c ≤ 10 ^ 10 ∧ S.Ok ∧ PrcOk S.deeds p ∧ 1 ≤ states ∧ states ≤ 5) ∧ ∀ (W : Wat) (o : Ob), ((W.Ok ∧ W.signs = S.signs ∧ W.deeds = S.deeds ∧ W.states.length ≤ 5) ∧ AnsW S p W ∧ IsPot (c + 1000) o) → Q (.d W.d) [o]
  mono := sO.mono fun _ => sD.mono fun _ => sD.mono fun _ => sI.mono fun _ => sEnd.mono fun Q Q' hq ⟨c, S, p, e0, e1, pre, q⟩ => ⟨c, S, p, e0, e1, pre, fun W o h => hq _ _ (q W o h)⟩
def S_lbreakssoon : PrmC where
  sp := sO 1 fun (ob : Ob) => sD fun (v1 : D) => sD fun (v2 : D) => sD fun (v3 : D) => sD fun (v4 : D) => sEnd fun Q => ∃ (c : Nat) (S : Say) (M : Mac) (p : Prc) (n : Nat), v1 = S.d ∧ v2 = (prcD p) ∧ v3 = M.d ∧ v4 = (.tuple ((rowsX S M p n).map (quadX M))) ∧ (IsPot c ob ∧ c ≤ 10 ^ 10 ∧ PairOk S M p ∧ Few S M ∧ Still (prodP S M p) none n ∧ 0 ∉ standN (prodP S M p) none n) ∧ ∀ (o : Ob), IsPot (c + 200) o → Q (.d (.bool true)) [o]
  mono := sO.mono fun _ => sD.mono fun _ => sD.mono fun _ => sD.mono fun _ => sD.mono fun _ => sEnd.mono fun Q Q' hq ⟨c, S, M, p, n, e0, e1, e2, e3, pre, q⟩ => ⟨c, S, M, p, n, e0, e1, e2, e3, pre, fun o h => hq _ _ (q o h)⟩
def S_lkeptshown : PrmC where
  sp := sO 1 fun (ob : Ob) => sD fun (v1 : D) => sD fun (v2 : D) => sD fun (v3 : D) => sD fun (v4 : D) => sEnd fun Q => ∃ (c : Nat) (S : Say) (M : Mac) (p : Prc) (n : Nat), v1 = S.d ∧ v2 = (prcD p) ∧ v3 = M.d ∧ v4 = (.tuple ((standN (prodP S M p) none n).map (twoD M))) ∧ (IsPot c ob ∧ c ≤ 10 ^ 9 ∧ PairOk S M p ∧ Few S M ∧ Still (prodP S M p) none n ∧ 0 ∈ standN (prodP S M p) none n) ∧ ∀ (o : Ob), IsPot (c + 10000) o → Q (.d (.bool true)) [o]
  mono := sO.mono fun _ => sD.mono fun _ => sD.mono fun _ => sD.mono fun _ => sD.mono fun _ => sEnd.mono fun Q Q' hq ⟨c, S, M, p, n, e0, e1, e2, e3, pre, q⟩ => ⟨c, S, M, p, n, e0, e1, e2, e3, pre, fun o h => hq _ _ (q o h)⟩
def S_llostshown : PrmC where
  sp := sO 1 fun (ob : Ob) => sD fun (v1 : D) => sD fun (v2 : D) => sD fun (v3 : D) => sD fun (v4 : D) => sEnd fun Q => ∃ (c : Nat) (S : Say) (M : Mac) (p : Prc) (n : Nat), v1 = S.d ∧ v2 = (prcD p) ∧ v3 = M.d ∧ v4 = (.tuple ((rowsX S M p n).map (quadX M))) ∧ (IsPot c ob ∧ c ≤ 10 ^ 9 ∧ PairOk S M p ∧ Few S M ∧ Still (prodP S M p) none n ∧ 0 ∉ standN (prodP S M p) none n) ∧ ∀ (o : Ob), IsPot (c + 10000) o → Q (.d (.bool true)) [o]
  mono := sO.mono fun _ => sD.mono fun _ => sD.mono fun _ => sD.mono fun _ => sD.mono fun _ => sEnd.mono fun Q Q' hq ⟨c, S, M, p, n, e0, e1, e2, e3, pre, q⟩ => ⟨c, S, M, p, n, e0, e1, e2, e3, pre, fun o h => hq _ _ (q o h)⟩
set_option maxHeartbeats 4000000
def goneY (S : Say) (rs ms : List Nat) (d : Nat) : List (Option Nat) := rs.flatMap fun r => ms.map fun s => S.go r s d
def goneS (S : Say) (rs ms : List Nat) (d : Nat) : List Nat := (List.range S.rooms.length).filter fun k => decide (some k ∈ goneY S rs ms d)
def goneB (S : Say) (rs ms : List Nat) (d : Nat) : Option Rw := if none ∈ goneY S rs ms d then none else some ((goneS S rs ms d).map some)
def membC (C : List Nat) (one : Nat) : List Nat := (List.range C.length).filter fun s => decide (C[s]? = some one)
def manyF (m : Nat) (C : List Nat) : Nat := C.foldl (fun m c => max m (c + 1)) m
def manyC (C : List Nat) : Nat := manyF 0 C
def clsF : Nat → List Nat → Prop
  | _, [] => True
  | m, c :: r => c ≤ m ∧ clsF (max m (c + 1)) r
structure ClsOk (i : Int) (C : List Nat) : Prop where
  len : (C.length : Int) = i
  i1 : 1 ≤ i
  i9 : i ≤ 9
  cls : clsF 0 C
def membersD (C : List Nat) : D := .list ((List.range (manyC C)).map fun one => .list (intsD (membC C one)))
def clsD (C : List Nat) : D := .tuple (intsD C)
def stepBl (S : Say) (C : List Nat) (r : Rw) (one d : Nat) : Option Rw := goneB S (r.filterMap id) (membC C one) d
structure BlOk (S : Say) (C : List Nat) : Prop where
  ok : S.Ok
  r6 : S.rooms.length ≤ 6
  cl : ClsOk S.signs C
def blS [TabsC] (S : Say) (C : List Nat) (n : Nat) : Say := ⟨(manyC C : Int), S.deeds, fcT (manyC C) S.deeds.toNat (stepBl S C) [some 0] n⟩
structure LtOkS (S : Say) : Prop where
  ok : S.Ok
  r6 : S.rooms.length ≤ 6
def lateAt (S : Say) (r : Rw) (t : Nat) : Nat := match r with
  | [some a, some d] => (S.go a t d).getD 0
  | _ => 0
def anyBr (S : Say) (a d : Nat) : Bool := (List.range S.signs.toNat).any fun s => (S.go a s d).isNone
def stepLt (S : Say) (r : Rw) (t d : Nat) : Option Rw := if anyBr S (lateAt S r t) d = true then none else some [some (lateAt S r t), some d]
def OkLt (S : Say) (r : Rw) : Prop := r = [] ∨ ∃ a d, r = [some a, some d] ∧ a < S.rooms.length ∧ (d : Int) < S.deeds ∧ anyBr S a d = false
def ltS [TabsC] (S : Say) (n : Nat) : Say := ⟨S.signs, S.deeds, fcT S.signs.toNat S.deeds.toNat (stepLt S) [] n⟩
def OkB (S : Say) (r : Rw) : Prop := ∃ p : Nat → Bool, r = ((List.range S.rooms.length).filter p).map some
section
variable [TabsC]
theorem lt_key {S : Say} {r : Rw} {t : Nat} (hS : S.Ok) (h : OkLt S r) (ht : (t : Int) < S.signs) : (r = [] ∨ ∃ a d k, r = [some a, some d] ∧ a < S.rooms.length ∧ (d : Int) < S.deeds ∧ S.go a t d = some k) ∧ lateAt S r t < S.rooms.length := by
  rcases h with rfl | ⟨a, d, rfl, ha, hd, hb⟩
  · exact ⟨.inl rfl, hS.r1⟩
  · cases e : S.go a t d with
    | none =>
      exfalso
      have h1 := List.any_eq_false.mp hb t (List.mem_range.mpr (by omega))
      rw [e] at h1
      exact h1 rfl
    | some k =>
      refine ⟨.inr ⟨a, d, k, rfl, ha, hd, e⟩, ?_⟩
      have := go_lt hS e
      simpa [lateAt, e] using this
theorem go_cells {S : Say} (hS : S.Ok) {a d : Nat} (ha : a < S.rooms.length) (hd : (d : Int) < S.deeds) : ∃ room, atI (S.rooms.map roomD) (a : Int) = some (roomD room) ∧ room.length = S.signs.toNat ∧ ∀ (s : Nat) (row : Rw), room[s]? = some row → atI (row.map cellD) (d : Int) = some (cellD (S.go a s d)) := by
  obtain ⟨room, h1, h2⟩ := atI_map (f := roomD) (xs := S.rooms) (i := (a : Int)) (by omega) (by omega)
  have h2' : S.rooms[a]? = some room := by simpa using h2
  obtain ⟨k1, k2⟩ := hS.wf room (List.mem_of_getElem? h2')
  refine ⟨room, h1, by omega, fun s row hs => ?_⟩
  obtain ⟨k3, k4⟩ := k2 row (List.mem_of_getElem? hs)
  obtain ⟨c, h5, h6⟩ := atI_map (f := cellD) (xs := row) (i := (d : Int)) (by omega) (by omega)
  have h6' : row[d]? = some c := by simpa using h6
  rw [h5]
  congr 2
  unfold Say.go
  rw [h2']
  simp [hs, h6']
def subsL : List Nat → List (List Nat)
  | [] => [[]]
  | x :: xs => subsL xs ++ (subsL xs).map (x :: ·)
theorem stepLt_ok {S : Say} (hS : S.Ok) : ∀ r s d r', OkLt S r → s < S.signs.toNat → d < S.deeds.toNat → stepLt S r s d = some r' → OkLt S r' := fun r s d r' hr hs hd e => by
  have h1 := hS.s1
  have h2 := hS.d1
  unfold stepLt at e
  split at e
  · cases e
  · rename_i h
    cases e
    exact .inr ⟨_, _, rfl, (lt_key hS hr (by omega)).2, by omega, by simpa using h⟩
def cellKV (c : Option Nat) : D × D := (cellD c, .bool true)
def walkR (step : Rw → Nat → Nat → Option Rw) : Rw → List (Nat × Nat) → Option Rw
  | r, [] => some r
  | r, p :: ps => match step r p.1 p.2 with | none => none | some r' => walkR step r' ps
def rowsR (step : Rw → Nat → Nat → Option Rw) : Rw → List (Nat × Nat) → List Rw
  | r, [] => [r]
  | r, p :: ps => match step r p.1 p.2 with | none => [r] | some r' => r :: rowsR step r' ps
structure StepsOk (T : Say) (R : List (Nat × Nat)) : Prop where
  ok : RunOk T.signs T.deeds R
  len : R.length ≤ 63
  one : R ≠ []
  on : (endR T 0 R.dropLast).isSome = true
def PickR (C : List Nat) : List (Nat × Nat) → List (Nat × Nat) → Prop
  | [], [] => True
  | p :: ps, q :: qs => q.1 ∈ membC C p.1 ∧ q.2 = p.2 ∧ PickR C ps qs
  | _, _ => False
def setsL (S : Say) (C : List Nat) : List Nat → List (Nat × Nat) → List (List Nat)
  | rs, [] => [rs]
  | rs, p :: ps => rs :: setsL S C (goneS S rs (membC C p.1) p.2) ps
def GoesB (S : Say) (C : List Nat) : List Nat → List (Nat × Nat) → Prop
  | _, [] => True
  | rs, p :: ps => none ∉ goneY S rs (membC C p.1) p.2 ∧ GoesB S C (goneS S rs (membC C p.1) p.2) ps
def aheadD : Option (Nat × Nat) → D
  | none => .none
  | some p => stepD p
def setsD (Ls : List (List Nat)) : D := .list (Ls.map fun L => rowD (L.map some))
theorem endR_take {S : Say} : ∀ (R : List (Nat × Nat)) (r k : Nat), (endR S r R).isSome = true → (endR S r (R.take k)).isSome = true
  | [], r, k, h => by simpa using h
  | q :: ps, r, 0, h => rfl
  | q :: ps, r, k + 1, h => by
    simp only [List.take_succ_cons, endR] at h ⊢
    cases e : S.go r q.1 q.2 with
    | none => simp [e] at h
    | some y => rw [e] at h; exact endR_take ps y k h
theorem StepsOk.take {T : Say} {R : List (Nat × Nat)} (h : StepsOk T R) {k : Nat} (hk : 1 ≤ k) : StepsOk T (R.take k) := by
  refine ⟨RunOk.take h.ok k, by have := h.len; rw [List.length_take]; omega, fun z => ?_, ?_⟩
  · have h0 := congrArg List.length z
    have h1 := List.length_pos_iff.mpr h.one
    rw [List.length_take, List.length_nil] at h0
    omega
  · have h2 := endR_take R.dropLast 0 (k - 1) h.on
    rw [List.dropLast_eq_take, List.take_take] at h2
    rw [List.dropLast_eq_take, List.take_take, List.length_take, show min (min k R.length - 1) k = min (k - 1) (R.length - 1) by omega]
    exact h2
def shiftR (R : List (Nat × Nat)) (m : Nat) : List (Nat × Nat) := (List.range m).map fun k => ((R[k + 1]?.getD (0, 0)).1, (R[k]?.getD (0, 0)).2)
def lbk (S : Say) (a d m s : Nat) : Option Nat := if (S.go a s d).isNone = true then some m else none
end
def S_are_classes : PrmC where
  sp := sI fun (i : Int) => sD fun (v1 : D) => sEnd fun Q => ∃ (C : List Nat), v1 = (clsD C) ∧ (ClsOk i C) ∧ Q (.d (.bool true)) []
  mono := sI.mono fun _ => sD.mono fun _ => sEnd.mono fun Q Q' hq ⟨C, e0, pre, q⟩ => ⟨C, e0, pre, hq _ _ q⟩
def S_need_classes : PrmC where
  sp := sI fun (i : Int) => sD fun (v1 : D) => sEnd fun Q => ∃ (C : List Nat), v1 = (clsD C) ∧ (ClsOk i C) ∧ Q (.d .none) []
  mono := sI.mono fun _ => sD.mono fun _ => sEnd.mono fun Q Q' hq ⟨C, e0, pre, q⟩ => ⟨C, e0, pre, hq _ _ q⟩
def S_many_of : PrmC where
  sp := sD fun (v0 : D) => sEnd fun Q => ∃ (C : List Nat), v0 = (clsD C) ∧ (C ≠ [] ∧ C.length ≤ 100) ∧ Q (.d (.int (manyC C : Int))) []
  mono := sD.mono fun _ => sEnd.mono fun Q Q' hq ⟨C, e0, pre, q⟩ => ⟨C, e0, pre, hq _ _ q⟩
def S_come_to : PrmC where
  sp := sD fun (v0 : D) => sD fun (v1 : D) => sD fun (v2 : D) => sEnd fun Q => ∃ (S : Say) (r : Rw) (t : Nat), v0 = S.d ∧ v1 = (rowD r) ∧ v2 = (.int (t : Int)) ∧ (S.Ok ∧ (t : Int) < S.signs ∧ (r = [] ∨ ∃ a d k, r = [some a, some d] ∧ a < S.rooms.length ∧ (d : Int) < S.deeds ∧ S.go a t d = some k)) ∧ Q (.d (.int ((lateAt S r t : Nat) : Int))) []
  mono := sD.mono fun _ => sD.mono fun _ => sD.mono fun _ => sEnd.mono fun Q Q' hq ⟨S, r, t, e0, e1, e2, pre, q⟩ => ⟨S, r, t, e0, e1, e2, pre, hq _ _ q⟩
def S_breaks_by : PrmC where
  sp := sD fun (v0 : D) => sD fun (v1 : D) => sD fun (v2 : D) => sEnd fun Q => ∃ (S : Say) (a : Nat) (d : Nat), v0 = S.d ∧ v1 = (.int (a : Int)) ∧ v2 = (.int (d : Int)) ∧ (S.Ok ∧ a < S.rooms.length ∧ (d : Int) < S.deeds) ∧ Q (.d (.bool (anyBr S a d))) []
  mono := sD.mono fun _ => sD.mono fun _ => sD.mono fun _ => sEnd.mono fun Q Q' hq ⟨S, a, d, e0, e1, e2, pre, q⟩ => ⟨S, a, d, e0, e1, e2, pre, hq _ _ q⟩
def X_blur (cc : Str → Addr) : PrmX where
  p := fun ws Q E => (sD fun (x : D) => sD fun (y : D) => sEnd fun Q => ∃ (S : Say) (C : List Nat), (x = S.d ∧ y = clsD C ∧ BlOk S C) ∧ ∀ n, FDone (manyC C) S.deeds.toNat (stepBl S C) [some 0] n → Q (.d (.tuple [.tuple ((fcC (manyC C) S.deeds.toNat (stepBl S C) [some 0] n).map rowD), (blS S C n).d])) []) ws Q
  mono := fun ws Q Q' E E' hq he h0 => by
    obtain ⟨x, ws0, rfl, h1⟩ := sD.inv h0; obtain ⟨y, ws1, rfl, h2⟩ := sD.inv h1; obtain ⟨rfl, h⟩ := sEnd.inv h2
    show ∃ (S : Say) (C : List Nat), (x = S.d ∧ y = clsD C ∧ BlOk S C) ∧ ∀ n, FDone (manyC C) S.deeds.toNat (stepBl S C) [some 0] n → Q' (.d (.tuple [.tuple ((fcC (manyC C) S.deeds.toNat (stepBl S C) [some 0] n).map rowD), (blS S C n).d])) []
    repeat' (first | exact h | exact hq _ _ h | exact he _ h | exact fun r => hq _ _ (h r) | exact fun r => he _ (h r) | exact fun r e => hq _ _ (h r e) | (refine br.imp h (fun h => ?_) (fun h => ?_)) | (refine And.imp_right (fun h => ?_) h) | (refine Exists.imp (fun w h => ?_) h) | (refine And.imp (fun h => ?_) (fun h => ?_) h))
def S_blurred : PrmC where
  sp := sD fun (v0 : D) => sD fun (v1 : D) => sEnd fun Q => ∃ (S : Say) (C : List Nat), v0 = S.d ∧ v1 = (clsD C) ∧ (BlOk S C) ∧ ∀ (n : Nat), FDone (manyC C) S.deeds.toNat (stepBl S C) [some 0] n → Q (.d (blS S C n).d) []
  mono := sD.mono fun _ => sD.mono fun _ => sEnd.mono fun Q Q' hq ⟨S, C, e0, e1, pre, q⟩ => ⟨S, C, e0, e1, pre, fun n h => hq _ _ (q n h)⟩
def S_rblurred : PrmC where
  sp := sD fun (v0 : D) => sD fun (v1 : D) => sEnd fun Q => ∃ (S : Say) (C : List Nat), v0 = S.d ∧ v1 = (clsD C) ∧ (BlOk S C) ∧ ∀ (n : Nat), FDone (manyC C) S.deeds.toNat (stepBl S C) [some 0] n → Q (.d (.tuple ((fcC (manyC C) S.deeds.toNat (stepBl S C) [some 0] n).map rowD))) []
  mono := sD.mono fun _ => sD.mono fun _ => sEnd.mono fun Q Q' hq ⟨S, C, e0, e1, pre, q⟩ => ⟨S, C, e0, e1, pre, fun n h => hq _ _ (q n h)⟩
def X_lag (cc : Str → Addr) : PrmX where
  p := fun ws Q E => (sD fun (x : D) => sEnd fun Q => ∃ (S : Say), (x = S.d ∧ LtOkS S) ∧ ∀ n, FDone S.signs.toNat S.deeds.toNat (stepLt S) [] n → Q (.d (.tuple [.tuple ((fcC S.signs.toNat S.deeds.toNat (stepLt S) [] n).map rowD), (ltS S n).d])) []) ws Q
  mono := fun ws Q Q' E E' hq he h0 => by
    obtain ⟨x, ws0, rfl, h1⟩ := sD.inv h0; obtain ⟨rfl, h⟩ := sEnd.inv h1
    show ∃ (S : Say), (x = S.d ∧ LtOkS S) ∧ ∀ n, FDone S.signs.toNat S.deeds.toNat (stepLt S) [] n → Q' (.d (.tuple [.tuple ((fcC S.signs.toNat S.deeds.toNat (stepLt S) [] n).map rowD), (ltS S n).d])) []
    repeat' (first | exact h | exact hq _ _ h | exact he _ h | exact fun r => hq _ _ (h r) | exact fun r => he _ (h r) | exact fun r e => hq _ _ (h r e) | (refine br.imp h (fun h => ?_) (fun h => ?_)) | (refine And.imp_right (fun h => ?_) h) | (refine Exists.imp (fun w h => ?_) h) | (refine And.imp (fun h => ?_) (fun h => ?_) h))
def S_late : PrmC where
  sp := sD fun (v0 : D) => sEnd fun Q => ∃ (S : Say), v0 = S.d ∧ (LtOkS S) ∧ ∀ (n : Nat), FDone S.signs.toNat S.deeds.toNat (stepLt S) [] n → Q (.d (ltS S n).d) []
  mono := sD.mono fun _ => sEnd.mono fun Q Q' hq ⟨S, e0, pre, q⟩ => ⟨S, e0, pre, fun n h => hq _ _ (q n h)⟩
def S_rlate : PrmC where
  sp := sD fun (v0 : D) => sEnd fun Q => ∃ (S : Say), v0 = S.d ∧ (LtOkS S) ∧ ∀ (n : Nat), FDone S.signs.toNat S.deeds.toNat (stepLt S) [] n → Q (.d (.tuple ((fcC S.signs.toNat S.deeds.toNat (stepLt S) [] n).map rowD))) []
  mono := sD.mono fun _ => sEnd.mono fun Q Q' hq ⟨S, e0, pre, q⟩ => ⟨S, e0, pre, fun n h => hq _ _ (q n h)⟩
def S_lsteps77 : PrmC where
  sp := sR fun (v0 : List D) => sD fun (v1 : D) => sD fun (v2 : D) => sEnd fun Q => ∃ (ns : List Int) (T : Say), v0 = (ns.map .int) ∧ v1 = T.d ∧ v2 = (.int T.signs) ∧ (T.Ok) ∧ ∀ (R : List (Nat × Nat)), StepsOk T R → Q (.d (runD R)) []
  mono := sR.mono fun _ => sD.mono fun _ => sD.mono fun _ => sEnd.mono fun Q Q' hq ⟨ns, T, e0, e1, e2, pre, q⟩ => ⟨ns, T, e0, e1, e2, pre, fun R h => hq _ _ (q R h)⟩
def S_lsignsof : PrmC where
  sp := sD fun (v0 : D) => sD fun (v1 : D) => sEnd fun Q => ∃ (C : List Nat) (c : Nat), v0 = (clsD C) ∧ v1 = (.int (c : Int)) ∧ (C.length ≤ 100) ∧ Q (.d (.list (intsD (membC C c)))) []
  mono := sD.mono fun _ => sD.mono fun _ => sEnd.mono fun Q Q' hq ⟨C, c, e0, e1, pre, q⟩ => ⟨C, c, e0, e1, pre, hq _ _ q⟩
def S_lclasses : PrmC where
  sp := sO 1 fun (ob : Ob) => sI fun (i : Int) => sEnd fun Q => ∃ (c : Nat), (IsPot c ob ∧ c ≤ 10 ^ 10 ∧ 1 ≤ i ∧ i ≤ 9) ∧ ∀ (C : List Nat) (o : Ob), (ClsOk i C ∧ IsPot (c + 9) o) → Q (.d (clsD C)) [o]
  mono := sO.mono fun _ => sI.mono fun _ => sEnd.mono fun Q Q' hq ⟨c, pre, q⟩ => ⟨c, pre, fun C o h => hq _ _ (q C o h)⟩
def S_lonerun : PrmC where
  sp := sO 1 fun (ob : Ob) => sD fun (v1 : D) => sD fun (v2 : D) => sEnd fun Q => ∃ (c : Nat) (C : List Nat) (G : List (Nat × Nat)), v1 = (runD G) ∧ v2 = (clsD C) ∧ (IsPot c ob ∧ c ≤ 10 ^ 10 ∧ C.length ≤ 9 ∧ (∀ p ∈ G, membC C p.1 ≠ []) ∧ G.length ≤ 100) ∧ ∀ (R : List (Nat × Nat)) (o : Ob), (PickR C G R ∧ IsPot (c + 100) o) → Q (.d (runD R)) [o]
  mono := sO.mono fun _ => sD.mono fun _ => sD.mono fun _ => sEnd.mono fun Q Q' hq ⟨c, C, G, e0, e1, pre, q⟩ => ⟨c, C, G, e0, e1, pre, fun R o h => hq _ _ (q R o h)⟩
def S_lled : PrmC where
  sp := sD fun (v0 : D) => sD fun (v1 : D) => sD fun (v2 : D) => sD fun (v3 : D) => sD fun (v4 : D) => sEnd fun Q => ∃ (S : Say) (C : List Nat) (G : List (Nat × Nat)) (x : Nat) (Lx : List Nat), v0 = S.d ∧ v1 = (clsD C) ∧ v2 = (runD G) ∧ v3 = (setsD (setsL S C [0] G)) ∧ v4 = (.int (x : Int)) ∧ (S.Ok ∧ ClsOk S.signs C ∧ RunOk (manyC C : Int) S.deeds G ∧ G.length ≤ 100 ∧ (setsL S C [0] G)[G.length]? = some Lx ∧ x ∈ Lx) ∧ ∀ (R : List (Nat × Nat)), (PickR C G R ∧ endR S 0 R = some x) → Q (.d (runD R)) []
  mono := sD.mono fun _ => sD.mono fun _ => sD.mono fun _ => sD.mono fun _ => sD.mono fun _ => sEnd.mono fun Q Q' hq ⟨S, C, G, x, Lx, e0, e1, e2, e3, e4, pre, q⟩ => ⟨S, C, G, x, Lx, e0, e1, e2, e3, e4, pre, fun R h => hq _ _ (q R h)⟩
def S_lseen : PrmC where
  sp := sR fun (v0 : List D) => sO 2 fun (ob : Ob) => sD fun (v2 : D) => sD fun (v3 : D) => sEnd fun Q => ∃ (ns : List Int) (c : Nat) (S : Say) (C : List Nat), v0 = (ns.map .int) ∧ v2 = S.d ∧ v3 = (clsD C) ∧ (IsPot c ob ∧ c ≤ 10 ^ 9 ∧ BlOk S C) ∧ ∀ (o : Ob), IsPot (c + 400) o → Q (.d (.bool true)) [o]
  mono := sR.mono fun _ => sO.mono fun _ => sD.mono fun _ => sD.mono fun _ => sEnd.mono fun Q Q' hq ⟨ns, c, S, C, e0, e1, e2, pre, q⟩ => ⟨ns, c, S, C, e0, e1, e2, pre, fun o h => hq _ _ (q o h)⟩
def S_llate : PrmC where
  sp := sR fun (v0 : List D) => sD fun (v1 : D) => sEnd fun Q => ∃ (ns : List Int) (S : Say), v0 = (ns.map .int) ∧ v1 = S.d ∧ (LtOkS S) ∧ Q (.d (.bool true)) []
  mono := sR.mono fun _ => sD.mono fun _ => sEnd.mono fun Q Q' hq ⟨ns, S, e0, e1, pre, q⟩ => ⟨ns, S, e0, e1, pre, hq _ _ q⟩
def S_goneon : PrmC where
  sp := sD fun (v0 : D) => sD fun (v1 : D) => sD fun (v2 : D) => sD fun (v3 : D) => sEnd fun Q => ∃ (S : Say) (rs : List Nat) (ms : List Nat) (d : Nat), v0 = S.d ∧ v1 = (.list (intsD ms)) ∧ v2 = (rowD (rs.map some)) ∧ v3 = (.int (d : Int)) ∧ (S.Ok ∧ S.rooms.length ≤ 60 ∧ (∀ r ∈ rs, r < S.rooms.length) ∧ (∀ s ∈ ms, (s : Int) < S.signs) ∧ (d : Int) < S.deeds ∧ rs.length ≤ 100 ∧ ms.length ≤ 100) ∧ Q (.d (rowO (goneB S rs ms d))) []
  mono := sD.mono fun _ => sD.mono fun _ => sD.mono fun _ => sD.mono fun _ => sEnd.mono fun Q Q' hq ⟨S, rs, ms, d, e0, e1, e2, e3, pre, q⟩ => ⟨S, rs, ms, d, e0, e1, e2, e3, pre, hq _ _ q⟩
section
variable {S : Say} {C : List Nat} {n : Nat}
def RelB (S : Say) (C : List Nat) (n x a : Nat) : Prop := (∃ L : List Nat, (fcC (manyC C) S.deeds.toNat (stepBl S C) [some 0] n)[x]? = some (L.map some) ∧ a ∈ L) ∧ a < S.rooms.length
end
section
variable {S : Say} {n : Nat}
def oneC (S : Say) : List Nat := List.range S.signs.toNat
end
section
variable {S : Say} {n : Nat}
def shiftT : Nat → List (Nat × Nat) → List (Nat × Nat)
  | _, [] => []
  | t, p :: r => (t, p.2) :: shiftT p.1 r
def RelL (S : Say) (n x t b : Nat) : Prop := ∃ r, (fcC S.signs.toNat S.deeds.toNat (stepLt S) [] n)[x]? = some r ∧ OkLt S r ∧ (t : Int) < S.signs ∧ b = lateAt S r t
end
def nInt (x : D) : Int := match x with | .int n => n | _ => 0
def rowAt (y : D) (w g : Nat) : D := match y with
  | .tuple rows => (match rows[w]? with | some (.tuple r) => r[g]?.getD .none | _ => .none)
  | _ => .int (if w = g then 0 else 1)
def nest2 : Nat → D → Prop
  | 0, d => (match d with | .none => True | .int _ => True | .str _ => True | .bool _ => True | _ => False)
  | n + 1, d => (match d with | .none => True | .int _ => True | .str _ => True | .bool _ => True | .tuple xs => xs.length ≤ 4000 ∧ ∀ x ∈ xs, nest2 n x | _ => False)
def Shw (y : D) : Prop := Okd (10 ^ 45) y ∧ y.depth ≤ 40 ∧ wgD y ≤ 400000
def SzD (n B W : Nat) (d : D) : Prop := Okd B d ∧ d.depth ≤ n ∧ wgD d ≤ W
def Odds (B : Nat) (os : List D) : Prop := (1 ≤ os.length ∧ os.length ≤ 100) ∧ ∀ o ∈ os, SzD 2 B 30 o
theorem SzD.shw {n B W : Nat} {d : D} (h : SzD n B W d) (h1 : n ≤ 40) (h2 : B ≤ 10 ^ 45) (h3 : W ≤ 400000) : Shw d := ⟨h.1.mono h2, Nat.le_trans h.2.1 h1, Nat.le_trans h.2.2 h3⟩
def S_same2 (n : Nat) : PrmC where
  sp := sD fun (x : D) => sD fun (y : D) => sEnd fun Q => (x = y ∧ nest2 n y) ∧ Q (.d (.bool true)) []
  mono := sD.mono fun _ => sD.mono fun _ => sEnd.mono fun Q Q' hq ⟨pre, q⟩ => ⟨pre, hq _ _ q⟩
def S_lisprices : PrmC where
  sp := sI fun (n : Int) => sD fun (d : D) => sEnd fun Q => (1 ≤ n ∧ n ≤ 9) ∧ Q (.d (.bool (pricesB n d))) []
  mono := sI.mono fun _ => sD.mono fun _ => sEnd.mono fun Q Q' hq ⟨pre, q⟩ => ⟨pre, hq _ _ q⟩
def S_lsquare : PrmC where
  sp := sO 1 fun (ob : Ob) => sI fun (n : Int) => sEnd fun Q => ∃ (c : Nat), (IsPot c ob ∧ c ≤ 10 ^ 9 ∧ 0 ≤ n ∧ n ≤ 10) ∧ ∀ (y : D) (o : Ob), (Shw y ∧ IsPot (c + 1000) o) → Q (.d y) [o]
  mono := sO.mono fun _ => sI.mono fun _ => sEnd.mono fun Q Q' hq ⟨c, pre, q⟩ => ⟨c, pre, fun y o h => hq _ _ (q y o h)⟩
def S_lother (k : Nat) : PrmC where
  sp := sO 1 fun (ob : Ob) => sD fun (x : D) => sD fun (v2 : D) => sEnd fun Q => ∃ (c : Nat) (n : Nat) (B : Nat) (Wt : Nat) (os : List D), v2 = (.list os) ∧ (IsPot c ob ∧ SzD n B Wt x ∧ n ≤ k ∧ c + 4 * k ≤ 10 ^ 10 ∧ Odds B os ∧ (k ≤ 8 ∧ Wt ≤ 10 ^ 6)) ∧ ∀ (y : D) (o : Ob), (SzD (n + 2) (B + 2) (2 * Wt + 40) y ∧ IsPot (c + (4 * k + 4)) o) → Q (.d y) [o]
  mono := sO.mono fun _ => sD.mono fun _ => sD.mono fun _ => sEnd.mono fun Q Q' hq ⟨c, n, B, Wt, os, e0, pre, q⟩ => ⟨c, n, B, Wt, os, e0, pre, fun y o h => hq _ _ (q y o h)⟩
theorem wgDs_le {n : Nat} : ∀ xs : List D, (∀ x ∈ xs, wgD x ≤ n) → wgDs xs ≤ xs.length * n
  | [], _ => by simp [wgDs]
  | x :: xs, h => by
    have h1 := h x List.mem_cons_self
    have h2 := wgDs_le xs fun y hy => h y (List.mem_cons_of_mem _ hy)
    rw [wgDs, List.length_cons, Nat.add_mul, Nat.one_mul]; omega
theorem wgD_one : ∀ d : D, 1 ≤ wgD d := fun d => by cases d <;> simp [wgD] <;> omega
theorem wgDs_len : ∀ xs : List D, xs.length ≤ wgDs xs
  | [] => by simp [wgDs]
  | x :: xs => by
    have h1 := wgD_one x
    have h2 := wgDs_len xs
    simp only [List.length_cons, wgDs]; omega
theorem SzD.odd {n B W : Nat} {o : D} (h : SzD 2 B 30 o) : SzD (n + 2) (B + 2) (2 * W + 40) o := ⟨h.1.mono (by omega), by have := h.2.1; omega, by have := h.2.2; omega⟩
theorem SzD.int {n B W : Nat} {i e : Int} (h : Okd B (.int i)) (he : e.natAbs ≤ 2) : SzD (n + 2) (B + 2) (2 * W + 40) (.int (i + e)) := by
  cases h with
  | int h => exact ⟨.int (by omega), by simp [PyData.depth], by simp only [wgD]; omega⟩
theorem three_at (w : Nat) : ∃ e : Int, atI [(PyData.int 1 : D), .int (-1), .int 2] ((w : Int) % 3) = some (.int e) ∧ e.natAbs ≤ 2 := by
  have : (w : Int) % 3 = 0 ∨ (w : Int) % 3 = 1 ∨ (w : Int) % 3 = 2 := by omega
  rcases this with h | h | h <;> rw [h]
  · exact ⟨1, rfl, by decide⟩
  · exact ⟨-1, rfl, by decide⟩
  · exact ⟨2, rfl, by decide⟩
theorem depth_le_all {x : D} : ∀ {xs : List D}, x ∈ xs → x.depth ≤ PyData.depthAll xs
  | y :: ys, h => by
    simp only [PyData.depthAll]
    rcases List.mem_cons.mp h with rfl | h
    · omega
    · have := depth_le_all h; omega
theorem wgDs_take_drop (xs : List D) (a : Nat) : wgDs (xs.take a) + wgDs (xs.drop a) = wgDs xs := by rw [← wgD_app, List.take_append_drop]
theorem wgDs_at {xs : List D} {a : Nat} {e : D} (h : xs[a]? = some e) : wgDs (xs.drop a) = wgD e + wgDs (xs.drop (a + 1)) := by
  obtain ⟨h1, h2⟩ := List.getElem?_eq_some_iff.mp h
  rw [List.drop_eq_getElem_cons h1, h2]; rfl
theorem sz_put {B m W a : Nat} {xs : List D} {e r : D} (he : xs[a]? = some e) (hok : ∀ y ∈ xs, Okd B y) (hd : ∀ y ∈ xs, y.depth ≤ m) (hW : 1 + wgDs xs ≤ W) (h : SzD (m + 2) (B + 2) (2 * wgD e + 40) r) : SzD (m + 1 + 2) (B + 2) (2 * W + 40) (.tuple (xs.take a ++ [r] ++ xs.drop (a + 1))) := by
  have h1 := wgDs_take_drop xs a
  have h2 := wgDs_at he
  refine ⟨.tup fun y hy => ?_, ?_, ?_⟩
  · rcases List.mem_append.mp hy with hy | hy
    · rcases List.mem_append.mp hy with hy | hy
      · exact (hok y (List.mem_of_mem_take hy)).mono (by omega)
      · rw [List.mem_singleton.mp hy]; exact h.1
    · exact (hok y (List.mem_of_mem_drop hy)).mono (by omega)
  · have := sh_depth (k := m + 2) (xs.take a ++ [r] ++ xs.drop (a + 1)) fun y hy => by
      rcases List.mem_append.mp hy with hy | hy
      · rcases List.mem_append.mp hy with hy | hy
        · exact Nat.le_trans (hd y (List.mem_of_mem_take hy)) (by omega)
        · rw [List.mem_singleton.mp hy]; exact h.2.1
      · exact Nat.le_trans (hd y (List.mem_of_mem_drop hy)) (by omega)
    simp only [PyData.depth]; omega
  · have := h.2.2
    simp only [wgD, wgD_app, wgDs]; omega
theorem sz_of {B m W : Nat} {xs : List D} (hok : ∀ y ∈ xs, Okd B y) (hd : ∀ y ∈ xs, y.depth ≤ m) (hw : 1 + wgDs xs ≤ W) : SzD (m + 1) B W (.tuple xs) := ⟨.tup hok, by have := sh_depth xs hd; simp only [PyData.depth]; omega, by simpa only [wgD] using hw⟩
theorem SzD.mono {n B W n' B' W' : Nat} {d : D} (h : SzD n B W d) (h1 : n ≤ n') (h2 : B ≤ B') (h3 : W ≤ W') : SzD n' B' W' d := ⟨h.1.mono h2, Nat.le_trans h.2.1 h1, Nat.le_trans h.2.2 h3⟩
theorem mem_td {α : Type} {xs : List α} {a b : Nat} {y : α} (h : y ∈ xs.take a ++ xs.drop b) : y ∈ xs := (List.mem_append.mp h).elim List.mem_of_mem_take List.mem_of_mem_drop
theorem sz_cut {B m W a : Nat} {xs : List D} {e : D} (he : xs[a]? = some e) (hok : ∀ y ∈ xs, Okd B y) (hd : ∀ y ∈ xs, y.depth ≤ m) (hW : 1 + wgDs xs ≤ W) : SzD (m + 1 + 2) (B + 2) (2 * W + 40) (.tuple (xs.take a ++ xs.drop ((a : Int) + 1).toNat)) := by
  rw [show ((a : Int) + 1).toNat = a + 1 by omega]
  refine (sz_of (fun y hy => hok y (mem_td hy)) (fun y hy => hd y (mem_td hy)) (W := W) ?_).mono (by omega) (by omega) (by omega)
  have h1 := wgDs_take_drop xs a
  have h2 := wgDs_at he
  rw [wgD_app]; omega
theorem sz_dup {B m W a : Nat} {xs : List D} {e : D} (he : xs[a]? = some e) (hok : ∀ y ∈ xs, Okd B y) (hd : ∀ y ∈ xs, y.depth ≤ m) (hW : 1 + wgDs xs ≤ W) : SzD (m + 1 + 2) (B + 2) (2 * W + 40) (.tuple (xs.take ((a : Int) + 1).toNat ++ xs.drop ((a : Int)).toNat)) := by
  rw [show ((a : Int) + 1).toNat = a + 1 by omega, show ((a : Int)).toNat = a by omega]
  refine (sz_of (fun y hy => hok y (mem_td hy)) (fun y hy => hd y (mem_td hy)) (W := 2 * W) ?_).mono (by omega) (by omega) (by omega)
  have h1 := wgDs_take_drop xs a
  have h2 := wgDs_take_drop xs (a + 1)
  rw [wgD_app]; omega
theorem sz_app {B m W : Nat} {xs : List D} {o : D} (hok : ∀ y ∈ xs, Okd B y) (hd : ∀ y ∈ xs, y.depth ≤ m) (hW : 1 + wgDs xs ≤ W) (ho : SzD 2 B 30 o) : SzD (m + 1 + 2) (B + 2) (2 * W + 40) (.tuple (xs ++ [o])) := by
  refine (sz_of (B := B) (m := m + 2) (fun y hy => ?_) (fun y hy => ?_) (W := W + 30) ?_).mono (by omega) (by omega) (by omega)
  · rcases List.mem_append.mp hy with hy | hy
    · exact hok y hy
    · rw [List.mem_singleton.mp hy]; exact ho.1
  · rcases List.mem_append.mp hy with hy | hy
    · have := hd y hy; omega
    · rw [List.mem_singleton.mp hy]; have := ho.2.1; omega
  · have := ho.2.2
    rw [wgD_app]; simp only [wgDs]; omega
mutual
def okdB (B : Nat) : D → Bool
  | .none => true
  | .bool _ => true
  | .int i => decide (i.natAbs < B)
  | .str x => decide ((PyData.shown (.str x)).length ≤ 80)
  | .tuple xs => okdBs B xs
  | .list xs => okdBs B xs
  | .dict [] => true
  | _ => false
def okdBs (B : Nat) : List D → Bool
  | [] => true
  | x :: xs => okdB B x && okdBs B xs
end
mutual
theorem okd_of {B : Nat} : ∀ d : D, okdB B d = true → Okd B d
  | .none, _ => .non
  | .bool _, _ => .bl
  | .int i, h => .int (by simpa [okdB] using h)
  | .str x, h => .str (by simpa [okdB] using h)
  | .tuple xs, h => .tup (okds_of xs (by simpa [okdB] using h))
  | .list xs, h => .lst (okds_of xs (by simpa [okdB] using h))
  | .dict [], _ => .emp
  | .dict (x :: xs), h => by simp [okdB] at h
theorem okds_of {B : Nat} : ∀ xs : List D, okdBs B xs = true → ∀ x ∈ xs, Okd B x
  | [], _ => fun x h => nomatch h
  | y :: ys, h => by
    simp only [okdBs, Bool.and_eq_true] at h
    have h1 := okd_of y h.1
    have h2 := okds_of ys h.2
    exact List.forall_mem_cons.mpr ⟨h1, h2⟩
end
theorem odds_of {B : Nat} {os : List D} (h : (decide (1 ≤ os.length) && decide (os.length ≤ 100) && okdBs B os && os.all fun o => decide (o.depth ≤ 2) && decide (wgD o ≤ 30)) = true) : Odds B os := by
  simp only [Bool.and_eq_true, decide_eq_true_eq, List.all_eq_true] at h
  obtain ⟨⟨⟨h1, h2⟩, h3⟩, h4⟩ := h
  exact ⟨⟨h1, h2⟩, fun o ho => ⟨okds_of os h3 o ho, (h4 o ho).1, (h4 o ho).2⟩⟩
theorem sz_three {n B a b c : Nat} {x y z : D} (h1 : SzD n B a x) (h2 : SzD n B b y) (h3 : SzD n B c z) : SzD (n + 1) B (1 + (a + (b + c))) (.tuple [x, y, z]) := by
  refine sz_of (fun w hw => ?_) (fun w hw => ?_) ?_
  · simp only [List.mem_cons, List.not_mem_nil, or_false] at hw
    rcases hw with rfl | rfl | rfl
    · exact h1.1
    · exact h2.1
    · exact h3.1
  · simp only [List.mem_cons, List.not_mem_nil, or_false] at hw
    rcases hw with rfl | rfl | rfl
    · exact h1.2.1
    · exact h2.2.1
    · exact h3.2.1
  · have := h1.2.2
    have := h2.2.2
    have := h3.2.2
    simp only [wgDs]; omega
theorem sz_map {α : Type} {n B a m : Nat} {f : α → D} {xs : List α} (h : ∀ x ∈ xs, SzD n B a (f x)) (hl : xs.length ≤ m) : SzD (n + 1) B (1 + m * a) (.tuple (xs.map f)) := by
  have h2 : ∀ y ∈ xs.map f, SzD n B a y := fun y hy => by obtain ⟨x, hx, rfl⟩ := List.mem_map.mp hy; exact h x hx
  have hw := wgDs_le (n := a) (xs.map f) fun c h => (h2 c h).2.2
  rw [List.length_map] at hw
  have := Nat.mul_le_mul_right a hl
  exact sz_of (fun c h => (h2 c h).1) (fun c h => (h2 c h).2.1) (by omega)
theorem sz_int {B : Nat} {i : Int} (h : i.natAbs < B) : SzD 0 B 3 (.int i) := ⟨.int h, by simp [PyData.depth], by simp [wgD]⟩
theorem say_sz {B : Nat} {S : Say} (hB : 1000 ≤ B) (hS : S.Ok) : SzD 4 B 30000 S.d := by
  have h1 := hS.s1
  have h2 := hS.s9
  have h3 := hS.d1
  have h4 := hS.d9
  have h5 := hS.r100
  have ht : SzD 3 B (1 + 100 * (1 + 9 * (1 + 9 * 3))) (.tuple (S.rooms.map roomD)) := sz_map (fun room hroom => by
    obtain ⟨g1, g2⟩ := hS.wf room hroom
    exact sz_map (fun row hrow => by
      obtain ⟨g3, g4⟩ := g2 row hrow
      exact sz_map (fun c hc => by
        cases c with
        | none => exact ⟨.non, by simp [cellD, PyData.depth], by simp [cellD, wgD]⟩
        | some k => exact sz_int (by have := g4 k hc; omega)) (by omega)) (by omega)) h5
  exact (sz_three ((sz_int (by omega)).mono (Nat.zero_le 3) (Nat.le_refl _) (Nat.le_refl _)) ((sz_int (by omega)).mono (Nat.zero_le 3) (Nat.le_refl _) (Nat.le_refl _)) ht).mono (by omega) (by omega) (by omega)
def S_lissay : PrmC where
  sp := sD fun (d : D) => sEnd fun Q => (True) ∧ Q (.d (.bool (sayB d))) []
  mono := sD.mono fun _ => sEnd.mono fun Q Q' hq ⟨pre, q⟩ => ⟨pre, hq _ _ q⟩
end M3
set_option Elab.async false
set_option linter.all false
set_option maxRecDepth 100000
set_option maxHeartbeats 4000000
namespace K75
open PySem L2 M3 NdefX LamX
theorem kit_typ {K : PySem.W.Frag} {A : Addr} {T : String} {b : Bool} (hm : PySem.W.kitMeta T = true) (h : PySem.W.subIn K (.ref A) (.type T) = some b) : PySem.W.kitOne K (.ref A) (.type T) = some b := by
  unfold PySem.W.kitOne
  rw [if_neg (fun e => by have := eq_of_beq e; cases this)]
  show (if PySem.W.kitMeta T = true then PySem.W.subIn K (.ref A) (.type T) else none) = some b
  rw [if_pos hm]; exact h
def topS (i : Nat) : Stmt := PySem.Challenge.pw_mildwarden_k75_late.main.body.getD i (.Pass ⟨0, 0, 0, 0⟩)
structure Txt (mg : Str → Option Value) : Prop where
  b_ValueError : mg "ValueError" = none
  b_abs : mg "abs" = none
  b_all : mg "all" = none
  b_any : mg "any" = none
  b_at : mg "at" = none
  b_bool : mg "bool" = none
  b_deed : mg "deed" = none
  b_int : mg "int" = none
  b_isinstance : mg "isinstance" = none
  b_len : mg "len" = none
  b_list : mg "list" = none
  b_max : mg "max" = none
  b_min : mg "min" = none
  b_range : mg "range" = none
  b_repr : mg "repr" = none
  b_room : mg "room" = none
  b_str : mg "str" = none
  b_told : mg "told" = none
  b_tuple : mg "tuple" = none
  b_zip : mg "zip" = none
  c_MOST : ∃ t, mg "MOST" = some (.int 100 t)
  c_WIDE : ∃ t, mg "WIDE" = some (.int 9 t)
abbrev s__law_pot : Stmt := topS 32
theorem sc__law_pot : FnScope ["script", "k", "cell"] ["script", "k"] (defScope s__law_pot) := ⟨rfl, rfl, rfl, by decide +kernel, rfl, by decide +kernel, by decide +kernel⟩
abbrev s__law_take : Stmt := topS 33
theorem sc__law_take : FnScope ["pot", "many", "found", "one", "other"] ["pot", "many"] (defScope s__law_take) := ⟨rfl, rfl, rfl, by decide +kernel, rfl, by decide +kernel, by decide +kernel⟩
abbrev s__law_room : Stmt := topS 36
theorem sc__law_room : FnScope ["pot", "rooms", "rate"] ["pot", "rooms", "rate"] (defScope s__law_room) := ⟨rfl, rfl, rfl, by decide +kernel, rfl, by decide +kernel, by decide +kernel⟩
abbrev s__law_saying : Stmt := topS 37
theorem sc__law_saying : FnScope ["pot", "signs", "deeds", "rooms", "rate", "table", "room", "s", "d"] ["pot", "signs", "deeds", "rooms", "rate"] (defScope s__law_saying) := ⟨rfl, rfl, rfl, by decide +kernel, rfl, by decide +kernel, by decide +kernel⟩
abbrev s__law_any : Stmt := topS 44
theorem sc__law_any : FnScope ["pot", "k", "way", "rooms"] ["pot", "k"] (defScope s__law_any) := ⟨rfl, rfl, rfl, by decide +kernel, rfl, by decide +kernel, by decide +kernel⟩
abbrev s__law_whole : Stmt := topS 35
theorem sc__law_whole : FnScope ["found"] ["found"] (defScope s__law_whole) := ⟨rfl, rfl, rfl, by decide +kernel, rfl, by decide +kernel, by decide +kernel⟩
abbrev s__law_other : Stmt := topS 38
theorem sc__law_other : FnScope ["pot", "thing", "odds", "way", "odd", "at", "some"] ["pot", "thing", "odds"] (defScope s__law_other) := ⟨rfl, rfl, rfl, by decide +kernel, rfl, by decide +kernel, by decide +kernel⟩
abbrev s__law_is_saying : Stmt := topS 39
theorem sc__law_is_saying : FnScope ["thing", "signs", "deeds", "table", "room", "row", "come"] ["thing"] (defScope s__law_is_saying) := ⟨rfl, rfl, rfl, by decide +kernel, rfl, by decide +kernel, by decide +kernel⟩
abbrev s__law_lag : Stmt := topS 40
theorem sc__law_lag : FnScope ["saying", "signs", "deeds", "table", "pairs", "rooms", "here", "room", "sign", "at", "row", "deed", "other"] ["saying"] (defScope s__law_lag) := ⟨rfl, rfl, rfl, by decide +kernel, rfl, by decide +kernel, by decide +kernel⟩
abbrev s__law_same : Stmt := topS 34
theorem sc__law_same : FnScope ["found", "due", "one", "other"] ["found", "due"] (defScope s__law_same) := ⟨rfl, rfl, rfl, by decide +kernel, rfl, by decide +kernel, by decide +kernel⟩
abbrev s_is_row : Stmt := topS 19
theorem sc_is_row : FnScope ["thing", "many"] ["thing", "many"] (defScope s_is_row) := ⟨rfl, rfl, rfl, by decide +kernel, rfl, by decide +kernel, by decide +kernel⟩
abbrev s_is_whole : Stmt := topS 16
theorem sc_is_whole : FnScope ["thing"] ["thing"] (defScope s_is_whole) := ⟨rfl, rfl, rfl, by decide +kernel, rfl, by decide +kernel, by decide +kernel⟩
abbrev s_is_count : Stmt := topS 18
theorem sc_is_count : FnScope ["thing"] ["thing"] (defScope s_is_count) := ⟨rfl, rfl, rfl, by decide +kernel, rfl, by decide +kernel, by decide +kernel⟩
abbrev s_is_below : Stmt := topS 17
theorem sc_is_below : FnScope ["thing", "most"] ["thing", "most"] (defScope s_is_below) := ⟨rfl, rfl, rfl, by decide +kernel, rfl, by decide +kernel, by decide +kernel⟩
abbrev s_is_room : Stmt := topS 20
theorem sc_is_room : FnScope ["thing", "signs", "deeds", "many", "row", "behind"] ["thing", "signs", "deeds", "many"] (defScope s_is_room) := ⟨rfl, rfl, rfl, by decide +kernel, rfl, by decide +kernel, by decide +kernel⟩
abbrev s_is_saying : Stmt := topS 21
theorem sc_is_saying : FnScope ["thing", "signs", "deeds", "rooms", "room"] ["thing"] (defScope s_is_saying) := ⟨rfl, rfl, rfl, by decide +kernel, rfl, by decide +kernel, by decide +kernel⟩
abbrev s_need_saying : Stmt := topS 22
theorem sc_need_saying : FnScope ["thing"] ["thing"] (defScope s_need_saying) := ⟨rfl, rfl, rfl, by decide +kernel, rfl, by decide +kernel, by decide +kernel⟩
abbrev s_first_come : Stmt := topS 24
theorem sc_first_come : FnScope ["signs", "deeds", "begin", "follow", "things", "numbers", "table", "rows", "sign", "row", "thing", "deed"] ["signs", "deeds", "begin", "follow"] (defScope s_first_come) := ⟨rfl, rfl, rfl, by decide +kernel, rfl, by decide +kernel, by decide +kernel⟩
abbrev s_come_to : Stmt := topS 26
theorem sc_come_to : FnScope ["saying", "room", "told", "at", "deed"] ["saying", "room", "told"] (defScope s_come_to) := ⟨rfl, rfl, rfl, by decide +kernel, rfl, by decide +kernel, by decide +kernel⟩
abbrev s_breaks_by_some : Stmt := topS 27
theorem sc_breaks_by_some : FnScope ["saying", "at", "deed", "row"] ["saying", "at", "deed"] (defScope s_breaks_by_some) := ⟨rfl, rfl, rfl, by decide +kernel, rfl, by decide +kernel, by decide +kernel⟩
abbrev s_lag : Stmt := topS 28
theorem sc_lag : FnScope ["saying", "follow", "signs", "deeds", "rooms", "found", "table"] ["saying"] (defScope s_lag) := ⟨rfl, rfl, rfl, by decide +kernel, rfl, by decide +kernel, by decide +kernel⟩
abbrev n_lag_follow : Stmt := (defBody s_lag).getD 1 (.Pass ⟨0, 0, 0, 0⟩)
theorem nsc_lag_follow : NdefX.NScope ["room", "told", "deed", "saying", "at"] ["room", "told", "deed"] ["saying"] (C8.fnScope n_lag_follow) := NdefX.nscope_by (by decide +kernel)
def nm_lag : Nat → Nat → Str := fun _ _ => "lag.<locals>.follow"
abbrev s_late : Stmt := topS 29
theorem sc_late : FnScope ["saying"] ["saying"] (defScope s_late) := ⟨rfl, rfl, rfl, by decide +kernel, rfl, by decide +kernel, by decide +kernel⟩
abbrev s_rooms_late : Stmt := topS 30
theorem sc_rooms_late : FnScope ["saying"] ["saying"] (defScope s_rooms_late) := ⟨rfl, rfl, rfl, by decide +kernel, rfl, by decide +kernel, by decide +kernel⟩
abbrev s__law_word : Stmt := topS 41
theorem sc__law_word : FnScope ["caught", "some", "others"] ["caught"] (defScope s__law_word) := ⟨rfl, rfl, rfl, by decide +kernel, rfl, by decide +kernel, by decide +kernel⟩
abbrev s__law_asked : Stmt := topS 42
theorem sc__law_asked : FnScope ["door", "saying", "found", "word", "e"] ["door", "saying"] (defScope s__law_asked) := ⟨rfl, rfl, rfl, by decide +kernel, rfl, by decide +kernel, by decide +kernel⟩
abbrev s__law_right : Stmt := topS 43
theorem sc__law_right : FnScope ["saying", "due", "word", "kept", "door", "told"] ["saying"] (defScope s__law_right) := ⟨rfl, rfl, rfl, by decide +kernel, rfl, by decide +kernel, by decide +kernel⟩
abbrev s_law : Stmt := topS 45
theorem sc_law : FnScope ["script", "odds", "k", "pot", "saying", "once", "thing", "many", "room", "odd"] ["script"] (defScope s_law) := ⟨rfl, rfl, rfl, by decide +kernel, rfl, by decide +kernel, by decide +kernel⟩
variable [TabsC]
set_option hygiene false in
local macro_rules | `(tactic| walk_at "m3 side") => `(tactic| ((first | (first | with_reducible assumption | with_reducible rfl | omega | assumption | rfl | decide | exact trivial | exact Or.inl rfl | exact Or.inr rfl | exact Nat.le_of_ble_eq_true rfl | (dsimp only; omega) | (simp only [sizeLine24]; omega) | (simp only [sizeLine24, List.length_cons, List.length_nil, List.length_append, List.length_map, rng_len, enumD_length, zipD_length, List.length_range]; omega) | (refine And.intro ?_ ?_ <;> omega) | (refine Or.inl (And.intro ?_ ?_) <;> omega) | (refine Or.inr (And.intro ?_ ?_) <;> omega) | fail) | ((repeat' (first | with_reducible assumption | with_reducible refine And.intro ?_ ?_)) <;> (first | with_reducible assumption | with_reducible rfl | omega | assumption | rfl | decide | exact trivial | exact Or.inl rfl | exact Or.inr rfl | exact Nat.le_of_ble_eq_true rfl | (dsimp only; omega) | (simp only [sizeLine24]; omega) | (simp only [sizeLine24, List.length_cons, List.length_nil, List.length_append, List.length_map, rng_len, enumD_length, zipD_length, List.length_range]; omega) | (refine And.intro ?_ ?_ <;> omega) | (refine Or.inl (And.intro ?_ ?_) <;> omega) | (refine Or.inr (And.intro ?_ ?_) <;> omega) | fail)))))
set_option hygiene false in
local macro_rules | `(tactic| walk_at "m3 st") => `(tactic| (((conv => whnf); first | (refine Exists.intro _ (And.intro rfl ?_)) | (refine And.intro ?side ?_; case side => (first | (first | with_reducible assumption | with_reducible rfl | omega | assumption | rfl | decide | exact trivial | exact Or.inl rfl | exact Or.inr rfl | exact Nat.le_of_ble_eq_true rfl | (dsimp only; omega) | (simp only [sizeLine24]; omega) | (simp only [sizeLine24, List.length_cons, List.length_nil, List.length_append, List.length_map, rng_len, enumD_length, zipD_length, List.length_range]; omega) | (refine And.intro ?_ ?_ <;> omega) | (refine Or.inl (And.intro ?_ ?_) <;> omega) | (refine Or.inr (And.intro ?_ ?_) <;> omega) | fail) | ((repeat' (first | with_reducible assumption | with_reducible refine And.intro ?_ ?_)) <;> (first | with_reducible assumption | with_reducible rfl | omega | assumption | rfl | decide | exact trivial | exact Or.inl rfl | exact Or.inr rfl | exact Nat.le_of_ble_eq_true rfl | (dsimp only; omega) | (simp only [sizeLine24]; omega) | (simp only [sizeLine24, List.length_cons, List.length_nil, List.length_append, List.length_map, rng_len, enumD_length, zipD_length, List.length_range]; omega) | (refine And.intro ?_ ?_ <;> omega) | (refine Or.inl (And.intro ?_ ?_) <;> omega) | (refine Or.inr (And.intro ?_ ?_) <;> omega) | fail)))) | fail)))
set_option hygiene false in
local macro_rules | `(tactic| walk_at "m3 wp") => `(tactic| (repeat ((conv => whnf); first | (refine Exists.intro _ (And.intro rfl ?_)) | (refine And.intro ?side ?_; case side => (first | (first | with_reducible assumption | with_reducible rfl | omega | assumption | rfl | decide | exact trivial | exact Or.inl rfl | exact Or.inr rfl | exact Nat.le_of_ble_eq_true rfl | (dsimp only; omega) | (simp only [sizeLine24]; omega) | (simp only [sizeLine24, List.length_cons, List.length_nil, List.length_append, List.length_map, rng_len, enumD_length, zipD_length, List.length_range]; omega) | (refine And.intro ?_ ?_ <;> omega) | (refine Or.inl (And.intro ?_ ?_) <;> omega) | (refine Or.inr (And.intro ?_ ?_) <;> omega) | fail) | ((repeat' (first | with_reducible assumption | with_reducible refine And.intro ?_ ?_)) <;> (first | with_reducible assumption | with_reducible rfl | omega | assumption | rfl | decide | exact trivial | exact Or.inl rfl | exact Or.inr rfl | exact Nat.le_of_ble_eq_true rfl | (dsimp only; omega) | (simp only [sizeLine24]; omega) | (simp only [sizeLine24, List.length_cons, List.length_nil, List.length_append, List.length_map, rng_len, enumD_length, zipD_length, List.length_range]; omega) | (refine And.intro ?_ ?_ <;> omega) | (refine Or.inl (And.intro ?_ ?_) <;> omega) | (refine Or.inr (And.intro ?_ ?_) <;> omega) | fail)))) | (refine' Exists.intro _ (And.intro rfl (And.intro ?side ?_)); case side => (first | (first | with_reducible assumption | with_reducible rfl | omega | assumption | rfl | decide | exact trivial | exact Or.inl rfl | exact Or.inr rfl | exact Nat.le_of_ble_eq_true rfl | (dsimp only; omega) | (simp only [sizeLine24]; omega) | (simp only [sizeLine24, List.length_cons, List.length_nil, List.length_append, List.length_map, rng_len, enumD_length, zipD_length, List.length_range]; omega) | (refine And.intro ?_ ?_ <;> omega) | (refine Or.inl (And.intro ?_ ?_) <;> omega) | (refine Or.inr (And.intro ?_ ?_) <;> omega) | fail) | ((repeat' (first | with_reducible assumption | with_reducible refine And.intro ?_ ?_)) <;> (first | with_reducible assumption | with_reducible rfl | omega | assumption | rfl | decide | exact trivial | exact Or.inl rfl | exact Or.inr rfl | exact Nat.le_of_ble_eq_true rfl | (dsimp only; omega) | (simp only [sizeLine24]; omega) | (simp only [sizeLine24, List.length_cons, List.length_nil, List.length_append, List.length_map, rng_len, enumD_length, zipD_length, List.length_range]; omega) | (refine And.intro ?_ ?_ <;> omega) | (refine Or.inl (And.intro ?_ ?_) <;> omega) | (refine Or.inr (And.intro ?_ ?_) <;> omega) | fail)))) | (refine' Exists.intro _ (And.intro ?side ?_); case side => (first | (first | with_reducible assumption | with_reducible rfl | omega | assumption | rfl | decide | exact trivial | exact Or.inl rfl | exact Or.inr rfl | exact Nat.le_of_ble_eq_true rfl | (dsimp only; omega) | (simp only [sizeLine24]; omega) | (simp only [sizeLine24, List.length_cons, List.length_nil, List.length_append, List.length_map, rng_len, enumD_length, zipD_length, List.length_range]; omega) | (refine And.intro ?_ ?_ <;> omega) | (refine Or.inl (And.intro ?_ ?_) <;> omega) | (refine Or.inr (And.intro ?_ ?_) <;> omega) | fail) | ((repeat' (first | with_reducible assumption | with_reducible refine And.intro ?_ ?_)) <;> (first | with_reducible assumption | with_reducible rfl | omega | assumption | rfl | decide | exact trivial | exact Or.inl rfl | exact Or.inr rfl | exact Nat.le_of_ble_eq_true rfl | (dsimp only; omega) | (simp only [sizeLine24]; omega) | (simp only [sizeLine24, List.length_cons, List.length_nil, List.length_append, List.length_map, rng_len, enumD_length, zipD_length, List.length_range]; omega) | (refine And.intro ?_ ?_ <;> omega) | (refine Or.inl (And.intro ?_ ?_) <;> omega) | (refine Or.inr (And.intro ?_ ?_) <;> omega) | fail)))) | (refine' Exists.intro _ (Exists.intro _ (And.intro rfl (And.intro rfl (And.intro ?side ?_)))); case side => (first | (first | with_reducible assumption | with_reducible rfl | omega | assumption | rfl | decide | exact trivial | exact Or.inl rfl | exact Or.inr rfl | exact Nat.le_of_ble_eq_true rfl | (dsimp only; omega) | (simp only [sizeLine24]; omega) | (simp only [sizeLine24, List.length_cons, List.length_nil, List.length_append, List.length_map, rng_len, enumD_length, zipD_length, List.length_range]; omega) | (refine And.intro ?_ ?_ <;> omega) | (refine Or.inl (And.intro ?_ ?_) <;> omega) | (refine Or.inr (And.intro ?_ ?_) <;> omega) | fail) | ((repeat' (first | with_reducible assumption | with_reducible refine And.intro ?_ ?_)) <;> (first | with_reducible assumption | with_reducible rfl | omega | assumption | rfl | decide | exact trivial | exact Or.inl rfl | exact Or.inr rfl | exact Nat.le_of_ble_eq_true rfl | (dsimp only; omega) | (simp only [sizeLine24]; omega) | (simp only [sizeLine24, List.length_cons, List.length_nil, List.length_append, List.length_map, rng_len, enumD_length, zipD_length, List.length_range]; omega) | (refine And.intro ?_ ?_ <;> omega) | (refine Or.inl (And.intro ?_ ?_) <;> omega) | (refine Or.inr (And.intro ?_ ?_) <;> omega) | fail)))) | (refine' Exists.intro _ (Exists.intro _ (And.intro rfl (And.intro ?side ?_))); case side => (first | (first | with_reducible assumption | with_reducible rfl | omega | assumption | rfl | decide | exact trivial | exact Or.inl rfl | exact Or.inr rfl | exact Nat.le_of_ble_eq_true rfl | (dsimp only; omega) | (simp only [sizeLine24]; omega) | (simp only [sizeLine24, List.length_cons, List.length_nil, List.length_append, List.length_map, rng_len, enumD_length, zipD_length, List.length_range]; omega) | (refine And.intro ?_ ?_ <;> omega) | (refine Or.inl (And.intro ?_ ?_) <;> omega) | (refine Or.inr (And.intro ?_ ?_) <;> omega) | fail) | ((repeat' (first | with_reducible assumption | with_reducible refine And.intro ?_ ?_)) <;> (first | with_reducible assumption | with_reducible rfl | omega | assumption | rfl | decide | exact trivial | exact Or.inl rfl | exact Or.inr rfl | exact Nat.le_of_ble_eq_true rfl | (dsimp only; omega) | (simp only [sizeLine24]; omega) | (simp only [sizeLine24, List.length_cons, List.length_nil, List.length_append, List.length_map, rng_len, enumD_length, zipD_length, List.length_range]; omega) | (refine And.intro ?_ ?_ <;> omega) | (refine Or.inl (And.intro ?_ ?_) <;> omega) | (refine Or.inr (And.intro ?_ ?_) <;> omega) | fail)))) | (refine' Exists.intro _ (Exists.intro _ (And.intro ?side ?_)); case side => (first | (first | with_reducible assumption | with_reducible rfl | omega | assumption | rfl | decide | exact trivial | exact Or.inl rfl | exact Or.inr rfl | exact Nat.le_of_ble_eq_true rfl | (dsimp only; omega) | (simp only [sizeLine24]; omega) | (simp only [sizeLine24, List.length_cons, List.length_nil, List.length_append, List.length_map, rng_len, enumD_length, zipD_length, List.length_range]; omega) | (refine And.intro ?_ ?_ <;> omega) | (refine Or.inl (And.intro ?_ ?_) <;> omega) | (refine Or.inr (And.intro ?_ ?_) <;> omega) | fail) | ((repeat' (first | with_reducible assumption | with_reducible refine And.intro ?_ ?_)) <;> (first | with_reducible assumption | with_reducible rfl | omega | assumption | rfl | decide | exact trivial | exact Or.inl rfl | exact Or.inr rfl | exact Nat.le_of_ble_eq_true rfl | (dsimp only; omega) | (simp only [sizeLine24]; omega) | (simp only [sizeLine24, List.length_cons, List.length_nil, List.length_append, List.length_map, rng_len, enumD_length, zipD_length, List.length_range]; omega) | (refine And.intro ?_ ?_ <;> omega) | (refine Or.inl (And.intro ?_ ?_) <;> omega) | (refine Or.inr (And.intro ?_ ?_) <;> omega) | fail)))) | (refine' Exists.intro _ (Exists.intro _ (Exists.intro _ (And.intro rfl (And.intro rfl (And.intro rfl (And.intro ?side ?_)))))); case side => (first | (first | with_reducible assumption | with_reducible rfl | omega | assumption | rfl | decide | exact trivial | exact Or.inl rfl | exact Or.inr rfl | exact Nat.le_of_ble_eq_true rfl | (dsimp only; omega) | (simp only [sizeLine24]; omega) | (simp only [sizeLine24, List.length_cons, List.length_nil, List.length_append, List.length_map, rng_len, enumD_length, zipD_length, List.length_range]; omega) | (refine And.intro ?_ ?_ <;> omega) | (refine Or.inl (And.intro ?_ ?_) <;> omega) | (refine Or.inr (And.intro ?_ ?_) <;> omega) | fail) | ((repeat' (first | with_reducible assumption | with_reducible refine And.intro ?_ ?_)) <;> (first | with_reducible assumption | with_reducible rfl | omega | assumption | rfl | decide | exact trivial | exact Or.inl rfl | exact Or.inr rfl | exact Nat.le_of_ble_eq_true rfl | (dsimp only; omega) | (simp only [sizeLine24]; omega) | (simp only [sizeLine24, List.length_cons, List.length_nil, List.length_append, List.length_map, rng_len, enumD_length, zipD_length, List.length_range]; omega) | (refine And.intro ?_ ?_ <;> omega) | (refine Or.inl (And.intro ?_ ?_) <;> omega) | (refine Or.inr (And.intro ?_ ?_) <;> omega) | fail)))) | (refine' Exists.intro _ (Exists.intro _ (Exists.intro _ (And.intro rfl (And.intro rfl (And.intro ?side ?_))))); case side => (first | (first | with_reducible assumption | with_reducible rfl | omega | assumption | rfl | decide | exact trivial | exact Or.inl rfl | exact Or.inr rfl | exact Nat.le_of_ble_eq_true rfl | (dsimp only; omega) | (simp only [sizeLine24]; omega) | (simp only [sizeLine24, List.length_cons, List.length_nil, List.length_append, List.length_map, rng_len, enumD_length, zipD_length, List.length_range]; omega) | (refine And.intro ?_ ?_ <;> omega) | (refine Or.inl (And.intro ?_ ?_) <;> omega) | (refine Or.inr (And.intro ?_ ?_) <;> omega) | fail) | ((repeat' (first | with_reducible assumption | with_reducible refine And.intro ?_ ?_)) <;> (first | with_reducible assumption | with_reducible rfl | omega | assumption | rfl | decide | exact trivial | exact Or.inl rfl | exact Or.inr rfl | exact Nat.le_of_ble_eq_true rfl | (dsimp only; omega) | (simp only [sizeLine24]; omega) | (simp only [sizeLine24, List.length_cons, List.length_nil, List.length_append, List.length_map, rng_len, enumD_length, zipD_length, List.length_range]; omega) | (refine And.intro ?_ ?_ <;> omega) | (refine Or.inl (And.intro ?_ ?_) <;> omega) | (refine Or.inr (And.intro ?_ ?_) <;> omega) | fail)))) | (refine' Exists.intro _ (Exists.intro _ (Exists.intro _ (And.intro rfl (And.intro ?side ?_)))); case side => (first | (first | with_reducible assumption | with_reducible rfl | omega | assumption | rfl | decide | exact trivial | exact Or.inl rfl | exact Or.inr rfl | exact Nat.le_of_ble_eq_true rfl | (dsimp only; omega) | (simp only [sizeLine24]; omega) | (simp only [sizeLine24, List.length_cons, List.length_nil, List.length_append, List.length_map, rng_len, enumD_length, zipD_length, List.length_range]; omega) | (refine And.intro ?_ ?_ <;> omega) | (refine Or.inl (And.intro ?_ ?_) <;> omega) | (refine Or.inr (And.intro ?_ ?_) <;> omega) | fail) | ((repeat' (first | with_reducible assumption | with_reducible refine And.intro ?_ ?_)) <;> (first | with_reducible assumption | with_reducible rfl | omega | assumption | rfl | decide | exact trivial | exact Or.inl rfl | exact Or.inr rfl | exact Nat.le_of_ble_eq_true rfl | (dsimp only; omega) | (simp only [sizeLine24]; omega) | (simp only [sizeLine24, List.length_cons, List.length_nil, List.length_append, List.length_map, rng_len, enumD_length, zipD_length, List.length_range]; omega) | (refine And.intro ?_ ?_ <;> omega) | (refine Or.inl (And.intro ?_ ?_) <;> omega) | (refine Or.inr (And.intro ?_ ?_) <;> omega) | fail)))) | (refine' Exists.intro _ (Exists.intro _ (Exists.intro _ (And.intro ?side ?_))); case side => (first | (first | with_reducible assumption | with_reducible rfl | omega | assumption | rfl | decide | exact trivial | exact Or.inl rfl | exact Or.inr rfl | exact Nat.le_of_ble_eq_true rfl | (dsimp only; omega) | (simp only [sizeLine24]; omega) | (simp only [sizeLine24, List.length_cons, List.length_nil, List.length_append, List.length_map, rng_len, enumD_length, zipD_length, List.length_range]; omega) | (refine And.intro ?_ ?_ <;> omega) | (refine Or.inl (And.intro ?_ ?_) <;> omega) | (refine Or.inr (And.intro ?_ ?_) <;> omega) | fail) | ((repeat' (first | with_reducible assumption | with_reducible refine And.intro ?_ ?_)) <;> (first | with_reducible assumption | with_reducible rfl | omega | assumption | rfl | decide | exact trivial | exact Or.inl rfl | exact Or.inr rfl | exact Nat.le_of_ble_eq_true rfl | (dsimp only; omega) | (simp only [sizeLine24]; omega) | (simp only [sizeLine24, List.length_cons, List.length_nil, List.length_append, List.length_map, rng_len, enumD_length, zipD_length, List.length_range]; omega) | (refine And.intro ?_ ?_ <;> omega) | (refine Or.inl (And.intro ?_ ?_) <;> omega) | (refine Or.inr (And.intro ?_ ?_) <;> omega) | fail)))) | (refine' Exists.intro _ (Exists.intro _ (Exists.intro _ (Exists.intro _ (And.intro rfl (And.intro rfl (And.intro rfl (And.intro rfl (And.intro ?side ?_)))))))); case side => (first | (first | with_reducible assumption | with_reducible rfl | omega | assumption | rfl | decide | exact trivial | exact Or.inl rfl | exact Or.inr rfl | exact Nat.le_of_ble_eq_true rfl | (dsimp only; omega) | (simp only [sizeLine24]; omega) | (simp only [sizeLine24, List.length_cons, List.length_nil, List.length_append, List.length_map, rng_len, enumD_length, zipD_length, List.length_range]; omega) | (refine And.intro ?_ ?_ <;> omega) | (refine Or.inl (And.intro ?_ ?_) <;> omega) | (refine Or.inr (And.intro ?_ ?_) <;> omega) | fail) | ((repeat' (first | with_reducible assumption | with_reducible refine And.intro ?_ ?_)) <;> (first | with_reducible assumption | with_reducible rfl | omega | assumption | rfl | decide | exact trivial | exact Or.inl rfl | exact Or.inr rfl | exact Nat.le_of_ble_eq_true rfl | (dsimp only; omega) | (simp only [sizeLine24]; omega) | (simp only [sizeLine24, List.length_cons, List.length_nil, List.length_append, List.length_map, rng_len, enumD_length, zipD_length, List.length_range]; omega) | (refine And.intro ?_ ?_ <;> omega) | (refine Or.inl (And.intro ?_ ?_) <;> omega) | (refine Or.inr (And.intro ?_ ?_) <;> omega) | fail)))) | (refine' Exists.intro _ (Exists.intro _ (Exists.intro _ (Exists.intro _ (And.intro rfl (And.intro rfl (And.intro rfl (And.intro ?side ?_))))))); case side => (first | (first | with_reducible assumption | with_reducible rfl | omega | assumption | rfl | decide | exact trivial | exact Or.inl rfl | exact Or.inr rfl | exact Nat.le_of_ble_eq_true rfl | (dsimp only; omega) | (simp only [sizeLine24]; omega) | (simp only [sizeLine24, List.length_cons, List.length_nil, List.length_append, List.length_map, rng_len, enumD_length, zipD_length, List.length_range]; omega) | (refine And.intro ?_ ?_ <;> omega) | (refine Or.inl (And.intro ?_ ?_) <;> omega) | (refine Or.inr (And.intro ?_ ?_) <;> omega) | fail) | ((repeat' (first | with_reducible assumption | with_reducible refine And.intro ?_ ?_)) <;> (first | with_reducible assumption | with_reducible rfl | omega | assumption | rfl | decide | exact trivial | exact Or.inl rfl | exact Or.inr rfl | exact Nat.le_of_ble_eq_true rfl | (dsimp only; omega) | (simp only [sizeLine24]; omega) | (simp only [sizeLine24, List.length_cons, List.length_nil, List.length_append, List.length_map, rng_len, enumD_length, zipD_length, List.length_range]; omega) | (refine And.intro ?_ ?_ <;> omega) | (refine Or.inl (And.intro ?_ ?_) <;> omega) | (refine Or.inr (And.intro ?_ ?_) <;> omega) | fail)))) | (refine' Exists.intro _ (Exists.intro _ (Exists.intro _ (Exists.intro _ (And.intro rfl (And.intro rfl (And.intro ?side ?_)))))); case side => (first | (first | with_reducible assumption | with_reducible rfl | omega | assumption | rfl | decide | exact trivial | exact Or.inl rfl | exact Or.inr rfl | exact Nat.le_of_ble_eq_true rfl | (dsimp only; omega) | (simp only [sizeLine24]; omega) | (simp only [sizeLine24, List.length_cons, List.length_nil, List.length_append, List.length_map, rng_len, enumD_length, zipD_length, List.length_range]; omega) | (refine And.intro ?_ ?_ <;> omega) | (refine Or.inl (And.intro ?_ ?_) <;> omega) | (refine Or.inr (And.intro ?_ ?_) <;> omega) | fail) | ((repeat' (first | with_reducible assumption | with_reducible refine And.intro ?_ ?_)) <;> (first | with_reducible assumption | with_reducible rfl | omega | assumption | rfl | decide | exact trivial | exact Or.inl rfl | exact Or.inr rfl | exact Nat.le_of_ble_eq_true rfl | (dsimp only; omega) | (simp only [sizeLine24]; omega) | (simp only [sizeLine24, List.length_cons, List.length_nil, List.length_append, List.length_map, rng_len, enumD_length, zipD_length, List.length_range]; omega) | (refine And.intro ?_ ?_ <;> omega) | (refine Or.inl (And.intro ?_ ?_) <;> omega) | (refine Or.inr (And.intro ?_ ?_) <;> omega) | fail)))) | (refine' Exists.intro _ (Exists.intro _ (Exists.intro _ (Exists.intro _ (And.intro rfl (And.intro ?side ?_))))); case side => (first | (first | with_reducible assumption | with_reducible rfl | omega | assumption | rfl | decide | exact trivial | exact Or.inl rfl | exact Or.inr rfl | exact Nat.le_of_ble_eq_true rfl | (dsimp only; omega) | (simp only [sizeLine24]; omega) | (simp only [sizeLine24, List.length_cons, List.length_nil, List.length_append, List.length_map, rng_len, enumD_length, zipD_length, List.length_range]; omega) | (refine And.intro ?_ ?_ <;> omega) | (refine Or.inl (And.intro ?_ ?_) <;> omega) | (refine Or.inr (And.intro ?_ ?_) <;> omega) | fail) | ((repeat' (first | with_reducible assumption | with_reducible refine And.intro ?_ ?_)) <;> (first | with_reducible assumption | with_reducible rfl | omega | assumption | rfl | decide | exact trivial | exact Or.inl rfl | exact Or.inr rfl | exact Nat.le_of_ble_eq_true rfl | (dsimp only; omega) | (simp only [sizeLine24]; omega) | (simp only [sizeLine24, List.length_cons, List.length_nil, List.length_append, List.length_map, rng_len, enumD_length, zipD_length, List.length_range]; omega) | (refine And.intro ?_ ?_ <;> omega) | (refine Or.inl (And.intro ?_ ?_) <;> omega) | (refine Or.inr (And.intro ?_ ?_) <;> omega) | fail)))) | (refine' Exists.intro _ (Exists.intro _ (Exists.intro _ (Exists.intro _ (Exists.intro _ (And.intro rfl (And.intro rfl (And.intro rfl (And.intro rfl (And.intro rfl (And.intro ?side ?_)))))))))); case side => (first | (first | with_reducible assumption | with_reducible rfl | omega | assumption | rfl | decide | exact trivial | exact Or.inl rfl | exact Or.inr rfl | exact Nat.le_of_ble_eq_true rfl | (dsimp only; omega) | (simp only [sizeLine24]; omega) | (simp only [sizeLine24, List.length_cons, List.length_nil, List.length_append, List.length_map, rng_len, enumD_length, zipD_length, List.length_range]; omega) | (refine And.intro ?_ ?_ <;> omega) | (refine Or.inl (And.intro ?_ ?_) <;> omega) | (refine Or.inr (And.intro ?_ ?_) <;> omega) | fail) | ((repeat' (first | with_reducible assumption | with_reducible refine And.intro ?_ ?_)) <;> (first | with_reducible assumption | with_reducible rfl | omega | assumption | rfl | decide | exact trivial | exact Or.inl rfl | exact Or.inr rfl | exact Nat.le_of_ble_eq_true rfl | (dsimp only; omega) | (simp only [sizeLine24]; omega) | (simp only [sizeLine24, List.length_cons, List.length_nil, List.length_append, List.length_map, rng_len, enumD_length, zipD_length, List.length_range]; omega) | (refine And.intro ?_ ?_ <;> omega) | (refine Or.inl (And.intro ?_ ?_) <;> omega) | (refine Or.inr (And.intro ?_ ?_) <;> omega) | fail)))) | (refine' Exists.intro _ (Exists.intro _ (Exists.intro _ (Exists.intro _ (Exists.intro _ (And.intro rfl (And.intro rfl (And.intro rfl (And.intro rfl (And.intro ?side ?_))))))))); case side => (first | (first | with_reducible assumption | with_reducible rfl | omega | assumption | rfl | decide | exact trivial | exact Or.inl rfl | exact Or.inr rfl | exact Nat.le_of_ble_eq_true rfl | (dsimp only; omega) | (simp only [sizeLine24]; omega) | (simp only [sizeLine24, List.length_cons, List.length_nil, List.length_append, List.length_map, rng_len, enumD_length, zipD_length, List.length_range]; omega) | (refine And.intro ?_ ?_ <;> omega) | (refine Or.inl (And.intro ?_ ?_) <;> omega) | (refine Or.inr (And.intro ?_ ?_) <;> omega) | fail) | ((repeat' (first | with_reducible assumption | with_reducible refine And.intro ?_ ?_)) <;> (first | with_reducible assumption | with_reducible rfl | omega | assumption | rfl | decide | exact trivial | exact Or.inl rfl | exact Or.inr rfl | exact Nat.le_of_ble_eq_true rfl | (dsimp only; omega) | (simp only [sizeLine24]; omega) | (simp only [sizeLine24, List.length_cons, List.length_nil, List.length_append, List.length_map, rng_len, enumD_length, zipD_length, List.length_range]; omega) | (refine And.intro ?_ ?_ <;> omega) | (refine Or.inl (And.intro ?_ ?_) <;> omega) | (refine Or.inr (And.intro ?_ ?_) <;> omega) | fail)))) | (refine' Exists.intro _ (Exists.intro _ (Exists.intro _ (Exists.intro _ (Exists.intro _ (And.intro rfl (And.intro rfl (And.intro rfl (And.intro ?side ?_)))))))); case side => (first | (first | with_reducible assumption | with_reducible rfl | omega | assumption | rfl | decide | exact trivial | exact Or.inl rfl | exact Or.inr rfl | exact Nat.le_of_ble_eq_true rfl | (dsimp only; omega) | (simp only [sizeLine24]; omega) | (simp only [sizeLine24, List.length_cons, List.length_nil, List.length_append, List.length_map, rng_len, enumD_length, zipD_length, List.length_range]; omega) | (refine And.intro ?_ ?_ <;> omega) | (refine Or.inl (And.intro ?_ ?_) <;> omega) | (refine Or.inr (And.intro ?_ ?_) <;> omega) | fail) | ((repeat' (first | with_reducible assumption | with_reducible refine And.intro ?_ ?_)) <;> (first | with_reducible assumption | with_reducible rfl | omega | assumption | rfl | decide | exact trivial | exact Or.inl rfl | exact Or.inr rfl | exact Nat.le_of_ble_eq_true rfl | (dsimp only; omega) | (simp only [sizeLine24]; omega) | (simp only [sizeLine24, List.length_cons, List.length_nil, List.length_append, List.length_map, rng_len, enumD_length, zipD_length, List.length_range]; omega) | (refine And.intro ?_ ?_ <;> omega) | (refine Or.inl (And.intro ?_ ?_) <;> omega) | (refine Or.inr (And.intro ?_ ?_) <;> omega) | fail)))) | (refine' Exists.intro _ (Exists.intro _ (Exists.intro _ (Exists.intro _ (Exists.intro _ (Exists.intro _ (And.intro rfl (And.intro rfl (And.intro rfl (And.intro rfl (And.intro rfl (And.intro rfl (And.intro ?side ?_)))))))))))); case side => (first | (first | with_reducible assumption | with_reducible rfl | omega | assumption | rfl | decide | exact trivial | exact Or.inl rfl | exact Or.inr rfl | exact Nat.le_of_ble_eq_true rfl | (dsimp only; omega) | (simp only [sizeLine24]; omega) | (simp only [sizeLine24, List.length_cons, List.length_nil, List.length_append, List.length_map, rng_len, enumD_length, zipD_length, List.length_range]; omega) | (refine And.intro ?_ ?_ <;> omega) | (refine Or.inl (And.intro ?_ ?_) <;> omega) | (refine Or.inr (And.intro ?_ ?_) <;> omega) | fail) | ((repeat' (first | with_reducible assumption | with_reducible refine And.intro ?_ ?_)) <;> (first | with_reducible assumption | with_reducible rfl | omega | assumption | rfl | decide | exact trivial | exact Or.inl rfl | exact Or.inr rfl | exact Nat.le_of_ble_eq_true rfl | (dsimp only; omega) | (simp only [sizeLine24]; omega) | (simp only [sizeLine24, List.length_cons, List.length_nil, List.length_append, List.length_map, rng_len, enumD_length, zipD_length, List.length_range]; omega) | (refine And.intro ?_ ?_ <;> omega) | (refine Or.inl (And.intro ?_ ?_) <;> omega) | (refine Or.inr (And.intro ?_ ?_) <;> omega) | fail)))) | (refine' Exists.intro _ (Exists.intro _ (Exists.intro _ (Exists.intro _ (Exists.intro _ (Exists.intro _ (And.intro rfl (And.intro rfl (And.intro rfl (And.intro rfl (And.intro rfl (And.intro ?side ?_))))))))))); case side => (first | (first | with_reducible assumption | with_reducible rfl | omega | assumption | rfl | decide | exact trivial | exact Or.inl rfl | exact Or.inr rfl | exact Nat.le_of_ble_eq_true rfl | (dsimp only; omega) | (simp only [sizeLine24]; omega) | (simp only [sizeLine24, List.length_cons, List.length_nil, List.length_append, List.length_map, rng_len, enumD_length, zipD_length, List.length_range]; omega) | (refine And.intro ?_ ?_ <;> omega) | (refine Or.inl (And.intro ?_ ?_) <;> omega) | (refine Or.inr (And.intro ?_ ?_) <;> omega) | fail) | ((repeat' (first | with_reducible assumption | with_reducible refine And.intro ?_ ?_)) <;> (first | with_reducible assumption | with_reducible rfl | omega | assumption | rfl | decide | exact trivial | exact Or.inl rfl | exact Or.inr rfl | exact Nat.le_of_ble_eq_true rfl | (dsimp only; omega) | (simp only [sizeLine24]; omega) | (simp only [sizeLine24, List.length_cons, List.length_nil, List.length_append, List.length_map, rng_len, enumD_length, zipD_length, List.length_range]; omega) | (refine And.intro ?_ ?_ <;> omega) | (refine Or.inl (And.intro ?_ ?_) <;> omega) | (refine Or.inr (And.intro ?_ ?_) <;> omega) | fail)))) | (refine' Exists.intro _ (Exists.intro _ (Exists.intro _ (Exists.intro _ (Exists.intro _ (Exists.intro _ (And.intro rfl (And.intro rfl (And.intro rfl (And.intro rfl (And.intro ?side ?_)))))))))); case side => (first | (first | with_reducible assumption | with_reducible rfl | omega | assumption | rfl | decide | exact trivial | exact Or.inl rfl | exact Or.inr rfl | exact Nat.le_of_ble_eq_true rfl | (dsimp only; omega) | (simp only [sizeLine24]; omega) | (simp only [sizeLine24, List.length_cons, List.length_nil, List.length_append, List.length_map, rng_len, enumD_length, zipD_length, List.length_range]; omega) | (refine And.intro ?_ ?_ <;> omega) | (refine Or.inl (And.intro ?_ ?_) <;> omega) | (refine Or.inr (And.intro ?_ ?_) <;> omega) | fail) | ((repeat' (first | with_reducible assumption | with_reducible refine And.intro ?_ ?_)) <;> (first | with_reducible assumption | with_reducible rfl | omega | assumption | rfl | decide | exact trivial | exact Or.inl rfl | exact Or.inr rfl | exact Nat.le_of_ble_eq_true rfl | (dsimp only; omega) | (simp only [sizeLine24]; omega) | (simp only [sizeLine24, List.length_cons, List.length_nil, List.length_append, List.length_map, rng_len, enumD_length, zipD_length, List.length_range]; omega) | (refine And.intro ?_ ?_ <;> omega) | (refine Or.inl (And.intro ?_ ?_) <;> omega) | (refine Or.inr (And.intro ?_ ?_) <;> omega) | fail)))) | fail)))
set_option hygiene false in
local macro_rules | `(tactic| walk_at "m3 wpb") => `(tactic| (repeat' ((conv => whnf); first | (refine Exists.intro _ (And.intro rfl ?_)) | (first | (refine br_t ?hk ?_; case hk => (first | rfl | assumption | (apply decide_eq_true; first | omega | assumption) | (apply nt; (first | assumption | (apply decide_eq_false; first | omega | assumption) | fail)) | fail)) | (refine br_f ?hk ?_; case hk => (first | rfl | assumption | (apply decide_eq_false; first | omega | assumption) | (apply nf; (first | assumption | (apply decide_eq_true; first | omega | assumption) | fail)) | fail)) | (refine br.mk (fun hbr => ?_) (fun hbr => ?_) <;> (first | exact Bool.noConfusion (show false = true from hbr) | exact Bool.noConfusion (show true = false from hbr) | simp only [decide_eq_true_eq, decide_eq_false_iff_not, Bool.not_eq_true', Bool.not_eq_false', Bool.and_eq_true, Bool.not_not, id_eq, not_true_eq_false] at hbr | skip))) | (refine And.intro ?side ?_; case side => (first | (first | with_reducible assumption | with_reducible rfl | omega | assumption | rfl | decide | exact trivial | exact Or.inl rfl | exact Or.inr rfl | exact Nat.le_of_ble_eq_true rfl | (dsimp only; omega) | (simp only [sizeLine24]; omega) | (simp only [sizeLine24, List.length_cons, List.length_nil, List.length_append, List.length_map, rng_len, enumD_length, zipD_length, List.length_range]; omega) | (refine And.intro ?_ ?_ <;> omega) | (refine Or.inl (And.intro ?_ ?_) <;> omega) | (refine Or.inr (And.intro ?_ ?_) <;> omega) | fail) | ((repeat' (first | with_reducible assumption | with_reducible refine And.intro ?_ ?_)) <;> (first | with_reducible assumption | with_reducible rfl | omega | assumption | rfl | decide | exact trivial | exact Or.inl rfl | exact Or.inr rfl | exact Nat.le_of_ble_eq_true rfl | (dsimp only; omega) | (simp only [sizeLine24]; omega) | (simp only [sizeLine24, List.length_cons, List.length_nil, List.length_append, List.length_map, rng_len, enumD_length, zipD_length, List.length_range]; omega) | (refine And.intro ?_ ?_ <;> omega) | (refine Or.inl (And.intro ?_ ?_) <;> omega) | (refine Or.inr (And.intro ?_ ?_) <;> omega) | fail)))) | (refine' Exists.intro _ (And.intro rfl (And.intro ?side ?_)); case side => (first | (first | with_reducible assumption | with_reducible rfl | omega | assumption | rfl | decide | exact trivial | exact Or.inl rfl | exact Or.inr rfl | exact Nat.le_of_ble_eq_true rfl | (dsimp only; omega) | (simp only [sizeLine24]; omega) | (simp only [sizeLine24, List.length_cons, List.length_nil, List.length_append, List.length_map, rng_len, enumD_length, zipD_length, List.length_range]; omega) | (refine And.intro ?_ ?_ <;> omega) | (refine Or.inl (And.intro ?_ ?_) <;> omega) | (refine Or.inr (And.intro ?_ ?_) <;> omega) | fail) | ((repeat' (first | with_reducible assumption | with_reducible refine And.intro ?_ ?_)) <;> (first | with_reducible assumption | with_reducible rfl | omega | assumption | rfl | decide | exact trivial | exact Or.inl rfl | exact Or.inr rfl | exact Nat.le_of_ble_eq_true rfl | (dsimp only; omega) | (simp only [sizeLine24]; omega) | (simp only [sizeLine24, List.length_cons, List.length_nil, List.length_append, List.length_map, rng_len, enumD_length, zipD_length, List.length_range]; omega) | (refine And.intro ?_ ?_ <;> omega) | (refine Or.inl (And.intro ?_ ?_) <;> omega) | (refine Or.inr (And.intro ?_ ?_) <;> omega) | fail)))) | (refine' Exists.intro _ (And.intro ?side ?_); case side => (first | (first | with_reducible assumption | with_reducible rfl | omega | assumption | rfl | decide | exact trivial | exact Or.inl rfl | exact Or.inr rfl | exact Nat.le_of_ble_eq_true rfl | (dsimp only; omega) | (simp only [sizeLine24]; omega) | (simp only [sizeLine24, List.length_cons, List.length_nil, List.length_append, List.length_map, rng_len, enumD_length, zipD_length, List.length_range]; omega) | (refine And.intro ?_ ?_ <;> omega) | (refine Or.inl (And.intro ?_ ?_) <;> omega) | (refine Or.inr (And.intro ?_ ?_) <;> omega) | fail) | ((repeat' (first | with_reducible assumption | with_reducible refine And.intro ?_ ?_)) <;> (first | with_reducible assumption | with_reducible rfl | omega | assumption | rfl | decide | exact trivial | exact Or.inl rfl | exact Or.inr rfl | exact Nat.le_of_ble_eq_true rfl | (dsimp only; omega) | (simp only [sizeLine24]; omega) | (simp only [sizeLine24, List.length_cons, List.length_nil, List.length_append, List.length_map, rng_len, enumD_length, zipD_length, List.length_range]; omega) | (refine And.intro ?_ ?_ <;> omega) | (refine Or.inl (And.intro ?_ ?_) <;> omega) | (refine Or.inr (And.intro ?_ ?_) <;> omega) | fail)))) | (refine' Exists.intro _ (Exists.intro _ (And.intro rfl (And.intro rfl (And.intro ?side ?_)))); case side => (first | (first | with_reducible assumption | with_reducible rfl | omega | assumption | rfl | decide | exact trivial | exact Or.inl rfl | exact Or.inr rfl | exact Nat.le_of_ble_eq_true rfl | (dsimp only; omega) | (simp only [sizeLine24]; omega) | (simp only [sizeLine24, List.length_cons, List.length_nil, List.length_append, List.length_map, rng_len, enumD_length, zipD_length, List.length_range]; omega) | (refine And.intro ?_ ?_ <;> omega) | (refine Or.inl (And.intro ?_ ?_) <;> omega) | (refine Or.inr (And.intro ?_ ?_) <;> omega) | fail) | ((repeat' (first | with_reducible assumption | with_reducible refine And.intro ?_ ?_)) <;> (first | with_reducible assumption | with_reducible rfl | omega | assumption | rfl | decide | exact trivial | exact Or.inl rfl | exact Or.inr rfl | exact Nat.le_of_ble_eq_true rfl | (dsimp only; omega) | (simp only [sizeLine24]; omega) | (simp only [sizeLine24, List.length_cons, List.length_nil, List.length_append, List.length_map, rng_len, enumD_length, zipD_length, List.length_range]; omega) | (refine And.intro ?_ ?_ <;> omega) | (refine Or.inl (And.intro ?_ ?_) <;> omega) | (refine Or.inr (And.intro ?_ ?_) <;> omega) | fail)))) | (refine' Exists.intro _ (Exists.intro _ (And.intro rfl (And.intro ?side ?_))); case side => (first | (first | with_reducible assumption | with_reducible rfl | omega | assumption | rfl | decide | exact trivial | exact Or.inl rfl | exact Or.inr rfl | exact Nat.le_of_ble_eq_true rfl | (dsimp only; omega) | (simp only [sizeLine24]; omega) | (simp only [sizeLine24, List.length_cons, List.length_nil, List.length_append, List.length_map, rng_len, enumD_length, zipD_length, List.length_range]; omega) | (refine And.intro ?_ ?_ <;> omega) | (refine Or.inl (And.intro ?_ ?_) <;> omega) | (refine Or.inr (And.intro ?_ ?_) <;> omega) | fail) | ((repeat' (first | with_reducible assumption | with_reducible refine And.intro ?_ ?_)) <;> (first | with_reducible assumption | with_reducible rfl | omega | assumption | rfl | decide | exact trivial | exact Or.inl rfl | exact Or.inr rfl | exact Nat.le_of_ble_eq_true rfl | (dsimp only; omega) | (simp only [sizeLine24]; omega) | (simp only [sizeLine24, List.length_cons, List.length_nil, List.length_append, List.length_map, rng_len, enumD_length, zipD_length, List.length_range]; omega) | (refine And.intro ?_ ?_ <;> omega) | (refine Or.inl (And.intro ?_ ?_) <;> omega) | (refine Or.inr (And.intro ?_ ?_) <;> omega) | fail)))) | (refine' Exists.intro _ (Exists.intro _ (And.intro ?side ?_)); case side => (first | (first | with_reducible assumption | with_reducible rfl | omega | assumption | rfl | decide | exact trivial | exact Or.inl rfl | exact Or.inr rfl | exact Nat.le_of_ble_eq_true rfl | (dsimp only; omega) | (simp only [sizeLine24]; omega) | (simp only [sizeLine24, List.length_cons, List.length_nil, List.length_append, List.length_map, rng_len, enumD_length, zipD_length, List.length_range]; omega) | (refine And.intro ?_ ?_ <;> omega) | (refine Or.inl (And.intro ?_ ?_) <;> omega) | (refine Or.inr (And.intro ?_ ?_) <;> omega) | fail) | ((repeat' (first | with_reducible assumption | with_reducible refine And.intro ?_ ?_)) <;> (first | with_reducible assumption | with_reducible rfl | omega | assumption | rfl | decide | exact trivial | exact Or.inl rfl | exact Or.inr rfl | exact Nat.le_of_ble_eq_true rfl | (dsimp only; omega) | (simp only [sizeLine24]; omega) | (simp only [sizeLine24, List.length_cons, List.length_nil, List.length_append, List.length_map, rng_len, enumD_length, zipD_length, List.length_range]; omega) | (refine And.intro ?_ ?_ <;> omega) | (refine Or.inl (And.intro ?_ ?_) <;> omega) | (refine Or.inr (And.intro ?_ ?_) <;> omega) | fail)))) | (refine' Exists.intro _ (Exists.intro _ (Exists.intro _ (And.intro rfl (And.intro rfl (And.intro rfl (And.intro ?side ?_)))))); case side => (first | (first | with_reducible assumption | with_reducible rfl | omega | assumption | rfl | decide | exact trivial | exact Or.inl rfl | exact Or.inr rfl | exact Nat.le_of_ble_eq_true rfl | (dsimp only; omega) | (simp only [sizeLine24]; omega) | (simp only [sizeLine24, List.length_cons, List.length_nil, List.length_append, List.length_map, rng_len, enumD_length, zipD_length, List.length_range]; omega) | (refine And.intro ?_ ?_ <;> omega) | (refine Or.inl (And.intro ?_ ?_) <;> omega) | (refine Or.inr (And.intro ?_ ?_) <;> omega) | fail) | ((repeat' (first | with_reducible assumption | with_reducible refine And.intro ?_ ?_)) <;> (first | with_reducible assumption | with_reducible rfl | omega | assumption | rfl | decide | exact trivial | exact Or.inl rfl | exact Or.inr rfl | exact Nat.le_of_ble_eq_true rfl | (dsimp only; omega) | (simp only [sizeLine24]; omega) | (simp only [sizeLine24, List.length_cons, List.length_nil, List.length_append, List.length_map, rng_len, enumD_length, zipD_length, List.length_range]; omega) | (refine And.intro ?_ ?_ <;> omega) | (refine Or.inl (And.intro ?_ ?_) <;> omega) | (refine Or.inr (And.intro ?_ ?_) <;> omega) | fail)))) | (refine' Exists.intro _ (Exists.intro _ (Exists.intro _ (And.intro rfl (And.intro rfl (And.intro ?side ?_))))); case side => (first | (first | with_reducible assumption | with_reducible rfl | omega | assumption | rfl | decide | exact trivial | exact Or.inl rfl | exact Or.inr rfl | exact Nat.le_of_ble_eq_true rfl | (dsimp only; omega) | (simp only [sizeLine24]; omega) | (simp only [sizeLine24, List.length_cons, List.length_nil, List.length_append, List.length_map, rng_len, enumD_length, zipD_length, List.length_range]; omega) | (refine And.intro ?_ ?_ <;> omega) | (refine Or.inl (And.intro ?_ ?_) <;> omega) | (refine Or.inr (And.intro ?_ ?_) <;> omega) | fail) | ((repeat' (first | with_reducible assumption | with_reducible refine And.intro ?_ ?_)) <;> (first | with_reducible assumption | with_reducible rfl | omega | assumption | rfl | decide | exact trivial | exact Or.inl rfl | exact Or.inr rfl | exact Nat.le_of_ble_eq_true rfl | (dsimp only; omega) | (simp only [sizeLine24]; omega) | (simp only [sizeLine24, List.length_cons, List.length_nil, List.length_append, List.length_map, rng_len, enumD_length, zipD_length, List.length_range]; omega) | (refine And.intro ?_ ?_ <;> omega) | (refine Or.inl (And.intro ?_ ?_) <;> omega) | (refine Or.inr (And.intro ?_ ?_) <;> omega) | fail)))) | (refine' Exists.intro _ (Exists.intro _ (Exists.intro _ (And.intro rfl (And.intro ?side ?_)))); case side => (first | (first | with_reducible assumption | with_reducible rfl | omega | assumption | rfl | decide | exact trivial | exact Or.inl rfl | exact Or.inr rfl | exact Nat.le_of_ble_eq_true rfl | (dsimp only; omega) | (simp only [sizeLine24]; omega) | (simp only [sizeLine24, List.length_cons, List.length_nil, List.length_append, List.length_map, rng_len, enumD_length, zipD_length, List.length_range]; omega) | (refine And.intro ?_ ?_ <;> omega) | (refine Or.inl (And.intro ?_ ?_) <;> omega) | (refine Or.inr (And.intro ?_ ?_) <;> omega) | fail) | ((repeat' (first | with_reducible assumption | with_reducible refine And.intro ?_ ?_)) <;> (first | with_reducible assumption | with_reducible rfl | omega | assumption | rfl | decide | exact trivial | exact Or.inl rfl | exact Or.inr rfl | exact Nat.le_of_ble_eq_true rfl | (dsimp only; omega) | (simp only [sizeLine24]; omega) | (simp only [sizeLine24, List.length_cons, List.length_nil, List.length_append, List.length_map, rng_len, enumD_length, zipD_length, List.length_range]; omega) | (refine And.intro ?_ ?_ <;> omega) | (refine Or.inl (And.intro ?_ ?_) <;> omega) | (refine Or.inr (And.intro ?_ ?_) <;> omega) | fail)))) | (refine' Exists.intro _ (Exists.intro _ (Exists.intro _ (And.intro ?side ?_))); case side => (first | (first | with_reducible assumption | with_reducible rfl | omega | assumption | rfl | decide | exact trivial | exact Or.inl rfl | exact Or.inr rfl | exact Nat.le_of_ble_eq_true rfl | (dsimp only; omega) | (simp only [sizeLine24]; omega) | (simp only [sizeLine24, List.length_cons, List.length_nil, List.length_append, List.length_map, rng_len, enumD_length, zipD_length, List.length_range]; omega) | (refine And.intro ?_ ?_ <;> omega) | (refine Or.inl (And.intro ?_ ?_) <;> omega) | (refine Or.inr (And.intro ?_ ?_) <;> omega) | fail) | ((repeat' (first | with_reducible assumption | with_reducible refine And.intro ?_ ?_)) <;> (first | with_reducible assumption | with_reducible rfl | omega | assumption | rfl | decide | exact trivial | exact Or.inl rfl | exact Or.inr rfl | exact Nat.le_of_ble_eq_true rfl | (dsimp only; omega) | (simp only [sizeLine24]; omega) | (simp only [sizeLine24, List.length_cons, List.length_nil, List.length_append, List.length_map, rng_len, enumD_length, zipD_length, List.length_range]; omega) | (refine And.intro ?_ ?_ <;> omega) | (refine Or.inl (And.intro ?_ ?_) <;> omega) | (refine Or.inr (And.intro ?_ ?_) <;> omega) | fail)))) | (refine' Exists.intro _ (Exists.intro _ (Exists.intro _ (Exists.intro _ (And.intro rfl (And.intro rfl (And.intro rfl (And.intro rfl (And.intro ?side ?_)))))))); case side => (first | (first | with_reducible assumption | with_reducible rfl | omega | assumption | rfl | decide | exact trivial | exact Or.inl rfl | exact Or.inr rfl | exact Nat.le_of_ble_eq_true rfl | (dsimp only; omega) | (simp only [sizeLine24]; omega) | (simp only [sizeLine24, List.length_cons, List.length_nil, List.length_append, List.length_map, rng_len, enumD_length, zipD_length, List.length_range]; omega) | (refine And.intro ?_ ?_ <;> omega) | (refine Or.inl (And.intro ?_ ?_) <;> omega) | (refine Or.inr (And.intro ?_ ?_) <;> omega) | fail) | ((repeat' (first | with_reducible assumption | with_reducible refine And.intro ?_ ?_)) <;> (first | with_reducible assumption | with_reducible rfl | omega | assumption | rfl | decide | exact trivial | exact Or.inl rfl | exact Or.inr rfl | exact Nat.le_of_ble_eq_true rfl | (dsimp only; omega) | (simp only [sizeLine24]; omega) | (simp only [sizeLine24, List.length_cons, List.length_nil, List.length_append, List.length_map, rng_len, enumD_length, zipD_length, List.length_range]; omega) | (refine And.intro ?_ ?_ <;> omega) | (refine Or.inl (And.intro ?_ ?_) <;> omega) | (refine Or.inr (And.intro ?_ ?_) <;> omega) | fail)))) | (refine' Exists.intro _ (Exists.intro _ (Exists.intro _ (Exists.intro _ (And.intro rfl (And.intro rfl (And.intro rfl (And.intro ?side ?_))))))); case side => (first | (first | with_reducible assumption | with_reducible rfl | omega | assumption | rfl | decide | exact trivial | exact Or.inl rfl | exact Or.inr rfl | exact Nat.le_of_ble_eq_true rfl | (dsimp only; omega) | (simp only [sizeLine24]; omega) | (simp only [sizeLine24, List.length_cons, List.length_nil, List.length_append, List.length_map, rng_len, enumD_length, zipD_length, List.length_range]; omega) | (refine And.intro ?_ ?_ <;> omega) | (refine Or.inl (And.intro ?_ ?_) <;> omega) | (refine Or.inr (And.intro ?_ ?_) <;> omega) | fail) | ((repeat' (first | with_reducible assumption | with_reducible refine And.intro ?_ ?_)) <;> (first | with_reducible assumption | with_reducible rfl | omega | assumption | rfl | decide | exact trivial | exact Or.inl rfl | exact Or.inr rfl | exact Nat.le_of_ble_eq_true rfl | (dsimp only; omega) | (simp only [sizeLine24]; omega) | (simp only [sizeLine24, List.length_cons, List.length_nil, List.length_append, List.length_map, rng_len, enumD_length, zipD_length, List.length_range]; omega) | (refine And.intro ?_ ?_ <;> omega) | (refine Or.inl (And.intro ?_ ?_) <;> omega) | (refine Or.inr (And.intro ?_ ?_) <;> omega) | fail)))) | (refine' Exists.intro _ (Exists.intro _ (Exists.intro _ (Exists.intro _ (And.intro rfl (And.intro rfl (And.intro ?side ?_)))))); case side => (first | (first | with_reducible assumption | with_reducible rfl | omega | assumption | rfl | decide | exact trivial | exact Or.inl rfl | exact Or.inr rfl | exact Nat.le_of_ble_eq_true rfl | (dsimp only; omega) | (simp only [sizeLine24]; omega) | (simp only [sizeLine24, List.length_cons, List.length_nil, List.length_append, List.length_map, rng_len, enumD_length, zipD_length, List.length_range]; omega) | (refine And.intro ?_ ?_ <;> omega) | (refine Or.inl (And.intro ?_ ?_) <;> omega) | (refine Or.inr (And.intro ?_ ?_) <;> omega) | fail) | ((repeat' (first | with_reducible assumption | with_reducible refine And.intro ?_ ?_)) <;> (first | with_reducible assumption | with_reducible rfl | omega | assumption | rfl | decide | exact trivial | exact Or.inl rfl | exact Or.inr rfl | exact Nat.le_of_ble_eq_true rfl | (dsimp only; omega) | (simp only [sizeLine24]; omega) | (simp only [sizeLine24, List.length_cons, List.length_nil, List.length_append, List.length_map, rng_len, enumD_length, zipD_length, List.length_range]; omega) | (refine And.intro ?_ ?_ <;> omega) | (refine Or.inl (And.intro ?_ ?_) <;> omega) | (refine Or.inr (And.intro ?_ ?_) <;> omega) | fail)))) | (refine' Exists.intro _ (Exists.intro _ (Exists.intro _ (Exists.intro _ (And.intro rfl (And.intro ?side ?_))))); case side => (first | (first | with_reducible assumption | with_reducible rfl | omega | assumption | rfl | decide | exact trivial | exact Or.inl rfl | exact Or.inr rfl | exact Nat.le_of_ble_eq_true rfl | (dsimp only; omega) | (simp only [sizeLine24]; omega) | (simp only [sizeLine24, List.length_cons, List.length_nil, List.length_append, List.length_map, rng_len, enumD_length, zipD_length, List.length_range]; omega) | (refine And.intro ?_ ?_ <;> omega) | (refine Or.inl (And.intro ?_ ?_) <;> omega) | (refine Or.inr (And.intro ?_ ?_) <;> omega) | fail) | ((repeat' (first | with_reducible assumption | with_reducible refine And.intro ?_ ?_)) <;> (first | with_reducible assumption | with_reducible rfl | omega | assumption | rfl | decide | exact trivial | exact Or.inl rfl | exact Or.inr rfl | exact Nat.le_of_ble_eq_true rfl | (dsimp only; omega) | (simp only [sizeLine24]; omega) | (simp only [sizeLine24, List.length_cons, List.length_nil, List.length_append, List.length_map, rng_len, enumD_length, zipD_length, List.length_range]; omega) | (refine And.intro ?_ ?_ <;> omega) | (refine Or.inl (And.intro ?_ ?_) <;> omega) | (refine Or.inr (And.intro ?_ ?_) <;> omega) | fail)))) | (refine' Exists.intro _ (Exists.intro _ (Exists.intro _ (Exists.intro _ (Exists.intro _ (And.intro rfl (And.intro rfl (And.intro rfl (And.intro rfl (And.intro rfl (And.intro ?side ?_)))))))))); case side => (first | (first | with_reducible assumption | with_reducible rfl | omega | assumption | rfl | decide | exact trivial | exact Or.inl rfl | exact Or.inr rfl | exact Nat.le_of_ble_eq_true rfl | (dsimp only; omega) | (simp only [sizeLine24]; omega) | (simp only [sizeLine24, List.length_cons, List.length_nil, List.length_append, List.length_map, rng_len, enumD_length, zipD_length, List.length_range]; omega) | (refine And.intro ?_ ?_ <;> omega) | (refine Or.inl (And.intro ?_ ?_) <;> omega) | (refine Or.inr (And.intro ?_ ?_) <;> omega) | fail) | ((repeat' (first | with_reducible assumption | with_reducible refine And.intro ?_ ?_)) <;> (first | with_reducible assumption | with_reducible rfl | omega | assumption | rfl | decide | exact trivial | exact Or.inl rfl | exact Or.inr rfl | exact Nat.le_of_ble_eq_true rfl | (dsimp only; omega) | (simp only [sizeLine24]; omega) | (simp only [sizeLine24, List.length_cons, List.length_nil, List.length_append, List.length_map, rng_len, enumD_length, zipD_length, List.length_range]; omega) | (refine And.intro ?_ ?_ <;> omega) | (refine Or.inl (And.intro ?_ ?_) <;> omega) | (refine Or.inr (And.intro ?_ ?_) <;> omega) | fail)))) | (refine' Exists.intro _ (Exists.intro _ (Exists.intro _ (Exists.intro _ (Exists.intro _ (And.intro rfl (And.intro rfl (And.intro rfl (And.intro rfl (And.intro ?side ?_))))))))); case side => (first | (first | with_reducible assumption | with_reducible rfl | omega | assumption | rfl | decide | exact trivial | exact Or.inl rfl | exact Or.inr rfl | exact Nat.le_of_ble_eq_true rfl | (dsimp only; omega) | (simp only [sizeLine24]; omega) | (simp only [sizeLine24, List.length_cons, List.length_nil, List.length_append, List.length_map, rng_len, enumD_length, zipD_length, List.length_range]; omega) | (refine And.intro ?_ ?_ <;> omega) | (refine Or.inl (And.intro ?_ ?_) <;> omega) | (refine Or.inr (And.intro ?_ ?_) <;> omega) | fail) | ((repeat' (first | with_reducible assumption | with_reducible refine And.intro ?_ ?_)) <;> (first | with_reducible assumption | with_reducible rfl | omega | assumption | rfl | decide | exact trivial | exact Or.inl rfl | exact Or.inr rfl | exact Nat.le_of_ble_eq_true rfl | (dsimp only; omega) | (simp only [sizeLine24]; omega) | (simp only [sizeLine24, List.length_cons, List.length_nil, List.length_append, List.length_map, rng_len, enumD_length, zipD_length, List.length_range]; omega) | (refine And.intro ?_ ?_ <;> omega) | (refine Or.inl (And.intro ?_ ?_) <;> omega) | (refine Or.inr (And.intro ?_ ?_) <;> omega) | fail)))) | (refine' Exists.intro _ (Exists.intro _ (Exists.intro _ (Exists.intro _ (Exists.intro _ (And.intro rfl (And.intro rfl (And.intro rfl (And.intro ?side ?_)))))))); case side => (first | (first | with_reducible assumption | with_reducible rfl | omega | assumption | rfl | decide | exact trivial | exact Or.inl rfl | exact Or.inr rfl | exact Nat.le_of_ble_eq_true rfl | (dsimp only; omega) | (simp only [sizeLine24]; omega) | (simp only [sizeLine24, List.length_cons, List.length_nil, List.length_append, List.length_map, rng_len, enumD_length, zipD_length, List.length_range]; omega) | (refine And.intro ?_ ?_ <;> omega) | (refine Or.inl (And.intro ?_ ?_) <;> omega) | (refine Or.inr (And.intro ?_ ?_) <;> omega) | fail) | ((repeat' (first | with_reducible assumption | with_reducible refine And.intro ?_ ?_)) <;> (first | with_reducible assumption | with_reducible rfl | omega | assumption | rfl | decide | exact trivial | exact Or.inl rfl | exact Or.inr rfl | exact Nat.le_of_ble_eq_true rfl | (dsimp only; omega) | (simp only [sizeLine24]; omega) | (simp only [sizeLine24, List.length_cons, List.length_nil, List.length_append, List.length_map, rng_len, enumD_length, zipD_length, List.length_range]; omega) | (refine And.intro ?_ ?_ <;> omega) | (refine Or.inl (And.intro ?_ ?_) <;> omega) | (refine Or.inr (And.intro ?_ ?_) <;> omega) | fail)))) | (refine' Exists.intro _ (Exists.intro _ (Exists.intro _ (Exists.intro _ (Exists.intro _ (Exists.intro _ (And.intro rfl (And.intro rfl (And.intro rfl (And.intro rfl (And.intro rfl (And.intro rfl (And.intro ?side ?_)))))))))))); case side => (first | (first | with_reducible assumption | with_reducible rfl | omega | assumption | rfl | decide | exact trivial | exact Or.inl rfl | exact Or.inr rfl | exact Nat.le_of_ble_eq_true rfl | (dsimp only; omega) | (simp only [sizeLine24]; omega) | (simp only [sizeLine24, List.length_cons, List.length_nil, List.length_append, List.length_map, rng_len, enumD_length, zipD_length, List.length_range]; omega) | (refine And.intro ?_ ?_ <;> omega) | (refine Or.inl (And.intro ?_ ?_) <;> omega) | (refine Or.inr (And.intro ?_ ?_) <;> omega) | fail) | ((repeat' (first | with_reducible assumption | with_reducible refine And.intro ?_ ?_)) <;> (first | with_reducible assumption | with_reducible rfl | omega | assumption | rfl | decide | exact trivial | exact Or.inl rfl | exact Or.inr rfl | exact Nat.le_of_ble_eq_true rfl | (dsimp only; omega) | (simp only [sizeLine24]; omega) | (simp only [sizeLine24, List.length_cons, List.length_nil, List.length_append, List.length_map, rng_len, enumD_length, zipD_length, List.length_range]; omega) | (refine And.intro ?_ ?_ <;> omega) | (refine Or.inl (And.intro ?_ ?_) <;> omega) | (refine Or.inr (And.intro ?_ ?_) <;> omega) | fail)))) | (refine' Exists.intro _ (Exists.intro _ (Exists.intro _ (Exists.intro _ (Exists.intro _ (Exists.intro _ (And.intro rfl (And.intro rfl (And.intro rfl (And.intro rfl (And.intro rfl (And.intro ?side ?_))))))))))); case side => (first | (first | with_reducible assumption | with_reducible rfl | omega | assumption | rfl | decide | exact trivial | exact Or.inl rfl | exact Or.inr rfl | exact Nat.le_of_ble_eq_true rfl | (dsimp only; omega) | (simp only [sizeLine24]; omega) | (simp only [sizeLine24, List.length_cons, List.length_nil, List.length_append, List.length_map, rng_len, enumD_length, zipD_length, List.length_range]; omega) | (refine And.intro ?_ ?_ <;> omega) | (refine Or.inl (And.intro ?_ ?_) <;> omega) | (refine Or.inr (And.intro ?_ ?_) <;> omega) | fail) | ((repeat' (first | with_reducible assumption | with_reducible refine And.intro ?_ ?_)) <;> (first | with_reducible assumption | with_reducible rfl | omega | assumption | rfl | decide | exact trivial | exact Or.inl rfl | exact Or.inr rfl | exact Nat.le_of_ble_eq_true rfl | (dsimp only; omega) | (simp only [sizeLine24]; omega) | (simp only [sizeLine24, List.length_cons, List.length_nil, List.length_append, List.length_map, rng_len, enumD_length, zipD_length, List.length_range]; omega) | (refine And.intro ?_ ?_ <;> omega) | (refine Or.inl (And.intro ?_ ?_) <;> omega) | (refine Or.inr (And.intro ?_ ?_) <;> omega) | fail)))) | (refine' Exists.intro _ (Exists.intro _ (Exists.intro _ (Exists.intro _ (Exists.intro _ (Exists.intro _ (And.intro rfl (And.intro rfl (And.intro rfl (And.intro rfl (And.intro ?side ?_)))))))))); case side => (first | (first | with_reducible assumption | with_reducible rfl | omega | assumption | rfl | decide | exact trivial | exact Or.inl rfl | exact Or.inr rfl | exact Nat.le_of_ble_eq_true rfl | (dsimp only; omega) | (simp only [sizeLine24]; omega) | (simp only [sizeLine24, List.length_cons, List.length_nil, List.length_append, List.length_map, rng_len, enumD_length, zipD_length, List.length_range]; omega) | (refine And.intro ?_ ?_ <;> omega) | (refine Or.inl (And.intro ?_ ?_) <;> omega) | (refine Or.inr (And.intro ?_ ?_) <;> omega) | fail) | ((repeat' (first | with_reducible assumption | with_reducible refine And.intro ?_ ?_)) <;> (first | with_reducible assumption | with_reducible rfl | omega | assumption | rfl | decide | exact trivial | exact Or.inl rfl | exact Or.inr rfl | exact Nat.le_of_ble_eq_true rfl | (dsimp only; omega) | (simp only [sizeLine24]; omega) | (simp only [sizeLine24, List.length_cons, List.length_nil, List.length_append, List.length_map, rng_len, enumD_length, zipD_length, List.length_range]; omega) | (refine And.intro ?_ ?_ <;> omega) | (refine Or.inl (And.intro ?_ ?_) <;> omega) | (refine Or.inr (And.intro ?_ ?_) <;> omega) | fail)))) | fail)))
set_option hygiene false in
local macro_rules | `(tactic| walk_at "m3 br") => `(tactic| (((conv => whnf); (first | (refine br_t ?hk ?_; case hk => (first | rfl | assumption | (apply decide_eq_true; first | omega | assumption) | (apply nt; (first | assumption | (apply decide_eq_false; first | omega | assumption) | fail)) | fail)) | (refine br_f ?hk ?_; case hk => (first | rfl | assumption | (apply decide_eq_false; first | omega | assumption) | (apply nf; (first | assumption | (apply decide_eq_true; first | omega | assumption) | fail)) | fail)) | (refine br.mk (fun hbr => ?_) (fun hbr => ?_) <;> (first | exact Bool.noConfusion (show false = true from hbr) | exact Bool.noConfusion (show true = false from hbr) | simp only [decide_eq_true_eq, decide_eq_false_iff_not, Bool.not_eq_true', Bool.not_eq_false', Bool.and_eq_true, Bool.not_not, id_eq, not_true_eq_false] at hbr | skip))))))

structure TxE (K : PySem.W.Frag) (mg : Str → Option Value) (cc : Str → Addr) : Prop where
  e_NoSaying : ExCls K mg "NoSaying" (cc "NoSaying")
  e_TooWide : ExCls K mg "TooWide" (cc "TooWide")
  e_NoCount : ExCls K mg "NoCount" (cc "NoCount")
  e_NoKeep : ExCls K mg "NoKeep" (cc "NoKeep")
  e_NoNumber : ExCls K mg "NoNumber" (cc "NoNumber")
  e_NoPrices : ExCls K mg "NoPrices" (cc "NoPrices")
  e_NoRoom : ExCls K mg "NoRoom" (cc "NoRoom")
  e_NoStep : ExCls K mg "NoStep" (cc "NoStep")
  e_NoClasses : ExCls K mg "NoClasses" (cc "NoClasses")
  e_NoWatcher : ExCls K mg "NoWatcher" (cc "NoWatcher")
  e_Unlike : ExCls K mg "Unlike" (cc "Unlike")
structure TxC (K : PySem.W.Frag) (mg : Str → Option Value) (cc : Str → Addr) : Prop where
  g : mg "WardError" = some (.ref (cc "WardError"))
  x_NoSaying : PySem.W.exmOne K (.ref (cc "NoSaying")) (.ref (cc "WardError")) = some true
  c_NoSaying : ExcC K (cc "NoSaying")
  v_NoSaying : PySem.W.kitOne K (.ref (cc "NoSaying")) (.type "ValueError") = some true
  k_NoSaying_NoSaying : PySem.W.kitOne K (.ref (cc "NoSaying")) (.ref (cc "NoSaying")) = some true
  k_NoSaying_TooWide : PySem.W.kitOne K (.ref (cc "NoSaying")) (.ref (cc "TooWide")) = some false
  k_NoSaying_NoCount : PySem.W.kitOne K (.ref (cc "NoSaying")) (.ref (cc "NoCount")) = some false
  k_NoSaying_NoKeep : PySem.W.kitOne K (.ref (cc "NoSaying")) (.ref (cc "NoKeep")) = some false
  k_NoSaying_NoNumber : PySem.W.kitOne K (.ref (cc "NoSaying")) (.ref (cc "NoNumber")) = some false
  k_NoSaying_NoPrices : PySem.W.kitOne K (.ref (cc "NoSaying")) (.ref (cc "NoPrices")) = some false
  k_NoSaying_NoRoom : PySem.W.kitOne K (.ref (cc "NoSaying")) (.ref (cc "NoRoom")) = some false
  k_NoSaying_NoStep : PySem.W.kitOne K (.ref (cc "NoSaying")) (.ref (cc "NoStep")) = some false
  k_NoSaying_NoClasses : PySem.W.kitOne K (.ref (cc "NoSaying")) (.ref (cc "NoClasses")) = some false
  k_NoSaying_NoWatcher : PySem.W.kitOne K (.ref (cc "NoSaying")) (.ref (cc "NoWatcher")) = some false
  k_NoSaying_Unlike : PySem.W.kitOne K (.ref (cc "NoSaying")) (.ref (cc "Unlike")) = some false
  x_TooWide : PySem.W.exmOne K (.ref (cc "TooWide")) (.ref (cc "WardError")) = some true
  c_TooWide : ExcC K (cc "TooWide")
  v_TooWide : PySem.W.kitOne K (.ref (cc "TooWide")) (.type "ValueError") = some true
  k_TooWide_NoSaying : PySem.W.kitOne K (.ref (cc "TooWide")) (.ref (cc "NoSaying")) = some false
  k_TooWide_TooWide : PySem.W.kitOne K (.ref (cc "TooWide")) (.ref (cc "TooWide")) = some true
  k_TooWide_NoCount : PySem.W.kitOne K (.ref (cc "TooWide")) (.ref (cc "NoCount")) = some false
  k_TooWide_NoKeep : PySem.W.kitOne K (.ref (cc "TooWide")) (.ref (cc "NoKeep")) = some false
  k_TooWide_NoNumber : PySem.W.kitOne K (.ref (cc "TooWide")) (.ref (cc "NoNumber")) = some false
  k_TooWide_NoPrices : PySem.W.kitOne K (.ref (cc "TooWide")) (.ref (cc "NoPrices")) = some false
  k_TooWide_NoRoom : PySem.W.kitOne K (.ref (cc "TooWide")) (.ref (cc "NoRoom")) = some false
  k_TooWide_NoStep : PySem.W.kitOne K (.ref (cc "TooWide")) (.ref (cc "NoStep")) = some false
  k_TooWide_NoClasses : PySem.W.kitOne K (.ref (cc "TooWide")) (.ref (cc "NoClasses")) = some false
  k_TooWide_NoWatcher : PySem.W.kitOne K (.ref (cc "TooWide")) (.ref (cc "NoWatcher")) = some false
  k_TooWide_Unlike : PySem.W.kitOne K (.ref (cc "TooWide")) (.ref (cc "Unlike")) = some false
abbrev DoneL (S : Say) (n : Nat) : Prop := FDone S.signs.toNat S.deeds.toNat (stepLt S) [] n
abbrev WidL (S : Say) : Prop := FWid S.signs.toNat S.deeds.toNat (stepLt S) []
def prsD (S : Say) (n : Nat) : D := .tuple ((fcC S.signs.toNat S.deeds.toNat (stepLt S) [] n).map rowD)
def X_need_saying (cc : Str → Addr) : PrmX where
  p := fun ws Q E => (sD fun (x : D) => sEnd fun Q => br (sayB x) (Q (.d .none) []) (E ⟨.ref (cc "NoSaying"), none⟩)) ws Q
  mono := fun ws Q Q' E E' hq he h0 => by
    obtain ⟨x, ws0, rfl, h1⟩ := sD.inv h0; obtain ⟨rfl, h⟩ := sEnd.inv h1
    show br (sayB x) (Q' (.d .none) []) (E' ⟨.ref (cc "NoSaying"), none⟩)
    repeat' (first | exact h | exact hq _ _ h | exact he _ h | exact fun r => hq _ _ (h r) | exact fun r => he _ (h r) | exact fun r e => hq _ _ (h r e) | (refine br.imp h (fun h => ?_) (fun h => ?_)) | (refine And.imp_right (fun h => ?_) h) | (refine Exists.imp (fun w h => ?_) h) | (refine And.imp (fun h => ?_) (fun h => ?_) h))
def X_lag75 (cc : Str → Addr) : PrmX where
  p := fun ws Q E => (sD fun (x : D) => sEnd fun Q => ∃ (S : Say), (x = S.d ∧ S.Ok) ∧ (∀ n, DoneL S n → Q (.d (.tuple [prsD S n, (ltS S n).d])) []) ∧ (WidL S → E ⟨.ref (cc "TooWide"), none⟩)) ws Q
  mono := fun ws Q Q' E E' hq he h0 => by
    obtain ⟨x, ws0, rfl, h1⟩ := sD.inv h0; obtain ⟨rfl, h⟩ := sEnd.inv h1
    show ∃ (S : Say), (x = S.d ∧ S.Ok) ∧ (∀ n, DoneL S n → Q' (.d (.tuple [prsD S n, (ltS S n).d])) []) ∧ (WidL S → E' ⟨.ref (cc "TooWide"), none⟩)
    repeat' (first | exact h | exact hq _ _ h | exact he _ h | exact fun r => hq _ _ (h r) | exact fun r => he _ (h r) | exact fun r e => hq _ _ (h r e) | (refine br.imp h (fun h => ?_) (fun h => ?_)) | (refine And.imp_right (fun h => ?_) h) | (refine Exists.imp (fun w h => ?_) h) | (refine And.imp (fun h => ?_) (fun h => ?_) h))
def X_late75 (cc : Str → Addr) : PrmX where
  p := fun ws Q E => (sD fun (x : D) => sEnd fun Q => br (sayB x) (∃ S : Say, (x = S.d ∧ S.Ok) ∧ (∀ n, DoneL S n → Q (.d (ltS S n).d) []) ∧ (WidL S → E ⟨.ref (cc "TooWide"), none⟩)) (E ⟨.ref (cc "NoSaying"), none⟩)) ws Q
  mono := fun ws Q Q' E E' hq he h0 => by
    obtain ⟨x, ws0, rfl, h1⟩ := sD.inv h0; obtain ⟨rfl, h⟩ := sEnd.inv h1
    show br (sayB x) (∃ S : Say, (x = S.d ∧ S.Ok) ∧ (∀ n, DoneL S n → Q' (.d (ltS S n).d) []) ∧ (WidL S → E' ⟨.ref (cc "TooWide"), none⟩)) (E' ⟨.ref (cc "NoSaying"), none⟩)
    repeat' (first | exact h | exact hq _ _ h | exact he _ h | exact fun r => hq _ _ (h r) | exact fun r => he _ (h r) | exact fun r e => hq _ _ (h r e) | (refine br.imp h (fun h => ?_) (fun h => ?_)) | (refine And.imp_right (fun h => ?_) h) | (refine Exists.imp (fun w h => ?_) h) | (refine And.imp (fun h => ?_) (fun h => ?_) h))
def X_rlate75 (cc : Str → Addr) : PrmX where
  p := fun ws Q E => (sD fun (x : D) => sEnd fun Q => br (sayB x) (∃ S : Say, (x = S.d ∧ S.Ok) ∧ (∀ n, DoneL S n → Q (.d (prsD S n)) []) ∧ (WidL S → E ⟨.ref (cc "TooWide"), none⟩)) (E ⟨.ref (cc "NoSaying"), none⟩)) ws Q
  mono := fun ws Q Q' E E' hq he h0 => by
    obtain ⟨x, ws0, rfl, h1⟩ := sD.inv h0; obtain ⟨rfl, h⟩ := sEnd.inv h1
    show br (sayB x) (∃ S : Say, (x = S.d ∧ S.Ok) ∧ (∀ n, DoneL S n → Q' (.d (prsD S n)) []) ∧ (WidL S → E' ⟨.ref (cc "TooWide"), none⟩)) (E' ⟨.ref (cc "NoSaying"), none⟩)
    repeat' (first | exact h | exact hq _ _ h | exact he _ h | exact fun r => hq _ _ (h r) | exact fun r => he _ (h r) | exact fun r e => hq _ _ (h r e) | (refine br.imp h (fun h => ?_) (fun h => ?_)) | (refine And.imp_right (fun h => ?_) h) | (refine Exists.imp (fun w h => ?_) h) | (refine And.imp (fun h => ?_) (fun h => ?_) h))
def ToldLag (S : Say) (x : D) : Prop := (∃ n, DoneL S n ∧ x = .tuple [prsD S n, (ltS S n).d]) ∨ (WidL S ∧ x = .none)
def S_llag75 : PrmC where
  sp := sD fun (v0 : D) => sEnd fun Q => ∃ (S : Say), v0 = S.d ∧ (S.Ok) ∧ ∀ (x : D), ToldLag S x → Q (.d x) []
  mono := sD.mono fun _ => sEnd.mono fun Q Q' hq ⟨S, e0, pre, q⟩ => ⟨S, e0, pre, fun x h => hq _ _ (q x h)⟩
theorem row_eqv (a b : Rw) : PyData.eqv (rowD a) (rowD b) = decide (a = b) := by
  by_cases h : a = b
  · subst h
    rw [decide_eq_true rfl]
    have : PyData.eqvAll (a.map cellD) (a.map cellD) = true := eqvAll_self _ fun x hx => by
      obtain ⟨c, _, rfl⟩ := List.mem_map.mp hx
      cases c <;> simp [cellD, PyData.eqv]
    simpa [rowD, PyData.eqv] using this
  · rw [decide_eq_false h, Bool.eq_false_iff]
    exact fun z => h (eqv_row a b z)
theorem rows_any (B : List Rw) (f : Rw) : ((B.map rowD).any fun z => PyData.eqv z (rowD f)) = decide (f ∈ B) := by
  rw [Bool.eq_iff_iff, List.any_eq_true, decide_eq_true_eq]
  constructor
  · rintro ⟨x, hx, e⟩
    obtain ⟨b, hb, rfl⟩ := List.mem_map.mp hx
    rw [row_eqv, decide_eq_true_eq] at e
    exact e ▸ hb
  · exact fun h => ⟨_, List.mem_map.mpr ⟨f, h, rfl⟩, by rw [row_eqv]; exact decide_eq_true rfl⟩
theorem rows_lay : ∀ B : List Rw, PyData.canLayAll0 (B.map rowD) = true
  | [] => rfl
  | b :: B => by
    rw [List.map_cons, PyData.canLayAll0, rows_lay B]
    have := cells_lay b
    simp only [rowD, PyData.canLay0, this]; rfl
theorem row_lay (f : Rw) : (rowD f).canLay0 = true := by
  have := cells_lay f
  simp only [rowD, PyData.canLay0, this]
theorem row_depth (f : Rw) : (rowD f).depth ≤ 1 := by
  have := sh_depth (k := 0) (f.map cellD) fun x hx => by
    obtain ⟨c, _, rfl⟩ := List.mem_map.mp hx
    cases c <;> simp [cellD, PyData.depth]
  simp only [rowD, PyData.depth]; omega
theorem rows_shaped (B : List Rw) : SeqAt.shaped (.list (B.map rowD)) = true := by
  unfold SeqAt.shaped
  rw [Bool.and_eq_true, decide_eq_true_eq]
  refine ⟨by simpa [PyData.canLay0] using rows_lay B, ?_⟩
  have := sh_depth (k := 1) (B.map rowD) fun x hx => by
    obtain ⟨c, _, rfl⟩ := List.mem_map.mp hx
    exact row_depth c
  simp only [PyData.depth]; omega
theorem row_shaped (f : Rw) : SeqAt.shaped (rowD f) = true := by
  unfold SeqAt.shaped
  rw [Bool.and_eq_true, decide_eq_true_eq]
  have := row_depth f
  exact ⟨row_lay f, by omega⟩
theorem idx_ne {α : Type} [DecidableEq α] {f : α} : ∀ (B : List α) (m : Nat), m < idxP B f → B[m]? ≠ some f
  | [], m, h => by simp
  | b :: B, m, h => by
    by_cases e : b = f
    · subst e; simp [idxP] at h
    · have h2 : m < idxP B f + 1 := by
        unfold idxP at h ⊢
        rw [List.idxOf_cons, show (b == f) = false by simpa using e] at h
        simpa using h
      cases m with
      | zero => simpa using e
      | succ m => simpa using idx_ne B m (by omega)
theorem shaped_of {y : D} {f : Rw} (h : y = rowD f) : SeqAt.shaped y = true := by rw [h]; exact row_shaped f
theorem eqv_of {y : D} {f : Rw} (h : y = rowD f) : PyData.eqv (rowD f) y = true := by rw [h, row_eqv]; exact decide_eq_true rfl
theorem eqv_of' {y : D} {f : Rw} (h : y = rowD f) : PyData.eqv y y = true := by rw [h, row_eqv]; exact decide_eq_true rfl
theorem ne_of {y z : D} {f : Rw} (h : y = rowD f) (hz : PyData.eqv z (rowD f) = false) : PyData.eqv z y = false := by rw [h]; exact hz
theorem row_first {B : List Rw} {f : Rw} (hf : f ∈ B) : (B.map rowD)[idxP B f]? = some (rowD f) ∧ ∀ m z, m < idxP B f → (B.map rowD)[m]? = some z → PyData.eqv z (rowD f) = false := by
  refine ⟨by rw [List.getElem?_map, idx_get hf]; rfl, fun m z hm hz => ?_⟩
  obtain ⟨r, hr, rfl, _⟩ := map_at hz
  rw [row_eqv]
  refine decide_eq_false fun e => ?_
  subst e
  exact idx_ne B m hm hr
def S_lany75 : PrmC where
  sp := sO 1 fun (ob : Ob) => sI fun (k : Int) => sEnd fun Q => ∃ (c : Nat), (IsPot c ob ∧ c ≤ 10 ^ 8 ∧ 0 ≤ k ∧ k ≤ 1000) ∧ ∀ (S : Say) (o : Ob), (S.Ok ∧ IsPot (c + 30000000) o) → Q (.d S.d) [o]
  mono := sO.mono fun _ => sI.mono fun _ => sEnd.mono fun Q Q' hq ⟨c, pre, q⟩ => ⟨c, pre, fun S o h => hq _ _ (q S o h)⟩
def AskedL (door : Int) (x z : D) : Prop := (sayB x = false ∧ z = .tuple [.str "saying", .none]) ∨ ∃ S : Say, x = S.d ∧ S.Ok ∧ ((∃ n, DoneL S n ∧ z = .tuple [.str "", if door = 0 then (ltS S n).d else prsD S n]) ∨ (WidL S ∧ z = .tuple [.str "wide", .none]))
def S_lasked75 : PrmC where
  sp := sI fun (door : Int) => sD fun (x : D) => sEnd fun Q => (0 ≤ door ∧ door ≤ 1) ∧ ∀ (z : D), AskedL door x z → Q (.d z) []
  mono := sI.mono fun _ => sD.mono fun _ => sEnd.mono fun Q Q' hq ⟨pre, q⟩ => ⟨pre, fun z h => hq _ _ (q z h)⟩
def S_lright75 : PrmC where
  sp := sD fun (x : D) => sEnd fun Q => (SzD 40 (10 ^ 45) 400000 x) ∧ Q (.d (.bool true)) []
  mono := sD.mono fun _ => sEnd.mono fun Q Q' hq ⟨pre, q⟩ => ⟨pre, hq _ _ q⟩
theorem map_inj2 {α β : Type} {f : α → β} (hf : ∀ a b, f a = f b → a = b) : ∀ {xs ys : List α}, xs.map f = ys.map f → xs = ys
  | [], [], _ => rfl
  | [], _ :: _, h => by simp at h
  | _ :: _, [], h => by simp at h
  | x :: xs, y :: ys, h => by
    simp only [List.map_cons, List.cons.injEq] at h
    rw [hf _ _ h.1, map_inj2 hf h.2]
theorem cell_inj (a b : Option Nat) (h : cellD a = cellD b) : a = b := by
  cases a <;> cases b
  · rfl
  · exact PyData.noConfusion h
  · exact PyData.noConfusion h
  · have := PyData.int.inj h
    rw [Int.ofNat_inj.mp this]
theorem rowD_inj (a b : Rw) (h : rowD a = rowD b) : a = b := map_inj2 cell_inj (PyData.tuple.inj h)
theorem roomD_inj (a b : List Rw) (h : roomD a = roomD b) : a = b := map_inj2 rowD_inj (PyData.tuple.inj h)
theorem say_inj {S T : Say} (h : S.d = T.d) : S = T := by
  obtain ⟨a, b, r⟩ := S
  obtain ⟨a', b', r'⟩ := T
  have h := PyData.tuple.inj h
  simp only [List.cons.injEq, and_true] at h
  obtain ⟨h1, h2, h3⟩ := h
  cases PyData.int.inj h1
  cases PyData.int.inj h2
  rw [map_inj2 roomD_inj (PyData.tuple.inj h3)]
theorem nest2_tup {n : Nat} {xs : List D} (h : xs.length ≤ 4000) (hx : ∀ x ∈ xs, nest2 n x) : nest2 (n + 1) (.tuple xs) := ⟨h, hx⟩
theorem nest2_mono : ∀ {n : Nat} {d : D}, nest2 n d → nest2 (n + 1) d
  | 0, d, h => by cases d <;> first | exact h.elim | trivial
  | n + 1, d, h => by
    cases d with
    | tuple xs => exact ⟨h.1, fun x hx => nest2_mono (h.2 x hx)⟩
    | _ => first | exact h.elim | trivial
theorem nest2_cell (c : Option Nat) : nest2 0 (cellD c) := by cases c <;> trivial
theorem nest2_row {r : Rw} (h : r.length ≤ 4000) : nest2 1 (rowD r) := nest2_tup (by simpa using h) fun x hx => by
  obtain ⟨c, _, rfl⟩ := List.mem_map.mp hx
  exact nest2_cell c
theorem nest2_say {S : Say} (hS : S.Ok) : nest2 4 S.d := by
  have h1 := hS.s9
  have h2 := hS.d9
  have h3 := hS.r100
  refine nest2_tup (by simp) fun x hx => ?_
  simp only [List.mem_cons, List.not_mem_nil, or_false] at hx
  rcases hx with rfl | rfl | rfl
  · trivial
  · trivial
  · refine nest2_tup (by simp; omega) fun x hx => ?_
    obtain ⟨room, hr, rfl⟩ := List.mem_map.mp hx
    obtain ⟨g1, g2⟩ := hS.wf room hr
    refine nest2_tup (by simp; omega) fun x hx => ?_
    obtain ⟨row, hr, rfl⟩ := List.mem_map.mp hx
    obtain ⟨g3, _⟩ := g2 row hr
    exact nest2_row (by omega)
theorem nest2_word {t : Str} {y : D} (h : nest2 4 y) : nest2 5 (.tuple [.str t, y]) := nest2_tup (by simp) fun x hx => by
  simp only [List.mem_cons, List.not_mem_nil, or_false] at hx
  rcases hx with rfl | rfl
  · trivial
  · exact h
theorem asked_none {door : Int} {x z : D} (h : AskedL door x z) (hx : sayB x = false) : z = .tuple [.str "saying", .none] := by
  rcases h with ⟨_, h⟩ | ⟨S, rfl, hS, _⟩
  · exact h
  · rw [Say.sayB hS] at hx; cases hx
theorem asked_done {door : Int} {S : Say} {z : D} {n : Nat} (h : AskedL door S.d z) (hS : S.Ok) (hn : DoneL S n) : z = .tuple [.str "", if door = 0 then (ltS S n).d else prsD S n] := by
  rcases h with ⟨h, _⟩ | ⟨T, e, hT, h⟩
  · rw [Say.sayB hS] at h; cases h
  · obtain rfl := say_inj e
    rcases h with ⟨m, hm, h⟩ | ⟨hw, _⟩
    · rw [fdone_one hn hm]; exact h
    · exact (fdone_wid hn hw).elim
theorem asked_wide {door : Int} {S : Say} {z : D} (h : AskedL door S.d z) (hS : S.Ok) (hw : WidL S) : z = .tuple [.str "wide", .none] := by
  rcases h with ⟨h, _⟩ | ⟨T, e, hT, h⟩
  · rw [Say.sayB hS] at h; cases h
  · obtain rfl := say_inj e
    rcases h with ⟨m, hm, h⟩ | ⟨_, h⟩
    · exact (fdone_wid hm hw).elim
    · exact h
theorem lt_nest {S : Say} {n : Nat} (hS : S.Ok) (hn : DoneL S n) : nest2 4 (ltS S n).d := nest2_say (fc_say rfl rfl ⟨hS.s1, hS.s9⟩ ⟨hS.d1, hS.d9⟩ hn)
theorem prs_nest {S : Say} {n : Nat} (hS : S.Ok) (hn : DoneL S n) : nest2 4 (prsD S n) := by
  have hok := fc_ok (a := S.signs.toNat) (b := S.deeds.toNat) (ok := OkLt S) (step := stepLt S) (b0 := []) (.inl rfl) (stepLt_ok hS) n
  refine nest2_mono (nest2_mono (nest2_tup (n := 1) ?_ fun x hx => ?_))
  · have h1 := hn.2.1
    have h2 := hn.2.2
    rw [List.length_map]; omega
  · obtain ⟨r, hr, rfl⟩ := List.mem_map.mp hx
    rcases hok r hr with rfl | ⟨a, d, rfl, _⟩
    · exact nest2_row (by simp)
    · exact nest2_row (by simp)
section
variable {P : Program} {w : World} {K : PySem.W.Frag} {mg : Str → Option Value} {base : Heap} {cc : Str → Addr}
theorem ok__law_pot {f : Addr} {fd : FuncData} (F : Fun K "_law_pot" "_law_pot" s__law_pot f fd) (T : Txt mg)  : FnOk P w K mg base CX0 1 f fd ["script", "k"] (liftF K S_pot.p) := by
  refine fnN F sc__law_pot (fun ws Q h0 => by (obtain ⟨v0, ws0, rfl, h1⟩ := sR.inv h0; obtain ⟨k, ws1, rfl, h2⟩ := sI.inv h1; obtain ⟨rfl, h⟩ := sEnd.inv h2); rfl) (fun cdv A outer s H E hr => ⟨_, (scN (set3 2 sc__law_pot.nd int3)
      (scN (if3 (lt3T (v3 1) (lenO3 0 (by rfl) T.b_len))
      (s13 (set3 2 sc__law_pot.nd (mod3 (abs3  (by rfl) T.b_abs (ixOK 0 (v3 1))) (pow3 (pow3 int3 int3) int3))))
      sn3)
      (s13 (retO3 (olst3 (ac3 (mulI3 (v3 2) (int3c  (by rfl) T.b_int (ge3 (v3 2) (pow3 int3 int3)))) (ac3 (mod3 (pow3 (add3 (add3 (mod3 (v3 2) int3) (mulI3 int3 (v3 1))) int3) int3) int3) (ac3 int3 an3)))))))), ?_⟩)
  intro ws Q h0
  obtain ⟨v0, ws0, rfl, h1⟩ := sR.inv h0
  obtain ⟨k, ws1, rfl, h2⟩ := sI.inv h1
  obtain ⟨rfl, h⟩ := sEnd.inv h2
  obtain ⟨ns, rfl, pre, q⟩ := h
  clear h0 h1 h2
  obtain ⟨hk, hk2⟩ := pre
  have fin : ∀ cell : Int, 0 ≤ cell → IsPot 0 (.lst [.int (cell * (if decide ((10 : Int) ^ Int.toNat 18 ≤ cell) then 1 else 0)), .int ((cell % 2147483629 + 7919 * k + 1) ^ Int.toNat 5 % 2305843009213693951), .int 0]) := by
    intro cell h0
    refine ⟨_, _, _, rfl, ?_, ?_, ?_, by decide, by decide⟩
    · split
      · omega
      · simp
    · exact Int.emod_nonneg _ (by decide)
    · exact Int.lt_trans (Int.emod_lt_of_pos _ (by decide)) (by decide)
  have bnd : ∀ cell : Int, (cell % 2147483629 + 7919 * k + 1).natAbs < 2 ^ 60 := fun cell => by
    have h1 := Int.emod_nonneg cell (show (2147483629 : Int) ≠ 0 by decide)
    have h2 := Int.emod_lt_of_pos cell (show (0 : Int) < 2147483629 by decide)
    omega
  have p18 : CPw 10 18 := cpw 4 (by decide) (by decide) (by decide)
  have p60 : CPw 10 60 := cpw 4 (by decide) (by decide) (by decide)
  have p10 : CPw (10 ^ Int.toNat 60) 10 := cpw 200 (by decide) (by decide) (by decide)
  have p5 : ∀ cell : Int, CPw (cell % 2147483629 + 7919 * k + 1) 5 := fun cell => cpw 60 (bnd _) (by decide) (by decide)
  have pos : (0 : Int) < (10 ^ Int.toNat 60) ^ Int.toNat 10 := by decide +kernel
  walk_at "m3 wpb"
  · obtain ⟨m, hm⟩ := at_ints hk hbr
    (conv => whnf)
    refine atK_of (hm) ?_
    walk_at "m3 wpb"
    refine And.intro (p5 _) ?_
    walk_at "m3 wpb"
    exact q _ (fin _ (Int.emod_nonneg _ (by decide +kernel)))
  · refine And.intro (p5 _) ?_
    walk_at "m3 wpb"
    exact q _ (fin _ (by decide))
theorem ok__law_take {f : Addr} {fd : FuncData} (F : Fun K "_law_take" "_law_take" s__law_take f fd) (T : Txt mg)  : FnOk P w K mg base CX0 1 f fd ["pot", "many"] (liftF K S_take.p) := by
  refine fnN F sc__law_take (fun ws Q h0 => by (obtain ⟨ob, ws0, rfl, h1⟩ := sO.inv h0; obtain ⟨many, ws1, rfl, h2⟩ := sI.inv h1; obtain ⟨rfl, h⟩ := sEnd.inv h2); rfl) (fun cdv A outer s H E hr => ⟨_, (scN (if3 (gt3T (ixOK 0 int3) int3)
      (scN (set3 2 sc__law_take.nd (mod3 (ixOK 0 int3) (v3 1)))
      (scN (setIx3 0 (fdiv3 (ixOK 0 int3) (v3 1)) int3)
      (s13 (ret3 (v3 2)))))
      sn3)
      (scN (setIx3 0 (add3 (ixOK 0 int3) int3) int3)
      (scN (set3 3 sc__law_take.nd (mod3 (pow3 (add3 (ixOK 0 int3) (mulI3 int3 (ixOK 0 int3))) int3) int3))
      (scN (set3 4 sc__law_take.nd (mod3 (pow3 (add3 (add3 (v3 3) (mod3 (ixOK 0 int3) int3)) (mulI3 int3 (ixOK 0 int3))) int3) int3))
      (s13 (ret3 (mod3 (fdiv3 (v3 4) int3) (v3 1)))))))), ?_⟩)
  intro ws Q h0
  obtain ⟨ob, ws0, rfl, h1⟩ := sO.inv h0
  obtain ⟨many, ws1, rfl, h2⟩ := sI.inv h1
  obtain ⟨rfl, h⟩ := sEnd.inv h2
  obtain ⟨c, pre, q⟩ := h
  clear h0 h1 h2
  obtain ⟨⟨x, y, z, rfl, hx, hy, hy2, hz, hz2⟩, hc, hm, hm2⟩ := pre
  have hz3 : z ≤ 10 ^ 12 := by omega
  have q' : ∀ (r : Int) (o : Ob), 0 ≤ r → r < many → IsPot (c + 1) o → Q (.d (.int r)) [o] := fun r o h0 h1 h2 => by
    have e := q r.toNat o ⟨by omega, h2⟩
    rw [show ((r.toNat : Nat) : Int) = r by omega] at e
    exact e
  walk_at "m3 wpb"
  · exact q' (x % many) (.lst [.int (x / many), .int y, .int z]) (Int.emod_nonneg _ (by omega)) (Int.emod_lt_of_pos _ hm) ⟨x / many, y, z, rfl, Int.ediv_nonneg hx (by omega), hy, hy2, hz, by omega⟩
  · refine And.intro (cpw 62 (by omega) (by decide) (by decide)) ?_
    walk_at "m3 wpb"
    refine And.intro (cpw 63 (by have h1 := Int.emod_nonneg ((y + 104729 * (z + 1)) ^ Int.toNat 3) (show (2305843009213693921 : Int) ≠ 0 by decide); have h2 := Int.emod_lt_of_pos ((y + 104729 * (z + 1)) ^ Int.toNat 3) (show (0 : Int) < 2305843009213693921 by decide); omega) (by decide) (by decide)) ?_
    walk_at "m3 wpb"
    exact q' _ (.lst [.int x, .int y, .int (z + 1)]) (Int.emod_nonneg _ (by omega)) (Int.emod_lt_of_pos _ hm) ⟨x, y, z + 1, rfl, hx, hy, hy2, by omega, by omega⟩
theorem ok__law_room {f : Addr} {fd : FuncData} (F : Fun K "_law_room" "_law_room" s__law_room f fd) (T : Txt mg) (C__law_take : CalC P w K mg base 1 "_law_take" ["pot", "many"] S_take) : FnOk P w K mg base CX0 2 f fd ["pot", "rooms", "rate"] (liftF K S_room.p) := by
  refine fnN F sc__law_room (fun ws Q h0 => by (obtain ⟨ob, ws0, rfl, h1⟩ := sO.inv h0; obtain ⟨rooms, ws1, rfl, h2⟩ := sI.inv h1; obtain ⟨rate, ws2, rfl, h3⟩ := sI.inv h2; obtain ⟨rfl, h⟩ := sEnd.inv h3); rfl) (fun cdv A outer s H E hr => ⟨_, (scN (if3 (eq3T hr.units (clC C__law_take hr (ro3 0 (rd3 (v3 2) rn3))) int3)
      (s13 (ret3 non3))
      sn3)
      (s13 (ret3 (clC C__law_take hr (ro3 0 (rd3 (v3 1) rn3)))))), ?_⟩)
  intro ws Q h0
  obtain ⟨ob, ws0, rfl, h1⟩ := sO.inv h0
  obtain ⟨rooms, ws1, rfl, h2⟩ := sI.inv h1
  obtain ⟨rate, ws2, rfl, h3⟩ := sI.inv h2
  obtain ⟨rfl, h⟩ := sEnd.inv h3
  obtain ⟨c, pre, q⟩ := h
  clear h0 h1 h2 h3
  obtain ⟨hp, hc, hr1, hr2⟩ := pre
  walk_at "m3 wpb"
  rintro i ob ⟨h_i, hp⟩
  walk_at "m3 wpb"
  · exact q none ob ⟨by simp, hp.mono (by omega)⟩
  · rintro j ob ⟨h_j, hp⟩
    walk_at "m3 wpb"
    exact q (some j) ob ⟨by simpa using h_j, hp.mono (by omega)⟩
theorem ok__law_saying {f : Addr} {fd : FuncData} (F : Fun K "_law_saying" "_law_saying" s__law_saying f fd) (T : Txt mg) (C__law_room : CalC P w K mg base 2 "_law_room" ["pot", "rooms", "rate"] S_room) : FnOk P w K mg base CX0 3 f fd ["pot", "signs", "deeds", "rooms", "rate"] (liftF K S_sayg.p) := by
  refine fnN F sc__law_saying (fun ws Q h0 => by (obtain ⟨ob, ws0, rfl, h1⟩ := sO.inv h0; obtain ⟨signs, ws1, rfl, h2⟩ := sI.inv h1; obtain ⟨deeds, ws2, rfl, h3⟩ := sI.inv h2; obtain ⟨rooms, ws3, rfl, h4⟩ := sI.inv h3; obtain ⟨rate, ws4, rfl, h5⟩ := sI.inv h4; obtain ⟨rfl, h⟩ := sEnd.inv h5); rfl) (fun cdv A outer s H E hr => ⟨_, (scN (setO3 5 sc__law_saying.nd (olst3 an3))
      (scN (forN [0, 5, 6] (ws0 := [6]) PassesOwn.never rfl (range3 (by rfl) T.b_range (v3 3)) (gn3 6 sc__law_saying.nd)
      (s13 (app3 5 (tuple3  (by rfl) T.b_tuple (PE3.lcM (lcM [0] (own := [("s", 7)]) rfl sc__law_saying.nd (range3 (by rfl) T.b_range (v3 1)) (blkOk_by (by kernel_rfl)) (fun _ _ _ _ _ => (gn3 7 sc__law_saying.nd)) (fun _ _ _ _ _ => (tuple3  (by rfl) T.b_tuple (PE3.lcM (lcM [0] (own := [("d", 8)]) rfl sc__law_saying.nd (range3 (by rfl) T.b_range (v3 2)) (blkOk_by (by kernel_rfl)) (fun _ _ _ _ _ => (gn3 8 sc__law_saying.nd)) (fun _ _ _ _ _ => (clC C__law_room hr (ro3 0 (rd3 (v3 3) (rd3 (v3 4) rn3))))) s)))) s))))))
      (frz3 5 (s13 (ret3 (tup3 (ac3 (v3 1) (ac3 (v3 2) (ac3 (tuple3  (by rfl) T.b_tuple (v3 5)) an3))))))))), ?_⟩)
  intro ws Q h0
  obtain ⟨ob, ws0, rfl, h1⟩ := sO.inv h0
  obtain ⟨signs, ws1, rfl, h2⟩ := sI.inv h1
  obtain ⟨deeds, ws2, rfl, h3⟩ := sI.inv h2
  obtain ⟨rooms, ws3, rfl, h4⟩ := sI.inv h3
  obtain ⟨rate, ws4, rfl, h5⟩ := sI.inv h4
  obtain ⟨rfl, h⟩ := sEnd.inv h5
  obtain ⟨c, pre, q⟩ := h
  clear h0 h1 h2 h3 h4 h5
  obtain ⟨hp, hc, hs1, hd1, hr1, hr2⟩ := pre
  walk_at "m3 wpb"
  refine ⟨⟨fun k vs => ∃ ob tb t r, vs = [some (.own 1 ob), some (.own 0 (.lst t)), r] ∧ t = tb.map roomD ∧ IsPot (c + 80000 * k) ob ∧ tb.length = k ∧ ∀ room ∈ tb, (room.length : Int) = signs ∧ ∀ row ∈ room, (row.length : Int) = deeds ∧ ∀ (n : Nat), some n ∈ row → (n : Int) < rooms, ⟨ob, [], [], none, rfl, rfl, hp, rfl, by simp⟩, ?_, ?_⟩⟩
  · rintro k x vs hx ⟨ob, tb, _, r, rfl, rfl, hp, hl, hall⟩
    obtain ⟨rfl, hk⟩ := rng_at hx
    walk_at "m3 wpb"
    refine ⟨⟨fun m acc us => ∃ ob rm, us = [some (.own 1 ob)] ∧ acc = rm.map rowD ∧ IsPot (c + 80000 * k + 400 * m) ob ∧ rm.length = m ∧ ∀ row ∈ rm, (row.length : Int) = deeds ∧ ∀ (n : Nat), some n ∈ row → (n : Int) < rooms, ⟨ob, [], rfl, rfl, hp, rfl, by simp⟩, ?_, ?_⟩⟩
    · rintro m x acc us hx ⟨ob, rm, rfl, rfl, hp, hl2, hall2⟩
      obtain ⟨rfl, hm⟩ := rng_at hx
      walk_at "m3 wpb"
      refine ⟨⟨fun n acc us => ∃ ob rw, us = [some (.own 1 ob)] ∧ acc = rw.map cellD ∧ IsPot (c + 80000 * k + 400 * m + 2 * n) ob ∧ rw.length = n ∧ ∀ (n : Nat), some n ∈ rw → (n : Int) < rooms, ⟨ob, [], rfl, rfl, hp, rfl, by simp⟩, ?_, ?_⟩⟩
      · rintro n x acc us hx ⟨ob, rw, rfl, rfl, hp, hl3, hall3⟩
        obtain ⟨rfl, hn⟩ := rng_at hx
        walk_at "m3 wpb"
        rintro d ob ⟨hd, hp⟩
        walk_at "m3 wpb"
        exact ⟨ob, rw ++ [d], rfl, by simp, hp.mono (by omega), by simp [hl3], fun n hn => by
          rcases List.mem_append.mp hn with z | z
          · exact hall3 n z
          · exact hd n (List.mem_singleton.mp z).symm⟩
      · rintro acc us ⟨ob, rw, rfl, rfl, hp, hl3, hall3⟩
        rw [rng_len] at hp hl3
        walk_at "m3 wpb"
        refine ⟨ob, rm ++ [rw], rfl, by simp [rowD], hp.mono (by omega), by simp [hl2], fun row hrow => ?_⟩
        rcases List.mem_append.mp hrow with z | z
        · exact hall2 row z
        · rw [List.mem_singleton.mp z]; exact ⟨by omega, hall3⟩
    · rintro acc us ⟨ob, rm, rfl, rfl, hp, hl2, hall2⟩
      rw [rng_len] at hp hl2
      walk_at "m3 wpb"
      refine ⟨ob, tb ++ [rm], _, _, rfl, by simp [roomD], hp.mono (by omega), by simp [hl], fun room hroom => ?_⟩
      rcases List.mem_append.mp hroom with z | z
      · exact hall room z
      · rw [List.mem_singleton.mp z]; exact ⟨by omega, hall2⟩
  · rintro vs ⟨ob, tb, _, r, rfl, rfl, hp, hl, hall⟩
    rw [rng_len] at hp hl
    walk_at "m3 wpb"
    refine q tb ob ⟨by omega, fun room hroom => ?_, hp.mono (by omega)⟩
    obtain ⟨h1, h2⟩ := hall room hroom
    exact ⟨h1, fun row hrow => ⟨(h2 row hrow).1, fun n hn => by have := (h2 row hrow).2 n hn; show n < tb.length; omega⟩⟩
theorem ok__law_whole {f : Addr} {fd : FuncData} (F : Fun K "_law_whole" "_law_whole" s__law_whole f fd) (T : Txt mg)  : FnOk P w K mg base CX0 1 f fd ["found"] (liftF K S_is_whole.p) := by
  refine fnN F sc__law_whole (fun ws Q h0 => by (obtain ⟨d, ws0, rfl, h1⟩ := sD.inv h0; obtain ⟨rfl, h⟩ := sEnd.inv h1); rfl) (fun cdv A outer s H E hr => ⟨_, (s13 (ret3 (andV3 (isi3 kit_int (by decide +kernel) (by rfl) T.b_isinstance (by rfl) T.b_int (v3 0)) (one3 (notV3 (isi3 kit_bool (by decide +kernel) (by rfl) T.b_isinstance (by rfl) T.b_bool (v3 0))))))), ?_⟩)
  intro ws Q h0
  obtain ⟨d, ws0, rfl, h1⟩ := sD.inv h0
  obtain ⟨rfl, h⟩ := sEnd.inv h1
  obtain ⟨pre, q⟩ := h
  clear h0 h1
  cases d
  all_goals walk_at "m3 wpb"
  all_goals exact q
theorem rec__law_other {f : Addr} {fd : FuncData} (F : Fun K "_law_other" "_law_other" s__law_other f fd) (T : Txt mg) (C__law_take : CalC P w K mg base 1 "_law_take" ["pot", "many"] S_take) (C__law_whole : CalC P w K mg base 1 "_law_whole" ["found"] S_is_whole) (hm : mg "_law_other" = some (.ref f)) (hk : PySem.W.keepIn K (.ref f) = true) (hb : Binds K fd ["pot", "thing", "odds"] []) : ∀ n, n ≤ 6 → FnOk P w K mg base CX0 (2 + n) f fd ["pot", "thing", "odds"] (liftF K (S_lother n).p)
  | 0, _ => by
    refine fnN (k := 1) F sc__law_other (fun ws Q h0 => by (obtain ⟨ob, ws0, rfl, h1⟩ := sO.inv h0; obtain ⟨x, ws1, rfl, h2⟩ := sD.inv h1; obtain ⟨v2, ws2, rfl, h3⟩ := sD.inv h2; obtain ⟨rfl, h⟩ := sEnd.inv h3); rfl) (fun cdv A outer s H E hr => ⟨_, (scN (set3 3 sc__law_other.nd (clC C__law_take hr (ro3 0 (rd3 int3 rn3))))
      (scN (set3 4 sc__law_other.nd (ixK (v3 2) (clC C__law_take hr (ro3 0 (rd3 (len3  (by rfl) T.b_len (v3 2)) rn3)))))
      (scN (if3 (PW3.pt (and3 (pt3_val (isi3 kit_tuple (by decide +kernel) (by rfl) T.b_isinstance (by rfl) T.b_tuple (v3 1))) (and1_3 (ne3T hr.units (v3 1) (tup3 an3)))))
      (scN (set3 5 sc__law_other.nd (clC C__law_take hr (ro3 0 (rd3 (len3  (by rfl) T.b_len (v3 1)) rn3))))
      (scN (if3 (lt3T (v3 3) int3)
      (s13 (ret3 (add3 (add3 (sl3 (v3 1) pn3 (ps3 (v3 5))) (tup3 (ac3 neverE3 an3))) (sl3 (v3 1) (ps3 (add3 (v3 5) int3)) pn3))))
      sn3)
      (scN (set3 6 sc__law_other.nd (lst3 (ac3 (add3 (sl3 (v3 1) pn3 (ps3 (v3 5))) (sl3 (v3 1) (ps3 (add3 (v3 5) int3)) pn3)) (ac3 (add3 (sl3 (v3 1) pn3 (ps3 (add3 (v3 5) int3))) (sl3 (v3 1) (ps3 (v3 5)) pn3)) (ac3 (list3  (by rfl) T.b_list (v3 1)) (ac3 (add3 (v3 1) (tup3 (ac3 (v3 4) an3))) an3))))))
      (s13 (ret3 (ixK (v3 6) (sub3 (v3 3) int3)))))))
      sn3)
      (scN (if3 (PW3.pt (and3 (pt3_val (clC C__law_whole hr (rd3 (v3 1) rn3))) (and1_3 (lt3T (v3 3) int3))))
      (s13 (ret3 (add3 (v3 1) (ixK (lst3 (ac3 int3 (ac3 (neg3 int3) (ac3 int3 an3)))) (mod3 (v3 3) int3)))))
      sn3)
      (s13 (ret3 (v3 4))))))), ?_⟩)
    intro ws Q h0
    obtain ⟨ob, ws0, rfl, h1⟩ := sO.inv h0
    obtain ⟨x, ws1, rfl, h2⟩ := sD.inv h1
    obtain ⟨v2, ws2, rfl, h3⟩ := sD.inv h2
    obtain ⟨rfl, h⟩ := sEnd.inv h3
    obtain ⟨c, n, B, Wt, os, rfl, pre, q⟩ := h
    clear h0 h1 h2 h3
    obtain ⟨hp, ⟨ho, hd, hw⟩, hn, hc, ⟨⟨lo1, lo2⟩, hos⟩, hk, hW⟩ := pre
    obtain rfl : n = 0 := by omega
    have ht : isTup x = false := by cases x <;> first | rfl | (simp [PyData.depth] at hd)
    walk_at "m3 wpb"
    rintro way ob ⟨h_w, hp⟩
    walk_at "m3 wpb"
    rintro p ob ⟨h_p, hp⟩
    obtain ⟨o, ho1, ho2⟩ := at_lt (xs := os) (Int.natCast_nonneg p) h_p
    have hO := hos o (List.mem_of_getElem? ho2)
    (conv => whnf)
    refine atK_of (ho1) ?_
    walk_at "m3 wpb"
    · rename_i hi
      obtain ⟨i, rfl⟩ := isW_int hi
      obtain ⟨e, he, he2⟩ := three_at way
      walk_at "m3 wpb"
      (conv => whnf)
      refine atK_of (he) ?_
      walk_at "m3 wpb"
      exact q _ ob ⟨SzD.int ho he2, hp.mono (by omega)⟩
    · exact q _ ob ⟨SzD.odd hO, hp.mono (by omega)⟩
    · exact q _ ob ⟨SzD.odd hO, hp.mono (by omega)⟩
  | n + 1, hn => by
    have C__law_other : CalC P w K mg base (2 + n) "_law_other" ["pot", "thing", "odds"] (S_lother n) := ⟨f, fd, rec__law_other F T C__law_take C__law_whole hm hk hb n (by omega), hm, hk, hb⟩
    refine fnN (k := 2 + n) F sc__law_other (fun ws Q h0 => by (obtain ⟨ob, ws0, rfl, h1⟩ := sO.inv h0; obtain ⟨x, ws1, rfl, h2⟩ := sD.inv h1; obtain ⟨v2, ws2, rfl, h3⟩ := sD.inv h2; obtain ⟨rfl, h⟩ := sEnd.inv h3); rfl) (fun cdv A outer s H E hr => ⟨_, (scN (set3 3 sc__law_other.nd (clC C__law_take hr (ro3 0 (rd3 int3 rn3))))
      (scN (set3 4 sc__law_other.nd (ixK (v3 2) (clC C__law_take hr (ro3 0 (rd3 (len3  (by rfl) T.b_len (v3 2)) rn3)))))
      (scN (if3 (PW3.pt (and3 (pt3_val (isi3 kit_tuple (by decide +kernel) (by rfl) T.b_isinstance (by rfl) T.b_tuple (v3 1))) (and1_3 (ne3T hr.units (v3 1) (tup3 an3)))))
      (scN (set3 5 sc__law_other.nd (clC C__law_take hr (ro3 0 (rd3 (len3  (by rfl) T.b_len (v3 1)) rn3))))
      (scN (if3 (lt3T (v3 3) int3)
      (s13 (ret3 (add3 (add3 (sl3 (v3 1) pn3 (ps3 (v3 5))) (tup3 (ac3 (clC C__law_other hr (ro3 0 (rd3 (ixK (v3 1) (v3 5)) (rd3 (v3 2) rn3)))) an3))) (sl3 (v3 1) (ps3 (add3 (v3 5) int3)) pn3))))
      sn3)
      (scN (set3 6 sc__law_other.nd (lst3 (ac3 (add3 (sl3 (v3 1) pn3 (ps3 (v3 5))) (sl3 (v3 1) (ps3 (add3 (v3 5) int3)) pn3)) (ac3 (add3 (sl3 (v3 1) pn3 (ps3 (add3 (v3 5) int3))) (sl3 (v3 1) (ps3 (v3 5)) pn3)) (ac3 (list3  (by rfl) T.b_list (v3 1)) (ac3 (add3 (v3 1) (tup3 (ac3 (v3 4) an3))) an3))))))
      (s13 (ret3 (ixK (v3 6) (sub3 (v3 3) int3)))))))
      sn3)
      (scN (if3 (PW3.pt (and3 (pt3_val (clC C__law_whole hr (rd3 (v3 1) rn3))) (and1_3 (lt3T (v3 3) int3))))
      (s13 (ret3 (add3 (v3 1) (ixK (lst3 (ac3 int3 (ac3 (neg3 int3) (ac3 int3 an3)))) (mod3 (v3 3) int3)))))
      sn3)
      (s13 (ret3 (v3 4))))))), ?_⟩)
    intro ws Q h0
    obtain ⟨ob, ws0, rfl, h1⟩ := sO.inv h0
    obtain ⟨x, ws1, rfl, h2⟩ := sD.inv h1
    obtain ⟨v2, ws2, rfl, h3⟩ := sD.inv h2
    obtain ⟨rfl, h⟩ := sEnd.inv h3
    obtain ⟨c, n, B, Wt, os, rfl, pre, q⟩ := h
    clear h0 h1 h2 h3
    rename_i k
    obtain ⟨hp, ⟨ho, hd, hw⟩, hn, hc, ⟨⟨lo1, lo2⟩, hos⟩, hk, hW⟩ := pre
    rcases tup_or x with ⟨xs, rfl⟩ | ht
    case inr =>
      walk_at "m3 wpb"
      rintro way ob ⟨h_w, hp⟩
      walk_at "m3 wpb"
      rintro p ob ⟨h_p, hp⟩
      obtain ⟨o, ho1, ho2⟩ := at_lt (xs := os) (Int.natCast_nonneg p) h_p
      have hO := hos o (List.mem_of_getElem? ho2)
      (conv => whnf)
      refine atK_of (ho1) ?_
      walk_at "m3 wpb"
      · rename_i hi
        obtain ⟨i, rfl⟩ := isW_int hi
        obtain ⟨e, he, he2⟩ := three_at way
        walk_at "m3 wpb"
        (conv => whnf)
        refine atK_of (he) ?_
        walk_at "m3 wpb"
        exact q _ ob ⟨SzD.int ho he2, hp.mono (by omega)⟩
      · exact q _ ob ⟨SzD.odd hO, hp.mono (by omega)⟩
      · exact q _ ob ⟨SzD.odd hO, hp.mono (by omega)⟩
    cases xs with
    | nil =>
      walk_at "m3 wpb"
      rintro way ob ⟨h_w, hp⟩
      walk_at "m3 wpb"
      rintro p ob ⟨h_p, hp⟩
      obtain ⟨o, ho1, ho2⟩ := at_lt (xs := os) (Int.natCast_nonneg p) h_p
      have hO := hos o (List.mem_of_getElem? ho2)
      (conv => whnf)
      refine atK_of (ho1) ?_
      walk_at "m3 wpb"
      exact q _ ob ⟨SzD.odd hO, hp.mono (by omega)⟩
    | cons x0 xr =>
      have hn0 : (0 : Int) < ((x0 :: xr).length : Int) ∧ ((x0 :: xr).length : Int) ≤ 1000000 := by
        have h1 : (x0 :: xr).length = xr.length + 1 := rfl
        have h2 := wgDs_len (x0 :: xr)
        simp only [wgD] at hw
        omega
      walk_at "m3 wpb"
      rintro way ob ⟨h_w, hp⟩
      walk_at "m3 wpb"
      rintro p ob ⟨h_p, hp⟩
      obtain ⟨o, ho1, ho2⟩ := at_lt (xs := os) (Int.natCast_nonneg p) h_p
      have hO := hos o (List.mem_of_getElem? ho2)
      (conv => whnf)
      refine atK_of (ho1) ?_
      walk_at "m3 wpb"
      rintro a ob ⟨h_a, hp⟩
      obtain ⟨e, he1, he2⟩ := at_lt (xs := x0 :: xr) (Int.natCast_nonneg a) h_a
      rw [Int.toNat_natCast] at he2
      generalize hxs : x0 :: xr = xs at *
      have hl := wgDs_len xs
      have hWs : 1 + wgDs xs ≤ Wt := by simpa only [wgD] using hw
      have l1 : (cutG xs none (some (a : Int))).length ≤ 10 ^ 6 := Nat.le_trans cut_len (by omega)
      have l2 : (cutG xs (some ((a : Int) + 1)) none).length ≤ 10 ^ 6 := Nat.le_trans cut_len (by omega)
      have l3 : (cutG xs none (some ((a : Int) + 1))).length ≤ 10 ^ 6 := Nat.le_trans cut_len (by omega)
      have l4 : (cutG xs (some (a : Int)) none).length ≤ 10 ^ 6 := Nat.le_trans cut_len (by omega)
      have hxs6 : xs.length ≤ 10 ^ 6 := by omega
      have hok : ∀ y ∈ xs, Okd B y := by cases ho with | tup h => exact h
      obtain ⟨m, rfl, hdx⟩ : ∃ m, n = m + 1 ∧ ∀ y ∈ xs, y.depth ≤ m := by
        simp only [PyData.depth] at hd
        exact ⟨n - 1, by omega, fun y hy => Nat.le_trans (depth_le_all hy) (by omega)⟩
      have hem := List.mem_of_getElem? he2
      have hwe := wgD_mem hem
      have hx : SzD m B (wgD e) e := ⟨hok e hem, hdx e hem, Nat.le_refl _⟩
      have hwe6 : wgD e ≤ 10 ^ 6 := by omega
      have hOd : Odds B os := ⟨⟨by omega, by omega⟩, hos⟩
      by_cases h6 : (way : Int) < 6
      · walk_at "m3 wpb"
        (conv => whnf)
        refine atK_of (he1) ?_
        walk_at "m3 wpb"
        (conv => whnf)
        refine ⟨_, _, _, _, _, rfl, ⟨hp, hx, by omega, by omega, hOd, by omega, by omega⟩, ?_⟩
        rintro r ob ⟨h1, hp⟩
        walk_at "m3 wpb"
        refine q _ ob ⟨?_, hp.mono (by omega)⟩
        rw [cut_hi (Int.natCast_nonneg a), cut_lo (by omega)]
        exact sz_put he2 hok hdx hWs h1
      · have hl12 : (cutG xs none (some (a : Int)) ++ cutG xs (some ((a : Int) + 1)) none).length ≤ 10 ^ 6 := by
          rw [cut_hi (Int.natCast_nonneg a), cut_lo (by omega), List.length_append, List.length_take, List.length_drop]; omega
        rcases (show way = 6 ∨ way = 7 ∨ way = 8 ∨ way = 9 by omega) with rfl | rfl | rfl | rfl
        · walk_at "m3 wpb"
          refine q _ ob ⟨?_, hp.mono (by omega)⟩
          rw [cut_hi (Int.natCast_nonneg a), cut_lo (by omega)]
          exact sz_cut he2 hok hdx hWs
        · walk_at "m3 wpb"
          refine q _ ob ⟨?_, hp.mono (by omega)⟩
          rw [cut_hi (by omega), cut_lo (by omega)]
          exact sz_dup he2 hok hdx hWs
        · walk_at "m3 wpb"
          refine q _ ob ⟨⟨.lst fun y hy => (hok y hy).mono (by omega), ?_, ?_⟩, hp.mono (by omega)⟩
          · simp only [PyData.depth] at hd ⊢; omega
          · simp only [wgD]; omega
        · walk_at "m3 wpb"
          exact q _ ob ⟨sz_app hok hdx hWs hO, hp.mono (by omega)⟩
theorem ok__law_other {f : Addr} {fd : FuncData} (F : Fun K "_law_other" "_law_other" s__law_other f fd) (T : Txt mg) (C__law_take : CalC P w K mg base 1 "_law_take" ["pot", "many"] S_take) (C__law_whole : CalC P w K mg base 1 "_law_whole" ["found"] S_is_whole) (hm : mg "_law_other" = some (.ref f)) (hk : PySem.W.keepIn K (.ref f) = true) (hb : Binds K fd ["pot", "thing", "odds"] []) : FnOk P w K mg base CX0 8 f fd ["pot", "thing", "odds"] (liftF K (S_lother 6).p) := rec__law_other F T C__law_take C__law_whole hm hk hb 6 (by omega)
theorem ok__law_is_saying {f : Addr} {fd : FuncData} (F : Fun K "_law_is_saying" "_law_is_saying" s__law_is_saying f fd) (T : Txt mg) (C__law_whole : CalC P w K mg base 1 "_law_whole" ["found"] S_is_whole) : FnOk P w K mg base CX0 2 f fd ["thing"] (liftF K S_lissay.p) := by
  refine fnN F sc__law_is_saying (fun ws Q h0 => by (obtain ⟨d, ws0, rfl, h1⟩ := sD.inv h0; obtain ⟨rfl, h⟩ := sEnd.inv h1); rfl) (fun cdv A outer s H E hr => ⟨_, (scN (if3 (PW3.pt (or3 (not3 (pt3_val (isi3 kit_tuple (by decide +kernel) (by rfl) T.b_isinstance (by rfl) T.b_tuple (v3 0)))) (or3 (ne3T hr.units (len3  (by rfl) T.b_len (v3 0)) int3) (or1_3 (not3 (pt3_val (isi3 kit_tuple (by decide +kernel) (by rfl) T.b_isinstance (by rfl) T.b_tuple (ixK (v3 0) int3))))))))
      (s13 (ret3 bl3))
      sn3)
      (scN (asg3 (ws := [1, 2, 3]) (v3 0) (gtA (n := 3) rfl (gs1 (gn3 1 sc__law_is_saying.nd) (gs1 (gn3 2 sc__law_is_saying.nd) (gs1 (gn3 3 sc__law_is_saying.nd) gs0)))))
      (scN (if3 (PW3.pt (or3 (not3 (pt3_val (clC C__law_whole hr (rd3 (v3 1) rn3)))) (or1_3 (not3 (pt3_val (clC C__law_whole hr (rd3 (v3 2) rn3)))))))
      (s13 (ret3 bl3))
      sn3)
      (scN (if3 (PW3.pt (or3 (not3 (chLeLe3T int3 (v3 1) int3)) (or1_3 (not3 (chLeLe3T int3 (v3 2) int3)))))
      (s13 (ret3 bl3))
      sn3)
      (scN (if3 (not3 (chLeLe3T int3 (len3  (by rfl) T.b_len (v3 3)) int3))
      (s13 (ret3 bl3))
      sn3)
      (scN (forN [4, 5, 6] (ws0 := [4]) PassesOwn.never rfl (seq3 (v3 3)) (gn3 4 sc__law_is_saying.nd)
      (scN (if3 (PW3.pt (or3 (not3 (pt3_val (isi3 kit_tuple (by decide +kernel) (by rfl) T.b_isinstance (by rfl) T.b_tuple (v3 4)))) (or1_3 (ne3T hr.units (len3  (by rfl) T.b_len (v3 4)) (v3 1)))))
      (s13 (ret3 bl3))
      sn3)
      (s13 (forN [5, 6] (ws0 := [5]) PassesOwn.never rfl (seq3 (v3 4)) (gn3 5 sc__law_is_saying.nd)
      (scN (if3 (PW3.pt (or3 (not3 (pt3_val (isi3 kit_tuple (by decide +kernel) (by rfl) T.b_isinstance (by rfl) T.b_tuple (v3 5)))) (or1_3 (ne3T hr.units (len3  (by rfl) T.b_len (v3 5)) (v3 2)))))
      (s13 (ret3 bl3))
      sn3)
      (s13 (forN [6] (ws0 := [6]) PassesOwn.never rfl (seq3 (v3 5)) (gn3 6 sc__law_is_saying.nd)
      (s13 (if3 (PW3.pt (and3 (isNotN3T (v3 6)) (and1_3 (not3 (PW3.pt (and3 (pt3_val (clC C__law_whole hr (rd3 (v3 6) rn3))) (and1_3 (chLeLt3T int3 (v3 6) (len3  (by rfl) T.b_len (v3 3))))))))))
      (s13 (ret3 bl3))
      sn3)))))))))
      (s13 (ret3 bl3)))))))), ?_⟩)
  intro ws Q h0
  obtain ⟨d, ws0, rfl, h1⟩ := sD.inv h0
  obtain ⟨rfl, h⟩ := sEnd.inv h1
  obtain ⟨pre, q⟩ := h
  clear h0 h1
  clear pre
  by_cases h3 : isRw d 3 = true
  case neg =>
    have h3 : isRw d 3 = false := by simpa using h3
    rcases tup_or d with ⟨xs, rfl⟩ | hd
    · have h4' : ¬ (xs.length : Int) = 3 := of_decide_eq_false h3
      walk_at "m3 wpb"
      exact qb q (not_three h3)
    · walk_at "m3 wpb"
      exact qb q (not_three h3)
  obtain ⟨x, y, z, rfl⟩ := three h3
  rcases tup_or z with ⟨rooms, rfl⟩ | hz
  case inr =>
    walk_at "m3 wpb"
    exact qb q (by cases z <;> first | rfl | cases hz)
  cases hx : isW x
  case false =>
    walk_at "m3 wpb"
    exact qb q (by cases x <;> first | rfl | cases hx)
  obtain ⟨i, rfl⟩ := isW_int hx
  cases hy : isW y
  case false =>
    walk_at "m3 wpb"
    exact qb q (by cases y <;> first | (simp [sayB, isC]; done) | cases hy)
  obtain ⟨j, rfl⟩ := isW_int hy
  by_cases hb : (1 ≤ i ∧ i ≤ 9) ∧ (1 ≤ j ∧ j ≤ 9) ∧ (1 ≤ (rooms.length : Int) ∧ (rooms.length : Int) ≤ 100)
  case neg =>
    have e : sayB (.tuple [.int i, .int j, .tuple rooms]) = false := by
      simp only [sayB, isC]
      simp only [Bool.and_eq_false_iff, decide_eq_false_iff_not]
      omega
    walk_at "m3 wpb"
    all_goals first | exact qb q e | (exfalso; omega)
  obtain ⟨⟨i1, i2⟩, ⟨j1, j2⟩, m1, m2⟩ := hb
  have e : sayB (.tuple [.int i, .int j, .tuple rooms]) = rooms.all (roomB i j rooms.length) := by
    simp [sayB, isC, intOf, i1, i2, j1, j2, m1, m2]
  rw [e] at q
  walk_at "m3 wpb"
  refine ⟨⟨fun k vs => ∃ a b c, vs = [a, b, c] ∧ (rooms.take k).all (roomB i j rooms.length) = true, ⟨_, _, _, rfl, rfl⟩, ?_, ?_⟩⟩
  · rintro k x vs hx ⟨a, b, c, rfl, hall⟩
    have bad : roomB i j rooms.length x = false → Q (.d (.bool false)) [] := fun z => qb q (all_false hx z)
    rcases tup_or x with ⟨ys, rfl⟩ | hz
    case inr =>
      walk_at "m3 wpb"
      exact bad (by cases x <;> first | rfl | cases hz)
    by_cases h2 : (ys.length : Int) = i
    case neg =>
      walk_at "m3 wpb"
      exact bad (by simp [roomB, h2])
    walk_at "m3 wpb"
    refine ⟨⟨fun k vs => ∃ b c, vs = [b, c] ∧ (ys.take k).all (rowB j rooms.length) = true, ⟨_, _, rfl, rfl⟩, ?_, ?_⟩⟩
    · rintro k x vs hx2 ⟨b, c, rfl, hall2⟩
      have bad : rowB j rooms.length x = false → Q (.d (.bool false)) [] := fun z => bad (by simp only [roomB, all_false hx2 z, Bool.and_false])
      rcases tup_or x with ⟨zs, rfl⟩ | hz
      case inr =>
        walk_at "m3 wpb"
        exact bad (by cases x <;> first | rfl | cases hz)
      by_cases h3 : (zs.length : Int) = j
      case neg =>
        walk_at "m3 wpb"
        exact bad (by simp [rowB, h3])
      walk_at "m3 wpb"
      refine ⟨⟨fun k vs => ∃ c, vs = [c] ∧ (zs.take k).all (cellB rooms.length) = true, ⟨_, rfl, rfl⟩, ?_, ?_⟩⟩
      · rintro k x vs hx3 ⟨c, rfl, hall3⟩
        have bad : cellB rooms.length x = false → Q (.d (.bool false)) [] := fun z => bad (by simp only [rowB, all_false hx3 z, Bool.and_false])
        cases hn : isNone x
        case true =>
          walk_at "m3 wpb"
          exact ⟨_, rfl, all_take_succ hx3 hall3 (by simp [cellB, hn])⟩
        cases hw : isW x
        case false =>
          walk_at "m3 wpb"
          exact bad (by cases x <;> first | rfl | (cases hw; done) | (cases hn; done))
        obtain ⟨g, rfl⟩ := isW_int hw
        by_cases hg : 0 ≤ g ∧ g < (rooms.length : Int)
        case neg =>
          walk_at "m3 wpb"
          all_goals first | exact bad (by simp only [cellB, isNone, isB, Bool.false_or, Bool.and_eq_false_iff, decide_eq_false_iff_not]; omega) | (exfalso; omega)
        walk_at "m3 wpb"
        exact ⟨_, rfl, all_take_succ hx3 hall3 (by simp [cellB, isB, hg.1, hg.2])⟩
      · rintro vs ⟨c, rfl, hall3⟩
        rw [List.take_length] at hall3
        walk_at "m3 wpb"
        exact ⟨_, _, rfl, all_take_succ hx2 hall2 (by simp [rowB, h3, hall3])⟩
    · rintro vs ⟨b, c, rfl, hall2⟩
      rw [List.take_length] at hall2
      walk_at "m3 wpb"
      exact ⟨_, _, _, rfl, all_take_succ hx hall (by simp [roomB, h2, hall2])⟩
  · rintro vs ⟨a, b, c, rfl, hall⟩
    rw [List.take_length] at hall
    walk_at "m3 wpb"
    exact qb q hall
theorem ok_is_row {f : Addr} {fd : FuncData} (F : Fun K "is_row" "is_row" s_is_row f fd) (T : Txt mg)  : FnOk P w K mg base CX0 1 f fd ["thing", "many"] (liftF K S_is_row.p) := by
  refine fnN F sc_is_row (fun ws Q h0 => by (obtain ⟨d, ws0, rfl, h1⟩ := sD.inv h0; obtain ⟨m, ws1, rfl, h2⟩ := sI.inv h1; obtain ⟨rfl, h⟩ := sEnd.inv h2); rfl) (fun cdv A outer s H E hr => ⟨_, (s13 (ret3 (andV3 (isi3 kit_tuple (by decide +kernel) (by rfl) T.b_isinstance (by rfl) T.b_tuple (v3 0)) (one3 (eq3 hr.units (len3  (by rfl) T.b_len (v3 0)) (v3 1)))))), ?_⟩)
  intro ws Q h0
  obtain ⟨d, ws0, rfl, h1⟩ := sD.inv h0
  obtain ⟨m, ws1, rfl, h2⟩ := sI.inv h1
  obtain ⟨rfl, h⟩ := sEnd.inv h2
  obtain ⟨pre, q⟩ := h
  clear h0 h1 h2
  cases d
  all_goals walk_at "m3 wpb"
  all_goals exact q
theorem ok_is_whole {f : Addr} {fd : FuncData} (F : Fun K "is_whole" "is_whole" s_is_whole f fd) (T : Txt mg)  : FnOk P w K mg base CX0 1 f fd ["thing"] (liftF K S_is_whole.p) := by
  refine fnN F sc_is_whole (fun ws Q h0 => by (obtain ⟨d, ws0, rfl, h1⟩ := sD.inv h0; obtain ⟨rfl, h⟩ := sEnd.inv h1); rfl) (fun cdv A outer s H E hr => ⟨_, (s13 (ret3 (andV3 (isi3 kit_int (by decide +kernel) (by rfl) T.b_isinstance (by rfl) T.b_int (v3 0)) (one3 (notV3 (isi3 kit_bool (by decide +kernel) (by rfl) T.b_isinstance (by rfl) T.b_bool (v3 0))))))), ?_⟩)
  intro ws Q h0
  obtain ⟨d, ws0, rfl, h1⟩ := sD.inv h0
  obtain ⟨rfl, h⟩ := sEnd.inv h1
  obtain ⟨pre, q⟩ := h
  clear h0 h1
  cases d
  all_goals walk_at "m3 wpb"
  all_goals exact q
theorem ok_is_count {f : Addr} {fd : FuncData} (F : Fun K "is_count" "is_count" s_is_count f fd) (T : Txt mg) (C_is_whole : CalC P w K mg base 1 "is_whole" ["thing"] S_is_whole) : FnOk P w K mg base CX0 2 f fd ["thing"] (liftF K S_is_count.p) := by
  refine fnN F sc_is_count (fun ws Q h0 => by (obtain ⟨d, ws0, rfl, h1⟩ := sD.inv h0; obtain ⟨rfl, h⟩ := sEnd.inv h1); rfl) (fun cdv A outer s H E hr => ⟨_, (s13 (ret3 (andV3 (clC C_is_whole hr (rd3 (v3 0) rn3)) (one3 (chLeLe3 int3 (v3 0) (gl3 T.c_WIDE)))))), ?_⟩)
  intro ws Q h0
  obtain ⟨d, ws0, rfl, h1⟩ := sD.inv h0
  obtain ⟨rfl, h⟩ := sEnd.inv h1
  obtain ⟨pre, q⟩ := h
  clear h0 h1
  cases d
  all_goals walk_at "m3 wpb"
  all_goals first | exact q | exact qb q (by simp [isC, hbr])
theorem ok_is_below {f : Addr} {fd : FuncData} (F : Fun K "is_below" "is_below" s_is_below f fd) (T : Txt mg) (C_is_whole : CalC P w K mg base 1 "is_whole" ["thing"] S_is_whole) : FnOk P w K mg base CX0 2 f fd ["thing", "most"] (liftF K S_is_below.p) := by
  refine fnN F sc_is_below (fun ws Q h0 => by (obtain ⟨d, ws0, rfl, h1⟩ := sD.inv h0; obtain ⟨m, ws1, rfl, h2⟩ := sI.inv h1; obtain ⟨rfl, h⟩ := sEnd.inv h2); rfl) (fun cdv A outer s H E hr => ⟨_, (s13 (ret3 (andV3 (clC C_is_whole hr (rd3 (v3 0) rn3)) (one3 (chLeLt3 int3 (v3 0) (v3 1)))))), ?_⟩)
  intro ws Q h0
  obtain ⟨d, ws0, rfl, h1⟩ := sD.inv h0
  obtain ⟨m, ws1, rfl, h2⟩ := sI.inv h1
  obtain ⟨rfl, h⟩ := sEnd.inv h2
  obtain ⟨pre, q⟩ := h
  clear h0 h1 h2
  cases d
  all_goals walk_at "m3 wpb"
  all_goals first | exact q | exact qb q (by simp [isB, hbr])
theorem ok_is_room {f : Addr} {fd : FuncData} (F : Fun K "is_room" "is_room" s_is_room f fd) (T : Txt mg) (C_is_row : CalC P w K mg base 1 "is_row" ["thing", "many"] S_is_row) (C_is_below : CalC P w K mg base 2 "is_below" ["thing", "most"] S_is_below) : FnOk P w K mg base CX0 3 f fd ["thing", "signs", "deeds", "many"] (liftF K S_is_room.p) := by
  refine fnN F sc_is_room (fun ws Q h0 => by (obtain ⟨d, ws0, rfl, h1⟩ := sD.inv h0; obtain ⟨s1, ws1, rfl, h2⟩ := sI.inv h1; obtain ⟨n1, ws2, rfl, h3⟩ := sI.inv h2; obtain ⟨m1, ws3, rfl, h4⟩ := sI.inv h3; obtain ⟨rfl, h⟩ := sEnd.inv h4); rfl) (fun cdv A outer s H E hr => ⟨_, (scN (if3 (not3 (pt3_val (clC C_is_row hr (rd3 (v3 0) (rd3 (v3 1) rn3)))))
      (s13 (ret3 bl3))
      sn3)
      (scN (forN [4, 5] (ws0 := [4]) PassesOwn.never rfl (seq3 (v3 0)) (gn3 4 sc_is_room.nd)
      (scN (if3 (not3 (pt3_val (clC C_is_row hr (rd3 (v3 4) (rd3 (v3 2) rn3)))))
      (s13 (ret3 bl3))
      sn3)
      (s13 (forN [5] (ws0 := [5]) PassesOwn.never rfl (seq3 (v3 4)) (gn3 5 sc_is_room.nd)
      (s13 (if3 (PW3.pt (and3 (isNotN3T (v3 5)) (and1_3 (not3 (pt3_val (clC C_is_below hr (rd3 (v3 5) (rd3 (v3 3) rn3))))))))
      (s13 (ret3 bl3))
      sn3))))))
      (s13 (ret3 bl3)))), ?_⟩)
  intro ws Q h0
  obtain ⟨d, ws0, rfl, h1⟩ := sD.inv h0
  obtain ⟨s1, ws1, rfl, h2⟩ := sI.inv h1
  obtain ⟨n1, ws2, rfl, h3⟩ := sI.inv h2
  obtain ⟨m1, ws3, rfl, h4⟩ := sI.inv h3
  obtain ⟨rfl, h⟩ := sEnd.inv h4
  obtain ⟨pre, q⟩ := h
  clear h0 h1 h2 h3 h4
  cases d
  case tuple rows =>
    walk_at "m3 wpb"
    · have hbr' : decide ((rows.length : Int) = s1) = false := hbr
      exact qb q (by simp only [roomB, hbr', Bool.false_and])
    have hbr' : decide ((rows.length : Int) = s1) = true := hbr
    refine ⟨⟨fun i vs => ∃ r b, vs = [r, b] ∧ (rows.take i).all (rowB n1 m1) = true, ⟨none, none, rfl, rfl⟩, ?_, ?_⟩⟩
    · rintro i x vs hx ⟨r, b, rfl, hall⟩
      have bad : rowB n1 m1 x = false → Q (.d (.bool false)) [] := fun z => qb q (by simp only [roomB, all_false hx z, Bool.and_false])
      cases x
      case tuple cells =>
        walk_at "m3 wpb"
        · have hbr2 : decide ((cells.length : Int) = n1) = false := hbr
          exact bad (by simp only [rowB, hbr2, Bool.false_and])
        have hbr2 : decide ((cells.length : Int) = n1) = true := hbr
        refine ⟨⟨fun j vs => ∃ b, vs = [b] ∧ (cells.take j).all (cellB m1) = true, ⟨b, rfl, rfl⟩, ?_, ?_⟩⟩
        · rintro j c vs hc ⟨b, rfl, hall2⟩
          cases c
          all_goals walk_at "m3 wpb"
          all_goals first | exact ⟨_, rfl, all_take_succ hc hall2 rfl⟩ | exact ⟨_, rfl, all_take_succ hc hall2 (show isB _ m1 = true from hbr)⟩ | exact bad (by first | simp only [rowB, all_false (p := cellB m1) hc rfl, Bool.and_false] | simp only [rowB, all_false (p := cellB m1) hc (show isB _ m1 = false from hbr), Bool.and_false])
        · rintro vs ⟨b, rfl, hall2⟩
          rw [List.take_length] at hall2
          walk_at "m3 wpb"
          exact ⟨_, _, rfl, all_take_succ hx hall (by simp only [rowB, hbr2, hall2, Bool.and_self])⟩
      all_goals walk_at "m3 wpb"
      all_goals exact bad rfl
    · rintro vs ⟨r, b, rfl, hall⟩
      rw [List.take_length] at hall
      walk_at "m3 wpb"
      exact qb q (by simp only [roomB, hall, hbr', Bool.and_self])
  all_goals walk_at "m3 wpb"
  all_goals exact q
theorem ok_is_saying {f : Addr} {fd : FuncData} (F : Fun K "is_saying" "is_saying" s_is_saying f fd) (T : Txt mg) (C_is_row : CalC P w K mg base 1 "is_row" ["thing", "many"] S_is_row) (C_is_count : CalC P w K mg base 2 "is_count" ["thing"] S_is_count) (C_is_room : CalC P w K mg base 3 "is_room" ["thing", "signs", "deeds", "many"] S_is_room) : FnOk P w K mg base CX0 4 f fd ["thing"] (liftF K S_is_saying.p) := by
  refine fnN F sc_is_saying (fun ws Q h0 => by (obtain ⟨d, ws0, rfl, h1⟩ := sD.inv h0; obtain ⟨rfl, h⟩ := sEnd.inv h1); rfl) (fun cdv A outer s H E hr => ⟨_, (scN (if3 (not3 (pt3_val (clC C_is_row hr (rd3 (v3 0) (rd3 int3 rn3)))))
      (s13 (ret3 bl3))
      sn3)
      (scN (asg3 (ws := [1, 2, 3]) (v3 0) (gtA (n := 3) rfl (gs1 (gn3 1 sc_is_saying.nd) (gs1 (gn3 2 sc_is_saying.nd) (gs1 (gn3 3 sc_is_saying.nd) gs0)))))
      (scN (if3 (PW3.pt (or3 (not3 (pt3_val (clC C_is_count hr (rd3 (v3 1) rn3)))) (or3 (not3 (pt3_val (clC C_is_count hr (rd3 (v3 2) rn3)))) (or1_3 (not3 (pt3_val (isi3 kit_tuple (by decide +kernel) (by rfl) T.b_isinstance (by rfl) T.b_tuple (v3 3))))))))
      (s13 (ret3 bl3))
      sn3)
      (s13 (ret3 (andV3 (chLeLe3 int3 (len3  (by rfl) T.b_len (v3 3)) (gl3 T.c_MOST)) (one3 (all3 rfl (by rfl) T.b_all (PE3.lcP (lcP (own := [("room", 4)]) rfl sc_is_saying.nd (seq3 (v3 3)) (blkOk_by (by kernel_rfl)) (fun _ _ _ _ _ => (gn3 4 sc_is_saying.nd)) (fun _ _ _ _ _ => (clC C_is_room hr (rd3 (v3 4) (rd3 (v3 1) (rd3 (v3 2) (rd3 (len3  (by rfl) T.b_len (v3 3)) rn3)))))) s)))))))))), ?_⟩)
  intro ws Q h0
  obtain ⟨d, ws0, rfl, h1⟩ := sD.inv h0
  obtain ⟨rfl, h⟩ := sEnd.inv h1
  obtain ⟨pre, q⟩ := h
  clear h0 h1
  by_cases h3 : isRw d 3 = true
  case neg =>
    have h3 : isRw d 3 = false := by simpa using h3
    walk_at "m3 wpb"
    exact qb q (not_three h3)
  obtain ⟨x, y, z, rfl⟩ := three h3
  cases hx : isC x
  case false =>
    walk_at "m3 wpb"
    exact qb q (by cases z <;> first | rfl | simp only [sayB, hx, Bool.false_and])
  obtain ⟨i, rfl, hi1, hi2⟩ := isC_int hx
  cases hy : isC y
  case false =>
    walk_at "m3 wpb"
    exact qb q (by cases z <;> first | rfl | simp only [sayB, hx, hy, Bool.false_and, Bool.and_false])
  obtain ⟨j, rfl, hj1, hj2⟩ := isC_int hy
  cases z
  case tuple rooms =>
    walk_at "m3 wpb"
    · refine ⟨⟨rooms.map fun r => .bool (roomB i j rooms.length r), by simp, fun k x hk => ?_, ?_⟩⟩
      · walk_at "m3 wpb"
        rw [List.getElem?_map, hk]; rfl
      · refine ⟨rooms.map (roomB i j rooms.length), by simp, ?_⟩
        exact qb q (by simp [sayB, hx, hy, intOf, List.all_map, *])
    · exact qb q (by simp [sayB, *])
    · exact qb q (by simp only [sayB, decide_eq_false hbr, Bool.false_and, Bool.and_false])
  all_goals walk_at "m3 wpb"
  all_goals exact q
theorem okx_first_come {f : Addr} {fd : FuncData} (F : Fun K "first_come" "first_come" s_first_come f fd) (T : Txt mg) (TX : TxE K mg cc)  : FnOk P w K mg base (L2.CX P w) 14 f fd ["signs", "deeds", "begin", "follow"] (liftF K (X_first P w K mg base cc).p) := by
  refine fnX F sc_first_come (fun ws Q E h0 => by (obtain ⟨i, ws0, rfl, h1⟩ := sI.inv h0; obtain ⟨j, ws1, rfl, h2⟩ := sI.inv h1; obtain ⟨x, ws2, rfl, h3⟩ := sD.inv h2; obtain ⟨fa, FI, ws3, rfl, h4⟩ := sF.inv h3; obtain ⟨rfl, h⟩ := sEnd.inv h4); rfl) (fun cdv A outer s H E hr tk po => ⟨_, (scN (setO3 4 sc_first_come.nd (olst3 (ac3 (v3 2) an3)))
      (scN (setO3 5 sc_first_come.nd (otab1 hr.units (v3 2) int3))
      (scN (setO3 6 sc_first_come.nd (olst3 an3))
      (scN (whileN [4, 5, 6, 7, 8, 9, 10] po (lt3T (lenO3 6 (by rfl) T.b_len) (lenO3 4 (by rfl) T.b_len))
      (scN (setO3 7 sc_first_come.nd (olst3 an3))
      (scN (forN [4, 5, 7, 8, 9, 10] (ws0 := [8]) po rfl (range3 (by rfl) T.b_range (v3 0)) (gn3 8 sc_first_come.nd)
      (scN (PS3.lcP (setLcP 9 (own := [("deed", 11)]) rfl sc_first_come.nd (range3 (by rfl) T.b_range (v3 1)) (blkOk_by (by kernel_rfl)) (fun _ _ _ _ _ => (gn3 11 sc_first_come.nd)) (fun _ _ _ _ _ => (clV (P := P) (w := w) (K := K) (mg := mg) (base := base) (n := 3) 3 ⟨rfl, rfl, rfl, rfl, rfl⟩ hr (rd3 (ixOK 4 (lenO3 6 (by rfl) T.b_len)) (rd3 (v3 8) (rd3 (v3 11) rn3))))) s (sw_true rfl rfl rfl (by decide +kernel))))
      (scN (forN [4, 5, 10] (ws0 := [10]) po rfl (seq3 (v3 9)) (gn3 10 sc_first_come.nd)
      (s13 (if3 (PW3.pt (and3 (isNotN3T (v3 10)) (and1_3 (notInX3T 5 hr.units (v3 10)))))
      (scN (setX3 5 hr.units (lenO3 4 (by rfl) T.b_len) (v3 10))
      (s13 (app3 4 (v3 10))))
      sn3)))
      (scN (if3 (gt3T (lenO3 4 (by rfl) T.b_len) (gl3 T.c_MOST))
      (s13 (raise3 TX.e_TooWide tk))
      sn3)
      (s13 (app3 7 (tuple3  (by rfl) T.b_tuple (PE3.lcP (lcP (own := [("thing", 10)]) rfl sc_first_come.nd (seq3 (v3 9)) (blkOk_by (by kernel_rfl)) (fun _ _ _ _ _ => (gn3 10 sc_first_come.nd)) (fun _ _ _ _ _ => (ifx3 (isN3T (v3 10)) non3 (ixX3 5 hr.units (v3 10)))) s)))))))))
      (frz3 7 (s13 (app3 6 (tuple3  (by rfl) T.b_tuple (v3 7))))))))
      (frz3 4 (frz3 6 (s13 (ret3 (tup3 (ac3 (tuple3  (by rfl) T.b_tuple (v3 4)) (ac3 (tuple3  (by rfl) T.b_tuple (v3 6)) an3))))))))))), ?_⟩)
  intro ws Q Ex h0
  obtain ⟨i, ws0, rfl, h1⟩ := sI.inv h0
  obtain ⟨j, ws1, rfl, h2⟩ := sI.inv h1
  obtain ⟨x, ws2, rfl, h3⟩ := sD.inv h2
  obtain ⟨fa, FI, ws3, rfl, h4⟩ := sF.inv h3
  obtain ⟨rfl, h⟩ := sEnd.inv h4
  have q := h
  clear h h0 h1 h2 h3 h4
  obtain ⟨b0, step, ok, k, ⟨rfl, hi, hj, h0, hs, hk, hC⟩, q1, q2⟩ := q
  generalize ea : i.toNat = a at *
  generalize eb : j.toNat = b at *
  have hok := fc_ok (a := a) (b := b) h0 hs
  have ha9 : a ≤ 9 := by omega
  have hb9 : b ≤ 9 := by omega
  have tk0 := tkB_row b0
  walk_at "m3 wpb"
  refine ⟨⟨fun m vs => ∃ (n : Nat) (ds : List (D × D)) (ps ts : List D) (a1 a2 a3 : Option M3.W) (a4 : Option D), vs = [some (.own 0 (.lst ps)), some (.own 0 (.dcT ds)), some (.own 0 (.lst ts)), a1, a2, a3, a4.map M3.W.d] ∧ ps = (fcC a b step b0 n).map rowD ∧ ds = placesD rowD 0 (fcC a b step b0 n) ∧ ts = (fcT a b step b0 n).map roomD ∧ Going (fcOut a b step) b0 n ∧ (come (fcOut a b step) b0 n).length ≤ 100 ∧ m = 101 - n, ⟨101, 0, _, _, _, _, _, _, none, rfl, rfl, rfl, rfl, fun m hm => by omega, by show 1 ≤ 100; omega, rfl⟩, ?_⟩⟩
  rintro m vs ⟨n, _, _, _, a1, a2, a3, a4, rfl, rfl, rfl, rfl, hg, h100, rfl⟩
  have hn := going_le hg
  have hgl := going_len hg
  have l1 : ((fcC a b step b0 n).map rowD).length = (come (fcOut a b step) b0 n).length := by simp
  have l2 : ((fcT a b step b0 n).map roomD).length = n := by rw [List.length_map, fcT_len]
  walk_at "m3 wpb"
  · have hnl : n < (come (fcOut a b step) b0 n).length := by omega
    obtain ⟨x, hx⟩ : ∃ x, (fcC a b step b0 n)[n]? = some x := ⟨_, List.getElem?_eq_getElem hnl⟩
    have hxo := hok n x (List.mem_of_getElem? hx)
    have hsx := fc_succ hx
    have gs := going_succ hg hnl h100
    have eR : fcRoom a b step b0 n = (List.range a).map (fcRow a b step b0 n x) := by unfold fcRoom; rw [hx]
    refine ⟨⟨fun s vs => ∃ (ds : List (D × D)) (ps rs : List D) (a1 a2 : Option M3.W) (a3 : Option D), vs = [some (.own 0 (.lst ps)), some (.own 0 (.dcT ds)), some (.own 0 (.lst rs)), a1, a2, a3.map M3.W.d] ∧ ps = (addAll (fcC a b step b0 n) (fcAll b step x s)).map rowD ∧ ds = placesD rowD 0 (addAll (fcC a b step b0 n) (fcAll b step x s)) ∧ rs = ((List.range s).map (fcRow a b step b0 n x)).map rowD ∧ (addAll (fcC a b step b0 n) (fcAll b step x s)).length ≤ 100, ⟨_, _, _, _, _, a4, rfl, rfl, rfl, rfl, h100⟩, ?_, ?_⟩⟩
    · rintro s v vs hv ⟨_, _, _, c1, c2, c3, rfl, rfl, rfl, rfl, hl⟩
      obtain ⟨rfl, hs'⟩ := rng_at hv
      rw [ea] at hs'
      clear hv
      generalize eA : addAll (fcC a b step b0 n) (fcAll b step x s) = A at *
      have lA : (A.map rowD).length = A.length := by simp
      have lz : (placesD rowD 0 A).length = A.length := placesD_len _ _
      have preA : fcC a b step b0 n <+: A := by rw [← eA]; exact addAll_pre _ _
      have e1 : atI (A.map rowD) ((((fcT a b step b0 n).map roomD).length : Nat) : Int) = some (rowD x) := by
        rw [l2]; exact at_map_nat (pre_get preA hx)
      walk_at "m3 wpb"
      refine ⟨⟨(List.range b).map fun d => rowO (step x s d), by rw [rng_len, List.length_map, List.length_range, eb], fun d y hy => ?_, ?_⟩⟩
      · obtain ⟨rfl, hd⟩ := rng_at hy
        rw [eb] at hd
        rw [Int.zero_add] at hy ⊢
        have hs1 : (s : Int) < i := by omega
        have hd1 : (d : Int) < j := by omega
        walk_at "m3 wpb"
        (conv => whnf)
        refine atK_of (e1) ?_
        walk_at "m3 wpb"
        simp [hd]
      · walk_at "m3 wpb"
        refine ⟨⟨fun d vs => ∃ (B : List Rw) (ds : List (D × D)) (ps : List D) (a3 : Option D), vs = [some (.own 0 (.lst ps)), some (.own 0 (.dcT ds)), a3.map M3.W.d] ∧ B = addAll A (((List.range b).map (step x s)).take d |>.filterMap id) ∧ ps = B.map rowD ∧ ds = placesD rowD 0 B ∧ B.length ≤ A.length + d, ⟨_, _, _, c3, rfl, rfl, rfl, rfl, Nat.le_refl _⟩, ?_, ?_⟩⟩
        · rintro d y vs hy ⟨B, _, _, c3, rfl, hB, rfl, rfl, hBl⟩
          obtain ⟨d', hd', rfl, hm⟩ := map_at hy
          have hdb : d < b := by have := (List.getElem?_eq_some_iff.mp hd').1; simpa using this
          obtain rfl : d = d' := by rw [List.getElem?_range hdb] at hd'; exact Option.some.inj hd'
          clear hy hm hd'
          have ht : ((List.range b).map (step x s)).take (d + 1) = ((List.range b).map (step x s)).take d ++ [step x s d] := by rw [List.take_add_one, List.getElem?_map, List.getElem?_range hdb]; rfl
          have lB : (B.map rowD).length = B.length := by simp
          have lz : (placesD rowD 0 B).length = B.length := placesD_len _ _
          cases hst : step x s d with
          | none =>
            rw [hst] at ht
            have hN : (!isNone (rowO none)) = false := rfl
            walk_at "m3 wpb"
            exact ⟨B, _, _, some (rowO none), rfl, by rw [ht, List.filterMap_append]; simpa using hB, rfl, rfl, by omega⟩
          | some y =>
            rw [hst] at ht
            have hg0 := place_get tEq_row y B 0
            have hky := tkB_row y
            have eB : addAll A ((((List.range b).map (step x s)).take (d + 1)).filterMap id) = addP B y := by
              rw [ht, List.filterMap_append, hB]
              exact addAll_snoc
            have hN : (!isNone (rowO (some y))) = true := rfl
            by_cases hy : y ∈ B
            · rw [if_pos hy] at hg0
              have hb : (!(xgetD (placesD rowD 0 B) (rowO (some y))).isSome) = false := by
                show (!(xgetD (placesD rowD 0 B) (rowD y)).isSome) = false
                rw [hg0]; rfl
              have e2 : addP B y = B := by unfold addP; rw [if_pos hy]
              walk_at "m3 wpb"
              exact ⟨B, _, _, some (rowO (some y)), rfl, by rw [eB, e2], rfl, rfl, by omega⟩
            · rw [if_neg hy] at hg0
              have hb : (!(xgetD (placesD rowD 0 B) (rowO (some y))).isSome) = true := by
                show (!(xgetD (placesD rowD 0 B) (rowD y)).isSome) = true
                rw [hg0]; rfl
              have e2 : addP B y = B ++ [y] := by unfold addP; rw [if_neg hy]
              have hput : xputD (placesD rowD 0 B) (rowD y) (.int ((B.map rowD).length : Int)) = placesD rowD 0 (B ++ [y]) := by rw [← place_put tEq_row hy, lB, Nat.zero_add]
              walk_at "m3 wpb"
              exact ⟨B ++ [y], _, _, some (rowO (some y)), rfl, by rw [eB, e2], by simp [rowO], hput, by simp; omega⟩
        · rintro vs ⟨B, _, _, c3, rfl, hB, rfl, rfl, hBl⟩
          rw [List.length_map, List.length_range] at hB hBl
          rw [List.take_of_length_le (by simp), fcNew_take (k := 0)] at hB
          have hB2 : addAll (fcC a b step b0 n) (fcAll b step x (s + 1)) = B := by rw [fcAll_succ, addAll_app, eA, hB]
          have hpre : B <+: fcC a b step b0 (n + 1) := by rw [hsx, ← hB2]; exact addAll_pre2 (fcAll_pre (by omega))
          have lB : (B.map rowD).length = B.length := by simp
          walk_at "m3 wpb"
          · exact q2 ⟨n + 1, gs, by have := hpre.length_le; show 100 < (come (fcOut a b step) b0 (n + 1)).length; have h5 : B.length ≤ (come (fcOut a b step) b0 (n + 1)).length := this; omega⟩
          · refine ⟨⟨(fcRow a b step b0 n x s).map cellD, by simp [fcRow], fun d y hy => ?_, ?_⟩⟩
            · obtain ⟨d', hd', rfl, hm⟩ := map_at hy
              have hdb : d < b := by have := (List.getElem?_eq_some_iff.mp hd').1; simpa using this
              obtain rfl : d = d' := by rw [List.getElem?_range hdb] at hd'; exact Option.some.inj hd'
              clear hy hm hd'
              have hr : ((fcRow a b step b0 n x s).map cellD)[d]? = some (cellD ((step x s d).map (idxP (fcC a b step b0 (n + 1))))) := by simp [fcRow, hdb]
              rw [hr]
              cases hst : step x s d with
              | none =>
                have hN : isNone (rowO none) = true := rfl
                rcases c3 with _ | c3
                all_goals (
                  walk_at "m3 wpb"
                  rfl)
              | some y =>
                have hg0 := place_get tEq_row y B 0
                have hyB : y ∈ B := by rw [hB]; exact addAll_mem _ _ _ (by simp only [fcNew, List.mem_filterMap, List.mem_range]; exact ⟨d, hdb, hst⟩)
                rw [if_pos hyB] at hg0
                have hky := tkB_row y
                have hN : isNone (rowO (some y)) = false := rfl
                rcases c3 with _ | c3
                all_goals (
                  walk_at "m3 wpb"
                  refine ⟨⟨_, hg0, ?_⟩⟩
                  walk_at "m3 wpb"
                  show some (cellD (some (idxP (fcC a b step b0 (n + 1)) y))) = _
                  rw [idx_pre hpre hyB, Nat.zero_add]; rfl)
            · have l5 : (((List.range s).map (fcRow a b step b0 n x)).map rowD).length = s := by simp
              have l6 : ((fcRow a b step b0 n x s).map cellD).length = b := by simp [fcRow]
              walk_at "m3 wpb"
              refine ⟨_, _, _, _, _, c3, rfl, by rw [hB2], by rw [hB2], ?_, by rw [hB2]; omega⟩
              rw [List.range_succ, List.map_append, List.map_append]; rfl
    · rintro vs ⟨_, _, _, c1, c2, c3, rfl, rfl, rfl, rfl, hl⟩
      rw [rng_len, ea] at hl ⊢
      rw [← hsx] at hl ⊢
      have l5 : (((List.range a).map (fcRow a b step b0 n x)).map rowD).length = a := by simp
      walk_at "m3 wpb"
      refine ⟨101 - (n + 1), by omega, n + 1, _, _, _, _, _, _, c3, rfl, rfl, rfl, ?_, gs, hl, rfl⟩
      unfold fcT
      rw [List.range_succ, List.map_append, List.map_append, List.map_singleton, List.map_singleton, eR]; rfl
  · have hd : FDone a b step b0 n := ⟨hg, by show n = (come (fcOut a b step) b0 n).length; omega, hn⟩
    exact q1 n hd
theorem ok_come_to {f : Addr} {fd : FuncData} (F : Fun K "come_to" "come_to" s_come_to f fd) (T : Txt mg)  : FnOk P w K mg base CX0 1 f fd ["saying", "room", "told"] (liftF K S_come_to.p) := by
  refine fnN F sc_come_to (fun ws Q h0 => by (obtain ⟨v0, ws0, rfl, h1⟩ := sD.inv h0; obtain ⟨v1, ws1, rfl, h2⟩ := sD.inv h1; obtain ⟨v2, ws2, rfl, h3⟩ := sD.inv h2; obtain ⟨rfl, h⟩ := sEnd.inv h3); rfl) (fun cdv A outer s H E hr => ⟨_, (scN (if3 (eq3T hr.units (v3 1) (tup3 an3))
      (s13 (ret3 int3))
      sn3)
      (scN (asg3 (ws := [3, 4]) (v3 1) (gtA (n := 2) rfl (gs1 (gn3 3 sc_come_to.nd) (gs1 (gn3 4 sc_come_to.nd) gs0))))
      (s13 (ret3 (ixK (ixK (ixK (ixK (v3 0) int3) (v3 3)) (v3 2)) (v3 4)))))), ?_⟩)
  intro ws Q h0
  obtain ⟨v0, ws0, rfl, h1⟩ := sD.inv h0
  obtain ⟨v1, ws1, rfl, h2⟩ := sD.inv h1
  obtain ⟨v2, ws2, rfl, h3⟩ := sD.inv h2
  obtain ⟨rfl, h⟩ := sEnd.inv h3
  obtain ⟨S, r, t, rfl, rfl, rfl, pre, q⟩ := h
  clear h0 h1 h2 h3
  obtain ⟨hS, ht, hr⟩ := pre
  rcases hr with rfl | ⟨a, d, k, rfl, ha, hd, hg⟩
  · walk_at "m3 wpb"
    exact q
  · obtain ⟨room, row, g1, g2, g3, g4⟩ := go_at hS ha ht hd
    have e : lateAt S [some a, some d] t = k := by simp [lateAt, hg]
    rw [e] at q
    rw [hg] at g3
    walk_at "m3 wpb"
    (conv => whnf)
    refine atK_of (g1) ?_
    walk_at "m3 wpb"
    (conv => whnf)
    refine atK_of (g2) ?_
    walk_at "m3 wpb"
    (conv => whnf)
    refine atK_of (g3) ?_
    walk_at "m3 wpb"
    exact q
theorem ok_breaks_by_some {f : Addr} {fd : FuncData} (F : Fun K "breaks_by_some" "breaks_by_some" s_breaks_by_some f fd) (T : Txt mg)  : FnOk P w K mg base CX0 1 f fd ["saying", "at", "deed"] (liftF K S_breaks_by.p) := by
  refine fnN F sc_breaks_by_some (fun ws Q h0 => by (obtain ⟨v0, ws0, rfl, h1⟩ := sD.inv h0; obtain ⟨v1, ws1, rfl, h2⟩ := sD.inv h1; obtain ⟨v2, ws2, rfl, h3⟩ := sD.inv h2; obtain ⟨rfl, h⟩ := sEnd.inv h3); rfl) (fun cdv A outer s H E hr => ⟨_, (s13 (ret3 (any3 rfl (by rfl) T.b_any (PE3.lcP (lcP (own := [("row", 3)]) rfl sc_breaks_by_some.nd (seq3 (ixK (ixK (v3 0) int3) (v3 1))) (blkOk_by (by kernel_rfl)) (fun _ _ _ _ _ => (gn3 3 sc_breaks_by_some.nd)) (fun _ _ _ _ _ => (isN3 (ixK (v3 3) (v3 2)))) s))))), ?_⟩)
  intro ws Q h0
  obtain ⟨v0, ws0, rfl, h1⟩ := sD.inv h0
  obtain ⟨v1, ws1, rfl, h2⟩ := sD.inv h1
  obtain ⟨v2, ws2, rfl, h3⟩ := sD.inv h2
  obtain ⟨rfl, h⟩ := sEnd.inv h3
  obtain ⟨S, a, d, rfl, rfl, rfl, pre, q⟩ := h
  clear h0 h1 h2 h3
  obtain ⟨hS, ha, hd⟩ := pre
  obtain ⟨room, g1, g2, g3⟩ := go_cells hS ha hd
  have h9 := hS.s9
  have h1 := hS.s1
  have lr : (room.map rowD).length = S.signs.toNat := by simpa using g2
  walk_at "m3 wpb"
  (conv => whnf)
  refine atK_of (g1) ?_
  walk_at "m3 wpb"
  refine ⟨⟨(List.range S.signs.toNat).map fun s => .bool (S.go a s d).isNone, by rw [List.length_map, List.length_range, lr], fun i x hi => ?_, ?_⟩⟩
  · rw [List.getElem?_map] at hi
    obtain ⟨row, hrow, rfl⟩ := Option.map_eq_some_iff.mp hi
    have g4 := g3 i row hrow
    have hil : i < S.signs.toNat := by rw [← g2]; exact (List.getElem?_eq_some_iff.mp hrow).1
    walk_at "m3 wpb"
    (conv => whnf)
    refine atK_of (g4) ?_
    walk_at "m3 wpb"
    walk_at "m3 wpb"
    rw [List.getElem?_map, List.getElem?_range hil]
    show some (PyData.bool (S.go a i d).isNone) = _
    cases S.go a i d <;> simp [isNone, cellD]
  · (conv => whnf)
    refine ⟨(List.range S.signs.toNat).map fun s => (S.go a s d).isNone, by simp [List.map_map, Function.comp_def], ?_⟩
    have e : anyBr S a d = ((List.range S.signs.toNat).map fun s => (S.go a s d).isNone).any id := by simp [anyBr, List.any_map, Function.comp_def]
    rw [e] at q
    walk_at "m3 wpb"
    exact q
theorem nk_lag_follow (T : Txt mg) (C_come_to : CalC P w K mg base 1 "come_to" ["saying", "room", "told"] S_come_to) (C_breaks_by_some : CalC P w K mg base 1 "breaks_by_some" ["saying", "at", "deed"] S_breaks_by) {f : Addr} {qual : Str} {cl : List (Str × Addr)} {c1 : Addr} (i j : Int) (S : Say) (hL : S.Ok) (hi : i = S.signs) (hj : j = S.deeds) : Callv P w K mg base 2 f (CloH K f (NdefX.NF.of n_lag_follow "follow" qual cl c1) ["saying"] [S.d]) (S_step i j (stepLt S) (OkLt S)) := by
  refine callv_of (F := NdefX.NF.of n_lag_follow "follow" qual cl c1) nsc_lag_follow (fun doc pm ctv us hl => match us, hl with | [_, _, _], _ => rfl) (fun ws Q h0 => by (obtain ⟨v0, ws0, rfl, h1⟩ := sD.inv h0; obtain ⟨v1, ws1, rfl, h2⟩ := sD.inv h1; obtain ⟨v2, ws2, rfl, h3⟩ := sD.inv h2; obtain ⟨rfl, h⟩ := sEnd.inv h3); rfl) (fun A outer s H hr => ⟨_, (scN (set3 4 nsc_lag_follow.nd (clC C_come_to hr (rd3 (v3 3) (rd3 (v3 0) (rd3 (v3 1) rn3)))))
      (s13 (ret3 (ifx3 (pt3_val (clC C_breaks_by_some hr (rd3 (v3 3) (rd3 (v3 4) (rd3 (v3 2) rn3))))) non3 (tup3 (ac3 (v3 4) (ac3 (v3 2) an3))))))), ?_⟩)
  intro ws Q h0
  obtain ⟨v0, ws0, rfl, h1⟩ := sD.inv h0
  obtain ⟨v1, ws1, rfl, h2⟩ := sD.inv h1
  obtain ⟨v2, ws2, rfl, h3⟩ := sD.inv h2
  obtain ⟨rfl, h⟩ := sEnd.inv h3
  obtain ⟨r, s1, d1, rfl, rfl, rfl, pre, q⟩ := h
  clear h0 h1 h2 h3
  obtain ⟨hR, hs, hd⟩ := pre
  subst hi hj
  have key : (r = [] ∨ ∃ a d k, r = [some a, some d] ∧ a < S.rooms.length ∧ (d : Int) < S.deeds ∧ S.go a s1 d = some k) ∧ lateAt S r s1 < S.rooms.length := lt_key hL hR hs
  obtain ⟨k1, k2⟩ := key
  (conv => whnf)
  refine ⟨S, r, s1, rfl, rfl, rfl, ⟨hL, hs, k1⟩, ?_⟩
  have hok := hL
  cases hb : anyBr S (lateAt S r s1) d1 with
  | true =>
    have e : stepLt S r s1 d1 = none := by unfold stepLt; rw [if_pos hb]
    rw [e] at q
    walk_at "m3 wpb"
    exact q
  | false =>
    have e : stepLt S r s1 d1 = some [some (lateAt S r s1), some d1] := by unfold stepLt; rw [if_neg (by rw [hb]; decide)]
    rw [e] at q
    walk_at "m3 wpb"
    exact q
theorem okx_lag {f : Addr} {fd : FuncData} (F : Fun K "lag" "lag" s_lag f fd) (T : Txt mg) (TX : TxE K mg cc) {c_ P_ : Addr} (hc_ : fd.code = .ref c_) (TB_ : TabB base mg c_ P_) (hm_ : (P_, nm_lag) ∈ TabsC.T) (hu_ : ∀ p ∈ TabsC.T, p.1 = P_ → p.2 = nm_lag) (CX_first_come : CalX P w K mg base 14 "first_come" ["signs", "deeds", "begin", "follow"] (X_first P w K mg base cc)) (C_come_to : CalC P w K mg base 1 "come_to" ["saying", "room", "told"] S_come_to) (C_breaks_by_some : CalC P w K mg base 1 "breaks_by_some" ["saying", "at", "deed"] S_breaks_by) : FnOk P w K mg base (L2.CX P w) 15 f fd ["saying"] (liftF K (X_lag75 cc).p) := by
  refine fnXK F hc_ sc_lag (fun ws Q E h0 => by (obtain ⟨x, ws0, rfl, h1⟩ := sD.inv h0; obtain ⟨rfl, h⟩ := sEnd.inv h1); rfl) (fun A outer s H E hr tk po => ⟨_, (scN (asg3 (ws := [2, 3, 4]) (v3 0) (gtA (n := 3) rfl (gs1 (gn3 2 sc_lag.nd) (gs1 (gn3 3 sc_lag.nd) (gs1 (gn3 4 sc_lag.nd) gs0)))))
      (scN (ps_nd3 (st := n_lag_follow) 1 rfl TB_ rfl hm_ rfl hu_ (freeB_to (show freeB (defScope s_lag) (C8.fnScope n_lag_follow) = true by decide +kernel)) rfl rfl rfl sc_lag.nd rfl (by first | exact Or.inl rfl | exact Or.inr rfl) (by first | exact .inl rfl | exact .inr rfl))
      (scN (asg3 (ws := [5, 6]) (clXC CX_first_come tk (C8.fnScope n_lag_follow) ["saying"] [0] sc_lag.nd (show freeB (defScope s_lag) (C8.fnScope n_lag_follow) = true by decide +kernel) (by decide +kernel) (by first | rfl | decide +kernel) hr (rd3 (v3 2) (rd3 (v3 3) (rd3 (tup3 an3) (rcl3 1 rn3))))) (gtA (n := 2) rfl (gs1 (gn3 5 sc_lag.nd) (gs1 (gn3 6 sc_lag.nd) gs0))))
      (s13 (ret3 (tup3 (ac3 (v3 5) (ac3 (tup3 (ac3 (v3 2) (ac3 (v3 3) (ac3 (v3 6) an3)))) an3)))))))), ?_⟩)
  intro ws Q Ex h0
  obtain ⟨x, ws0, rfl, h1⟩ := sD.inv h0
  obtain ⟨rfl, h⟩ := sEnd.inv h1
  have q := h
  clear h h0 h1
  obtain ⟨S, ⟨rfl, hL⟩, q, qw⟩ := q
  have hok := hL
  have s1 := hok.s1
  have s9 := hok.s9
  have d1 := hok.d1
  have d9 := hok.d9
  walk_at "m3 wpb"
  (conv => whnf)
  intro fo c1
  walk_at "m3 wpb"
  refine ⟨[], stepLt S, OkLt S, _, ⟨rfl, ⟨s1, s9⟩, ⟨d1, d9⟩, .inl rfl, stepLt_ok hok, ?_, nk_lag_follow T C_come_to C_breaks_by_some S.signs S.deeds S hL rfl rfl⟩, fun n hn => ?_, qw⟩
  · decide
  · have := q n hn
    walk_at "m3 wpb"
    exact this
theorem okx_need_saying {f : Addr} {fd : FuncData} (F : Fun K "need_saying" "need_saying" s_need_saying f fd) (T : Txt mg) (TX : TxE K mg cc) (C_is_saying : CalC P w K mg base 4 "is_saying" ["thing"] S_is_saying) : FnOk P w K mg base (L2.CX P w) 5 f fd ["thing"] (liftF K (X_need_saying cc).p) := by
  refine fnX F sc_need_saying (fun ws Q E h0 => by (obtain ⟨x, ws0, rfl, h1⟩ := sD.inv h0; obtain ⟨rfl, h⟩ := sEnd.inv h1); rfl) (fun cdv A outer s H E hr tk po => ⟨_, (s13 (if3 (not3 (pt3_val (clCE C_is_saying hr (rd3 (v3 0) rn3))))
      (s13 (raise3 TX.e_NoSaying tk))
      sn3)), ?_⟩)
  intro ws Q Ex h0
  obtain ⟨x, ws0, rfl, h1⟩ := sD.inv h0
  obtain ⟨rfl, h⟩ := sEnd.inv h1
  have q := h
  clear h h0 h1
  walk_at "m3 wpb"
  · exact q.no hbr
  · exact q.yes hbr
theorem okx_late {f : Addr} {fd : FuncData} (F : Fun K "late" "late" s_late f fd) (T : Txt mg) (TX : TxE K mg cc) (CX_need_saying : CalX P w K mg base 5 "need_saying" ["thing"] (X_need_saying cc)) (CX_lag : CalX P w K mg base 15 "lag" ["saying"] (X_lag75 cc)) : FnOk P w K mg base (L2.CX P w) 16 f fd ["saying"] (liftF K (X_late75 cc).p) := by
  refine fnX F sc_late (fun ws Q E h0 => by (obtain ⟨x, ws0, rfl, h1⟩ := sD.inv h0; obtain ⟨rfl, h⟩ := sEnd.inv h1); rfl) (fun cdv A outer s H E hr tk po => ⟨_, (scN (expr3 (clX CX_need_saying tk hr (rd3 (v3 0) rn3)))
      (s13 (ret3 (ixK (clX CX_lag tk hr (rd3 (v3 0) rn3)) int3)))), ?_⟩)
  intro ws Q Ex h0
  obtain ⟨x, ws0, rfl, h1⟩ := sD.inv h0
  obtain ⟨rfl, h⟩ := sEnd.inv h1
  have q := h
  clear h h0 h1
  cases hx : sayB x
  · have q := q.no hx
    walk_at "m3 wpb"
    exact q
  · obtain ⟨S, ⟨rfl, hS⟩, q, qw⟩ := q.yes hx
    walk_at "m3 wpb"
    exact qw
theorem okx_rooms_late {f : Addr} {fd : FuncData} (F : Fun K "rooms_late" "rooms_late" s_rooms_late f fd) (T : Txt mg) (TX : TxE K mg cc) (CX_need_saying : CalX P w K mg base 5 "need_saying" ["thing"] (X_need_saying cc)) (CX_lag : CalX P w K mg base 15 "lag" ["saying"] (X_lag75 cc)) : FnOk P w K mg base (L2.CX P w) 16 f fd ["saying"] (liftF K (X_rlate75 cc).p) := by
  refine fnX F sc_rooms_late (fun ws Q E h0 => by (obtain ⟨x, ws0, rfl, h1⟩ := sD.inv h0; obtain ⟨rfl, h⟩ := sEnd.inv h1); rfl) (fun cdv A outer s H E hr tk po => ⟨_, (scN (expr3 (clX CX_need_saying tk hr (rd3 (v3 0) rn3)))
      (s13 (ret3 (ixK (clX CX_lag tk hr (rd3 (v3 0) rn3)) int3)))), ?_⟩)
  intro ws Q Ex h0
  obtain ⟨x, ws0, rfl, h1⟩ := sD.inv h0
  obtain ⟨rfl, h⟩ := sEnd.inv h1
  have q := h
  clear h h0 h1
  cases hx : sayB x
  · have q := q.no hx
    walk_at "m3 wpb"
    exact q
  · obtain ⟨S, ⟨rfl, hS⟩, q, qw⟩ := q.yes hx
    walk_at "m3 wpb"
    exact qw
theorem ok__law_lag {f : Addr} {fd : FuncData} (F : Fun K "_law_lag" "_law_lag" s__law_lag f fd) (T : Txt mg)  : FnOk P w K mg base CX0 1 f fd ["saying"] (liftF K S_llag75.p) := by
  refine fnN F sc__law_lag (fun ws Q h0 => by (obtain ⟨v0, ws0, rfl, h1⟩ := sD.inv h0; obtain ⟨rfl, h⟩ := sEnd.inv h1); rfl) (fun cdv A outer s H E hr => ⟨_, (scN (asg3 (ws := [1, 2, 3]) (v3 0) (gtA (n := 3) rfl (gs1 (gn3 1 sc__law_lag.nd) (gs1 (gn3 2 sc__law_lag.nd) (gs1 (gn3 3 sc__law_lag.nd) gs0)))))
      (scN (setO3 4 sc__law_lag.nd (olst3 (ac3 (tup3 an3) an3)))
      (scN (setO3 5 sc__law_lag.nd (olst3 an3))
      (scN (whileN [4, 5, 6, 7, 8, 9, 10, 11] PassesOwn.never (lt3T (lenO3 5 (by rfl) T.b_len) (lenO3 4 (by rfl) T.b_len))
      (scN (set3 6 sc__law_lag.nd (ixOK 4 (lenO3 5 (by rfl) T.b_len)))
      (scN (setO3 7 sc__law_lag.nd (olst3 an3))
      (scN (forN [4, 7, 8, 9, 10, 11] (ws0 := [8]) PassesOwn.never rfl (range3 (by rfl) T.b_range (v3 1)) (gn3 8 sc__law_lag.nd)
      (scN (set3 9 sc__law_lag.nd (ifx3 (eq3T hr.units (v3 6) (tup3 an3)) int3 (ixK (ixK (ixK (v3 3) (ixK (v3 6) int3)) (v3 8)) (ixK (v3 6) int3))))
      (scN (setO3 10 sc__law_lag.nd (olst3 an3))
      (scN (forN [4, 10, 11] (ws0 := [11]) PassesOwn.never rfl (range3 (by rfl) T.b_range (v3 2)) (gn3 11 sc__law_lag.nd)
      (s13 (if3 (in3T hr.units non3 (PE3.lcP (lcP (own := [("other", 12)]) rfl sc__law_lag.nd (range3 (by rfl) T.b_range (v3 1)) (blkOk_by (by kernel_rfl)) (fun _ _ _ _ _ => (gn3 12 sc__law_lag.nd)) (fun _ _ _ _ _ => (ixK (ixK (ixK (v3 3) (v3 9)) (v3 12)) (v3 11))) s)))
      (s13 (app3 10 non3))
      (scN (if3 (brwLT 4 (notIn3T hr.units (tup3 (ac3 (v3 9) (ac3 (v3 11) an3))) (v3 4)))
      (s13 (app3 4 (tup3 (ac3 (v3 9) (ac3 (v3 11) an3)))))
      sn3)
      (s13 (app3 10 (brwL3 4 (indexD3 hr.units65 (v3 4) (tup3 (ac3 (v3 9) (ac3 (v3 11) an3)))))))))))
      (frz3 10 (s13 (app3 7 (tuple3  (by rfl) T.b_tuple (v3 10)))))))))
      (frz3 7 (scN (app3 5 (tuple3  (by rfl) T.b_tuple (v3 7)))
      (s13 (if3 (gt3T (lenO3 4 (by rfl) T.b_len) int3)
      (s13 (ret3 non3))
      sn3))))))))
      (frz3 5 (frz3 4 (s13 (ret3 (tup3 (ac3 (tuple3  (by rfl) T.b_tuple (v3 4)) (ac3 (tup3 (ac3 (v3 1) (ac3 (v3 2) (ac3 (tuple3  (by rfl) T.b_tuple (v3 5)) an3)))) an3))))))))))), ?_⟩)
  intro ws Q h0
  obtain ⟨v0, ws0, rfl, h1⟩ := sD.inv h0
  obtain ⟨rfl, h⟩ := sEnd.inv h1
  obtain ⟨S, rfl, pre, q⟩ := h
  clear h0 h1
  have hS := pre
  clear pre
  have h1 := hS.s1
  have h2 := hS.s9
  have h3 := hS.d1
  have h4 := hS.d9
  have hok := fc_ok (a := S.signs.toNat) (b := S.deeds.toNat) (ok := OkLt S) (step := stepLt S) (b0 := []) (.inl rfl) (stepLt_ok hS)
  have ec0 : rowD ([] : Rw) = .tuple [] := rfl
  generalize estep : stepLt S = step at *
  generalize ea : S.signs.toNat = a at *
  generalize ebb : S.deeds.toNat = c at *
  walk_at "m3 wpb"
  refine ⟨⟨fun m vs => ∃ (n : Nat) (ps ts : List D) (a1 a2 a3 a4 a5 a6 : Option M3.W), vs = [some (.own 0 (.lst ps)), some (.own 0 (.lst ts)), a1, a2, a3, a4, a5, a6] ∧ ps = (fcC a c step [] n).map rowD ∧ ts = (fcT a c step [] n).map roomD ∧ Going (fcOut a c step) [] n ∧ (fcC a c step [] n).length ≤ 100 ∧ m = 101 - n, ⟨101, 0, _, _, _, _, _, _, _, _, rfl, rfl, rfl, fun m hm => by omega, Nat.le_of_ble_eq_true rfl, rfl⟩, ?_⟩⟩
  rintro m vs ⟨n, _, _, a1, a2, a3, a4, a5, a6, rfl, rfl, rfl, hg, h100, rfl⟩
  have hn := going_le hg
  have hgl := going_len hg
  have l1 : ((fcC a c step [] n).map rowD).length = (fcC a c step [] n).length := by simp
  have l2 : ((fcT a c step [] n).map roomD).length = n := by rw [List.length_map, fcT_len]
  by_cases hnl : n < (fcC a c step [] n).length
  · have hnl2 : ((((fcT a c step [] n).map roomD).length : Nat) : Int) < ((((fcC a c step [] n).map rowD).length : Nat) : Int) := by omega
    obtain ⟨x, hx⟩ : ∃ x, (fcC a c step [] n)[n]? = some x := ⟨_, List.getElem?_eq_getElem hnl⟩
    have ex : atI ((fcC a c step [] n).map rowD) ((((fcT a c step [] n).map roomD).length : Nat) : Int) = some (rowD x) := by
      rw [l2]; exact at_map_nat hx
    have hxo := hok n x (List.mem_of_getElem? hx)
    have hsx := fc_succ hx
    have gs := going_succ hg hnl h100
    have eR : fcRoom a c step [] n = (List.range a).map (fcRow a c step [] n x) := by unfold fcRoom; rw [hx]
    walk_at "m3 wpb"
    (conv => whnf)
    refine atK_of (ex) ?_
    walk_at "m3 wpb"
    refine ⟨⟨fun s vs => ∃ (ps rs : List D) (a1 a2 a3 a4 : Option M3.W), vs = [some (.own 0 (.lst ps)), some (.own 0 (.lst rs)), a1, a2, a3, a4] ∧ ps = (addAll (fcC a c step [] n) (fcAll c step x s)).map rowD ∧ rs = ((List.range s).map (fcRow a c step [] n x)).map rowD ∧ (addAll (fcC a c step [] n) (fcAll c step x s)).length ≤ 100 + 9 * s, ⟨_, _, _, _, _, _, rfl, rfl, rfl, h100⟩, ?_, ?_⟩⟩
    · rintro s v vs hv ⟨_, _, c1, c2, c3, c4, rfl, rfl, rfl, hl⟩
      obtain ⟨rfl, hs'⟩ := rng_at hv
      rw [ea] at hs'
      clear hv
      rw [Int.zero_add]
      have hs1 : (s : Int) < S.signs := by omega
      obtain ⟨k1, k2⟩ := lt_key hS hxo hs1
      have e4 : ∀ d, anyBr S (lateAt S x s) d = true → step x s d = none := fun d h => by rw [← estep]; unfold stepLt; rw [if_pos h]
      have e5 : ∀ d, anyBr S (lateAt S x s) d = false → step x s d = some [some (lateAt S x s), some d] := fun d h => by rw [← estep]; unfold stepLt; rw [if_neg (by rw [h]; decide)]
      have hrw : ∀ o, o < a → ∃ room row, atI (S.rooms.map roomD) (lateAt S x s : Int) = some (roomD room) ∧ atI (room.map rowD) (o : Int) = some (rowD row) ∧ ∀ d : Nat, (d : Int) < S.deeds → atI (row.map cellD) (d : Int) = some (cellD (S.go (lateAt S x s) o d)) := fun o ho => go_row hS k2 (by omega)
      generalize eat : lateAt S x s = at_ at *
      have hmain : (x = [] ∧ at_ = 0) ∨ ∃ r d, x = [some r, some d] ∧ r < S.rooms.length ∧ (d : Int) < S.deeds ∧ S.go r s d = some at_ := by
        rcases k1 with rfl | ⟨r, d, k, rfl, hr, hd, hk⟩
        · exact .inl ⟨rfl, eat.symm⟩
        · refine .inr ⟨r, d, rfl, hr, hd, ?_⟩
          rw [hk, ← eat]; simp [lateAt, hk]
      clear k1 eat
      have hlB0 : ([] : List D).length ≤ sizeLine := Nat.zero_le _
      rcases hmain with ⟨rfl, rfl⟩ | ⟨r0, d0, rfl, hr, hd, hk⟩
      · walk_at "m3 wpb"
        refine ⟨⟨fun d vs => ∃ (B : List Rw) (ps rs : List D) (a1 : Option M3.W), vs = [some (.own 0 (.lst ps)), some (.own 0 (.lst rs)), a1] ∧ B = addAll (addAll (fcC a c step [] n) (fcAll c step [] s)) (((List.range c).map (step [] s)).take d |>.filterMap id) ∧ ps = B.map rowD ∧ rs = ((fcRow a c step [] n [] s).take d).map cellD ∧ B.length ≤ 100 + 9 * s + d, ⟨_, _, _, _, rfl, rfl, rfl, rfl, hl⟩, ?_, ?_⟩⟩
        · rintro d1 y vs hy ⟨B, _, _, e1, rfl, hB, rfl, rfl, hBl⟩
          obtain ⟨rfl, hdb⟩ := rng_at hy
          rw [ebb] at hdb
          clear hy
          rw [Int.zero_add]
          have hd1 : (d1 : Int) < S.deeds := by omega
          have e4 := e4 d1
          have e5 := e5 d1
          have lrow : (fcRow a c step [] n [] s).length = c := by simp [fcRow]
          have lr : (((fcRow a c step [] n [] s).take d1).map cellD).length = d1 := by simp; omega
          have lr2 : (((fcRow a c step [] n [] s).take d1).map cellD).length < sizeLine := by rw [lr, sizeLine24]; omega
          have ht : ((List.range c).map (step [] s)).take (d1 + 1) = ((List.range c).map (step [] s)).take d1 ++ [step [] s d1] := by rw [List.take_add_one, List.getElem?_map, List.getElem?_range hdb]; rfl
          have htr : (fcRow a c step [] n [] s).take (d1 + 1) = (fcRow a c step [] n [] s).take d1 ++ [(step [] s d1).map (idxP (fcC a c step [] (n + 1)))] := by
            rw [List.take_add_one]
            simp [fcRow, hdb]
          walk_at "m3 wpb"
          refine ⟨⟨((List.range a).map fun o => S.go 0 o d1).map cellD, by rw [rng_len, ea]; simp, fun k z hz => ?_, ?_⟩⟩
          · obtain ⟨rfl, hk⟩ := rng_at hz
            rw [ea] at hk
            clear hz
            rw [Int.zero_add]
            obtain ⟨room1, row1, g1, g2, g3⟩ := hrw k hk
            have g3 := g3 d1 hd1
            walk_at "m3 wpb"
            (conv => whnf)
            refine atK_of (g1) ?_
            walk_at "m3 wpb"
            (conv => whnf)
            refine atK_of (g2) ?_
            walk_at "m3 wpb"
            (conv => whnf)
            refine atK_of (g3) ?_
            walk_at "m3 wpb"
            rw [List.getElem?_map, List.getElem?_map, List.getElem?_range hk]; rfl
          have hcn := cells_none ((List.range a).map fun o => S.go 0 o d1)
          have hcl := cells_lay ((List.range a).map fun o => S.go 0 o d1)
          have hbr2 : ((List.range a).map fun o => S.go 0 o d1).any Option.isNone = anyBr S 0 d1 := by
            unfold anyBr; rw [ea, List.any_map]; rfl
          rw [hbr2] at hcn
          have hcl0 : PyData.none.canLay0 = true := rfl
          have hcl1 : PyData.none.depth ≤ 60 := by simp [PyData.depth]
          generalize ((List.range a).map fun o => S.go 0 o d1).map cellD = gos at *
          clear hbr2
          cases hL : anyBr S 0 d1 with
          | true =>
            rw [e4 hL] at ht htr
            rw [hL] at hcn
            walk_at "m3 wpb"
            exact ⟨⟨B, _, _, _, rfl, by rw [ht, List.filterMap_append]; simpa using hB, rfl, by rw [htr, List.map_append]; rfl, by omega⟩⟩
          | false =>
            have hst := e5 hL
            rw [hL] at hcn
            rw [hst] at ht htr
            generalize hff : ([some 0, some d1] : Rw) = ff at *
            have hft : PyData.tuple [.int ((0 : Nat) : Int), .int (d1 : Int)] = rowD ff := by rw [← hff]; rfl
            have eB : addAll (addAll (fcC a c step [] n) (fcAll c step [] s)) ((((List.range c).map (step [] s)).take (d1 + 1)).filterMap id) = addP B ff := by
              rw [ht, List.filterMap_append, hB]
              exact addAll_snoc
            have hpre : addP B ff <+: fcC a c step [] (n + 1) := by
              rw [← eB, hsx, ← addAll_app]
              refine addAll_pre2 (List.IsPrefix.trans ?_ (fcAll_pre (show s + 1 ≤ a by omega)))
              rw [fcAll_succ]
              refine (List.prefix_append_right_inj _).mpr ?_
              rw [← fcNew_take (k := 0)]
              exact (List.take_prefix _ _).filterMap _
            have hin : ((B.map rowD).any fun z => PyData.eqv z (.tuple [.int ((0 : Nat) : Int), .int (d1 : Int)])) = decide (ff ∈ B) := by rw [hft]; exact rows_any B ff
            have hlay := rows_lay B
            have hlay2 : (PyData.tuple [.int ((0 : Nat) : Int), .int (d1 : Int)]).canLay0 = true := rfl
            have hdep2 : (PyData.tuple [.int ((0 : Nat) : Int), .int (d1 : Int)]).depth ≤ 60 := by simp [PyData.depth, PyData.depthAll]
            have hBl2 : (B.map rowD).length < sizeLine := by rw [List.length_map, sizeLine24]; omega
            by_cases hy : ff ∈ B
            · rw [decide_eq_true hy] at hin
              have e2 : addP B ff = B := by unfold addP; rw [if_pos hy]
              have hpre' := hpre
              rw [e2] at hpre'
              obtain ⟨i1, i2⟩ := row_first hy
              walk_at "m3 wpb"
              (conv => whnf)
              refine ⟨⟨idxP B ff, _, rows_shaped B, shaped_of hft, i1, eqv_of hft, fun m z hm hz => ne_of hft (i2 m z hm hz), ?_⟩⟩
              walk_at "m3 wpb"
              refine ⟨⟨B, _, _, _, rfl, by rw [eB, e2], rfl, ?_, by omega⟩⟩
              rw [htr, List.map_append, Option.map_some, idx_pre hpre' hy]; rfl
            · rw [decide_eq_false hy] at hin
              have e2 : addP B ff = B ++ [ff] := by unfold addP; rw [if_neg hy]
              have hpre' := hpre
              rw [e2] at hpre'
              obtain ⟨i1, i2⟩ := row_first (B := B ++ [ff]) (f := ff) (by simp)
              have hsh := rows_shaped (B ++ [ff])
              have hBf : (B ++ [ff]).map rowD = B.map rowD ++ [rowD ff] := by simp
              rw [hBf, ← hft] at i1 i2 hsh
              walk_at "m3 wpb"
              (conv => whnf)
              refine ⟨⟨idxP (B ++ [ff]) ff, _, hsh, shaped_of hft, i1, eqv_of' hft, fun m z hm hz => i2 m z hm hz, ?_⟩⟩
              walk_at "m3 wpb"
              refine ⟨⟨B ++ [ff], _, _, _, rfl, by rw [eB, e2], by rw [hBf, ← hft]; rfl, ?_, by simp; omega⟩⟩
              rw [htr, List.map_append, Option.map_some, idx_pre hpre' (show ff ∈ B ++ [ff] by simp)]; rfl
        · rintro vs ⟨B, _, _, e1, rfl, hB, rfl, rfl, hBl⟩
          rw [rng_len, ebb] at hB hBl ⊢
          rw [List.take_of_length_le (by simp), fcNew_take (k := 0)] at hB
          have hB2 : addAll (fcC a c step [] n) (fcAll c step [] (s + 1)) = B := by rw [fcAll_succ, addAll_app, hB]
          have lrow : (fcRow a c step [] n [] s).length = c := by simp [fcRow]
          rw [List.take_of_length_le (by omega)]
          have l5 : (((List.range s).map (fcRow a c step [] n [])).map rowD).length < sizeLine := by simp; rw [sizeLine24]; omega
          have l6 : ((fcRow a c step [] n [] s).map cellD).length = c := by simp [fcRow]
          walk_at "m3 wpb"
          refine ⟨⟨_, _, _, _, _, _, rfl, by rw [hB2], ?_, by rw [hB2]; omega⟩⟩
          rw [List.range_succ, List.map_append, List.map_append]; rfl
      · obtain ⟨room0, row0, f1, f2, f3⟩ := go_row hS hr hs1
        have f3 := f3 d0 hd
        rw [hk] at f3
        walk_at "m3 wpb"
        (conv => whnf)
        refine atK_of (f1) ?_
        walk_at "m3 wpb"
        (conv => whnf)
        refine atK_of (f2) ?_
        walk_at "m3 wpb"
        (conv => whnf)
        refine atK_of (f3) ?_
        walk_at "m3 wpb"
        refine ⟨⟨fun d vs => ∃ (B : List Rw) (ps rs : List D) (a1 : Option M3.W), vs = [some (.own 0 (.lst ps)), some (.own 0 (.lst rs)), a1] ∧ B = addAll (addAll (fcC a c step [] n) (fcAll c step [some r0, some d0] s)) (((List.range c).map (step [some r0, some d0] s)).take d |>.filterMap id) ∧ ps = B.map rowD ∧ rs = ((fcRow a c step [] n [some r0, some d0] s).take d).map cellD ∧ B.length ≤ 100 + 9 * s + d, ⟨_, _, _, _, rfl, rfl, rfl, rfl, hl⟩, ?_, ?_⟩⟩
        · rintro d1 y vs hy ⟨B, _, _, e1, rfl, hB, rfl, rfl, hBl⟩
          obtain ⟨rfl, hdb⟩ := rng_at hy
          rw [ebb] at hdb
          clear hy
          rw [Int.zero_add]
          have hd1 : (d1 : Int) < S.deeds := by omega
          have e4 := e4 d1
          have e5 := e5 d1
          have lrow : (fcRow a c step [] n [some r0, some d0] s).length = c := by simp [fcRow]
          have lr : (((fcRow a c step [] n [some r0, some d0] s).take d1).map cellD).length = d1 := by simp; omega
          have lr2 : (((fcRow a c step [] n [some r0, some d0] s).take d1).map cellD).length < sizeLine := by rw [lr, sizeLine24]; omega
          have ht : ((List.range c).map (step [some r0, some d0] s)).take (d1 + 1) = ((List.range c).map (step [some r0, some d0] s)).take d1 ++ [step [some r0, some d0] s d1] := by rw [List.take_add_one, List.getElem?_map, List.getElem?_range hdb]; rfl
          have htr : (fcRow a c step [] n [some r0, some d0] s).take (d1 + 1) = (fcRow a c step [] n [some r0, some d0] s).take d1 ++ [(step [some r0, some d0] s d1).map (idxP (fcC a c step [] (n + 1)))] := by
            rw [List.take_add_one]
            simp [fcRow, hdb]
          walk_at "m3 wpb"
          refine ⟨⟨((List.range a).map fun o => S.go at_ o d1).map cellD, by rw [rng_len, ea]; simp, fun k z hz => ?_, ?_⟩⟩
          · obtain ⟨rfl, hk⟩ := rng_at hz
            rw [ea] at hk
            clear hz
            rw [Int.zero_add]
            obtain ⟨room1, row1, g1, g2, g3⟩ := hrw k hk
            have g3 := g3 d1 hd1
            walk_at "m3 wpb"
            (conv => whnf)
            refine atK_of (g1) ?_
            walk_at "m3 wpb"
            (conv => whnf)
            refine atK_of (g2) ?_
            walk_at "m3 wpb"
            (conv => whnf)
            refine atK_of (g3) ?_
            walk_at "m3 wpb"
            rw [List.getElem?_map, List.getElem?_map, List.getElem?_range hk]; rfl
          have hcn := cells_none ((List.range a).map fun o => S.go at_ o d1)
          have hcl := cells_lay ((List.range a).map fun o => S.go at_ o d1)
          have hbr2 : ((List.range a).map fun o => S.go at_ o d1).any Option.isNone = anyBr S at_ d1 := by
            unfold anyBr; rw [ea, List.any_map]; rfl
          rw [hbr2] at hcn
          have hcl0 : PyData.none.canLay0 = true := rfl
          have hcl1 : PyData.none.depth ≤ 60 := by simp [PyData.depth]
          generalize ((List.range a).map fun o => S.go at_ o d1).map cellD = gos at *
          clear hbr2
          cases hL : anyBr S at_ d1 with
          | true =>
            rw [e4 hL] at ht htr
            rw [hL] at hcn
            walk_at "m3 wpb"
            exact ⟨⟨B, _, _, _, rfl, by rw [ht, List.filterMap_append]; simpa using hB, rfl, by rw [htr, List.map_append]; rfl, by omega⟩⟩
          | false =>
            have hst := e5 hL
            rw [hL] at hcn
            rw [hst] at ht htr
            generalize hff : ([some at_, some d1] : Rw) = ff at *
            have hft : PyData.tuple [.int ((at_ : Nat) : Int), .int (d1 : Int)] = rowD ff := by rw [← hff]; rfl
            have eB : addAll (addAll (fcC a c step [] n) (fcAll c step [some r0, some d0] s)) ((((List.range c).map (step [some r0, some d0] s)).take (d1 + 1)).filterMap id) = addP B ff := by
              rw [ht, List.filterMap_append, hB]
              exact addAll_snoc
            have hpre : addP B ff <+: fcC a c step [] (n + 1) := by
              rw [← eB, hsx, ← addAll_app]
              refine addAll_pre2 (List.IsPrefix.trans ?_ (fcAll_pre (show s + 1 ≤ a by omega)))
              rw [fcAll_succ]
              refine (List.prefix_append_right_inj _).mpr ?_
              rw [← fcNew_take (k := 0)]
              exact (List.take_prefix _ _).filterMap _
            have hin : ((B.map rowD).any fun z => PyData.eqv z (.tuple [.int ((at_ : Nat) : Int), .int (d1 : Int)])) = decide (ff ∈ B) := by rw [hft]; exact rows_any B ff
            have hlay := rows_lay B
            have hlay2 : (PyData.tuple [.int ((at_ : Nat) : Int), .int (d1 : Int)]).canLay0 = true := rfl
            have hdep2 : (PyData.tuple [.int ((at_ : Nat) : Int), .int (d1 : Int)]).depth ≤ 60 := by simp [PyData.depth, PyData.depthAll]
            have hBl2 : (B.map rowD).length < sizeLine := by rw [List.length_map, sizeLine24]; omega
            by_cases hy : ff ∈ B
            · rw [decide_eq_true hy] at hin
              have e2 : addP B ff = B := by unfold addP; rw [if_pos hy]
              have hpre' := hpre
              rw [e2] at hpre'
              obtain ⟨i1, i2⟩ := row_first hy
              walk_at "m3 wpb"
              (conv => whnf)
              refine ⟨⟨idxP B ff, _, rows_shaped B, shaped_of hft, i1, eqv_of hft, fun m z hm hz => ne_of hft (i2 m z hm hz), ?_⟩⟩
              walk_at "m3 wpb"
              refine ⟨⟨B, _, _, _, rfl, by rw [eB, e2], rfl, ?_, by omega⟩⟩
              rw [htr, List.map_append, Option.map_some, idx_pre hpre' hy]; rfl
            · rw [decide_eq_false hy] at hin
              have e2 : addP B ff = B ++ [ff] := by unfold addP; rw [if_neg hy]
              have hpre' := hpre
              rw [e2] at hpre'
              obtain ⟨i1, i2⟩ := row_first (B := B ++ [ff]) (f := ff) (by simp)
              have hsh := rows_shaped (B ++ [ff])
              have hBf : (B ++ [ff]).map rowD = B.map rowD ++ [rowD ff] := by simp
              rw [hBf, ← hft] at i1 i2 hsh
              walk_at "m3 wpb"
              (conv => whnf)
              refine ⟨⟨idxP (B ++ [ff]) ff, _, hsh, shaped_of hft, i1, eqv_of' hft, fun m z hm hz => i2 m z hm hz, ?_⟩⟩
              walk_at "m3 wpb"
              refine ⟨⟨B ++ [ff], _, _, _, rfl, by rw [eB, e2], by rw [hBf, ← hft]; rfl, ?_, by simp; omega⟩⟩
              rw [htr, List.map_append, Option.map_some, idx_pre hpre' (show ff ∈ B ++ [ff] by simp)]; rfl
        · rintro vs ⟨B, _, _, e1, rfl, hB, rfl, rfl, hBl⟩
          rw [rng_len, ebb] at hB hBl ⊢
          rw [List.take_of_length_le (by simp), fcNew_take (k := 0)] at hB
          have hB2 : addAll (fcC a c step [] n) (fcAll c step [some r0, some d0] (s + 1)) = B := by rw [fcAll_succ, addAll_app, hB]
          have lrow : (fcRow a c step [] n [some r0, some d0] s).length = c := by simp [fcRow]
          rw [List.take_of_length_le (by omega)]
          have l5 : (((List.range s).map (fcRow a c step [] n [some r0, some d0])).map rowD).length < sizeLine := by simp; rw [sizeLine24]; omega
          have l6 : ((fcRow a c step [] n [some r0, some d0] s).map cellD).length = c := by simp [fcRow]
          walk_at "m3 wpb"
          refine ⟨⟨_, _, _, _, _, _, rfl, by rw [hB2], ?_, by rw [hB2]; omega⟩⟩
          rw [List.range_succ, List.map_append, List.map_append]; rfl
    · rintro vs ⟨_, _, c1, c2, c3, c4, rfl, rfl, rfl, hl⟩
      rw [rng_len, ea] at hl ⊢
      rw [← hsx] at hl ⊢
      have l5 : (((List.range a).map (fcRow a c step [] n x)).map rowD).length = a := by simp
      have l6 : ((fcT a c step [] n).map roomD).length < sizeLine := by rw [l2, sizeLine24]; omega
      have eT : (fcT a c step [] n).map roomD ++ [.tuple (((List.range a).map (fcRow a c step [] n x)).map rowD)] = (fcT a c step [] (n + 1)).map roomD := by
        unfold fcT
        rw [List.range_succ, List.map_append, List.map_append, List.map_singleton, List.map_singleton, eR]; rfl
      have l7 : ((fcC a c step [] (n + 1)).map rowD).length = (fcC a c step [] (n + 1)).length := by simp
      by_cases h101 : (fcC a c step [] (n + 1)).length ≤ 100
      · have h102 : ¬ (100 : Int) < ((((fcC a c step [] (n + 1)).map rowD).length : Nat) : Int) := by omega
        walk_at "m3 wpb"
        exact ⟨⟨101 - (n + 1), by omega, n + 1, _, _, _, _, _, _, _, _, rfl, rfl, eT, gs, h101, rfl⟩⟩
      · have h102 : (100 : Int) < ((((fcC a c step [] (n + 1)).map rowD).length : Nat) : Int) := by omega
        subst ea
        subst ebb
        subst estep
        walk_at "m3 wpb"
        exact q _ (.inr ⟨⟨n + 1, gs, by show 100 < (fcC S.signs.toNat S.deeds.toNat (stepLt S) [] (n + 1)).length; omega⟩, rfl⟩)
  · have hnl2 : ¬ ((((fcT a c step [] n).map roomD).length : Nat) : Int) < ((((fcC a c step [] n).map rowD).length : Nat) : Int) := by omega
    subst ea
    subst ebb
    subst estep
    walk_at "m3 wpb"
    exact q _ (.inl ⟨n, ⟨hg, by show n = (fcC S.signs.toNat S.deeds.toNat (stepLt S) [] n).length; have : n ≤ (fcC S.signs.toNat S.deeds.toNat (stepLt S) [] n).length := hgl; omega, hn⟩, rfl⟩)
theorem rec__law_same {f : Addr} {fd : FuncData} (F : Fun K "_law_same" "_law_same" s__law_same f fd) (T : Txt mg)  (hm : mg "_law_same" = some (.ref f)) (hk : PySem.W.keepIn K (.ref f) = true) (hb : Binds K fd ["found", "due"] []) : ∀ n, n ≤ 5 → FnOk P w K mg base CX0 (1 + n) f fd ["found", "due"] (liftF K (S_same2 n).p)
  | 0, _ => by
    refine fnN (k := 0) F sc__law_same (fun ws Q h0 => by (obtain ⟨x, ws0, rfl, h1⟩ := sD.inv h0; obtain ⟨y, ws1, rfl, h2⟩ := sD.inv h1; obtain ⟨rfl, h⟩ := sEnd.inv h2); rfl) (fun cdv A outer s H E hr => ⟨_, (scN (if3 (pt3_val (isi3 kit_tuple (by decide +kernel) (by rfl) T.b_isinstance (by rfl) T.b_tuple (v3 1)))
      (scN (if3 (PW3.pt (or3 (not3 (pt3_val (isi3 kit_tuple (by decide +kernel) (by rfl) T.b_isinstance (by rfl) T.b_tuple (v3 0)))) (or1_3 (ne3T hr.units (len3  (by rfl) T.b_len (v3 0)) (len3  (by rfl) T.b_len (v3 1))))))
      (s13 (ret3 bl3))
      sn3)
      (s13 (ret3 (all3 rfl (by rfl) T.b_all (PE3.lcP (lcP (own := [("one", 2), ("other", 3)]) rfl sc__law_same.nd (zip3 (by rfl) T.b_zip (v3 0) (v3 1)) (blkOk_by (by kernel_rfl)) (fun _ _ _ _ _ => (gtA (n := 2) rfl (gs1 (gn3 2 sc__law_same.nd) (gs1 (gn3 3 sc__law_same.nd) gs0)))) (fun _ _ _ _ _ => neverE3) s))))))
      sn3)
      (scN (if3 (isN3T (v3 1))
      (s13 (ret3 (isN3 (v3 0))))
      sn3)
      (scN (if3 (pt3_val (isi3_2 kit_str kit_bool (by decide +kernel) (by decide +kernel) (by rfl) T.b_isinstance (by rfl) T.b_str (by rfl) T.b_bool (v3 1)))
      (s13 (ret3 (andV3 (isi3_2 kit_str kit_bool (by decide +kernel) (by decide +kernel) (by rfl) T.b_isinstance (by rfl) T.b_str (by rfl) T.b_bool (v3 0)) (andV3 (eq3 hr.units (isi3 kit_bool (by decide +kernel) (by rfl) T.b_isinstance (by rfl) T.b_bool (v3 0)) (isi3 kit_bool (by decide +kernel) (by rfl) T.b_isinstance (by rfl) T.b_bool (v3 1))) (one3 (eq3 hr.units (v3 0) (v3 1)))))))
      sn3)
      (s13 (ret3 (andV3 (isi3 kit_int (by decide +kernel) (by rfl) T.b_isinstance (by rfl) T.b_int (v3 0)) (andV3 (notV3 (isi3 kit_bool (by decide +kernel) (by rfl) T.b_isinstance (by rfl) T.b_bool (v3 0))) (one3 (eq3 hr.units (v3 0) (v3 1)))))))))), ?_⟩)
    intro ws Q h0
    obtain ⟨x, ws0, rfl, h1⟩ := sD.inv h0
    obtain ⟨y, ws1, rfl, h2⟩ := sD.inv h1
    obtain ⟨rfl, h⟩ := sEnd.inv h2
    obtain ⟨pre, q⟩ := h
    clear h0 h1 h2
    obtain ⟨rfl, hn⟩ := pre
    cases x
    all_goals first | exact hn.elim | skip
    · walk_at "m3 wpb"
      exact q
    · walk_at "m3 wpb"
      exact qb q (by simp)
    · walk_at "m3 wpb"
      exact qb q (by simp)
    · walk_at "m3 wpb"
      exact qb q (by simp)
  | n + 1, hn => by
    have C__law_same : CalC P w K mg base (1 + n) "_law_same" ["found", "due"] (S_same2 n) := ⟨f, fd, rec__law_same F T  hm hk hb n (by omega), hm, hk, hb⟩
    refine fnN (k := 1 + n) F sc__law_same (fun ws Q h0 => by (obtain ⟨x, ws0, rfl, h1⟩ := sD.inv h0; obtain ⟨y, ws1, rfl, h2⟩ := sD.inv h1; obtain ⟨rfl, h⟩ := sEnd.inv h2); rfl) (fun cdv A outer s H E hr => ⟨_, (scN (if3 (pt3_val (isi3 kit_tuple (by decide +kernel) (by rfl) T.b_isinstance (by rfl) T.b_tuple (v3 1)))
      (scN (if3 (PW3.pt (or3 (not3 (pt3_val (isi3 kit_tuple (by decide +kernel) (by rfl) T.b_isinstance (by rfl) T.b_tuple (v3 0)))) (or1_3 (ne3T hr.units (len3  (by rfl) T.b_len (v3 0)) (len3  (by rfl) T.b_len (v3 1))))))
      (s13 (ret3 bl3))
      sn3)
      (s13 (ret3 (all3 rfl (by rfl) T.b_all (PE3.lcP (lcP (own := [("one", 2), ("other", 3)]) rfl sc__law_same.nd (zip3 (by rfl) T.b_zip (v3 0) (v3 1)) (blkOk_by (by kernel_rfl)) (fun _ _ _ _ _ => (gtA (n := 2) rfl (gs1 (gn3 2 sc__law_same.nd) (gs1 (gn3 3 sc__law_same.nd) gs0)))) (fun _ _ _ _ _ => (clC C__law_same hr (rd3 (v3 2) (rd3 (v3 3) rn3)))) s))))))
      sn3)
      (scN (if3 (isN3T (v3 1))
      (s13 (ret3 (isN3 (v3 0))))
      sn3)
      (scN (if3 (pt3_val (isi3_2 kit_str kit_bool (by decide +kernel) (by decide +kernel) (by rfl) T.b_isinstance (by rfl) T.b_str (by rfl) T.b_bool (v3 1)))
      (s13 (ret3 (andV3 (isi3_2 kit_str kit_bool (by decide +kernel) (by decide +kernel) (by rfl) T.b_isinstance (by rfl) T.b_str (by rfl) T.b_bool (v3 0)) (andV3 (eq3 hr.units (isi3 kit_bool (by decide +kernel) (by rfl) T.b_isinstance (by rfl) T.b_bool (v3 0)) (isi3 kit_bool (by decide +kernel) (by rfl) T.b_isinstance (by rfl) T.b_bool (v3 1))) (one3 (eq3 hr.units (v3 0) (v3 1)))))))
      sn3)
      (s13 (ret3 (andV3 (isi3 kit_int (by decide +kernel) (by rfl) T.b_isinstance (by rfl) T.b_int (v3 0)) (andV3 (notV3 (isi3 kit_bool (by decide +kernel) (by rfl) T.b_isinstance (by rfl) T.b_bool (v3 0))) (one3 (eq3 hr.units (v3 0) (v3 1)))))))))), ?_⟩)
    intro ws Q h0
    obtain ⟨x, ws0, rfl, h1⟩ := sD.inv h0
    obtain ⟨y, ws1, rfl, h2⟩ := sD.inv h1
    obtain ⟨rfl, h⟩ := sEnd.inv h2
    obtain ⟨pre, q⟩ := h
    clear h0 h1 h2
    obtain ⟨rfl, hx⟩ := pre
    cases x
    all_goals first | exact hx.elim | skip
    · walk_at "m3 wpb"
      exact q
    · walk_at "m3 wpb"
      exact qb q (by simp)
    · walk_at "m3 wpb"
      exact qb q (by simp)
    · walk_at "m3 wpb"
      exact qb q (by simp)
    · rename_i xs
      obtain ⟨hl, hx⟩ := hx
      walk_at "m3 wpb"
      refine ⟨⟨List.replicate (zipD xs xs).length (.bool true), by simp, fun i y hy => ?_, ?_⟩⟩
      · obtain ⟨a, b, ha, hb, rfl⟩ := zipD_get hy
        rw [ha] at hb; cases hb
        have := hx a (List.mem_of_getElem? ha)
        walk_at "m3 wpb"
        rw [List.getElem?_replicate, if_pos (List.getElem?_eq_some_iff.mp hy).1]
      · refine ⟨List.replicate (zipD xs xs).length true, by simp, ?_⟩
        exact qb q (by simp)
theorem ok__law_same {f : Addr} {fd : FuncData} (F : Fun K "_law_same" "_law_same" s__law_same f fd) (T : Txt mg)  (hm : mg "_law_same" = some (.ref f)) (hk : PySem.W.keepIn K (.ref f) = true) (hb : Binds K fd ["found", "due"] []) : FnOk P w K mg base CX0 6 f fd ["found", "due"] (liftF K (S_same2 5).p) := rec__law_same F T  hm hk hb 5 (by omega)
theorem oke__law_word {f : Addr} {fd : FuncData} (F : Fun K "_law_word" "_law_word" s__law_word f fd) (T : Txt mg) (TX : TxE K mg cc) (TC : TxC K mg cc)  : FnE P w K mg base 1 f fd ["caught"] (wordW [(cc "NoSaying", .str "saying"), (cc "TooWide", .str "wide")]) := by
  refine fnE F sc__law_word (fun a C ws Q h => by obtain ⟨rfl, _⟩ := h; rfl) (fun cdv A outer s H E a oe C hz hf hr => ⟨_, (scN (set3 1 sc__law_word.nd (lst3 (ac3 (isG3 0 (c := .ref (cc "NoSaying")) (cv := .ref (cc "NoSaying")) List.mem_cons_self hz hf (by rfl) T.b_isinstance (fun u r => r) (pe_glob (by rfl) TX.e_NoSaying.g rfl)) (ac3 (isG3 0 (c := .ref (cc "TooWide")) (cv := .ref (cc "TooWide")) List.mem_cons_self hz hf (by rfl) T.b_isinstance (fun u r => r) (pe_glob (by rfl) TX.e_TooWide.g rfl)) an3))))
      (scN (set3 2 sc__law_word.nd (isGT3 0 List.mem_cons_self hz hf (by rfl) T.b_isinstance (pcs_cons (C := cc "NoCount") TX.e_NoCount.g (pcs_cons (C := cc "NoKeep") TX.e_NoKeep.g (pcs_cons (C := cc "NoNumber") TX.e_NoNumber.g (pcs_cons (C := cc "NoPrices") TX.e_NoPrices.g (pcs_cons (C := cc "NoRoom") TX.e_NoRoom.g (pcs_cons (C := cc "NoStep") TX.e_NoStep.g (pcs_cons (C := cc "NoClasses") TX.e_NoClasses.g (pcs_cons (C := cc "NoWatcher") TX.e_NoWatcher.g (pcs_cons (C := cc "Unlike") TX.e_Unlike.g pcs_nil)))))))))))
      (scN (if3 (PW3.pt (or3 (pt3_val (v3 2)) (or3 (ne3T hr.units (countD3 hr.units65 (v3 1) bl3) int3) (or1_3 (not3 (pt3_val (isG3 0 (c := .ty "ValueError") (cv := .type "ValueError") List.mem_cons_self hz hf (by rfl) T.b_isinstance (fun u r => r) (pe_bltn (v := .ty "ValueError") (by rfl) T.b_ValueError rfl rfl))))))))
      (s13 (ret3 str3))
      sn3)
      (s13 (ret3 (ixK (lst3 (ac3 str3 (ac3 str3 an3))) (indexD3 hr.units65 (v3 1) bl3))))))), ?_⟩)
  rintro ws Q ⟨rfl, d, pre, q⟩
  simp only [List.mem_cons, List.not_mem_nil, or_false, Prod.mk.injEq] at pre
  rcases pre with ⟨rfl, rfl⟩ | ⟨rfl, rfl⟩
  · walk_at "m3 wpb"
    refine ⟨true, TC.c_NoSaying, TC.k_NoSaying_NoSaying, ?_⟩
    walk_at "m3 wpb"
    refine ⟨false, TC.c_NoSaying, TC.k_NoSaying_TooWide, ?_⟩
    walk_at "m3 wpb"
    refine ⟨false, TC.c_NoSaying, kitAny_no (fun c hc => ?_), ?_⟩
    · simp only [List.map_cons, List.map_nil, List.mem_cons, List.not_mem_nil, or_false] at hc
      rcases hc with rfl | rfl | rfl | rfl | rfl | rfl | rfl | rfl | rfl
      · exact TC.k_NoSaying_NoCount
      · exact TC.k_NoSaying_NoKeep
      · exact TC.k_NoSaying_NoNumber
      · exact TC.k_NoSaying_NoPrices
      · exact TC.k_NoSaying_NoRoom
      · exact TC.k_NoSaying_NoStep
      · exact TC.k_NoSaying_NoClasses
      · exact TC.k_NoSaying_NoWatcher
      · exact TC.k_NoSaying_Unlike
    walk_at "m3 wpb"
    refine ⟨true, TC.c_NoSaying, TC.v_NoSaying, ?_⟩
    walk_at "m3 wpb"
    refine ⟨⟨0, .bool true, by decide, by decide, rfl, rfl, fun m z hm hz => ?_, ?_⟩⟩
    · exact absurd hm (by omega)
    · walk_at "m3 wpb"
      exact q
  · walk_at "m3 wpb"
    refine ⟨false, TC.c_TooWide, TC.k_TooWide_NoSaying, ?_⟩
    walk_at "m3 wpb"
    refine ⟨true, TC.c_TooWide, TC.k_TooWide_TooWide, ?_⟩
    walk_at "m3 wpb"
    refine ⟨false, TC.c_TooWide, kitAny_no (fun c hc => ?_), ?_⟩
    · simp only [List.map_cons, List.map_nil, List.mem_cons, List.not_mem_nil, or_false] at hc
      rcases hc with rfl | rfl | rfl | rfl | rfl | rfl | rfl | rfl | rfl
      · exact TC.k_TooWide_NoCount
      · exact TC.k_TooWide_NoKeep
      · exact TC.k_TooWide_NoNumber
      · exact TC.k_TooWide_NoPrices
      · exact TC.k_TooWide_NoRoom
      · exact TC.k_TooWide_NoStep
      · exact TC.k_TooWide_NoClasses
      · exact TC.k_TooWide_NoWatcher
      · exact TC.k_TooWide_Unlike
    walk_at "m3 wpb"
    refine ⟨true, TC.c_TooWide, TC.v_TooWide, ?_⟩
    walk_at "m3 wpb"
    refine ⟨⟨1, .bool true, by decide, by decide, rfl, rfl, fun m z hm hz => ?_, ?_⟩⟩
    · match m, hm with
      | 0, _ => cases hz; rfl
      | j + 1, hm => exact absurd hm (by omega)
    · walk_at "m3 wpb"
      exact q
theorem ok__law_any {f : Addr} {fd : FuncData} (F : Fun K "_law_any" "_law_any" s__law_any f fd) (T : Txt mg) (C__law_saying : CalC P w K mg base 3 "_law_saying" ["pot", "signs", "deeds", "rooms", "rate"] S_sayg) (C__law_take : CalC P w K mg base 1 "_law_take" ["pot", "many"] S_take) : FnOk P w K mg base CX0 4 f fd ["pot", "k"] (liftF K S_lany75.p) := by
  refine fnN F sc__law_any (fun ws Q h0 => by (obtain ⟨ob, ws0, rfl, h1⟩ := sO.inv h0; obtain ⟨k, ws1, rfl, h2⟩ := sI.inv h1; obtain ⟨rfl, h⟩ := sEnd.inv h2); rfl) (fun cdv A outer s H E hr => ⟨_, (scN (set3 2 sc__law_any.nd (add3 (clC C__law_take hr (ro3 0 (rd3 int3 rn3))) (mulI3 int3 (int3c  (by rfl) T.b_int (gt3 (v3 1) int3)))))
      (scN (if3 (eq3T hr.units (v3 2) int3)
      (s13 (ret3 (clC C__law_saying hr (ro3 0 (rd3 (add3 int3 (clC C__law_take hr (ro3 0 (rd3 int3 rn3)))) (rd3 (add3 int3 (clC C__law_take hr (ro3 0 (rd3 int3 rn3)))) (rd3 (add3 int3 (clC C__law_take hr (ro3 0 (rd3 int3 rn3)))) (rd3 (pow3 int3 int3) rn3))))))))
      sn3)
      (scN (if3 (eq3T hr.units (v3 2) int3)
      (s13 (ret3 (clC C__law_saying hr (ro3 0 (rd3 (sub3 int3 (clC C__law_take hr (ro3 0 (rd3 int3 rn3)))) (rd3 (sub3 int3 (clC C__law_take hr (ro3 0 (rd3 int3 rn3)))) (rd3 (add3 int3 (clC C__law_take hr (ro3 0 (rd3 int3 rn3)))) (rd3 int3 rn3))))))))
      sn3)
      (scN (set3 3 sc__law_any.nd (add3 int3 (clC C__law_take hr (ro3 0 (rd3 (ixK (lst3 (ac3 int3 (ac3 int3 an3))) (int3c  (by rfl) T.b_int (gt3 (v3 1) int3))) rn3)))))
      (s13 (ret3 (clC C__law_saying hr (ro3 0 (rd3 (add3 int3 (clC C__law_take hr (ro3 0 (rd3 int3 rn3)))) (rd3 (add3 int3 (clC C__law_take hr (ro3 0 (rd3 int3 rn3)))) (rd3 (v3 3) (rd3 (ixK (lst3 (ac3 int3 (ac3 int3 (ac3 int3 an3)))) (clC C__law_take hr (ro3 0 (rd3 int3 rn3)))) rn3)))))))))))), ?_⟩)
  intro ws Q h0
  obtain ⟨ob, ws0, rfl, h1⟩ := sO.inv h0
  obtain ⟨k, ws1, rfl, h2⟩ := sI.inv h1
  obtain ⟨rfl, h⟩ := sEnd.inv h2
  obtain ⟨c, pre, q⟩ := h
  clear h0 h1 h2
  obtain ⟨hP, hc, hk0, hk⟩ := pre
  have h106 : CPw 10 6 := cpw 4 (by decide) (by decide) (by decide)
  walk_at "m3 wpb"
  rintro t o1 ⟨ht, hP1⟩
  have hsay : ∀ (a b : Int) (rs : List (List (List (Option Nat)))) (o : Ob) (c' : Nat), (⟨a, b, rs⟩ : Say).Wf → (1 ≤ a ∧ a ≤ 9) → (1 ≤ b ∧ b ≤ 9) → (1 ≤ rs.length ∧ rs.length ≤ 100) → IsPot c' o → c' ≤ c + 30000000 → Q (R3.d (Say.d ⟨a, b, rs⟩)) [o] := fun a b rs o c' h1 h2 h3 h4 h5 h6 => q _ o ⟨⟨h1, h2.1, h2.2, h3.1, h3.2, h4.1, h4.2⟩, h5.mono h6⟩
  clear q
  walk_at "m3 wpb"
  · rintro t2 o2 ⟨ht2, hP2⟩
    walk_at "m3 wpb"
    rintro t3 o3 ⟨ht3, hP3⟩
    walk_at "m3 wpb"
    rintro t4 o4 ⟨ht4, hP4⟩
    walk_at "m3 wpb"
    rintro rs o5 ⟨hrl, hwf, hP5⟩
    walk_at "m3 wpb"
    exact hsay _ _ rs o5 _ hwf (by omega) (by omega) (by omega) hP5 (by omega)
  · rintro t2 o2 ⟨ht2, hP2⟩
    walk_at "m3 wpb"
    rintro t3 o3 ⟨ht3, hP3⟩
    walk_at "m3 wpb"
    rintro t4 o4 ⟨ht4, hP4⟩
    walk_at "m3 wpb"
    rintro rs o5 ⟨hrl, hwf, hP5⟩
    walk_at "m3 wpb"
    exact hsay _ _ rs o5 _ hwf (by omega) (by omega) (by omega) hP5 (by omega)
  · obtain ⟨m, hm, hm1, hm6⟩ : ∃ m : Int, atI [(PyData.int 6 : D), .int 4] (if decide (5 < k) = true then 1 else 0) = some (.int m) ∧ 1 ≤ m ∧ m ≤ 6 := by
      cases decide (5 < k)
      · exact ⟨6, rfl, by decide, by decide⟩
      · exact ⟨4, rfl, by decide, by decide⟩
    walk_at "m3 wpb"
    (conv => whnf)
    refine atK_of (hm) ?_
    walk_at "m3 wpb"
    rintro t2 o2 ⟨ht2, hP2⟩
    walk_at "m3 wpb"
    rintro t3 o3 ⟨ht3, hP3⟩
    walk_at "m3 wpb"
    rintro t4 o4 ⟨ht4, hP4⟩
    walk_at "m3 wpb"
    rintro t5 o5 ⟨ht5, hP5⟩
    obtain ⟨rate, hr, hr1, hr2⟩ : ∃ rate : Int, atI [(PyData.int 3 : D), .int 9, .int 40] (t5 : Int) = some (.int rate) ∧ 0 < rate ∧ rate < 2 ^ 29 := by
      rcases (show t5 = 0 ∨ t5 = 1 ∨ t5 = 2 by omega) with rfl | rfl | rfl
      · exact ⟨3, rfl, by decide, by decide⟩
      · exact ⟨9, rfl, by decide, by decide⟩
      · exact ⟨40, rfl, by decide, by decide⟩
    walk_at "m3 wpb"
    (conv => whnf)
    refine atK_of (hr) ?_
    walk_at "m3 wpb"
    rintro rs o6 ⟨hrl, hwf, hP6⟩
    walk_at "m3 wpb"
    exact hsay _ _ rs o6 _ hwf (by omega) (by omega) (by omega) hP6 (by omega)
theorem ok__law_asked {f : Addr} {fd : FuncData} (F : Fun K "_law_asked" "_law_asked" s__law_asked f fd) (T : Txt mg) (TX : TxE K mg cc) (TC : TxC K mg cc) (CX_late : CalX P w K mg base 16 "late" ["saying"] (X_late75 cc)) (CX_rooms_late : CalX P w K mg base 16 "rooms_late" ["saying"] (X_rlate75 cc)) (C_late : CalC P w K mg base 16 "late" ["saying"] (X_late75 cc).quiet) (C_rooms_late : CalC P w K mg base 16 "rooms_late" ["saying"] (X_rlate75 cc).quiet) (C__law_word : CalE P w K mg base 1 "_law_word" ["caught"] (wordW [(cc "NoSaying", .str "saying"), (cc "TooWide", .str "wide")])) : FnOk P w K mg base CX0 17 f fd ["door", "saying"] (liftF K S_lasked75.p) := by
  refine fnN F sc__law_asked (fun ws Q h0 => by (obtain ⟨door, ws0, rfl, h1⟩ := sI.inv h0; obtain ⟨x, ws1, rfl, h2⟩ := sD.inv h1; obtain ⟨rfl, h⟩ := sEnd.inv h2); rfl) (fun cdv A outer s H E hr => ⟨_, (scN (set3 2 sc__law_asked.nd non3)
      (scN (set3 3 sc__law_asked.nd str3)
      (scN (tryA3 4 sc__law_asked.nd (pb1 (pbsIf (fun pn xe => (eq3T hr.units (v3 0) int3)) (pb1 (pbsSet 2 sc__law_asked.nd (pxC (n := 1) CX_late hr fun pn xe => (rd3 (v3 1) rn3)))) (pb1 (pbsSet 2 sc__law_asked.nd (pxC (n := 1) CX_rooms_late hr fun pn xe => (rd3 (v3 1) rn3)))))) (fun a oe cls d pn hz hf => (s13 (set3 3 sc__law_asked.nd (clE C__law_word hr hz hf (re3 4 rn3))))) TC.g)
      (s13 (ret3 (tup3 (ac3 (v3 3) (ac3 (v3 2) an3)))))))), ?_⟩)
  intro ws Q h0
  obtain ⟨door, ws0, rfl, h1⟩ := sI.inv h0
  obtain ⟨x, ws1, rfl, h2⟩ := sD.inv h1
  obtain ⟨rfl, h⟩ := sEnd.inv h2
  obtain ⟨pre, q⟩ := h
  clear h0 h1 h2
  have hd : door = 0 ∨ door = 1 := by omega
  clear pre
  cases hx : sayB x
  · rcases hd with rfl | rfl
    all_goals
      have q := q _ (.inl ⟨hx, rfl⟩)
      walk_at "m3 wpb"
      refine ⟨⟨rfl, TC.x_NoSaying⟩, fun a_ => ?_⟩
      (conv => whnf)
      refine ⟨_, rfl, rfl, ?_⟩
      (conv => whnf)
      refine ⟨rfl, _, List.mem_cons_self, ?_⟩
      (conv => whnf)
      exact ⟨Nat.le_of_ble_eq_true rfl, q⟩
  · obtain ⟨S, hS, rfl⟩ := say_of hx
    rcases hd with rfl | rfl
    · walk_at "m3 wpb"
      refine ⟨fun n hn => ?_, fun hw => ?_⟩
      · have q := q _ (.inr ⟨S, rfl, hS, .inl ⟨n, hn, rfl⟩⟩)
        walk_at "m3 wpb"
        exact q
      · have q := q _ (.inr ⟨S, rfl, hS, .inr ⟨hw, rfl⟩⟩)
        clear hw
        refine ⟨⟨rfl, TC.x_TooWide⟩, fun a_ => ?_⟩
        (conv => whnf)
        refine ⟨_, rfl, rfl, ?_⟩
        (conv => whnf)
        refine ⟨rfl, _, List.mem_cons_of_mem _ List.mem_cons_self, ?_⟩
        (conv => whnf)
        exact ⟨Nat.le_of_ble_eq_true rfl, q⟩
    · walk_at "m3 wpb"
      refine ⟨fun n hn => ?_, fun hw => ?_⟩
      · have q := q _ (.inr ⟨S, rfl, hS, .inl ⟨n, hn, rfl⟩⟩)
        walk_at "m3 wpb"
        exact q
      · have q := q _ (.inr ⟨S, rfl, hS, .inr ⟨hw, rfl⟩⟩)
        clear hw
        refine ⟨⟨rfl, TC.x_TooWide⟩, fun a_ => ?_⟩
        (conv => whnf)
        refine ⟨_, rfl, rfl, ?_⟩
        (conv => whnf)
        refine ⟨rfl, _, List.mem_cons_of_mem _ List.mem_cons_self, ?_⟩
        (conv => whnf)
        exact ⟨Nat.le_of_ble_eq_true rfl, q⟩
theorem ok__law_right {f : Addr} {fd : FuncData} (F : Fun K "_law_right" "_law_right" s__law_right f fd) (T : Txt mg) (C__law_is_saying : CalC P w K mg base 2 "_law_is_saying" ["thing"] S_lissay) (C__law_lag : CalC P w K mg base 1 "_law_lag" ["saying"] S_llag75) (C__law_same : CalC P w K mg base 6 "_law_same" ["found", "due"] (S_same2 5)) (C__law_asked : CalC P w K mg base 17 "_law_asked" ["door", "saying"] S_lasked75) : FnG P w K mg base CX0 18 f fd ["saying"] (liftF K S_lright75.p) := by
  refine fnG F sc__law_right (fun ws Q h0 => by (obtain ⟨x, ws0, rfl, h1⟩ := sD.inv h0; obtain ⟨rfl, h⟩ := sEnd.inv h1); rfl) (fun cdv A outer s H E hgd_ hr => ⟨_, (scN (set3 1 sc__law_right.nd non3)
      (scN (set3 2 sc__law_right.nd str3)
      (scN (if3 (pt3_val (clC C__law_is_saying hr (rd3 (v3 0) rn3)))
      (scN (set3 1 sc__law_right.nd (clC C__law_lag hr (rd3 (v3 0) rn3)))
      (s13 (set3 2 sc__law_right.nd (ixK (lst3 (ac3 str3 (ac3 str3 an3))) (int3c  (by rfl) T.b_int (isN3 (v3 1)))))))
      sn3)
      (scN (set3 3 sc__law_right.nd (reprR4 hgd_ hr (by rfl) T.b_repr (v3 0)))
      (scN (forN [4, 5] (ws0 := [4]) PassesOwn.never rfl (range3 (by rfl) T.b_range int3) (gn3 4 sc__law_right.nd)
      (scN (set3 5 sc__law_right.nd (ifx3 (isN3T (v3 1)) non3 (ixK (v3 1) (sub3 int3 (v3 4)))))
      (s13 (if3 (not3 (pt3_val (clC C__law_same hr (rd3 (clC C__law_asked hr (rd3 (v3 4) (rd3 (v3 0) rn3))) (rd3 (tup3 (ac3 (v3 2) (ac3 (v3 5) an3))) rn3)))))
      (s13 (ret3 bl3))
      sn3))))
      (s13 (ret3 (eq3 hr.units (reprR4 hgd_ hr (by rfl) T.b_repr (v3 0)) (v3 3))))))))), ?_⟩)
  intro ws Q h0
  obtain ⟨x, ws0, rfl, h1⟩ := sD.inv h0
  obtain ⟨rfl, h⟩ := sEnd.inv h1
  obtain ⟨pre, q⟩ := h
  clear h0 h1
  have hk2 : ∃ B, Okd B x ∧ B ≤ 10 ^ 60 ∧ x.depth ≤ 60 ∧ wgD x ≤ 500000 := ⟨_, pre.1, Nat.pow_le_pow_right (by decide) (by decide), by have := pre.2.1; omega, by have := pre.2.2; omega⟩
  clear pre
  cases hx : sayB x
  · walk_at "m3 wpb"
    (conv => whnf)
    refine ⟨⟨hk2⟩, ?_⟩
    walk_at "m3 wpb"
    refine ⟨⟨fun _ vs => ∃ (c4 c5 : Option M3.W), vs = [c4, c5], ⟨_, _, rfl⟩, ?_, ?_⟩⟩
    · rintro k y vs hy ⟨c4, c5, rfl⟩
      obtain ⟨rfl, hk⟩ := rng_at hy
      clear hy
      have hk2' : k < 2 := hk
      rw [Int.zero_add]
      have hd : 0 ≤ (k : Int) ∧ (k : Int) ≤ 1 := by omega
      walk_at "m3 wpb"
      rintro z hz
      rw [asked_none hz hx]
      walk_at "m3 wpb"
      (conv => whnf)
      refine ⟨⟨rfl, nest2_word trivial⟩, ?_⟩
      walk_at "m3 wpb"
      exact ⟨⟨_, _, rfl⟩⟩
    · rintro vs ⟨c4, c5, rfl⟩
      walk_at "m3 wpb"
      (conv => whnf)
      refine ⟨⟨hk2⟩, ?_⟩
      (conv => whnf)
      exact qb q (by simp)
  · obtain ⟨S, hS, rfl⟩ := say_of hx
    walk_at "m3 wpb"
    rintro due hdue
    rcases hdue with ⟨n, hn, rfl⟩ | ⟨hw, rfl⟩
    · have n1 := lt_nest hS hn
      have n2 := prs_nest hS hn
      walk_at "m3 wpb"
      (conv => whnf)
      refine ⟨⟨hk2⟩, ?_⟩
      walk_at "m3 wpb"
      refine ⟨⟨fun _ vs => ∃ (c4 c5 : Option M3.W), vs = [c4, c5], ⟨_, _, rfl⟩, ?_, ?_⟩⟩
      · rintro k y vs hy ⟨c4, c5, rfl⟩
        obtain ⟨rfl, hk⟩ := rng_at hy
        clear hy
        have hk2' : k < 2 := hk
        rw [Int.zero_add]
        have hd : 0 ≤ (k : Int) ∧ (k : Int) ≤ 1 := by omega
        rcases (show k = 0 ∨ k = 1 by omega) with rfl | rfl
        · walk_at "m3 wpb"
          rintro z hz
          have e0 : z = .tuple [.str "", (ltS S n).d] := asked_done hz hS hn
          rw [e0]
          walk_at "m3 wpb"
          (conv => whnf)
          refine ⟨⟨rfl, nest2_word n1⟩, ?_⟩
          walk_at "m3 wpb"
          exact ⟨⟨_, _, rfl⟩⟩
        · walk_at "m3 wpb"
          rintro z hz
          have e0 : z = .tuple [.str "", prsD S n] := asked_done hz hS hn
          rw [e0]
          walk_at "m3 wpb"
          (conv => whnf)
          refine ⟨⟨rfl, nest2_word n2⟩, ?_⟩
          walk_at "m3 wpb"
          exact ⟨⟨_, _, rfl⟩⟩
      · rintro vs ⟨c4, c5, rfl⟩
        walk_at "m3 wpb"
        (conv => whnf)
        refine ⟨⟨hk2⟩, ?_⟩
        (conv => whnf)
        exact qb q (by simp)
    · walk_at "m3 wpb"
      (conv => whnf)
      refine ⟨⟨hk2⟩, ?_⟩
      walk_at "m3 wpb"
      refine ⟨⟨fun _ vs => ∃ (c4 c5 : Option M3.W), vs = [c4, c5], ⟨_, _, rfl⟩, ?_, ?_⟩⟩
      · rintro k y vs hy ⟨c4, c5, rfl⟩
        obtain ⟨rfl, hk⟩ := rng_at hy
        clear hy
        have hk2' : k < 2 := hk
        rw [Int.zero_add]
        have hd : 0 ≤ (k : Int) ∧ (k : Int) ≤ 1 := by omega
        walk_at "m3 wpb"
        rintro z hz
        rw [asked_wide hz hS hw]
        walk_at "m3 wpb"
        (conv => whnf)
        refine ⟨⟨rfl, nest2_word trivial⟩, ?_⟩
        walk_at "m3 wpb"
        exact ⟨⟨_, _, rfl⟩⟩
      · rintro vs ⟨c4, c5, rfl⟩
        walk_at "m3 wpb"
        (conv => whnf)
        refine ⟨⟨hk2⟩, ?_⟩
        (conv => whnf)
        exact qb q (by simp)
theorem ok_law {f : Addr} {fd : FuncData} (F : Fun K "law" "law" s_law f fd) (T : Txt mg) (C__law_pot : CalC P w K mg base 1 "_law_pot" ["script", "k"] S_pot) (C__law_any : CalC P w K mg base 4 "_law_any" ["pot", "k"] S_lany75) (C__law_other : CalC P w K mg base 8 "_law_other" ["pot", "thing", "odds"] (S_lother 6)) (C__law_right : CalG P w K mg base 18 "_law_right" ["saying"] S_lright75) (C__law_take : CalC P w K mg base 1 "_law_take" ["pot", "many"] S_take) : FnG P w K mg base CX0 19 f fd ["script"] (liftF K S_lawC.p) := by
  refine fnG F sc_law (fun ws Q h => by obtain ⟨_, _, rfl, _⟩ := h; rfl) (fun cdv A outer s H E hgd_ hr => ⟨_, (scN (set3 1 sc_law.nd (lst3 (ac3 non3 (ac3 bl3 (ac3 bl3 (ac3 (neg3 int3) (ac3 int3 (ac3 int3 (ac3 int3 (ac3 int3 (ac3 (pow3 int3 int3) (ac3 str3 (ac3 str3 (ac3 (tup3 an3) (ac3 (tup3 (ac3 int3 an3)) (ac3 (lst3 an3) (ac3 (lst3 (ac3 int3 (ac3 int3 an3))) (ac3 dict03 an3))))))))))))))))))
      (scN (forN [2, 3, 4, 5, 6] (ws0 := [2]) PassesOwn.never rfl (range3 (by rfl) T.b_range (max3 rfl (by rfl) T.b_max int3 (min3 rfl (by rfl) T.b_min int3 (lenO3 0 (by rfl) T.b_len)))) (gn3 2 sc_law.nd)
      (scN (setO3 3 sc_law.nd (clOC C__law_pot hr (rr3 0 (rd3 (v3 2) rn3))))
      (scN (set3 4 sc_law.nd (clC C__law_any hr (ro3 3 (rd3 (v3 2) rn3))))
      (scN (set3 5 sc_law.nd (clC C__law_other hr (ro3 3 (rd3 (v3 4) (rd3 (v3 1) rn3)))))
      (s13 (forN [6] (ws0 := [6]) PassesOwn.never rfl (seq3 (tup3 (ac3 (v3 4) (ac3 (v3 5) (ac3 (clC C__law_other hr (ro3 3 (rd3 (v3 5) (rd3 (v3 1) rn3)))) (ac3 (ixK (v3 1) (clC C__law_take hr (ro3 3 (rd3 int3 rn3)))) an3)))))) (gn3 6 sc_law.nd)
      (s13 (if3 (not3 (pt3_val (clG C__law_right (fun ws Q h0 => by (obtain ⟨x, ws0, rfl, h1⟩ := sD.inv h0; obtain ⟨rfl, h⟩ := sEnd.inv h1); rfl) hgd_ hr (rd3 (v3 6) rn3))))
      (s13 (ret3 bl3))
      sn3))))))))
      (scN (forN [7] (ws0 := [7]) PassesOwn.never rfl (seq3 (tup3 (ac3 int3 (ac3 int3 an3)))) (gn3 7 sc_law.nd)
      (s13 (if3 (not3 (pt3_val (clG C__law_right (fun ws Q h0 => by (obtain ⟨x, ws0, rfl, h1⟩ := sD.inv h0; obtain ⟨rfl, h⟩ := sEnd.inv h1); rfl) hgd_ hr (rd3 (tup3 (ac3 int3 (ac3 int3 (ac3 (tuple3  (by rfl) T.b_tuple (PE3.lcP (lcP (own := [("room", 8)]) rfl sc_law.nd (range3 (by rfl) T.b_range (v3 7)) (blkOk_by (by kernel_rfl)) (fun _ _ _ _ _ => (gn3 8 sc_law.nd)) (fun _ _ _ _ _ => (tup3 (ac3 (tup3 (ac3 (mod3 (add3 (v3 8) int3) (v3 7)) an3)) an3))) s))) an3)))) rn3))))
      (s13 (ret3 bl3))
      sn3)))
      (s13 (ret3 (eq3 hr.units (PE3.lcF (lcF (own := [("odd", 9)]) rfl sc_law.nd (seq3 (v3 1)) (blkOk_by (by kernel_rfl)) (fun _ _ _ _ _ => (gn3 9 sc_law.nd)) (fun _ _ _ _ _ => (test3 (not3 (pt3_val (clG C__law_right (fun ws Q h0 => by (obtain ⟨x, ws0, rfl, h1⟩ := sD.inv h0; obtain ⟨rfl, h⟩ := sEnd.inv h1); rfl) hgd_ hr (rd3 (v3 9) rn3)))))) (fun _ _ _ _ _ => (v3 9)) s)) (lst3 an3))))))), ?_⟩)
  rintro _ Q ⟨ns, pre, rfl, q⟩
  have h39 : CPw 10 39 := cpw 4 (by decide) (by decide) (by decide)
  walk_at "m3 wpb"
  obtain ⟨os, hos⟩ : ∃ os : List D, os = [.none, .bool true, .bool false, .int (-1), .int 0, .int 1, .int 9, .int 10, (fun (i j : Int) => PyData.int (i ^ j.toNat)) 10 39, .str "", .str "0", .tuple [], .tuple [.int 0], .list [], .list [.int 0, .int 0], .dict []] := ⟨_, rfl⟩
  rw [← hos]
  have hol : os.length = 16 := by rw [hos]; rfl
  have hod : Odds (10 ^ 40) os := by
    rw [hos]
    exact odds_of (by decide +kernel)
  clear hos
  have hsd : ∀ x ∈ os, SzD 40 (10 ^ 45) 400000 x := fun x hx => (hod.2 x hx).mono (by omega) (by decide) (by omega)
  refine ⟨⟨(fun _ vs => ∃ x1 x2 x3 x4 x5, vs = [x1, x2, x3, x4, x5]), ⟨_, _, _, _, _, rfl⟩, ?_, ?_⟩⟩
  · rintro k x vs hx ⟨x1, x2, x3, x4, x5, rfl⟩
    obtain ⟨rfl, hk⟩ := rng_at hx
    clear hx
    have hk2 : k < 64 := by omega
    have hk3 : 0 ≤ 0 + (k : Int) ∧ 0 + (k : Int) ≤ 1000 := by omega
    walk_at "m3 wpb"
    rintro ob hP
    walk_at "m3 wpb"
    rintro S o1 ⟨hS, hP1⟩
    have zS := say_sz (B := 10 ^ 40) (by decide) hS
    walk_at "m3 wpb"
    (conv => whnf)
    refine ⟨_, _, _, _, _, rfl, ⟨hP1, zS, by omega, by omega, hod, by omega, by omega⟩, ?_⟩
    rintro once o2 ⟨z1, hP2⟩
    have hod2 : Odds (10 ^ 40 + 2) os := ⟨hod.1, fun o ho => (hod.2 o ho).mono (by omega) (by omega) (by omega)⟩
    walk_at "m3 wpb"
    (conv => whnf)
    refine ⟨_, _, _, _, _, rfl, ⟨hP2, z1, by omega, by omega, hod2, by omega, by omega⟩, ?_⟩
    rintro twice o3 ⟨z2, hP3⟩
    walk_at "m3 wpb"
    rintro t1 o4 ⟨ht1, hP4⟩
    obtain ⟨odd, h1a, h1b⟩ := at_lt (xs := os) (Int.natCast_nonneg t1) (by rw [hol]; exact ht1)
    have z3 := hsd odd (List.mem_of_getElem? h1b)
    (conv => whnf)
    refine atK_of (h1a) ?_
    walk_at "m3 wpb"
    have all4 : ∀ z ∈ [S.d, once, twice, odd], SzD 40 (10 ^ 45) 400000 z :=
      List.forall_mem_cons.mpr ⟨zS.mono (by omega) (by decide) (by omega), List.forall_mem_cons.mpr ⟨z1.mono (by omega) (by decide) (by omega), List.forall_mem_cons.mpr ⟨z2.mono (by omega) (by decide) (by omega), List.forall_mem_cons.mpr ⟨z3, fun _ h => nomatch h⟩⟩⟩⟩
    clear zS z1 z2 z3 hod hod2 hsd h1a h1b
    walk_at "m3 wpb"
    (conv => whnf)
    refine ⟨⟨(fun _ vs => ∃ x1, vs = [x1]), ⟨_, rfl⟩, ?_, ?_⟩⟩
    · rintro i z vs hz ⟨x1, rfl⟩
      have zz := all4 z (List.mem_of_getElem? hz)
      clear all4 hz
      walk_at "m3 wpb"
      exact ⟨⟨_, rfl⟩⟩
    · rintro vs ⟨x1, rfl⟩
      walk_at "m3 wpb"
      exact ⟨⟨_, _, _, _, _, rfl⟩⟩
  · rintro vs ⟨x1, x2, x3, x4, x5, rfl⟩
    have hls : os.length ≤ sizeLine := by rw [hol, sizeLine24]; decide
    clear hod
    walk_at "m3 wpb"
    (conv => whnf)
    refine ⟨⟨(fun _ vs => ∃ x1, vs = [x1]), ⟨_, rfl⟩, ?_, ?_⟩⟩
    · rintro i z vs hz ⟨x1, rfl⟩
      have hm : z = .int 99 ∨ z = .int 100 := by
        have := List.mem_of_getElem? hz
        simpa using this
      clear hz
      obtain ⟨m, rfl, hm1, hm2⟩ : ∃ m : Nat, z = .int (m : Int) ∧ 0 < m ∧ m ≤ 100 := by
        rcases hm with rfl | rfl
        · exact ⟨99, rfl, by decide, by decide⟩
        · exact ⟨100, rfl, by decide, by decide⟩
      clear hm
      walk_at "m3 wpb"
      refine ⟨⟨(List.range m).map fun r => roomD [[some ((r + 1) % m)]], by rw [rng_len]; simp, fun j x hj => ?_, ?_⟩⟩
      · obtain ⟨rfl, hj2⟩ := rng_at hj
        rw [Int.toNat_natCast] at hj2
        clear hj
        rw [Int.zero_add]
        have em : ((j : Int) + 1) % (m : Int) = (((j + 1) % m : Nat) : Int) := by rw [Int.natCast_emod]; rfl
        have hm0 : (0 : Int) < (m : Int) := by omega
        walk_at "m3 wpb"
        show _ = some (PyData.tuple [.tuple [.int (((j : Int) + 1) % (m : Int))]])
        rw [em, List.getElem?_map, List.getElem?_range hj2]; rfl
      have hSr : (⟨1, 1, (List.range m).map fun r => [[some ((r + 1) % m)]]⟩ : Say).Ok := ⟨fun room h => by
        obtain ⟨r, hr, rfl⟩ := List.mem_map.mp h
        refine ⟨rfl, fun row h => ?_⟩
        rw [List.mem_singleton.mp h]
        refine ⟨rfl, fun n h => ?_⟩
        rw [List.mem_singleton, Option.some.injEq] at h
        subst h
        show (r + 1) % m < ((List.range m).map _).length
        rw [List.length_map, List.length_range]
        exact Nat.mod_lt _ hm1, by show (1 : Int) ≤ 1; decide, by show (1 : Int) ≤ 9; decide, by show (1 : Int) ≤ 1; decide, by show (1 : Int) ≤ 9; decide, by show 1 ≤ ((List.range m).map _).length; rw [List.length_map, List.length_range]; omega, by show ((List.range m).map _).length ≤ 100; rw [List.length_map, List.length_range]; omega⟩
      have zr := (say_sz (B := 10 ^ 45) (by decide) hSr).mono (show 4 ≤ 40 by omega) (Nat.le_refl _) (show 30000 ≤ 400000 by omega)
      have er : Say.d ⟨1, 1, (List.range m).map fun r => [[some ((r + 1) % m)]]⟩ = .tuple [.int 1, .int 1, .tuple ((List.range m).map fun r => roomD [[some ((r + 1) % m)]])] := by
        unfold Say.d; rw [List.map_map]; rfl
      rw [er] at zr
      have hlr : ((List.range m).map fun r => roomD [[some ((r + 1) % m)]]).length ≤ 100 := by rw [List.length_map, List.length_range]; exact hm2
      clear er hSr
      generalize ((List.range m).map fun r => roomD [[some ((r + 1) % m)]]) = rg at *
      walk_at "m3 wpb"
      exact ⟨⟨_, rfl⟩⟩
    · rintro vs ⟨x1, rfl⟩
      walk_at "m3 wpb"
      refine ⟨⟨os.map fun _ => none, by simp, fun i x hx => ?_, ?_⟩⟩
      · have hsx := hsd x (List.mem_of_getElem? hx)
        clear hsd
        walk_at "m3 wpb"
        rw [List.getElem?_map, hx]; rfl
      · have e : List.filterMap id (os.map fun _ => (none : Option D)) = [] := by simp
        rw [e]
        walk_at "m3 wpb"
        exact q
end
theorem all_mk {l : PySem.W.OpenLaw} {w : World} {K : PySem.W.Frag} {h : Heap} {mg : Str → Option Value} {fa : Addr} (X : K.In h) (G : h.Ns mainGlobals mg) (hfa : mg "law" = some (.ref fa))
    {f0 : Addr} {od0 an0 : Option Addr} {sl0 : Array (Option Value)} {oc0 dc0 pm0 cd0 ct0 : Value} {kV0 : Value}
    {f1 : Addr} {od1 an1 : Option Addr} {sl1 : Array (Option Value)} {oc1 dc1 pm1 cd1 ct1 : Value} {kV1 : Value}
    {f2 : Addr} {od2 an2 : Option Addr} {sl2 : Array (Option Value)} {oc2 dc2 pm2 cd2 ct2 : Value} {kV2 : Value}
    {f3 : Addr} {od3 an3 : Option Addr} {sl3 : Array (Option Value)} {oc3 dc3 pm3 cd3 ct3 : Value} {kV3 : Value}
    {f4 : Addr} {od4 an4 : Option Addr} {sl4 : Array (Option Value)} {oc4 dc4 pm4 cd4 ct4 : Value} {kV4 : Value}
    {f5 : Addr} {od5 an5 : Option Addr} {sl5 : Array (Option Value)} {oc5 dc5 pm5 cd5 ct5 : Value} {kV5 : Value}
    {f6 : Addr} {od6 an6 : Option Addr} {sl6 : Array (Option Value)} {oc6 dc6 pm6 cd6 ct6 : Value} {kV6 : Value}
    {f7 : Addr} {od7 an7 : Option Addr} {sl7 : Array (Option Value)} {oc7 dc7 pm7 cd7 ct7 : Value} {kV7 : Value}
    {f8 : Addr} {od8 an8 : Option Addr} {sl8 : Array (Option Value)} {oc8 dc8 pm8 cd8 ct8 : Value} {kV8 : Value}
    {f9 : Addr} {od9 an9 : Option Addr} {sl9 : Array (Option Value)} {oc9 dc9 pm9 cd9 ct9 : Value} {kV9 : Value}
    {f10 : Addr} {od10 an10 : Option Addr} {sl10 : Array (Option Value)} {oc10 dc10 pm10 cd10 ct10 : Value} {kV10 : Value}
    {f11 : Addr} {od11 an11 : Option Addr} {sl11 : Array (Option Value)} {oc11 dc11 pm11 cd11 ct11 : Value} {kV11 : Value}
    {f12 : Addr} {od12 an12 : Option Addr} {sl12 : Array (Option Value)} {oc12 dc12 pm12 cd12 ct12 : Value} {kV12 : Value}
    {f13 : Addr} {od13 an13 : Option Addr} {sl13 : Array (Option Value)} {oc13 dc13 pm13 cd13 ct13 : Value} {kV13 : Value}
    {f14 : Addr} {od14 an14 : Option Addr} {sl14 : Array (Option Value)} {oc14 dc14 pm14 cd14 ct14 : Value} {kV14 : Value}
    {f15 : Addr} {od15 an15 : Option Addr} {sl15 : Array (Option Value)} {oc15 dc15 pm15 cd15 ct15 : Value} {kV15 : Value}
    {f16 : Addr} {od16 an16 : Option Addr} {sl16 : Array (Option Value)} {oc16 dc16 pm16 cd16 ct16 : Value} {kV16 : Value}
    {f17 : Addr} {od17 an17 : Option Addr} {sl17 : Array (Option Value)} {oc17 dc17 pm17 cd17 ct17 : Value} {kV17 : Value}
    {f18 : Addr} {od18 an18 : Option Addr} {sl18 : Array (Option Value)} {oc18 dc18 pm18 cd18 ct18 : Value} {kV18 : Value}
    {f19 : Addr} {od19 an19 : Option Addr} {sl19 : Array (Option Value)} {oc19 dc19 pm19 cd19 ct19 : Value} {kV19 : Value}
    {f20 : Addr} {od20 an20 : Option Addr} {sl20 : Array (Option Value)} {oc20 dc20 pm20 ct20 : Value} {kV20 : Value} {e20 : Addr}
    {q20 : Addr}
    {f21 : Addr} {od21 an21 : Option Addr} {sl21 : Array (Option Value)} {oc21 dc21 pm21 cd21 ct21 : Value} {kV21 : Value}
    {f22 : Addr} {od22 an22 : Option Addr} {sl22 : Array (Option Value)} {oc22 dc22 pm22 cd22 ct22 : Value} {kV22 : Value}
    {f23 : Addr} {od23 an23 : Option Addr} {sl23 : Array (Option Value)} {oc23 dc23 pm23 cd23 ct23 : Value} {kV23 : Value}
    {f24 : Addr} {od24 an24 : Option Addr} {sl24 : Array (Option Value)} {oc24 dc24 pm24 cd24 ct24 : Value} {kV24 : Value}
    {f25 : Addr} {od25 an25 : Option Addr} {sl25 : Array (Option Value)} {oc25 dc25 pm25 cd25 ct25 : Value} {kV25 : Value}
    {f26 : Addr} {od26 an26 : Option Addr} {sl26 : Array (Option Value)} {oc26 dc26 pm26 cd26 ct26 : Value} {kV26 : Value}
    {t_MOST : Tok}
    {t_WIDE : Tok}
    {A_NoSaying : Addr}
    {A_TooWide : Addr}
    {A_NoCount : Addr}
    {A_NoKeep : Addr}
    {A_NoNumber : Addr}
    {A_NoPrices : Addr}
    {A_NoRoom : Addr}
    {A_NoStep : Addr}
    {A_NoClasses : Addr}
    {A_NoWatcher : Addr}
    {A_Unlike : Addr}
    {A_WardError : Addr}
    (a0 : PySem.W.nsIn K mainGlobals "_law_pot" = some (some (.ref f0))) (l0 : K.lookup f0 = some ⟨oc0, od0, .func (PySem.W.fnOf "_law_pot" "_law_pot" (defArgs s__law_pot) (defBody s__law_pot) (defScope s__law_pot) .none kV0 dc0 pm0 an0 cd0 ct0), sl0⟩) (c0 : PySem.W.codeIn K cd0 "_law_pot" = true) (k0 : PySem.W.keepIn K (.ref f0) = true)
    (a1 : PySem.W.nsIn K mainGlobals "_law_take" = some (some (.ref f1))) (l1 : K.lookup f1 = some ⟨oc1, od1, .func (PySem.W.fnOf "_law_take" "_law_take" (defArgs s__law_take) (defBody s__law_take) (defScope s__law_take) .none kV1 dc1 pm1 an1 cd1 ct1), sl1⟩) (c1 : PySem.W.codeIn K cd1 "_law_take" = true) (k1 : PySem.W.keepIn K (.ref f1) = true)
    (a2 : PySem.W.nsIn K mainGlobals "_law_room" = some (some (.ref f2))) (l2 : K.lookup f2 = some ⟨oc2, od2, .func (PySem.W.fnOf "_law_room" "_law_room" (defArgs s__law_room) (defBody s__law_room) (defScope s__law_room) .none kV2 dc2 pm2 an2 cd2 ct2), sl2⟩) (c2 : PySem.W.codeIn K cd2 "_law_room" = true) (k2 : PySem.W.keepIn K (.ref f2) = true)
    (a3 : PySem.W.nsIn K mainGlobals "_law_saying" = some (some (.ref f3))) (l3 : K.lookup f3 = some ⟨oc3, od3, .func (PySem.W.fnOf "_law_saying" "_law_saying" (defArgs s__law_saying) (defBody s__law_saying) (defScope s__law_saying) .none kV3 dc3 pm3 an3 cd3 ct3), sl3⟩) (c3 : PySem.W.codeIn K cd3 "_law_saying" = true) (k3 : PySem.W.keepIn K (.ref f3) = true)
    (a4 : PySem.W.nsIn K mainGlobals "_law_any" = some (some (.ref f4))) (l4 : K.lookup f4 = some ⟨oc4, od4, .func (PySem.W.fnOf "_law_any" "_law_any" (defArgs s__law_any) (defBody s__law_any) (defScope s__law_any) .none kV4 dc4 pm4 an4 cd4 ct4), sl4⟩) (c4 : PySem.W.codeIn K cd4 "_law_any" = true) (k4 : PySem.W.keepIn K (.ref f4) = true)
    (a5 : PySem.W.nsIn K mainGlobals "_law_whole" = some (some (.ref f5))) (l5 : K.lookup f5 = some ⟨oc5, od5, .func (PySem.W.fnOf "_law_whole" "_law_whole" (defArgs s__law_whole) (defBody s__law_whole) (defScope s__law_whole) .none kV5 dc5 pm5 an5 cd5 ct5), sl5⟩) (c5 : PySem.W.codeIn K cd5 "_law_whole" = true) (k5 : PySem.W.keepIn K (.ref f5) = true)
    (a6 : PySem.W.nsIn K mainGlobals "_law_other" = some (some (.ref f6))) (l6 : K.lookup f6 = some ⟨oc6, od6, .func (PySem.W.fnOf "_law_other" "_law_other" (defArgs s__law_other) (defBody s__law_other) (defScope s__law_other) .none kV6 dc6 pm6 an6 cd6 ct6), sl6⟩) (c6 : PySem.W.codeIn K cd6 "_law_other" = true) (k6 : PySem.W.keepIn K (.ref f6) = true)
    (a7 : PySem.W.nsIn K mainGlobals "_law_is_saying" = some (some (.ref f7))) (l7 : K.lookup f7 = some ⟨oc7, od7, .func (PySem.W.fnOf "_law_is_saying" "_law_is_saying" (defArgs s__law_is_saying) (defBody s__law_is_saying) (defScope s__law_is_saying) .none kV7 dc7 pm7 an7 cd7 ct7), sl7⟩) (c7 : PySem.W.codeIn K cd7 "_law_is_saying" = true) (k7 : PySem.W.keepIn K (.ref f7) = true)
    (a8 : PySem.W.nsIn K mainGlobals "_law_lag" = some (some (.ref f8))) (l8 : K.lookup f8 = some ⟨oc8, od8, .func (PySem.W.fnOf "_law_lag" "_law_lag" (defArgs s__law_lag) (defBody s__law_lag) (defScope s__law_lag) .none kV8 dc8 pm8 an8 cd8 ct8), sl8⟩) (c8 : PySem.W.codeIn K cd8 "_law_lag" = true) (k8 : PySem.W.keepIn K (.ref f8) = true)
    (a9 : PySem.W.nsIn K mainGlobals "_law_same" = some (some (.ref f9))) (l9 : K.lookup f9 = some ⟨oc9, od9, .func (PySem.W.fnOf "_law_same" "_law_same" (defArgs s__law_same) (defBody s__law_same) (defScope s__law_same) .none kV9 dc9 pm9 an9 cd9 ct9), sl9⟩) (c9 : PySem.W.codeIn K cd9 "_law_same" = true) (k9 : PySem.W.keepIn K (.ref f9) = true)
    (a10 : PySem.W.nsIn K mainGlobals "is_row" = some (some (.ref f10))) (l10 : K.lookup f10 = some ⟨oc10, od10, .func (PySem.W.fnOf "is_row" "is_row" (defArgs s_is_row) (defBody s_is_row) (defScope s_is_row) .none kV10 dc10 pm10 an10 cd10 ct10), sl10⟩) (c10 : PySem.W.codeIn K cd10 "is_row" = true) (k10 : PySem.W.keepIn K (.ref f10) = true)
    (a11 : PySem.W.nsIn K mainGlobals "is_whole" = some (some (.ref f11))) (l11 : K.lookup f11 = some ⟨oc11, od11, .func (PySem.W.fnOf "is_whole" "is_whole" (defArgs s_is_whole) (defBody s_is_whole) (defScope s_is_whole) .none kV11 dc11 pm11 an11 cd11 ct11), sl11⟩) (c11 : PySem.W.codeIn K cd11 "is_whole" = true) (k11 : PySem.W.keepIn K (.ref f11) = true)
    (a12 : PySem.W.nsIn K mainGlobals "is_count" = some (some (.ref f12))) (l12 : K.lookup f12 = some ⟨oc12, od12, .func (PySem.W.fnOf "is_count" "is_count" (defArgs s_is_count) (defBody s_is_count) (defScope s_is_count) .none kV12 dc12 pm12 an12 cd12 ct12), sl12⟩) (c12 : PySem.W.codeIn K cd12 "is_count" = true) (k12 : PySem.W.keepIn K (.ref f12) = true)
    (a13 : PySem.W.nsIn K mainGlobals "is_below" = some (some (.ref f13))) (l13 : K.lookup f13 = some ⟨oc13, od13, .func (PySem.W.fnOf "is_below" "is_below" (defArgs s_is_below) (defBody s_is_below) (defScope s_is_below) .none kV13 dc13 pm13 an13 cd13 ct13), sl13⟩) (c13 : PySem.W.codeIn K cd13 "is_below" = true) (k13 : PySem.W.keepIn K (.ref f13) = true)
    (a14 : PySem.W.nsIn K mainGlobals "is_room" = some (some (.ref f14))) (l14 : K.lookup f14 = some ⟨oc14, od14, .func (PySem.W.fnOf "is_room" "is_room" (defArgs s_is_room) (defBody s_is_room) (defScope s_is_room) .none kV14 dc14 pm14 an14 cd14 ct14), sl14⟩) (c14 : PySem.W.codeIn K cd14 "is_room" = true) (k14 : PySem.W.keepIn K (.ref f14) = true)
    (a15 : PySem.W.nsIn K mainGlobals "is_saying" = some (some (.ref f15))) (l15 : K.lookup f15 = some ⟨oc15, od15, .func (PySem.W.fnOf "is_saying" "is_saying" (defArgs s_is_saying) (defBody s_is_saying) (defScope s_is_saying) .none kV15 dc15 pm15 an15 cd15 ct15), sl15⟩) (c15 : PySem.W.codeIn K cd15 "is_saying" = true) (k15 : PySem.W.keepIn K (.ref f15) = true)
    (a16 : PySem.W.nsIn K mainGlobals "need_saying" = some (some (.ref f16))) (l16 : K.lookup f16 = some ⟨oc16, od16, .func (PySem.W.fnOf "need_saying" "need_saying" (defArgs s_need_saying) (defBody s_need_saying) (defScope s_need_saying) .none kV16 dc16 pm16 an16 cd16 ct16), sl16⟩) (c16 : PySem.W.codeIn K cd16 "need_saying" = true) (k16 : PySem.W.keepIn K (.ref f16) = true)
    (a17 : PySem.W.nsIn K mainGlobals "first_come" = some (some (.ref f17))) (l17 : K.lookup f17 = some ⟨oc17, od17, .func (PySem.W.fnOf "first_come" "first_come" (defArgs s_first_come) (defBody s_first_come) (defScope s_first_come) .none kV17 dc17 pm17 an17 cd17 ct17), sl17⟩) (c17 : PySem.W.codeIn K cd17 "first_come" = true) (k17 : PySem.W.keepIn K (.ref f17) = true)
    (a18 : PySem.W.nsIn K mainGlobals "come_to" = some (some (.ref f18))) (l18 : K.lookup f18 = some ⟨oc18, od18, .func (PySem.W.fnOf "come_to" "come_to" (defArgs s_come_to) (defBody s_come_to) (defScope s_come_to) .none kV18 dc18 pm18 an18 cd18 ct18), sl18⟩) (c18 : PySem.W.codeIn K cd18 "come_to" = true) (k18 : PySem.W.keepIn K (.ref f18) = true)
    (a19 : PySem.W.nsIn K mainGlobals "breaks_by_some" = some (some (.ref f19))) (l19 : K.lookup f19 = some ⟨oc19, od19, .func (PySem.W.fnOf "breaks_by_some" "breaks_by_some" (defArgs s_breaks_by_some) (defBody s_breaks_by_some) (defScope s_breaks_by_some) .none kV19 dc19 pm19 an19 cd19 ct19), sl19⟩) (c19 : PySem.W.codeIn K cd19 "breaks_by_some" = true) (k19 : PySem.W.keepIn K (.ref f19) = true)
    (a20 : PySem.W.nsIn K mainGlobals "lag" = some (some (.ref f20))) (l20 : K.lookup f20 = some ⟨oc20, od20, .func (PySem.W.fnOf "lag" "lag" (defArgs s_lag) (defBody s_lag) (defScope s_lag) .none kV20 dc20 pm20 an20 (.ref e20) ct20), sl20⟩) (c20 : PySem.W.codeIn K (.ref e20) "lag" = true) (k20 : PySem.W.keepIn K (.ref f20) = true)
    (a21 : PySem.W.nsIn K mainGlobals "late" = some (some (.ref f21))) (l21 : K.lookup f21 = some ⟨oc21, od21, .func (PySem.W.fnOf "late" "late" (defArgs s_late) (defBody s_late) (defScope s_late) .none kV21 dc21 pm21 an21 cd21 ct21), sl21⟩) (c21 : PySem.W.codeIn K cd21 "late" = true) (k21 : PySem.W.keepIn K (.ref f21) = true)
    (a22 : PySem.W.nsIn K mainGlobals "rooms_late" = some (some (.ref f22))) (l22 : K.lookup f22 = some ⟨oc22, od22, .func (PySem.W.fnOf "rooms_late" "rooms_late" (defArgs s_rooms_late) (defBody s_rooms_late) (defScope s_rooms_late) .none kV22 dc22 pm22 an22 cd22 ct22), sl22⟩) (c22 : PySem.W.codeIn K cd22 "rooms_late" = true) (k22 : PySem.W.keepIn K (.ref f22) = true)
    (a23 : PySem.W.nsIn K mainGlobals "_law_word" = some (some (.ref f23))) (l23 : K.lookup f23 = some ⟨oc23, od23, .func (PySem.W.fnOf "_law_word" "_law_word" (defArgs s__law_word) (defBody s__law_word) (defScope s__law_word) .none kV23 dc23 pm23 an23 cd23 ct23), sl23⟩) (c23 : PySem.W.codeIn K cd23 "_law_word" = true) (k23 : PySem.W.keepIn K (.ref f23) = true)
    (a24 : PySem.W.nsIn K mainGlobals "_law_asked" = some (some (.ref f24))) (l24 : K.lookup f24 = some ⟨oc24, od24, .func (PySem.W.fnOf "_law_asked" "_law_asked" (defArgs s__law_asked) (defBody s__law_asked) (defScope s__law_asked) .none kV24 dc24 pm24 an24 cd24 ct24), sl24⟩) (c24 : PySem.W.codeIn K cd24 "_law_asked" = true) (k24 : PySem.W.keepIn K (.ref f24) = true)
    (a25 : PySem.W.nsIn K mainGlobals "_law_right" = some (some (.ref f25))) (l25 : K.lookup f25 = some ⟨oc25, od25, .func (PySem.W.fnOf "_law_right" "_law_right" (defArgs s__law_right) (defBody s__law_right) (defScope s__law_right) .none kV25 dc25 pm25 an25 cd25 ct25), sl25⟩) (c25 : PySem.W.codeIn K cd25 "_law_right" = true) (k25 : PySem.W.keepIn K (.ref f25) = true)
    (a26 : PySem.W.nsIn K mainGlobals "law" = some (some (.ref f26))) (l26 : K.lookup f26 = some ⟨oc26, od26, .func (PySem.W.fnOf "law" "law" (defArgs s_law) (defBody s_law) (defScope s_law) .none kV26 dc26 pm26 an26 cd26 ct26), sl26⟩) (c26 : PySem.W.codeIn K cd26 "law" = true) (k26 : PySem.W.keepIn K (.ref f26) = true)
    (b_ValueError : PySem.W.nsIn K mainGlobals "ValueError" = some none)
    (b_abs : PySem.W.nsIn K mainGlobals "abs" = some none)
    (b_all : PySem.W.nsIn K mainGlobals "all" = some none)
    (b_any : PySem.W.nsIn K mainGlobals "any" = some none)
    (b_at : PySem.W.nsIn K mainGlobals "at" = some none)
    (b_bool : PySem.W.nsIn K mainGlobals "bool" = some none)
    (b_deed : PySem.W.nsIn K mainGlobals "deed" = some none)
    (b_int : PySem.W.nsIn K mainGlobals "int" = some none)
    (b_isinstance : PySem.W.nsIn K mainGlobals "isinstance" = some none)
    (b_len : PySem.W.nsIn K mainGlobals "len" = some none)
    (b_list : PySem.W.nsIn K mainGlobals "list" = some none)
    (b_max : PySem.W.nsIn K mainGlobals "max" = some none)
    (b_min : PySem.W.nsIn K mainGlobals "min" = some none)
    (b_range : PySem.W.nsIn K mainGlobals "range" = some none)
    (b_repr : PySem.W.nsIn K mainGlobals "repr" = some none)
    (b_room : PySem.W.nsIn K mainGlobals "room" = some none)
    (b_str : PySem.W.nsIn K mainGlobals "str" = some none)
    (b_told : PySem.W.nsIn K mainGlobals "told" = some none)
    (b_tuple : PySem.W.nsIn K mainGlobals "tuple" = some none)
    (b_zip : PySem.W.nsIn K mainGlobals "zip" = some none)
    (c_MOST : PySem.W.nsIn K mainGlobals "MOST" = some (some (.int 100 t_MOST)))
    (c_WIDE : PySem.W.nsIn K mainGlobals "WIDE" = some (some (.int 9 t_WIDE)))
    (g_NoSaying : PySem.W.nsIn K mainGlobals "NoSaying" = some (some (.ref A_NoSaying)))
    (g_TooWide : PySem.W.nsIn K mainGlobals "TooWide" = some (some (.ref A_TooWide)))
    (g_NoCount : PySem.W.nsIn K mainGlobals "NoCount" = some (some (.ref A_NoCount)))
    (g_NoKeep : PySem.W.nsIn K mainGlobals "NoKeep" = some (some (.ref A_NoKeep)))
    (g_NoNumber : PySem.W.nsIn K mainGlobals "NoNumber" = some (some (.ref A_NoNumber)))
    (g_NoPrices : PySem.W.nsIn K mainGlobals "NoPrices" = some (some (.ref A_NoPrices)))
    (g_NoRoom : PySem.W.nsIn K mainGlobals "NoRoom" = some (some (.ref A_NoRoom)))
    (g_NoStep : PySem.W.nsIn K mainGlobals "NoStep" = some (some (.ref A_NoStep)))
    (g_NoClasses : PySem.W.nsIn K mainGlobals "NoClasses" = some (some (.ref A_NoClasses)))
    (g_NoWatcher : PySem.W.nsIn K mainGlobals "NoWatcher" = some (some (.ref A_NoWatcher)))
    (g_Unlike : PySem.W.nsIn K mainGlobals "Unlike" = some (some (.ref A_Unlike)))
    (g_WardError : PySem.W.nsIn K mainGlobals "WardError" = some (some (.ref A_WardError)))
    (x_NoSaying : PySem.W.excIn K A_NoSaying veB "ValueError.__new__" = true)
    (kp_NoSaying : PySem.W.keepIn K (.ref A_NoSaying) = true)
    (bs_NoSaying : PySem.W.subIn K (.ref A_NoSaying) (.type "BaseException") = some true)
    (ty_NoSaying : PySem.W.typeIn K (.ref A_NoSaying) = some (.type "type"))
    (x_TooWide : PySem.W.excIn K A_TooWide veB "ValueError.__new__" = true)
    (kp_TooWide : PySem.W.keepIn K (.ref A_TooWide) = true)
    (bs_TooWide : PySem.W.subIn K (.ref A_TooWide) (.type "BaseException") = some true)
    (ty_TooWide : PySem.W.typeIn K (.ref A_TooWide) = some (.type "type"))
    (x_NoCount : PySem.W.excIn K A_NoCount veB "ValueError.__new__" = true)
    (kp_NoCount : PySem.W.keepIn K (.ref A_NoCount) = true)
    (bs_NoCount : PySem.W.subIn K (.ref A_NoCount) (.type "BaseException") = some true)
    (ty_NoCount : PySem.W.typeIn K (.ref A_NoCount) = some (.type "type"))
    (x_NoKeep : PySem.W.excIn K A_NoKeep veB "ValueError.__new__" = true)
    (kp_NoKeep : PySem.W.keepIn K (.ref A_NoKeep) = true)
    (bs_NoKeep : PySem.W.subIn K (.ref A_NoKeep) (.type "BaseException") = some true)
    (ty_NoKeep : PySem.W.typeIn K (.ref A_NoKeep) = some (.type "type"))
    (x_NoNumber : PySem.W.excIn K A_NoNumber veB "ValueError.__new__" = true)
    (kp_NoNumber : PySem.W.keepIn K (.ref A_NoNumber) = true)
    (bs_NoNumber : PySem.W.subIn K (.ref A_NoNumber) (.type "BaseException") = some true)
    (ty_NoNumber : PySem.W.typeIn K (.ref A_NoNumber) = some (.type "type"))
    (x_NoPrices : PySem.W.excIn K A_NoPrices veB "ValueError.__new__" = true)
    (kp_NoPrices : PySem.W.keepIn K (.ref A_NoPrices) = true)
    (bs_NoPrices : PySem.W.subIn K (.ref A_NoPrices) (.type "BaseException") = some true)
    (ty_NoPrices : PySem.W.typeIn K (.ref A_NoPrices) = some (.type "type"))
    (x_NoRoom : PySem.W.excIn K A_NoRoom veB "ValueError.__new__" = true)
    (kp_NoRoom : PySem.W.keepIn K (.ref A_NoRoom) = true)
    (bs_NoRoom : PySem.W.subIn K (.ref A_NoRoom) (.type "BaseException") = some true)
    (ty_NoRoom : PySem.W.typeIn K (.ref A_NoRoom) = some (.type "type"))
    (x_NoStep : PySem.W.excIn K A_NoStep veB "ValueError.__new__" = true)
    (kp_NoStep : PySem.W.keepIn K (.ref A_NoStep) = true)
    (bs_NoStep : PySem.W.subIn K (.ref A_NoStep) (.type "BaseException") = some true)
    (ty_NoStep : PySem.W.typeIn K (.ref A_NoStep) = some (.type "type"))
    (x_NoClasses : PySem.W.excIn K A_NoClasses veB "ValueError.__new__" = true)
    (kp_NoClasses : PySem.W.keepIn K (.ref A_NoClasses) = true)
    (bs_NoClasses : PySem.W.subIn K (.ref A_NoClasses) (.type "BaseException") = some true)
    (ty_NoClasses : PySem.W.typeIn K (.ref A_NoClasses) = some (.type "type"))
    (x_NoWatcher : PySem.W.excIn K A_NoWatcher veB "ValueError.__new__" = true)
    (kp_NoWatcher : PySem.W.keepIn K (.ref A_NoWatcher) = true)
    (bs_NoWatcher : PySem.W.subIn K (.ref A_NoWatcher) (.type "BaseException") = some true)
    (ty_NoWatcher : PySem.W.typeIn K (.ref A_NoWatcher) = some (.type "type"))
    (x_Unlike : PySem.W.excIn K A_Unlike veB "ValueError.__new__" = true)
    (kp_Unlike : PySem.W.keepIn K (.ref A_Unlike) = true)
    (bs_Unlike : PySem.W.subIn K (.ref A_Unlike) (.type "BaseException") = some true)
    (ty_Unlike : PySem.W.typeIn K (.ref A_Unlike) = some (.type "type"))
    (wb : PySem.W.subIn K (.ref A_WardError) (.type "BaseException") = some true)
    (wd : PySem.W.hasDictIn K A_WardError = true)
    (wt : PySem.W.typeIn K (.ref A_WardError) = some (.type "type"))
    (xhn : PySem.W.specialIn K (.builtin "object.__class__") "__get__" = some (some (.builtin "getset_descriptor.__get__")))
    (xht : PySem.W.takesIn K (.builtin "object.__class__") = some true)
    (hd_NoCount : PySem.W.hasDictIn K A_NoCount = true)
    (yt_NoCount : PySem.W.typeIn K (.ref A_NoCount) = some (.type "type"))
    (hd_NoKeep : PySem.W.hasDictIn K A_NoKeep = true)
    (yt_NoKeep : PySem.W.typeIn K (.ref A_NoKeep) = some (.type "type"))
    (hd_NoNumber : PySem.W.hasDictIn K A_NoNumber = true)
    (yt_NoNumber : PySem.W.typeIn K (.ref A_NoNumber) = some (.type "type"))
    (hd_NoPrices : PySem.W.hasDictIn K A_NoPrices = true)
    (yt_NoPrices : PySem.W.typeIn K (.ref A_NoPrices) = some (.type "type"))
    (hd_NoRoom : PySem.W.hasDictIn K A_NoRoom = true)
    (yt_NoRoom : PySem.W.typeIn K (.ref A_NoRoom) = some (.type "type"))
    (hd_NoStep : PySem.W.hasDictIn K A_NoStep = true)
    (yt_NoStep : PySem.W.typeIn K (.ref A_NoStep) = some (.type "type"))
    (hd_NoClasses : PySem.W.hasDictIn K A_NoClasses = true)
    (yt_NoClasses : PySem.W.typeIn K (.ref A_NoClasses) = some (.type "type"))
    (hd_NoWatcher : PySem.W.hasDictIn K A_NoWatcher = true)
    (yt_NoWatcher : PySem.W.typeIn K (.ref A_NoWatcher) = some (.type "type"))
    (hd_Unlike : PySem.W.hasDictIn K A_Unlike = true)
    (yt_Unlike : PySem.W.typeIn K (.ref A_Unlike) = some (.type "type"))
    (sb_NoSaying : PySem.W.subIn K (.ref A_NoSaying) (.ref A_WardError) = some true)
    (hg_NoSaying : PySem.W.findIn K (.ref A_NoSaying) "__getattribute__" = some (some (.builtin "BaseException.__getattribute__")))
    (hk_NoSaying : PySem.W.findIn K (.ref A_NoSaying) "__getattr__" = some none)
    (hs_NoSaying : PySem.W.subIn K (.ref A_NoSaying) (.type "BaseException") = some true)
    (hd_NoSaying : PySem.W.hasDictIn K A_NoSaying = true)
    (ha_NoSaying : PySem.W.findIn K (.ref A_NoSaying) "__class__" = some (some (.builtin "object.__class__")))
    (hm_NoSaying : PySem.W.mroIn K A_NoSaying (.type "object") = some true)
    (sf_NoSaying : PySem.W.subIn K (.ref A_NoSaying) (.ref A_NoSaying) = some true)
    (yt_NoSaying : PySem.W.typeIn K (.ref A_NoSaying) = some (.type "type"))
    (sv_NoSaying : PySem.W.subIn K (.ref A_NoSaying) (.type "ValueError") = some true)
    (kt_NoSaying_TooWide : PySem.W.subIn K (.ref A_NoSaying) (.ref A_TooWide) = some false)
    (kt_NoSaying_NoCount : PySem.W.subIn K (.ref A_NoSaying) (.ref A_NoCount) = some false)
    (kt_NoSaying_NoKeep : PySem.W.subIn K (.ref A_NoSaying) (.ref A_NoKeep) = some false)
    (kt_NoSaying_NoNumber : PySem.W.subIn K (.ref A_NoSaying) (.ref A_NoNumber) = some false)
    (kt_NoSaying_NoPrices : PySem.W.subIn K (.ref A_NoSaying) (.ref A_NoPrices) = some false)
    (kt_NoSaying_NoRoom : PySem.W.subIn K (.ref A_NoSaying) (.ref A_NoRoom) = some false)
    (kt_NoSaying_NoStep : PySem.W.subIn K (.ref A_NoSaying) (.ref A_NoStep) = some false)
    (kt_NoSaying_NoClasses : PySem.W.subIn K (.ref A_NoSaying) (.ref A_NoClasses) = some false)
    (kt_NoSaying_NoWatcher : PySem.W.subIn K (.ref A_NoSaying) (.ref A_NoWatcher) = some false)
    (kt_NoSaying_Unlike : PySem.W.subIn K (.ref A_NoSaying) (.ref A_Unlike) = some false)
    (sb_TooWide : PySem.W.subIn K (.ref A_TooWide) (.ref A_WardError) = some true)
    (hg_TooWide : PySem.W.findIn K (.ref A_TooWide) "__getattribute__" = some (some (.builtin "BaseException.__getattribute__")))
    (hk_TooWide : PySem.W.findIn K (.ref A_TooWide) "__getattr__" = some none)
    (hs_TooWide : PySem.W.subIn K (.ref A_TooWide) (.type "BaseException") = some true)
    (hd_TooWide : PySem.W.hasDictIn K A_TooWide = true)
    (ha_TooWide : PySem.W.findIn K (.ref A_TooWide) "__class__" = some (some (.builtin "object.__class__")))
    (hm_TooWide : PySem.W.mroIn K A_TooWide (.type "object") = some true)
    (sf_TooWide : PySem.W.subIn K (.ref A_TooWide) (.ref A_TooWide) = some true)
    (yt_TooWide : PySem.W.typeIn K (.ref A_TooWide) = some (.type "type"))
    (sv_TooWide : PySem.W.subIn K (.ref A_TooWide) (.type "ValueError") = some true)
    (kt_TooWide_NoSaying : PySem.W.subIn K (.ref A_TooWide) (.ref A_NoSaying) = some false)
    (kt_TooWide_NoCount : PySem.W.subIn K (.ref A_TooWide) (.ref A_NoCount) = some false)
    (kt_TooWide_NoKeep : PySem.W.subIn K (.ref A_TooWide) (.ref A_NoKeep) = some false)
    (kt_TooWide_NoNumber : PySem.W.subIn K (.ref A_TooWide) (.ref A_NoNumber) = some false)
    (kt_TooWide_NoPrices : PySem.W.subIn K (.ref A_TooWide) (.ref A_NoPrices) = some false)
    (kt_TooWide_NoRoom : PySem.W.subIn K (.ref A_TooWide) (.ref A_NoRoom) = some false)
    (kt_TooWide_NoStep : PySem.W.subIn K (.ref A_TooWide) (.ref A_NoStep) = some false)
    (kt_TooWide_NoClasses : PySem.W.subIn K (.ref A_TooWide) (.ref A_NoClasses) = some false)
    (kt_TooWide_NoWatcher : PySem.W.subIn K (.ref A_TooWide) (.ref A_NoWatcher) = some false)
    (kt_TooWide_Unlike : PySem.W.subIn K (.ref A_TooWide) (.ref A_Unlike) = some false)
    (hm20 : (q20, nm_lag) ∈ TabsC.T) (hu20 : ∀ p ∈ TabsC.T, p.1 = q20 → p.2 = nm_lag) :
    ∃ fd : FuncData, (∀ (s : Shared) (v : Value), BindsTo s fd ⟨[v], []⟩ [("script", v)]) ∧ ∀ base : Heap, K.In base → base.Ns mainGlobals mg → (∀ p ∈ ([(e20, q20)] : List (Addr × Addr)), TabB base mg p.1 p.2) → FnG l.prog w K mg base CX0 19 fa fd ["script"] (liftF K S_lawC.p) := by
  have e := hfa.symm.trans (PySem.W.mg_of X G a26)
  cases e
  have T : Txt mg := ⟨PySem.W.mg_none_of X G b_ValueError, PySem.W.mg_none_of X G b_abs, PySem.W.mg_none_of X G b_all, PySem.W.mg_none_of X G b_any, PySem.W.mg_none_of X G b_at, PySem.W.mg_none_of X G b_bool, PySem.W.mg_none_of X G b_deed, PySem.W.mg_none_of X G b_int, PySem.W.mg_none_of X G b_isinstance, PySem.W.mg_none_of X G b_len, PySem.W.mg_none_of X G b_list, PySem.W.mg_none_of X G b_max, PySem.W.mg_none_of X G b_min, PySem.W.mg_none_of X G b_range, PySem.W.mg_none_of X G b_repr, PySem.W.mg_none_of X G b_room, PySem.W.mg_none_of X G b_str, PySem.W.mg_none_of X G b_told, PySem.W.mg_none_of X G b_tuple, PySem.W.mg_none_of X G b_zip, ⟨_, PySem.W.mg_of X G c_MOST⟩, ⟨_, PySem.W.mg_of X G c_WIDE⟩⟩
  have ec_NoSaying : ccOf mg "NoSaying" = A_NoSaying := ccOf_of (PySem.W.mg_of X G g_NoSaying)
  have ec_TooWide : ccOf mg "TooWide" = A_TooWide := ccOf_of (PySem.W.mg_of X G g_TooWide)
  have ec_NoCount : ccOf mg "NoCount" = A_NoCount := ccOf_of (PySem.W.mg_of X G g_NoCount)
  have ec_NoKeep : ccOf mg "NoKeep" = A_NoKeep := ccOf_of (PySem.W.mg_of X G g_NoKeep)
  have ec_NoNumber : ccOf mg "NoNumber" = A_NoNumber := ccOf_of (PySem.W.mg_of X G g_NoNumber)
  have ec_NoPrices : ccOf mg "NoPrices" = A_NoPrices := ccOf_of (PySem.W.mg_of X G g_NoPrices)
  have ec_NoRoom : ccOf mg "NoRoom" = A_NoRoom := ccOf_of (PySem.W.mg_of X G g_NoRoom)
  have ec_NoStep : ccOf mg "NoStep" = A_NoStep := ccOf_of (PySem.W.mg_of X G g_NoStep)
  have ec_NoClasses : ccOf mg "NoClasses" = A_NoClasses := ccOf_of (PySem.W.mg_of X G g_NoClasses)
  have ec_NoWatcher : ccOf mg "NoWatcher" = A_NoWatcher := ccOf_of (PySem.W.mg_of X G g_NoWatcher)
  have ec_Unlike : ccOf mg "Unlike" = A_Unlike := ccOf_of (PySem.W.mg_of X G g_Unlike)
  have ec_WardError : ccOf mg "WardError" = A_WardError := ccOf_of (PySem.W.mg_of X G g_WardError)
  have TX : TxE K mg (ccOf mg) := ⟨by rw [ec_NoSaying]; exact ⟨PySem.W.mg_of X G g_NoSaying, x_NoSaying, kp_NoSaying, bs_NoSaying, ty_NoSaying⟩, by rw [ec_TooWide]; exact ⟨PySem.W.mg_of X G g_TooWide, x_TooWide, kp_TooWide, bs_TooWide, ty_TooWide⟩, by rw [ec_NoCount]; exact ⟨PySem.W.mg_of X G g_NoCount, x_NoCount, kp_NoCount, bs_NoCount, ty_NoCount⟩, by rw [ec_NoKeep]; exact ⟨PySem.W.mg_of X G g_NoKeep, x_NoKeep, kp_NoKeep, bs_NoKeep, ty_NoKeep⟩, by rw [ec_NoNumber]; exact ⟨PySem.W.mg_of X G g_NoNumber, x_NoNumber, kp_NoNumber, bs_NoNumber, ty_NoNumber⟩, by rw [ec_NoPrices]; exact ⟨PySem.W.mg_of X G g_NoPrices, x_NoPrices, kp_NoPrices, bs_NoPrices, ty_NoPrices⟩, by rw [ec_NoRoom]; exact ⟨PySem.W.mg_of X G g_NoRoom, x_NoRoom, kp_NoRoom, bs_NoRoom, ty_NoRoom⟩, by rw [ec_NoStep]; exact ⟨PySem.W.mg_of X G g_NoStep, x_NoStep, kp_NoStep, bs_NoStep, ty_NoStep⟩, by rw [ec_NoClasses]; exact ⟨PySem.W.mg_of X G g_NoClasses, x_NoClasses, kp_NoClasses, bs_NoClasses, ty_NoClasses⟩, by rw [ec_NoWatcher]; exact ⟨PySem.W.mg_of X G g_NoWatcher, x_NoWatcher, kp_NoWatcher, bs_NoWatcher, ty_NoWatcher⟩, by rw [ec_Unlike]; exact ⟨PySem.W.mg_of X G g_Unlike, x_Unlike, kp_Unlike, bs_Unlike, ty_Unlike⟩⟩
  have TC : TxC K mg (ccOf mg) := ⟨by rw [ec_WardError]; exact PySem.W.mg_of X G g_WardError, by rw [ec_NoSaying, ec_WardError]; exact PySem.W.exm_ref wb wd wt sb_NoSaying, by rw [ec_NoSaying]; exact ⟨hg_NoSaying, hk_NoSaying, hs_NoSaying, hd_NoSaying, ha_NoSaying, xhn, xht, hm_NoSaying⟩, by rw [ec_NoSaying]; exact kit_typ rfl sv_NoSaying, by rw [ec_NoSaying]; exact kit_self, by rw [ec_NoSaying, ec_TooWide]; exact kit_ne sf_NoSaying kt_NoSaying_TooWide hd_TooWide yt_TooWide, by rw [ec_NoSaying, ec_NoCount]; exact kit_ne sf_NoSaying kt_NoSaying_NoCount hd_NoCount yt_NoCount, by rw [ec_NoSaying, ec_NoKeep]; exact kit_ne sf_NoSaying kt_NoSaying_NoKeep hd_NoKeep yt_NoKeep, by rw [ec_NoSaying, ec_NoNumber]; exact kit_ne sf_NoSaying kt_NoSaying_NoNumber hd_NoNumber yt_NoNumber, by rw [ec_NoSaying, ec_NoPrices]; exact kit_ne sf_NoSaying kt_NoSaying_NoPrices hd_NoPrices yt_NoPrices, by rw [ec_NoSaying, ec_NoRoom]; exact kit_ne sf_NoSaying kt_NoSaying_NoRoom hd_NoRoom yt_NoRoom, by rw [ec_NoSaying, ec_NoStep]; exact kit_ne sf_NoSaying kt_NoSaying_NoStep hd_NoStep yt_NoStep, by rw [ec_NoSaying, ec_NoClasses]; exact kit_ne sf_NoSaying kt_NoSaying_NoClasses hd_NoClasses yt_NoClasses, by rw [ec_NoSaying, ec_NoWatcher]; exact kit_ne sf_NoSaying kt_NoSaying_NoWatcher hd_NoWatcher yt_NoWatcher, by rw [ec_NoSaying, ec_Unlike]; exact kit_ne sf_NoSaying kt_NoSaying_Unlike hd_Unlike yt_Unlike, by rw [ec_TooWide, ec_WardError]; exact PySem.W.exm_ref wb wd wt sb_TooWide, by rw [ec_TooWide]; exact ⟨hg_TooWide, hk_TooWide, hs_TooWide, hd_TooWide, ha_TooWide, xhn, xht, hm_TooWide⟩, by rw [ec_TooWide]; exact kit_typ rfl sv_TooWide, by rw [ec_TooWide, ec_NoSaying]; exact kit_ne sf_TooWide kt_TooWide_NoSaying hd_NoSaying yt_NoSaying, by rw [ec_TooWide]; exact kit_self, by rw [ec_TooWide, ec_NoCount]; exact kit_ne sf_TooWide kt_TooWide_NoCount hd_NoCount yt_NoCount, by rw [ec_TooWide, ec_NoKeep]; exact kit_ne sf_TooWide kt_TooWide_NoKeep hd_NoKeep yt_NoKeep, by rw [ec_TooWide, ec_NoNumber]; exact kit_ne sf_TooWide kt_TooWide_NoNumber hd_NoNumber yt_NoNumber, by rw [ec_TooWide, ec_NoPrices]; exact kit_ne sf_TooWide kt_TooWide_NoPrices hd_NoPrices yt_NoPrices, by rw [ec_TooWide, ec_NoRoom]; exact kit_ne sf_TooWide kt_TooWide_NoRoom hd_NoRoom yt_NoRoom, by rw [ec_TooWide, ec_NoStep]; exact kit_ne sf_TooWide kt_TooWide_NoStep hd_NoStep yt_NoStep, by rw [ec_TooWide, ec_NoClasses]; exact kit_ne sf_TooWide kt_TooWide_NoClasses hd_NoClasses yt_NoClasses, by rw [ec_TooWide, ec_NoWatcher]; exact kit_ne sf_TooWide kt_TooWide_NoWatcher hd_NoWatcher yt_NoWatcher, by rw [ec_TooWide, ec_Unlike]; exact kit_ne sf_TooWide kt_TooWide_Unlike hd_Unlike yt_Unlike⟩
  have F0 := fun_mk (st := s__law_pot) l0 c0 k0
  have B0 := F0.binds (ps := ["script", "k"]) fun _ _ _ _ _ _ us hl => match us, hl with | [_, _], _ => rfl
  have F1 := fun_mk (st := s__law_take) l1 c1 k1
  have B1 := F1.binds (ps := ["pot", "many"]) fun _ _ _ _ _ _ us hl => match us, hl with | [_, _], _ => rfl
  have F2 := fun_mk (st := s__law_room) l2 c2 k2
  have B2 := F2.binds (ps := ["pot", "rooms", "rate"]) fun _ _ _ _ _ _ us hl => match us, hl with | [_, _, _], _ => rfl
  have F3 := fun_mk (st := s__law_saying) l3 c3 k3
  have B3 := F3.binds (ps := ["pot", "signs", "deeds", "rooms", "rate"]) fun _ _ _ _ _ _ us hl => match us, hl with | [_, _, _, _, _], _ => rfl
  have F4 := fun_mk (st := s__law_any) l4 c4 k4
  have B4 := F4.binds (ps := ["pot", "k"]) fun _ _ _ _ _ _ us hl => match us, hl with | [_, _], _ => rfl
  have F5 := fun_mk (st := s__law_whole) l5 c5 k5
  have B5 := F5.binds (ps := ["found"]) fun _ _ _ _ _ _ us hl => match us, hl with | [_], _ => rfl
  have F6 := fun_mk (st := s__law_other) l6 c6 k6
  have B6 := F6.binds (ps := ["pot", "thing", "odds"]) fun _ _ _ _ _ _ us hl => match us, hl with | [_, _, _], _ => rfl
  have F7 := fun_mk (st := s__law_is_saying) l7 c7 k7
  have B7 := F7.binds (ps := ["thing"]) fun _ _ _ _ _ _ us hl => match us, hl with | [_], _ => rfl
  have F8 := fun_mk (st := s__law_lag) l8 c8 k8
  have B8 := F8.binds (ps := ["saying"]) fun _ _ _ _ _ _ us hl => match us, hl with | [_], _ => rfl
  have F9 := fun_mk (st := s__law_same) l9 c9 k9
  have B9 := F9.binds (ps := ["found", "due"]) fun _ _ _ _ _ _ us hl => match us, hl with | [_, _], _ => rfl
  have F10 := fun_mk (st := s_is_row) l10 c10 k10
  have B10 := F10.binds (ps := ["thing", "many"]) fun _ _ _ _ _ _ us hl => match us, hl with | [_, _], _ => rfl
  have F11 := fun_mk (st := s_is_whole) l11 c11 k11
  have B11 := F11.binds (ps := ["thing"]) fun _ _ _ _ _ _ us hl => match us, hl with | [_], _ => rfl
  have F12 := fun_mk (st := s_is_count) l12 c12 k12
  have B12 := F12.binds (ps := ["thing"]) fun _ _ _ _ _ _ us hl => match us, hl with | [_], _ => rfl
  have F13 := fun_mk (st := s_is_below) l13 c13 k13
  have B13 := F13.binds (ps := ["thing", "most"]) fun _ _ _ _ _ _ us hl => match us, hl with | [_, _], _ => rfl
  have F14 := fun_mk (st := s_is_room) l14 c14 k14
  have B14 := F14.binds (ps := ["thing", "signs", "deeds", "many"]) fun _ _ _ _ _ _ us hl => match us, hl with | [_, _, _, _], _ => rfl
  have F15 := fun_mk (st := s_is_saying) l15 c15 k15
  have B15 := F15.binds (ps := ["thing"]) fun _ _ _ _ _ _ us hl => match us, hl with | [_], _ => rfl
  have F16 := fun_mk (st := s_need_saying) l16 c16 k16
  have B16 := F16.binds (ps := ["thing"]) fun _ _ _ _ _ _ us hl => match us, hl with | [_], _ => rfl
  have F17 := fun_mk (st := s_first_come) l17 c17 k17
  have B17 := F17.binds (ps := ["signs", "deeds", "begin", "follow"]) fun _ _ _ _ _ _ us hl => match us, hl with | [_, _, _, _], _ => rfl
  have F18 := fun_mk (st := s_come_to) l18 c18 k18
  have B18 := F18.binds (ps := ["saying", "room", "told"]) fun _ _ _ _ _ _ us hl => match us, hl with | [_, _, _], _ => rfl
  have F19 := fun_mk (st := s_breaks_by_some) l19 c19 k19
  have B19 := F19.binds (ps := ["saying", "at", "deed"]) fun _ _ _ _ _ _ us hl => match us, hl with | [_, _, _], _ => rfl
  have F20 := fun_mk (st := s_lag) l20 c20 k20
  have B20 := F20.binds (ps := ["saying"]) fun _ _ _ _ _ _ us hl => match us, hl with | [_], _ => rfl
  have F21 := fun_mk (st := s_late) l21 c21 k21
  have B21 := F21.binds (ps := ["saying"]) fun _ _ _ _ _ _ us hl => match us, hl with | [_], _ => rfl
  have F22 := fun_mk (st := s_rooms_late) l22 c22 k22
  have B22 := F22.binds (ps := ["saying"]) fun _ _ _ _ _ _ us hl => match us, hl with | [_], _ => rfl
  have F23 := fun_mk (st := s__law_word) l23 c23 k23
  have B23 := F23.binds (ps := ["caught"]) fun _ _ _ _ _ _ us hl => match us, hl with | [_], _ => rfl
  have F24 := fun_mk (st := s__law_asked) l24 c24 k24
  have B24 := F24.binds (ps := ["door", "saying"]) fun _ _ _ _ _ _ us hl => match us, hl with | [_, _], _ => rfl
  have F25 := fun_mk (st := s__law_right) l25 c25 k25
  have B25 := F25.binds (ps := ["saying"]) fun _ _ _ _ _ _ us hl => match us, hl with | [_], _ => rfl
  have F26 := fun_mk (st := s_law) l26 c26 k26
  have B26 := F26.binds (ps := ["script"]) fun _ _ _ _ _ _ us hl => match us, hl with | [_], _ => rfl
  refine ⟨PySem.W.fnOf "law" "law" (defArgs s_law) (defBody s_law) (defScope s_law) .none kV26 dc26 pm26 an26 cd26 ct26, fun s v => .of_eq rfl, fun base _ _ TBs => ?_⟩
  have tb20 : TabB base mg e20 q20 := TBs (e20, q20) (by simp)
  have C__law_pot : CalC l.prog w K mg base 1 "_law_pot" ["script", "k"] S_pot := ⟨f0, _, ok__law_pot F0 T , PySem.W.mg_of X G a0, k0, B0⟩
  have C__law_take : CalC l.prog w K mg base 1 "_law_take" ["pot", "many"] S_take := ⟨f1, _, ok__law_take F1 T , PySem.W.mg_of X G a1, k1, B1⟩
  have C__law_room : CalC l.prog w K mg base 2 "_law_room" ["pot", "rooms", "rate"] S_room := ⟨f2, _, ok__law_room F2 T C__law_take, PySem.W.mg_of X G a2, k2, B2⟩
  have C__law_saying : CalC l.prog w K mg base 3 "_law_saying" ["pot", "signs", "deeds", "rooms", "rate"] S_sayg := ⟨f3, _, ok__law_saying F3 T C__law_room, PySem.W.mg_of X G a3, k3, B3⟩
  have C__law_any : CalC l.prog w K mg base 4 "_law_any" ["pot", "k"] S_lany75 := ⟨f4, _, ok__law_any F4 T C__law_saying C__law_take, PySem.W.mg_of X G a4, k4, B4⟩
  have C__law_whole : CalC l.prog w K mg base 1 "_law_whole" ["found"] S_is_whole := ⟨f5, _, ok__law_whole F5 T , PySem.W.mg_of X G a5, k5, B5⟩
  have C__law_other : CalC l.prog w K mg base 8 "_law_other" ["pot", "thing", "odds"] (S_lother 6) := ⟨f6, _, ok__law_other F6 T C__law_take C__law_whole (PySem.W.mg_of X G a6) k6 B6, PySem.W.mg_of X G a6, k6, B6⟩
  have C__law_is_saying : CalC l.prog w K mg base 2 "_law_is_saying" ["thing"] S_lissay := ⟨f7, _, ok__law_is_saying F7 T C__law_whole, PySem.W.mg_of X G a7, k7, B7⟩
  have C__law_lag : CalC l.prog w K mg base 1 "_law_lag" ["saying"] S_llag75 := ⟨f8, _, ok__law_lag F8 T , PySem.W.mg_of X G a8, k8, B8⟩
  have C__law_same : CalC l.prog w K mg base 6 "_law_same" ["found", "due"] (S_same2 5) := ⟨f9, _, ok__law_same F9 T  (PySem.W.mg_of X G a9) k9 B9, PySem.W.mg_of X G a9, k9, B9⟩
  have C_is_row : CalC l.prog w K mg base 1 "is_row" ["thing", "many"] S_is_row := ⟨f10, _, ok_is_row F10 T , PySem.W.mg_of X G a10, k10, B10⟩
  have C_is_whole : CalC l.prog w K mg base 1 "is_whole" ["thing"] S_is_whole := ⟨f11, _, ok_is_whole F11 T , PySem.W.mg_of X G a11, k11, B11⟩
  have C_is_count : CalC l.prog w K mg base 2 "is_count" ["thing"] S_is_count := ⟨f12, _, ok_is_count F12 T C_is_whole, PySem.W.mg_of X G a12, k12, B12⟩
  have C_is_below : CalC l.prog w K mg base 2 "is_below" ["thing", "most"] S_is_below := ⟨f13, _, ok_is_below F13 T C_is_whole, PySem.W.mg_of X G a13, k13, B13⟩
  have C_is_room : CalC l.prog w K mg base 3 "is_room" ["thing", "signs", "deeds", "many"] S_is_room := ⟨f14, _, ok_is_room F14 T C_is_row C_is_below, PySem.W.mg_of X G a14, k14, B14⟩
  have C_is_saying : CalC l.prog w K mg base 4 "is_saying" ["thing"] S_is_saying := ⟨f15, _, ok_is_saying F15 T C_is_row C_is_count C_is_room, PySem.W.mg_of X G a15, k15, B15⟩
  have CX_need_saying : CalX l.prog w K mg base 5 "need_saying" ["thing"] (X_need_saying (ccOf mg)) := ⟨f16, _, okx_need_saying F16 T TX C_is_saying, PySem.W.mg_of X G a16, k16, B16⟩
  have C_need_saying := CX_need_saying.quiet
  have V_need_saying := CX_need_saying.val
  have CX_first_come : CalX l.prog w K mg base 14 "first_come" ["signs", "deeds", "begin", "follow"] (X_first l.prog w K mg base (ccOf mg)) := ⟨f17, _, okx_first_come F17 T TX , PySem.W.mg_of X G a17, k17, B17⟩
  have C_first_come := CX_first_come.quiet
  have V_first_come := CX_first_come.val
  have C_come_to : CalC l.prog w K mg base 1 "come_to" ["saying", "room", "told"] S_come_to := ⟨f18, _, ok_come_to F18 T , PySem.W.mg_of X G a18, k18, B18⟩
  have C_breaks_by_some : CalC l.prog w K mg base 1 "breaks_by_some" ["saying", "at", "deed"] S_breaks_by := ⟨f19, _, ok_breaks_by_some F19 T , PySem.W.mg_of X G a19, k19, B19⟩
  have CX_lag : CalX l.prog w K mg base 15 "lag" ["saying"] (X_lag75 (ccOf mg)) := ⟨f20, _, okx_lag (c_ := e20) (P_ := q20) F20 T TX rfl tb20 hm20 hu20 CX_first_come C_come_to C_breaks_by_some, PySem.W.mg_of X G a20, k20, B20⟩
  have C_lag := CX_lag.quiet
  have V_lag := CX_lag.val
  have CX_late : CalX l.prog w K mg base 16 "late" ["saying"] (X_late75 (ccOf mg)) := ⟨f21, _, okx_late F21 T TX CX_need_saying CX_lag, PySem.W.mg_of X G a21, k21, B21⟩
  have C_late := CX_late.quiet
  have V_late := CX_late.val
  have CX_rooms_late : CalX l.prog w K mg base 16 "rooms_late" ["saying"] (X_rlate75 (ccOf mg)) := ⟨f22, _, okx_rooms_late F22 T TX CX_need_saying CX_lag, PySem.W.mg_of X G a22, k22, B22⟩
  have C_rooms_late := CX_rooms_late.quiet
  have V_rooms_late := CX_rooms_late.val
  have C__law_word : CalE l.prog w K mg base 1 "_law_word" ["caught"] (wordW [((ccOf mg) "NoSaying", .str "saying"), ((ccOf mg) "TooWide", .str "wide")]) := ⟨f23, _, oke__law_word F23 T TX TC , PySem.W.mg_of X G a23, k23, B23⟩
  have C__law_asked : CalC l.prog w K mg base 17 "_law_asked" ["door", "saying"] S_lasked75 := ⟨f24, _, ok__law_asked F24 T TX TC CX_late CX_rooms_late C_late C_rooms_late C__law_word, PySem.W.mg_of X G a24, k24, B24⟩
  have C__law_right : CalG l.prog w K mg base 18 "_law_right" ["saying"] S_lright75 := ⟨f25, _, ok__law_right F25 T C__law_is_saying C__law_lag C__law_same C__law_asked, PySem.W.mg_of X G a25, k25, B25⟩
  exact ok_law F26 T  C__law_pot C__law_any C__law_other C__law_right C__law_take
omit [TabsC] in
theorem all_mkT {l : PySem.W.OpenLaw} {w : World} {K : PySem.W.Frag} {h : Heap} {mg : Str → Option Value} {fa : Addr} (X : K.In h) (G : h.Ns mainGlobals mg) (hfa : mg "law" = some (.ref fa))
    {f0 : Addr} {od0 an0 : Option Addr} {sl0 : Array (Option Value)} {oc0 dc0 pm0 cd0 ct0 : Value} {kV0 : Value}
    {f1 : Addr} {od1 an1 : Option Addr} {sl1 : Array (Option Value)} {oc1 dc1 pm1 cd1 ct1 : Value} {kV1 : Value}
    {f2 : Addr} {od2 an2 : Option Addr} {sl2 : Array (Option Value)} {oc2 dc2 pm2 cd2 ct2 : Value} {kV2 : Value}
    {f3 : Addr} {od3 an3 : Option Addr} {sl3 : Array (Option Value)} {oc3 dc3 pm3 cd3 ct3 : Value} {kV3 : Value}
    {f4 : Addr} {od4 an4 : Option Addr} {sl4 : Array (Option Value)} {oc4 dc4 pm4 cd4 ct4 : Value} {kV4 : Value}
    {f5 : Addr} {od5 an5 : Option Addr} {sl5 : Array (Option Value)} {oc5 dc5 pm5 cd5 ct5 : Value} {kV5 : Value}
    {f6 : Addr} {od6 an6 : Option Addr} {sl6 : Array (Option Value)} {oc6 dc6 pm6 cd6 ct6 : Value} {kV6 : Value}
    {f7 : Addr} {od7 an7 : Option Addr} {sl7 : Array (Option Value)} {oc7 dc7 pm7 cd7 ct7 : Value} {kV7 : Value}
    {f8 : Addr} {od8 an8 : Option Addr} {sl8 : Array (Option Value)} {oc8 dc8 pm8 cd8 ct8 : Value} {kV8 : Value}
    {f9 : Addr} {od9 an9 : Option Addr} {sl9 : Array (Option Value)} {oc9 dc9 pm9 cd9 ct9 : Value} {kV9 : Value}
    {f10 : Addr} {od10 an10 : Option Addr} {sl10 : Array (Option Value)} {oc10 dc10 pm10 cd10 ct10 : Value} {kV10 : Value}
    {f11 : Addr} {od11 an11 : Option Addr} {sl11 : Array (Option Value)} {oc11 dc11 pm11 cd11 ct11 : Value} {kV11 : Value}
    {f12 : Addr} {od12 an12 : Option Addr} {sl12 : Array (Option Value)} {oc12 dc12 pm12 cd12 ct12 : Value} {kV12 : Value}
    {f13 : Addr} {od13 an13 : Option Addr} {sl13 : Array (Option Value)} {oc13 dc13 pm13 cd13 ct13 : Value} {kV13 : Value}
    {f14 : Addr} {od14 an14 : Option Addr} {sl14 : Array (Option Value)} {oc14 dc14 pm14 cd14 ct14 : Value} {kV14 : Value}
    {f15 : Addr} {od15 an15 : Option Addr} {sl15 : Array (Option Value)} {oc15 dc15 pm15 cd15 ct15 : Value} {kV15 : Value}
    {f16 : Addr} {od16 an16 : Option Addr} {sl16 : Array (Option Value)} {oc16 dc16 pm16 cd16 ct16 : Value} {kV16 : Value}
    {f17 : Addr} {od17 an17 : Option Addr} {sl17 : Array (Option Value)} {oc17 dc17 pm17 cd17 ct17 : Value} {kV17 : Value}
    {f18 : Addr} {od18 an18 : Option Addr} {sl18 : Array (Option Value)} {oc18 dc18 pm18 cd18 ct18 : Value} {kV18 : Value}
    {f19 : Addr} {od19 an19 : Option Addr} {sl19 : Array (Option Value)} {oc19 dc19 pm19 cd19 ct19 : Value} {kV19 : Value}
    {f20 : Addr} {od20 an20 : Option Addr} {sl20 : Array (Option Value)} {oc20 dc20 pm20 ct20 : Value} {kV20 : Value} {e20 : Addr}
    {q20 : Addr}
    {f21 : Addr} {od21 an21 : Option Addr} {sl21 : Array (Option Value)} {oc21 dc21 pm21 cd21 ct21 : Value} {kV21 : Value}
    {f22 : Addr} {od22 an22 : Option Addr} {sl22 : Array (Option Value)} {oc22 dc22 pm22 cd22 ct22 : Value} {kV22 : Value}
    {f23 : Addr} {od23 an23 : Option Addr} {sl23 : Array (Option Value)} {oc23 dc23 pm23 cd23 ct23 : Value} {kV23 : Value}
    {f24 : Addr} {od24 an24 : Option Addr} {sl24 : Array (Option Value)} {oc24 dc24 pm24 cd24 ct24 : Value} {kV24 : Value}
    {f25 : Addr} {od25 an25 : Option Addr} {sl25 : Array (Option Value)} {oc25 dc25 pm25 cd25 ct25 : Value} {kV25 : Value}
    {f26 : Addr} {od26 an26 : Option Addr} {sl26 : Array (Option Value)} {oc26 dc26 pm26 cd26 ct26 : Value} {kV26 : Value}
    {t_MOST : Tok}
    {t_WIDE : Tok}
    {A_NoSaying : Addr}
    {A_TooWide : Addr}
    {A_NoCount : Addr}
    {A_NoKeep : Addr}
    {A_NoNumber : Addr}
    {A_NoPrices : Addr}
    {A_NoRoom : Addr}
    {A_NoStep : Addr}
    {A_NoClasses : Addr}
    {A_NoWatcher : Addr}
    {A_Unlike : Addr}
    {A_WardError : Addr}
    {ox20 : Value} {dx20 : Option Addr} {vx20 : Array Value} {sx20 : Array (Option Value)}
    (a0 : PySem.W.nsIn K mainGlobals "_law_pot" = some (some (.ref f0))) (l0 : K.lookup f0 = some ⟨oc0, od0, .func (PySem.W.fnOf "_law_pot" "_law_pot" (defArgs s__law_pot) (defBody s__law_pot) (defScope s__law_pot) .none kV0 dc0 pm0 an0 cd0 ct0), sl0⟩) (c0 : PySem.W.codeIn K cd0 "_law_pot" = true) (k0 : PySem.W.keepIn K (.ref f0) = true)
    (a1 : PySem.W.nsIn K mainGlobals "_law_take" = some (some (.ref f1))) (l1 : K.lookup f1 = some ⟨oc1, od1, .func (PySem.W.fnOf "_law_take" "_law_take" (defArgs s__law_take) (defBody s__law_take) (defScope s__law_take) .none kV1 dc1 pm1 an1 cd1 ct1), sl1⟩) (c1 : PySem.W.codeIn K cd1 "_law_take" = true) (k1 : PySem.W.keepIn K (.ref f1) = true)
    (a2 : PySem.W.nsIn K mainGlobals "_law_room" = some (some (.ref f2))) (l2 : K.lookup f2 = some ⟨oc2, od2, .func (PySem.W.fnOf "_law_room" "_law_room" (defArgs s__law_room) (defBody s__law_room) (defScope s__law_room) .none kV2 dc2 pm2 an2 cd2 ct2), sl2⟩) (c2 : PySem.W.codeIn K cd2 "_law_room" = true) (k2 : PySem.W.keepIn K (.ref f2) = true)
    (a3 : PySem.W.nsIn K mainGlobals "_law_saying" = some (some (.ref f3))) (l3 : K.lookup f3 = some ⟨oc3, od3, .func (PySem.W.fnOf "_law_saying" "_law_saying" (defArgs s__law_saying) (defBody s__law_saying) (defScope s__law_saying) .none kV3 dc3 pm3 an3 cd3 ct3), sl3⟩) (c3 : PySem.W.codeIn K cd3 "_law_saying" = true) (k3 : PySem.W.keepIn K (.ref f3) = true)
    (a4 : PySem.W.nsIn K mainGlobals "_law_any" = some (some (.ref f4))) (l4 : K.lookup f4 = some ⟨oc4, od4, .func (PySem.W.fnOf "_law_any" "_law_any" (defArgs s__law_any) (defBody s__law_any) (defScope s__law_any) .none kV4 dc4 pm4 an4 cd4 ct4), sl4⟩) (c4 : PySem.W.codeIn K cd4 "_law_any" = true) (k4 : PySem.W.keepIn K (.ref f4) = true)
    (a5 : PySem.W.nsIn K mainGlobals "_law_whole" = some (some (.ref f5))) (l5 : K.lookup f5 = some ⟨oc5, od5, .func (PySem.W.fnOf "_law_whole" "_law_whole" (defArgs s__law_whole) (defBody s__law_whole) (defScope s__law_whole) .none kV5 dc5 pm5 an5 cd5 ct5), sl5⟩) (c5 : PySem.W.codeIn K cd5 "_law_whole" = true) (k5 : PySem.W.keepIn K (.ref f5) = true)
    (a6 : PySem.W.nsIn K mainGlobals "_law_other" = some (some (.ref f6))) (l6 : K.lookup f6 = some ⟨oc6, od6, .func (PySem.W.fnOf "_law_other" "_law_other" (defArgs s__law_other) (defBody s__law_other) (defScope s__law_other) .none kV6 dc6 pm6 an6 cd6 ct6), sl6⟩) (c6 : PySem.W.codeIn K cd6 "_law_other" = true) (k6 : PySem.W.keepIn K (.ref f6) = true)
    (a7 : PySem.W.nsIn K mainGlobals "_law_is_saying" = some (some (.ref f7))) (l7 : K.lookup f7 = some ⟨oc7, od7, .func (PySem.W.fnOf "_law_is_saying" "_law_is_saying" (defArgs s__law_is_saying) (defBody s__law_is_saying) (defScope s__law_is_saying) .none kV7 dc7 pm7 an7 cd7 ct7), sl7⟩) (c7 : PySem.W.codeIn K cd7 "_law_is_saying" = true) (k7 : PySem.W.keepIn K (.ref f7) = true)
    (a8 : PySem.W.nsIn K mainGlobals "_law_lag" = some (some (.ref f8))) (l8 : K.lookup f8 = some ⟨oc8, od8, .func (PySem.W.fnOf "_law_lag" "_law_lag" (defArgs s__law_lag) (defBody s__law_lag) (defScope s__law_lag) .none kV8 dc8 pm8 an8 cd8 ct8), sl8⟩) (c8 : PySem.W.codeIn K cd8 "_law_lag" = true) (k8 : PySem.W.keepIn K (.ref f8) = true)
    (a9 : PySem.W.nsIn K mainGlobals "_law_same" = some (some (.ref f9))) (l9 : K.lookup f9 = some ⟨oc9, od9, .func (PySem.W.fnOf "_law_same" "_law_same" (defArgs s__law_same) (defBody s__law_same) (defScope s__law_same) .none kV9 dc9 pm9 an9 cd9 ct9), sl9⟩) (c9 : PySem.W.codeIn K cd9 "_law_same" = true) (k9 : PySem.W.keepIn K (.ref f9) = true)
    (a10 : PySem.W.nsIn K mainGlobals "is_row" = some (some (.ref f10))) (l10 : K.lookup f10 = some ⟨oc10, od10, .func (PySem.W.fnOf "is_row" "is_row" (defArgs s_is_row) (defBody s_is_row) (defScope s_is_row) .none kV10 dc10 pm10 an10 cd10 ct10), sl10⟩) (c10 : PySem.W.codeIn K cd10 "is_row" = true) (k10 : PySem.W.keepIn K (.ref f10) = true)
    (a11 : PySem.W.nsIn K mainGlobals "is_whole" = some (some (.ref f11))) (l11 : K.lookup f11 = some ⟨oc11, od11, .func (PySem.W.fnOf "is_whole" "is_whole" (defArgs s_is_whole) (defBody s_is_whole) (defScope s_is_whole) .none kV11 dc11 pm11 an11 cd11 ct11), sl11⟩) (c11 : PySem.W.codeIn K cd11 "is_whole" = true) (k11 : PySem.W.keepIn K (.ref f11) = true)
    (a12 : PySem.W.nsIn K mainGlobals "is_count" = some (some (.ref f12))) (l12 : K.lookup f12 = some ⟨oc12, od12, .func (PySem.W.fnOf "is_count" "is_count" (defArgs s_is_count) (defBody s_is_count) (defScope s_is_count) .none kV12 dc12 pm12 an12 cd12 ct12), sl12⟩) (c12 : PySem.W.codeIn K cd12 "is_count" = true) (k12 : PySem.W.keepIn K (.ref f12) = true)
    (a13 : PySem.W.nsIn K mainGlobals "is_below" = some (some (.ref f13))) (l13 : K.lookup f13 = some ⟨oc13, od13, .func (PySem.W.fnOf "is_below" "is_below" (defArgs s_is_below) (defBody s_is_below) (defScope s_is_below) .none kV13 dc13 pm13 an13 cd13 ct13), sl13⟩) (c13 : PySem.W.codeIn K cd13 "is_below" = true) (k13 : PySem.W.keepIn K (.ref f13) = true)
    (a14 : PySem.W.nsIn K mainGlobals "is_room" = some (some (.ref f14))) (l14 : K.lookup f14 = some ⟨oc14, od14, .func (PySem.W.fnOf "is_room" "is_room" (defArgs s_is_room) (defBody s_is_room) (defScope s_is_room) .none kV14 dc14 pm14 an14 cd14 ct14), sl14⟩) (c14 : PySem.W.codeIn K cd14 "is_room" = true) (k14 : PySem.W.keepIn K (.ref f14) = true)
    (a15 : PySem.W.nsIn K mainGlobals "is_saying" = some (some (.ref f15))) (l15 : K.lookup f15 = some ⟨oc15, od15, .func (PySem.W.fnOf "is_saying" "is_saying" (defArgs s_is_saying) (defBody s_is_saying) (defScope s_is_saying) .none kV15 dc15 pm15 an15 cd15 ct15), sl15⟩) (c15 : PySem.W.codeIn K cd15 "is_saying" = true) (k15 : PySem.W.keepIn K (.ref f15) = true)
    (a16 : PySem.W.nsIn K mainGlobals "need_saying" = some (some (.ref f16))) (l16 : K.lookup f16 = some ⟨oc16, od16, .func (PySem.W.fnOf "need_saying" "need_saying" (defArgs s_need_saying) (defBody s_need_saying) (defScope s_need_saying) .none kV16 dc16 pm16 an16 cd16 ct16), sl16⟩) (c16 : PySem.W.codeIn K cd16 "need_saying" = true) (k16 : PySem.W.keepIn K (.ref f16) = true)
    (a17 : PySem.W.nsIn K mainGlobals "first_come" = some (some (.ref f17))) (l17 : K.lookup f17 = some ⟨oc17, od17, .func (PySem.W.fnOf "first_come" "first_come" (defArgs s_first_come) (defBody s_first_come) (defScope s_first_come) .none kV17 dc17 pm17 an17 cd17 ct17), sl17⟩) (c17 : PySem.W.codeIn K cd17 "first_come" = true) (k17 : PySem.W.keepIn K (.ref f17) = true)
    (a18 : PySem.W.nsIn K mainGlobals "come_to" = some (some (.ref f18))) (l18 : K.lookup f18 = some ⟨oc18, od18, .func (PySem.W.fnOf "come_to" "come_to" (defArgs s_come_to) (defBody s_come_to) (defScope s_come_to) .none kV18 dc18 pm18 an18 cd18 ct18), sl18⟩) (c18 : PySem.W.codeIn K cd18 "come_to" = true) (k18 : PySem.W.keepIn K (.ref f18) = true)
    (a19 : PySem.W.nsIn K mainGlobals "breaks_by_some" = some (some (.ref f19))) (l19 : K.lookup f19 = some ⟨oc19, od19, .func (PySem.W.fnOf "breaks_by_some" "breaks_by_some" (defArgs s_breaks_by_some) (defBody s_breaks_by_some) (defScope s_breaks_by_some) .none kV19 dc19 pm19 an19 cd19 ct19), sl19⟩) (c19 : PySem.W.codeIn K cd19 "breaks_by_some" = true) (k19 : PySem.W.keepIn K (.ref f19) = true)
    (a20 : PySem.W.nsIn K mainGlobals "lag" = some (some (.ref f20))) (l20 : K.lookup f20 = some ⟨oc20, od20, .func (PySem.W.fnOf "lag" "lag" (defArgs s_lag) (defBody s_lag) (defScope s_lag) .none kV20 dc20 pm20 an20 (.ref e20) ct20), sl20⟩) (c20 : PySem.W.codeIn K (.ref e20) "lag" = true) (k20 : PySem.W.keepIn K (.ref f20) = true)
    (a21 : PySem.W.nsIn K mainGlobals "late" = some (some (.ref f21))) (l21 : K.lookup f21 = some ⟨oc21, od21, .func (PySem.W.fnOf "late" "late" (defArgs s_late) (defBody s_late) (defScope s_late) .none kV21 dc21 pm21 an21 cd21 ct21), sl21⟩) (c21 : PySem.W.codeIn K cd21 "late" = true) (k21 : PySem.W.keepIn K (.ref f21) = true)
    (a22 : PySem.W.nsIn K mainGlobals "rooms_late" = some (some (.ref f22))) (l22 : K.lookup f22 = some ⟨oc22, od22, .func (PySem.W.fnOf "rooms_late" "rooms_late" (defArgs s_rooms_late) (defBody s_rooms_late) (defScope s_rooms_late) .none kV22 dc22 pm22 an22 cd22 ct22), sl22⟩) (c22 : PySem.W.codeIn K cd22 "rooms_late" = true) (k22 : PySem.W.keepIn K (.ref f22) = true)
    (a23 : PySem.W.nsIn K mainGlobals "_law_word" = some (some (.ref f23))) (l23 : K.lookup f23 = some ⟨oc23, od23, .func (PySem.W.fnOf "_law_word" "_law_word" (defArgs s__law_word) (defBody s__law_word) (defScope s__law_word) .none kV23 dc23 pm23 an23 cd23 ct23), sl23⟩) (c23 : PySem.W.codeIn K cd23 "_law_word" = true) (k23 : PySem.W.keepIn K (.ref f23) = true)
    (a24 : PySem.W.nsIn K mainGlobals "_law_asked" = some (some (.ref f24))) (l24 : K.lookup f24 = some ⟨oc24, od24, .func (PySem.W.fnOf "_law_asked" "_law_asked" (defArgs s__law_asked) (defBody s__law_asked) (defScope s__law_asked) .none kV24 dc24 pm24 an24 cd24 ct24), sl24⟩) (c24 : PySem.W.codeIn K cd24 "_law_asked" = true) (k24 : PySem.W.keepIn K (.ref f24) = true)
    (a25 : PySem.W.nsIn K mainGlobals "_law_right" = some (some (.ref f25))) (l25 : K.lookup f25 = some ⟨oc25, od25, .func (PySem.W.fnOf "_law_right" "_law_right" (defArgs s__law_right) (defBody s__law_right) (defScope s__law_right) .none kV25 dc25 pm25 an25 cd25 ct25), sl25⟩) (c25 : PySem.W.codeIn K cd25 "_law_right" = true) (k25 : PySem.W.keepIn K (.ref f25) = true)
    (a26 : PySem.W.nsIn K mainGlobals "law" = some (some (.ref f26))) (l26 : K.lookup f26 = some ⟨oc26, od26, .func (PySem.W.fnOf "law" "law" (defArgs s_law) (defBody s_law) (defScope s_law) .none kV26 dc26 pm26 an26 cd26 ct26), sl26⟩) (c26 : PySem.W.codeIn K cd26 "law" = true) (k26 : PySem.W.keepIn K (.ref f26) = true)
    (b_ValueError : PySem.W.nsIn K mainGlobals "ValueError" = some none)
    (b_abs : PySem.W.nsIn K mainGlobals "abs" = some none)
    (b_all : PySem.W.nsIn K mainGlobals "all" = some none)
    (b_any : PySem.W.nsIn K mainGlobals "any" = some none)
    (b_at : PySem.W.nsIn K mainGlobals "at" = some none)
    (b_bool : PySem.W.nsIn K mainGlobals "bool" = some none)
    (b_deed : PySem.W.nsIn K mainGlobals "deed" = some none)
    (b_int : PySem.W.nsIn K mainGlobals "int" = some none)
    (b_isinstance : PySem.W.nsIn K mainGlobals "isinstance" = some none)
    (b_len : PySem.W.nsIn K mainGlobals "len" = some none)
    (b_list : PySem.W.nsIn K mainGlobals "list" = some none)
    (b_max : PySem.W.nsIn K mainGlobals "max" = some none)
    (b_min : PySem.W.nsIn K mainGlobals "min" = some none)
    (b_range : PySem.W.nsIn K mainGlobals "range" = some none)
    (b_repr : PySem.W.nsIn K mainGlobals "repr" = some none)
    (b_room : PySem.W.nsIn K mainGlobals "room" = some none)
    (b_str : PySem.W.nsIn K mainGlobals "str" = some none)
    (b_told : PySem.W.nsIn K mainGlobals "told" = some none)
    (b_tuple : PySem.W.nsIn K mainGlobals "tuple" = some none)
    (b_zip : PySem.W.nsIn K mainGlobals "zip" = some none)
    (c_MOST : PySem.W.nsIn K mainGlobals "MOST" = some (some (.int 100 t_MOST)))
    (c_WIDE : PySem.W.nsIn K mainGlobals "WIDE" = some (some (.int 9 t_WIDE)))
    (g_NoSaying : PySem.W.nsIn K mainGlobals "NoSaying" = some (some (.ref A_NoSaying)))
    (g_TooWide : PySem.W.nsIn K mainGlobals "TooWide" = some (some (.ref A_TooWide)))
    (g_NoCount : PySem.W.nsIn K mainGlobals "NoCount" = some (some (.ref A_NoCount)))
    (g_NoKeep : PySem.W.nsIn K mainGlobals "NoKeep" = some (some (.ref A_NoKeep)))
    (g_NoNumber : PySem.W.nsIn K mainGlobals "NoNumber" = some (some (.ref A_NoNumber)))
    (g_NoPrices : PySem.W.nsIn K mainGlobals "NoPrices" = some (some (.ref A_NoPrices)))
    (g_NoRoom : PySem.W.nsIn K mainGlobals "NoRoom" = some (some (.ref A_NoRoom)))
    (g_NoStep : PySem.W.nsIn K mainGlobals "NoStep" = some (some (.ref A_NoStep)))
    (g_NoClasses : PySem.W.nsIn K mainGlobals "NoClasses" = some (some (.ref A_NoClasses)))
    (g_NoWatcher : PySem.W.nsIn K mainGlobals "NoWatcher" = some (some (.ref A_NoWatcher)))
    (g_Unlike : PySem.W.nsIn K mainGlobals "Unlike" = some (some (.ref A_Unlike)))
    (g_WardError : PySem.W.nsIn K mainGlobals "WardError" = some (some (.ref A_WardError)))
    (x_NoSaying : PySem.W.excIn K A_NoSaying veB "ValueError.__new__" = true)
    (kp_NoSaying : PySem.W.keepIn K (.ref A_NoSaying) = true)
    (bs_NoSaying : PySem.W.subIn K (.ref A_NoSaying) (.type "BaseException") = some true)
    (ty_NoSaying : PySem.W.typeIn K (.ref A_NoSaying) = some (.type "type"))
    (x_TooWide : PySem.W.excIn K A_TooWide veB "ValueError.__new__" = true)
    (kp_TooWide : PySem.W.keepIn K (.ref A_TooWide) = true)
    (bs_TooWide : PySem.W.subIn K (.ref A_TooWide) (.type "BaseException") = some true)
    (ty_TooWide : PySem.W.typeIn K (.ref A_TooWide) = some (.type "type"))
    (x_NoCount : PySem.W.excIn K A_NoCount veB "ValueError.__new__" = true)
    (kp_NoCount : PySem.W.keepIn K (.ref A_NoCount) = true)
    (bs_NoCount : PySem.W.subIn K (.ref A_NoCount) (.type "BaseException") = some true)
    (ty_NoCount : PySem.W.typeIn K (.ref A_NoCount) = some (.type "type"))
    (x_NoKeep : PySem.W.excIn K A_NoKeep veB "ValueError.__new__" = true)
    (kp_NoKeep : PySem.W.keepIn K (.ref A_NoKeep) = true)
    (bs_NoKeep : PySem.W.subIn K (.ref A_NoKeep) (.type "BaseException") = some true)
    (ty_NoKeep : PySem.W.typeIn K (.ref A_NoKeep) = some (.type "type"))
    (x_NoNumber : PySem.W.excIn K A_NoNumber veB "ValueError.__new__" = true)
    (kp_NoNumber : PySem.W.keepIn K (.ref A_NoNumber) = true)
    (bs_NoNumber : PySem.W.subIn K (.ref A_NoNumber) (.type "BaseException") = some true)
    (ty_NoNumber : PySem.W.typeIn K (.ref A_NoNumber) = some (.type "type"))
    (x_NoPrices : PySem.W.excIn K A_NoPrices veB "ValueError.__new__" = true)
    (kp_NoPrices : PySem.W.keepIn K (.ref A_NoPrices) = true)
    (bs_NoPrices : PySem.W.subIn K (.ref A_NoPrices) (.type "BaseException") = some true)
    (ty_NoPrices : PySem.W.typeIn K (.ref A_NoPrices) = some (.type "type"))
    (x_NoRoom : PySem.W.excIn K A_NoRoom veB "ValueError.__new__" = true)
    (kp_NoRoom : PySem.W.keepIn K (.ref A_NoRoom) = true)
    (bs_NoRoom : PySem.W.subIn K (.ref A_NoRoom) (.type "BaseException") = some true)
    (ty_NoRoom : PySem.W.typeIn K (.ref A_NoRoom) = some (.type "type"))
    (x_NoStep : PySem.W.excIn K A_NoStep veB "ValueError.__new__" = true)
    (kp_NoStep : PySem.W.keepIn K (.ref A_NoStep) = true)
    (bs_NoStep : PySem.W.subIn K (.ref A_NoStep) (.type "BaseException") = some true)
    (ty_NoStep : PySem.W.typeIn K (.ref A_NoStep) = some (.type "type"))
    (x_NoClasses : PySem.W.excIn K A_NoClasses veB "ValueError.__new__" = true)
    (kp_NoClasses : PySem.W.keepIn K (.ref A_NoClasses) = true)
    (bs_NoClasses : PySem.W.subIn K (.ref A_NoClasses) (.type "BaseException") = some true)
    (ty_NoClasses : PySem.W.typeIn K (.ref A_NoClasses) = some (.type "type"))
    (x_NoWatcher : PySem.W.excIn K A_NoWatcher veB "ValueError.__new__" = true)
    (kp_NoWatcher : PySem.W.keepIn K (.ref A_NoWatcher) = true)
    (bs_NoWatcher : PySem.W.subIn K (.ref A_NoWatcher) (.type "BaseException") = some true)
    (ty_NoWatcher : PySem.W.typeIn K (.ref A_NoWatcher) = some (.type "type"))
    (x_Unlike : PySem.W.excIn K A_Unlike veB "ValueError.__new__" = true)
    (kp_Unlike : PySem.W.keepIn K (.ref A_Unlike) = true)
    (bs_Unlike : PySem.W.subIn K (.ref A_Unlike) (.type "BaseException") = some true)
    (ty_Unlike : PySem.W.typeIn K (.ref A_Unlike) = some (.type "type"))
    (wb : PySem.W.subIn K (.ref A_WardError) (.type "BaseException") = some true)
    (wd : PySem.W.hasDictIn K A_WardError = true)
    (wt : PySem.W.typeIn K (.ref A_WardError) = some (.type "type"))
    (xhn : PySem.W.specialIn K (.builtin "object.__class__") "__get__" = some (some (.builtin "getset_descriptor.__get__")))
    (xht : PySem.W.takesIn K (.builtin "object.__class__") = some true)
    (hd_NoCount : PySem.W.hasDictIn K A_NoCount = true)
    (yt_NoCount : PySem.W.typeIn K (.ref A_NoCount) = some (.type "type"))
    (hd_NoKeep : PySem.W.hasDictIn K A_NoKeep = true)
    (yt_NoKeep : PySem.W.typeIn K (.ref A_NoKeep) = some (.type "type"))
    (hd_NoNumber : PySem.W.hasDictIn K A_NoNumber = true)
    (yt_NoNumber : PySem.W.typeIn K (.ref A_NoNumber) = some (.type "type"))
    (hd_NoPrices : PySem.W.hasDictIn K A_NoPrices = true)
    (yt_NoPrices : PySem.W.typeIn K (.ref A_NoPrices) = some (.type "type"))
    (hd_NoRoom : PySem.W.hasDictIn K A_NoRoom = true)
    (yt_NoRoom : PySem.W.typeIn K (.ref A_NoRoom) = some (.type "type"))
    (hd_NoStep : PySem.W.hasDictIn K A_NoStep = true)
    (yt_NoStep : PySem.W.typeIn K (.ref A_NoStep) = some (.type "type"))
    (hd_NoClasses : PySem.W.hasDictIn K A_NoClasses = true)
    (yt_NoClasses : PySem.W.typeIn K (.ref A_NoClasses) = some (.type "type"))
    (hd_NoWatcher : PySem.W.hasDictIn K A_NoWatcher = true)
    (yt_NoWatcher : PySem.W.typeIn K (.ref A_NoWatcher) = some (.type "type"))
    (hd_Unlike : PySem.W.hasDictIn K A_Unlike = true)
    (yt_Unlike : PySem.W.typeIn K (.ref A_Unlike) = some (.type "type"))
    (sb_NoSaying : PySem.W.subIn K (.ref A_NoSaying) (.ref A_WardError) = some true)
    (hg_NoSaying : PySem.W.findIn K (.ref A_NoSaying) "__getattribute__" = some (some (.builtin "BaseException.__getattribute__")))
    (hk_NoSaying : PySem.W.findIn K (.ref A_NoSaying) "__getattr__" = some none)
    (hs_NoSaying : PySem.W.subIn K (.ref A_NoSaying) (.type "BaseException") = some true)
    (hd_NoSaying : PySem.W.hasDictIn K A_NoSaying = true)
    (ha_NoSaying : PySem.W.findIn K (.ref A_NoSaying) "__class__" = some (some (.builtin "object.__class__")))
    (hm_NoSaying : PySem.W.mroIn K A_NoSaying (.type "object") = some true)
    (sf_NoSaying : PySem.W.subIn K (.ref A_NoSaying) (.ref A_NoSaying) = some true)
    (yt_NoSaying : PySem.W.typeIn K (.ref A_NoSaying) = some (.type "type"))
    (sv_NoSaying : PySem.W.subIn K (.ref A_NoSaying) (.type "ValueError") = some true)
    (kt_NoSaying_TooWide : PySem.W.subIn K (.ref A_NoSaying) (.ref A_TooWide) = some false)
    (kt_NoSaying_NoCount : PySem.W.subIn K (.ref A_NoSaying) (.ref A_NoCount) = some false)
    (kt_NoSaying_NoKeep : PySem.W.subIn K (.ref A_NoSaying) (.ref A_NoKeep) = some false)
    (kt_NoSaying_NoNumber : PySem.W.subIn K (.ref A_NoSaying) (.ref A_NoNumber) = some false)
    (kt_NoSaying_NoPrices : PySem.W.subIn K (.ref A_NoSaying) (.ref A_NoPrices) = some false)
    (kt_NoSaying_NoRoom : PySem.W.subIn K (.ref A_NoSaying) (.ref A_NoRoom) = some false)
    (kt_NoSaying_NoStep : PySem.W.subIn K (.ref A_NoSaying) (.ref A_NoStep) = some false)
    (kt_NoSaying_NoClasses : PySem.W.subIn K (.ref A_NoSaying) (.ref A_NoClasses) = some false)
    (kt_NoSaying_NoWatcher : PySem.W.subIn K (.ref A_NoSaying) (.ref A_NoWatcher) = some false)
    (kt_NoSaying_Unlike : PySem.W.subIn K (.ref A_NoSaying) (.ref A_Unlike) = some false)
    (sb_TooWide : PySem.W.subIn K (.ref A_TooWide) (.ref A_WardError) = some true)
    (hg_TooWide : PySem.W.findIn K (.ref A_TooWide) "__getattribute__" = some (some (.builtin "BaseException.__getattribute__")))
    (hk_TooWide : PySem.W.findIn K (.ref A_TooWide) "__getattr__" = some none)
    (hs_TooWide : PySem.W.subIn K (.ref A_TooWide) (.type "BaseException") = some true)
    (hd_TooWide : PySem.W.hasDictIn K A_TooWide = true)
    (ha_TooWide : PySem.W.findIn K (.ref A_TooWide) "__class__" = some (some (.builtin "object.__class__")))
    (hm_TooWide : PySem.W.mroIn K A_TooWide (.type "object") = some true)
    (sf_TooWide : PySem.W.subIn K (.ref A_TooWide) (.ref A_TooWide) = some true)
    (yt_TooWide : PySem.W.typeIn K (.ref A_TooWide) = some (.type "type"))
    (sv_TooWide : PySem.W.subIn K (.ref A_TooWide) (.type "ValueError") = some true)
    (kt_TooWide_NoSaying : PySem.W.subIn K (.ref A_TooWide) (.ref A_NoSaying) = some false)
    (kt_TooWide_NoCount : PySem.W.subIn K (.ref A_TooWide) (.ref A_NoCount) = some false)
    (kt_TooWide_NoKeep : PySem.W.subIn K (.ref A_TooWide) (.ref A_NoKeep) = some false)
    (kt_TooWide_NoNumber : PySem.W.subIn K (.ref A_TooWide) (.ref A_NoNumber) = some false)
    (kt_TooWide_NoPrices : PySem.W.subIn K (.ref A_TooWide) (.ref A_NoPrices) = some false)
    (kt_TooWide_NoRoom : PySem.W.subIn K (.ref A_TooWide) (.ref A_NoRoom) = some false)
    (kt_TooWide_NoStep : PySem.W.subIn K (.ref A_TooWide) (.ref A_NoStep) = some false)
    (kt_TooWide_NoClasses : PySem.W.subIn K (.ref A_TooWide) (.ref A_NoClasses) = some false)
    (kt_TooWide_NoWatcher : PySem.W.subIn K (.ref A_TooWide) (.ref A_NoWatcher) = some false)
    (kt_TooWide_Unlike : PySem.W.subIn K (.ref A_TooWide) (.ref A_Unlike) = some false)
    (u20 : K.lookup e20 = some ⟨ox20, dx20, .fields vx20, sx20⟩) (v20 : vx20[11]? = some (.ref q20))
    (z20 : PySem.W.codeHdIn K e20 q20 = true)
    (y20 : K.lookup q20 = none)
    (hy20 : h.get? q20 = some { cls := .none, data := .fields #[] }) :
    ∃ (fd : FuncData) (cs : List (Addr × Addr)) (T : TabsC), (∀ p ∈ cs, h.get? p.2 = some { cls := .none, data := .fields #[] }) ∧ (∀ p ∈ cs, K.lookup p.2 = none) ∧ (∀ p ∈ cs, PySem.W.CodeHd h p.1 p.2) ∧ (∀ p ∈ T.T, ∃ c, (c, p.1) ∈ cs) ∧ (∀ (s : Shared) (u : Value), BindsTo s fd ⟨[u], []⟩ [("script", u)]) ∧ ∀ base : Heap, K.In base → base.Ns mainGlobals mg → (∀ p ∈ cs, TabB base mg p.1 p.2) → FnG l.prog w K mg base CX0 19 fa fd ["script"] (@liftF T K S_lawC.p) := by
  letI I0 : TabsC := ⟨[(q20, nm_lag)]⟩
  obtain ⟨fd, hb, hF⟩ := all_mk (l := l) (w := w) X G hfa a0 l0 c0 k0 a1 l1 c1 k1 a2 l2 c2 k2 a3 l3 c3 k3 a4 l4 c4 k4 a5 l5 c5 k5 a6 l6 c6 k6 a7 l7 c7 k7 a8 l8 c8 k8 a9 l9 c9 k9 a10 l10 c10 k10 a11 l11 c11 k11 a12 l12 c12 k12 a13 l13 c13 k13 a14 l14 c14 k14 a15 l15 c15 k15 a16 l16 c16 k16 a17 l17 c17 k17 a18 l18 c18 k18 a19 l19 c19 k19 a20 l20 c20 k20 a21 l21 c21 k21 a22 l22 c22 k22 a23 l23 c23 k23 a24 l24 c24 k24 a25 l25 c25 k25 a26 l26 c26 k26 b_ValueError b_abs b_all b_any b_at b_bool b_deed b_int b_isinstance b_len b_list b_max b_min b_range b_repr b_room b_str b_told b_tuple b_zip c_MOST c_WIDE g_NoSaying g_TooWide g_NoCount g_NoKeep g_NoNumber g_NoPrices g_NoRoom g_NoStep g_NoClasses g_NoWatcher g_Unlike g_WardError x_NoSaying kp_NoSaying bs_NoSaying ty_NoSaying x_TooWide kp_TooWide bs_TooWide ty_TooWide x_NoCount kp_NoCount bs_NoCount ty_NoCount x_NoKeep kp_NoKeep bs_NoKeep ty_NoKeep x_NoNumber kp_NoNumber bs_NoNumber ty_NoNumber x_NoPrices kp_NoPrices bs_NoPrices ty_NoPrices x_NoRoom kp_NoRoom bs_NoRoom ty_NoRoom x_NoStep kp_NoStep bs_NoStep ty_NoStep x_NoClasses kp_NoClasses bs_NoClasses ty_NoClasses x_NoWatcher kp_NoWatcher bs_NoWatcher ty_NoWatcher x_Unlike kp_Unlike bs_Unlike ty_Unlike wb wd wt xhn xht hd_NoCount yt_NoCount hd_NoKeep yt_NoKeep hd_NoNumber yt_NoNumber hd_NoPrices yt_NoPrices hd_NoRoom yt_NoRoom hd_NoStep yt_NoStep hd_NoClasses yt_NoClasses hd_NoWatcher yt_NoWatcher hd_Unlike yt_Unlike sb_NoSaying hg_NoSaying hk_NoSaying hs_NoSaying hd_NoSaying ha_NoSaying hm_NoSaying sf_NoSaying yt_NoSaying sv_NoSaying kt_NoSaying_TooWide kt_NoSaying_NoCount kt_NoSaying_NoKeep kt_NoSaying_NoNumber kt_NoSaying_NoPrices kt_NoSaying_NoRoom kt_NoSaying_NoStep kt_NoSaying_NoClasses kt_NoSaying_NoWatcher kt_NoSaying_Unlike sb_TooWide hg_TooWide hk_TooWide hs_TooWide hd_TooWide ha_TooWide hm_TooWide sf_TooWide yt_TooWide sv_TooWide kt_TooWide_NoSaying kt_TooWide_NoCount kt_TooWide_NoKeep kt_TooWide_NoNumber kt_TooWide_NoPrices kt_TooWide_NoRoom kt_TooWide_NoStep kt_TooWide_NoClasses kt_TooWide_NoWatcher kt_TooWide_Unlike (show (q20, nm_lag) ∈ [(q20, nm_lag)] by simp) (fun p hp e => by have hp : p ∈ [(q20, nm_lag)] := hp; simp only [List.mem_cons, List.not_mem_nil, or_false] at hp; rcases hp with rfl <;> first | rfl | rfl)
  exact ⟨fd, [(e20, q20)], I0, (List.forall_mem_cons.mpr ⟨hy20, (fun _ h => nomatch h)⟩), (List.forall_mem_cons.mpr ⟨y20, (fun _ h => nomatch h)⟩), (List.forall_mem_cons.mpr ⟨PySem.W.codeHd_of_K X z20, (fun _ h => nomatch h)⟩), (List.forall_mem_cons.mpr ⟨⟨e20, by simp⟩, (fun _ h => nomatch h)⟩), hb, hF⟩
end K75
open PySem PySem.W PyProof.Rows
set_option maxRecDepth 100000 in
set_option maxHeartbeats 0 in
theorem PySem.Challenge.cw_mildwarden_k75_late_holds : PySem.Challenge.rw_mildwarden_k75_late.Holds := by
  w_on; o_law; k_head; (case hw => w_witness2)
  k_fill
  letI : M3.TabsC := ⟨[]⟩
  refine M3.walkG (l := PySem.Challenge.rw_mildwarden_k75_late) (k := 19) rfl rfl ⟨rfl, by decide, by decide⟩ (fun w h Y => PySem.W.km_in_of Y) ?F
  case F =>
    intro w mg fa h Y KX G hmg
    refine' K75.all_mkT KX G hmg ?a0 ?l0 ?c0 ?k0 ?a1 ?l1 ?c1 ?k1 ?a2 ?l2 ?c2 ?k2 ?a3 ?l3 ?c3 ?k3 ?a4 ?l4 ?c4 ?k4 ?a5 ?l5 ?c5 ?k5 ?a6 ?l6 ?c6 ?k6 ?a7 ?l7 ?c7 ?k7 ?a8 ?l8 ?c8 ?k8 ?a9 ?l9 ?c9 ?k9 ?a10 ?l10 ?c10 ?k10 ?a11 ?l11 ?c11 ?k11 ?a12 ?l12 ?c12 ?k12 ?a13 ?l13 ?c13 ?k13 ?a14 ?l14 ?c14 ?k14 ?a15 ?l15 ?c15 ?k15 ?a16 ?l16 ?c16 ?k16 ?a17 ?l17 ?c17 ?k17 ?a18 ?l18 ?c18 ?k18 ?a19 ?l19 ?c19 ?k19 ?a20 ?l20 ?c20 ?k20 ?a21 ?l21 ?c21 ?k21 ?a22 ?l22 ?c22 ?k22 ?a23 ?l23 ?c23 ?k23 ?a24 ?l24 ?c24 ?k24 ?a25 ?l25 ?c25 ?k25 ?a26 ?l26 ?c26 ?k26 ?b_ValueError ?b_abs ?b_all ?b_any ?b_at ?b_bool ?b_deed ?b_int ?b_isinstance ?b_len ?b_list ?b_max ?b_min ?b_range ?b_repr ?b_room ?b_str ?b_told ?b_tuple ?b_zip ?c_MOST ?c_WIDE ?g_NoSaying ?g_TooWide ?g_NoCount ?g_NoKeep ?g_NoNumber ?g_NoPrices ?g_NoRoom ?g_NoStep ?g_NoClasses ?g_NoWatcher ?g_Unlike ?g_WardError ?x_NoSaying ?kp_NoSaying ?bs_NoSaying ?ty_NoSaying ?x_TooWide ?kp_TooWide ?bs_TooWide ?ty_TooWide ?x_NoCount ?kp_NoCount ?bs_NoCount ?ty_NoCount ?x_NoKeep ?kp_NoKeep ?bs_NoKeep ?ty_NoKeep ?x_NoNumber ?kp_NoNumber ?bs_NoNumber ?ty_NoNumber ?x_NoPrices ?kp_NoPrices ?bs_NoPrices ?ty_NoPrices ?x_NoRoom ?kp_NoRoom ?bs_NoRoom ?ty_NoRoom ?x_NoStep ?kp_NoStep ?bs_NoStep ?ty_NoStep ?x_NoClasses ?kp_NoClasses ?bs_NoClasses ?ty_NoClasses ?x_NoWatcher ?kp_NoWatcher ?bs_NoWatcher ?ty_NoWatcher ?x_Unlike ?kp_Unlike ?bs_Unlike ?ty_Unlike ?wb ?wd ?wt ?xhn ?xht ?hd_NoCount ?yt_NoCount ?hd_NoKeep ?yt_NoKeep ?hd_NoNumber ?yt_NoNumber ?hd_NoPrices ?yt_NoPrices ?hd_NoRoom ?yt_NoRoom ?hd_NoStep ?yt_NoStep ?hd_NoClasses ?yt_NoClasses ?hd_NoWatcher ?yt_NoWatcher ?hd_Unlike ?yt_Unlike ?sb_NoSaying ?hg_NoSaying ?hk_NoSaying ?hs_NoSaying ?hd_NoSaying ?ha_NoSaying ?hm_NoSaying ?sf_NoSaying ?yt_NoSaying ?sv_NoSaying ?kt_NoSaying_TooWide ?kt_NoSaying_NoCount ?kt_NoSaying_NoKeep ?kt_NoSaying_NoNumber ?kt_NoSaying_NoPrices ?kt_NoSaying_NoRoom ?kt_NoSaying_NoStep ?kt_NoSaying_NoClasses ?kt_NoSaying_NoWatcher ?kt_NoSaying_Unlike ?sb_TooWide ?hg_TooWide ?hk_TooWide ?hs_TooWide ?hd_TooWide ?ha_TooWide ?hm_TooWide ?sf_TooWide ?yt_TooWide ?sv_TooWide ?kt_TooWide_NoSaying ?kt_TooWide_NoCount ?kt_TooWide_NoKeep ?kt_TooWide_NoNumber ?kt_TooWide_NoPrices ?kt_TooWide_NoRoom ?kt_TooWide_NoStep ?kt_TooWide_NoClasses ?kt_TooWide_NoWatcher ?kt_TooWide_Unlike ?u20 ?v20 ?z20 ?y20 ?hy20
    (case a0 => k_is)
    (case l0 => k_is)
    (case c0 => k_is)
    (case k0 => k_is)
    (case a1 => k_is)
    (case l1 => k_is)
    (case c1 => k_is)
    (case k1 => k_is)
    (case a2 => k_is)
    (case l2 => k_is)
    (case c2 => k_is)
    (case k2 => k_is)
    (case a3 => k_is)
    (case l3 => k_is)
    (case c3 => k_is)
    (case k3 => k_is)
    (case a4 => k_is)
    (case l4 => k_is)
    (case c4 => k_is)
    (case k4 => k_is)
    (case a5 => k_is)
    (case l5 => k_is)
    (case c5 => k_is)
    (case k5 => k_is)
    (case a6 => k_is)
    (case l6 => k_is)
    (case c6 => k_is)
    (case k6 => k_is)
    (case a7 => k_is)
    (case l7 => k_is)
    (case c7 => k_is)
    (case k7 => k_is)
    (case a8 => k_is)
    (case l8 => k_is)
    (case c8 => k_is)
    (case k8 => k_is)
    (case a9 => k_is)
    (case l9 => k_is)
    (case c9 => k_is)
    (case k9 => k_is)
    (case a10 => k_is)
    (case l10 => k_is)
    (case c10 => k_is)
    (case k10 => k_is)
    (case a11 => k_is)
    (case l11 => k_is)
    (case c11 => k_is)
    (case k11 => k_is)
    (case a12 => k_is)
    (case l12 => k_is)
    (case c12 => k_is)
    (case k12 => k_is)
    (case a13 => k_is)
    (case l13 => k_is)
    (case c13 => k_is)
    (case k13 => k_is)
    (case a14 => k_is)
    (case l14 => k_is)
    (case c14 => k_is)
    (case k14 => k_is)
    (case a15 => k_is)
    (case l15 => k_is)
    (case c15 => k_is)
    (case k15 => k_is)
    (case a16 => k_is)
    (case l16 => k_is)
    (case c16 => k_is)
    (case k16 => k_is)
    (case a17 => k_is)
    (case l17 => k_is)
    (case c17 => k_is)
    (case k17 => k_is)
    (case a18 => k_is)
    (case l18 => k_is)
    (case c18 => k_is)
    (case k18 => k_is)
    (case a19 => k_is)
    (case l19 => k_is)
    (case c19 => k_is)
    (case k19 => k_is)
    (case a20 => k_is)
    (case l20 => k_is)
    (case c20 => k_is)
    (case k20 => k_is)
    (case a21 => k_is)
    (case l21 => k_is)
    (case c21 => k_is)
    (case k21 => k_is)
    (case a22 => k_is)
    (case l22 => k_is)
    (case c22 => k_is)
    (case k22 => k_is)
    (case a23 => k_is)
    (case l23 => k_is)
    (case c23 => k_is)
    (case k23 => k_is)
    (case a24 => k_is)
    (case l24 => k_is)
    (case c24 => k_is)
    (case k24 => k_is)
    (case a25 => k_is)
    (case l25 => k_is)
    (case c25 => k_is)
    (case k25 => k_is)
    (case a26 => k_is)
    (case l26 => k_is)
    (case c26 => k_is)
    (case k26 => k_is)
    (case b_ValueError => k_is)
    (case b_abs => k_is)
    (case b_all => k_is)
    (case b_any => k_is)
    (case b_at => k_is)
    (case b_bool => k_is)
    (case b_deed => k_is)
    (case b_int => k_is)
    (case b_isinstance => k_is)
    (case b_len => k_is)
    (case b_list => k_is)
    (case b_max => k_is)
    (case b_min => k_is)
    (case b_range => k_is)
    (case b_repr => k_is)
    (case b_room => k_is)
    (case b_str => k_is)
    (case b_told => k_is)
    (case b_tuple => k_is)
    (case b_zip => k_is)
    (case c_MOST => k_is)
    (case c_WIDE => k_is)
    (case g_NoSaying => k_is)
    (case g_TooWide => k_is)
    (case g_NoCount => k_is)
    (case g_NoKeep => k_is)
    (case g_NoNumber => k_is)
    (case g_NoPrices => k_is)
    (case g_NoRoom => k_is)
    (case g_NoStep => k_is)
    (case g_NoClasses => k_is)
    (case g_NoWatcher => k_is)
    (case g_Unlike => k_is)
    (case g_WardError => k_is)
    (case x_NoSaying => k_exc)
    (case kp_NoSaying => k_is)
    (case bs_NoSaying => k_is)
    (case ty_NoSaying => k_is)
    (case x_TooWide => k_exc)
    (case kp_TooWide => k_is)
    (case bs_TooWide => k_is)
    (case ty_TooWide => k_is)
    (case x_NoCount => k_exc)
    (case kp_NoCount => k_is)
    (case bs_NoCount => k_is)
    (case ty_NoCount => k_is)
    (case x_NoKeep => k_exc)
    (case kp_NoKeep => k_is)
    (case bs_NoKeep => k_is)
    (case ty_NoKeep => k_is)
    (case x_NoNumber => k_exc)
    (case kp_NoNumber => k_is)
    (case bs_NoNumber => k_is)
    (case ty_NoNumber => k_is)
    (case x_NoPrices => k_exc)
    (case kp_NoPrices => k_is)
    (case bs_NoPrices => k_is)
    (case ty_NoPrices => k_is)
    (case x_NoRoom => k_exc)
    (case kp_NoRoom => k_is)
    (case bs_NoRoom => k_is)
    (case ty_NoRoom => k_is)
    (case x_NoStep => k_exc)
    (case kp_NoStep => k_is)
    (case bs_NoStep => k_is)
    (case ty_NoStep => k_is)
    (case x_NoClasses => k_exc)
    (case kp_NoClasses => k_is)
    (case bs_NoClasses => k_is)
    (case ty_NoClasses => k_is)
    (case x_NoWatcher => k_exc)
    (case kp_NoWatcher => k_is)
    (case bs_NoWatcher => k_is)
    (case ty_NoWatcher => k_is)
    (case x_Unlike => k_exc)
    (case kp_Unlike => k_is)
    (case bs_Unlike => k_is)
    (case ty_Unlike => k_is)
    (case wb => k_is)
    (case wd => k_is)
    (case wt => k_is)
    (case xhn => k_is)
    (case xht => k_is)
    (case hd_NoCount => k_is)
    (case yt_NoCount => k_is)
    (case hd_NoKeep => k_is)
    (case yt_NoKeep => k_is)
    (case hd_NoNumber => k_is)
    (case yt_NoNumber => k_is)
    (case hd_NoPrices => k_is)
    (case yt_NoPrices => k_is)
    (case hd_NoRoom => k_is)
    (case yt_NoRoom => k_is)
    (case hd_NoStep => k_is)
    (case yt_NoStep => k_is)
    (case hd_NoClasses => k_is)
    (case yt_NoClasses => k_is)
    (case hd_NoWatcher => k_is)
    (case yt_NoWatcher => k_is)
    (case hd_Unlike => k_is)
    (case yt_Unlike => k_is)
    (case sb_NoSaying => k_is)
    (case hg_NoSaying => k_is)
    (case hk_NoSaying => k_is)
    (case hs_NoSaying => k_is)
    (case hd_NoSaying => k_is)
    (case ha_NoSaying => k_is)
    (case hm_NoSaying => k_is)
    (case sf_NoSaying => k_is)
    (case yt_NoSaying => k_is)
    (case sv_NoSaying => k_is)
    (case kt_NoSaying_TooWide => k_is)
    (case kt_NoSaying_NoCount => k_is)
    (case kt_NoSaying_NoKeep => k_is)
    (case kt_NoSaying_NoNumber => k_is)
    (case kt_NoSaying_NoPrices => k_is)
    (case kt_NoSaying_NoRoom => k_is)
    (case kt_NoSaying_NoStep => k_is)
    (case kt_NoSaying_NoClasses => k_is)
    (case kt_NoSaying_NoWatcher => k_is)
    (case kt_NoSaying_Unlike => k_is)
    (case sb_TooWide => k_is)
    (case hg_TooWide => k_is)
    (case hk_TooWide => k_is)
    (case hs_TooWide => k_is)
    (case hd_TooWide => k_is)
    (case ha_TooWide => k_is)
    (case hm_TooWide => k_is)
    (case sf_TooWide => k_is)
    (case yt_TooWide => k_is)
    (case sv_TooWide => k_is)
    (case kt_TooWide_NoSaying => k_is)
    (case kt_TooWide_NoCount => k_is)
    (case kt_TooWide_NoKeep => k_is)
    (case kt_TooWide_NoNumber => k_is)
    (case kt_TooWide_NoPrices => k_is)
    (case kt_TooWide_NoRoom => k_is)
    (case kt_TooWide_NoStep => k_is)
    (case kt_TooWide_NoClasses => k_is)
    (case kt_TooWide_NoWatcher => k_is)
    (case kt_TooWide_Unlike => k_is)
    (case u20 => k_is)
    (case v20 => first | rfl | k_is)
    (case z20 => first | kernel_rfl | k_is)
    (case y20 => first | kernel_rfl | k_is)
    (case hy20 => first | exact PySem.W.km_tabs_of Y _ (by k_mem) | exact PySem.W.km_tabs_of Y _ (by simp))

