import PyProof.Rows.All
import Wide.All
import OpenK.AllK
import Wide.FinOn
import Lean
import PySem.Challenge.RW_nz0579_01
set_option Elab.async false
set_option autoImplicit false
set_option linter.unusedVariables false
set_option maxRecDepth 100000
namespace Mine
open PySem PySem.W PySem.Calls PyProof.Rows
open PySem.SeqAt (shaped noMix noMixAll)
noncomputable def nmL : List Str := [Str.ofString "r", Str.ofString "s", Str.ofString "ix", Str.ofString "iy", Str.ofString "sp", Str.ofString "pc", Str.ofString "i", Str.ofString "ref", Str.ofString "iff1", Str.ofString "iff2", Str.ofString "mode", Str.ofString "is_halted", Str.ofString "is_held", Str.ofString "states", Str.ofString "ins", Str.ofString "at", Str.ofString "outs", Str.ofString "m", Str.ofString "NOP", Str.ofString "IN", Str.ofString "OUT", Str.ofString "SBC", Str.ofString "ADC", Str.ofString "STORE", Str.ofString "LOAD", Str.ofString "NEG", Str.ofString "RETI", Str.ofString "RETN", Str.ofString "IM", Str.ofString "TO I", Str.ofString "TO R", Str.ofString "FROM I", Str.ofString "FROM R", Str.ofString "RRD", Str.ofString "RLD", Str.ofString "MOVE", Str.ofString "SEEK", Str.ofString "TAKE", Str.ofString "SEND", Str.ofString "B", Str.ofString "C", Str.ofString "D", Str.ofString "E", Str.ofString "H", Str.ofString "L", Str.ofString "A", Str.ofString "", Str.ofString "BC", Str.ofString "DE", Str.ofString "HL", Str.ofString "SP"]
noncomputable def nN : Nat := 51
noncomputable def nm (k : Nat) : Str := nmL.getD k (Str.ofString "")
theorem nmL_nodup : nmL.Nodup := by decide +kernel
theorem nm_inj {a b : Nat} (ha : a < nN) (hb : b < nN) (h : nm a = nm b) : a = b := by
  have la : a < nmL.length := ha
  have lb : b < nmL.length := hb
  have e : nmL[a]? = nmL[b]? := by
    rw [List.getElem?_eq_getElem la, List.getElem?_eq_getElem lb]
    unfold nm at h
    rw [List.getD_eq_getElem?_getD, List.getD_eq_getElem?_getD, List.getElem?_eq_getElem la, List.getElem?_eq_getElem lb] at h
    simpa using h
  exact (List.getElem?_inj la nmL_nodup).mp e
structure Box (P : Prop) : Prop where
  out : P
inductive V where
  | none
  | bool (b : Bool)
  | int (i : Int)
  | str (k : Nat)
  | raw (v : Value)
  | obj (k : Nat)
  | tup (vs : List V)
mutual
inductive Is (h : Heap) (ρ : List Addr) : V → Value → Prop
  | none : Is h ρ .none .none
  | bool (b : Bool) : Is h ρ (.bool b) (.bool b)
  | int (i : Int) (t : Tok) : Is h ρ (.int i) (.int i t)
  | str {k : Nat} (hk : k < nN) (t : Tok) : Is h ρ (.str k) (.str (nm k) t)
  | raw (v : Value) : Is h ρ (.raw v) v
  | obj {k : Nat} {a : Addr} : ρ[k]? = some a → Is h ρ (.obj k) (.ref a)
  | tup {vs : List V} {vals : List Value} {a : Addr} : h.IsTuple a vals.toArray → IsL h ρ vs vals → Is h ρ (.tup vs) (.ref a)
inductive IsL (h : Heap) (ρ : List Addr) : List V → List Value → Prop
  | nil : IsL h ρ [] []
  | cons {v : V} {val : Value} {vs : List V} {vals : List Value} : Is h ρ v val → IsL h ρ vs vals → IsL h ρ (v :: vs) (val :: vals)
end
noncomputable def TupKeep (h h' : Heap) : Prop := ∀ a items, h.IsTuple a items → h'.IsTuple a items
theorem TupKeep.refl (h : Heap) : TupKeep h h := fun _ _ x => x
theorem TupKeep.trans {h₁ h₂ h₃ : Heap} (x : TupKeep h₁ h₂) (y : TupKeep h₂ h₃) : TupKeep h₁ h₃ := fun a i z => y a i (x a i z)
structure Ext (h : Heap) (ρ : List Addr) (h' : Heap) (ρ' : List Addr) : Prop where
  tup : TupKeep h h'
  pre : ∃ t, ρ' = ρ ++ t
theorem Ext.refl (h : Heap) (ρ : List Addr) : Ext h ρ h ρ := ⟨TupKeep.refl h, [], (List.append_nil ρ).symm⟩
theorem Ext.trans {h₁ h₂ h₃ : Heap} {ρ₁ ρ₂ ρ₃ : List Addr} (x : Ext h₁ ρ₁ h₂ ρ₂) (y : Ext h₂ ρ₂ h₃ ρ₃) : Ext h₁ ρ₁ h₃ ρ₃ := by
  obtain ⟨a, t, rfl⟩ := x
  obtain ⟨b, u, rfl⟩ := y
  exact ⟨a.trans b, t ++ u, List.append_assoc ..⟩
theorem Ext.get {h h' : Heap} {ρ ρ' : List Addr} (x : Ext h ρ h' ρ') {k : Nat} {a : Addr} (e : ρ[k]? = some a) : ρ'[k]? = some a := by
  obtain ⟨_, t, rfl⟩ := x
  rw [List.getElem?_append_left (List.getElem?_eq_some_iff.mp e).1]
  exact e
theorem Is.ext {h h' : Heap} {ρ ρ' : List Addr} (x : Ext h ρ h' ρ') {v : V} {val : Value} (r : Is h ρ v val) : Is h' ρ' v val :=
  Is.rec (motive_1 := fun v val _ => Is h' ρ' v val) (motive_2 := fun vs vals _ => IsL h' ρ' vs vals) .none .bool .int (fun hk t => .str hk t) .raw (fun e => .obj (x.get e)) (fun ht _ hl => .tup (x.tup _ _ ht) hl) .nil (fun _ _ a b => .cons a b) r
theorem IsL.ind {h : Heap} {ρ : List Addr} {P : List V → List Value → Prop} (h0 : P [] []) (h1 : ∀ {v : V} {val : Value} {vs : List V} {vals : List Value}, Is h ρ v val → IsL h ρ vs vals → P vs vals → P (v :: vs) (val :: vals)) {vs : List V} {vals : List Value} (r : IsL h ρ vs vals) : P vs vals :=
  IsL.rec (motive_1 := fun _ _ _ => True) (motive_2 := fun vs vals _ => P vs vals) trivial (fun _ => trivial) (fun _ _ => trivial) (fun _ _ => trivial) (fun _ => trivial) (fun _ => trivial) (fun _ _ _ => trivial) h0 (fun a b _ ih => h1 a b ih) r
theorem IsL.ext {h h' : Heap} {ρ ρ' : List Addr} (x : Ext h ρ h' ρ') {vs : List V} {vals : List Value} (r : IsL h ρ vs vals) : IsL h' ρ' vs vals :=
  r.ind (P := fun vs vals => IsL h' ρ' vs vals) .nil fun a _ b => .cons (a.ext x) b
theorem IsL.length {h : Heap} {ρ : List Addr} {vs : List V} {vals : List Value} (k : IsL h ρ vs vals) : vs.length = vals.length :=
  k.ind (P := fun vs vals => vs.length = vals.length) rfl fun _ _ ih => congrArg (· + 1) ih
theorem IsL.get {h : Heap} {ρ : List Addr} {vs : List V} {vals : List Value} (k : IsL h ρ vs vals) : ∀ {i : Nat} {v : V}, vs[i]? = some v → ∃ val, vals[i]? = some val ∧ Is h ρ v val := by
  refine k.ind (P := fun vs vals => ∀ {i : Nat} {v : V}, vs[i]? = some v → ∃ val, vals[i]? = some val ∧ Is h ρ v val) (fun e => nomatch e) ?_
  intro v val vs vals a _ ih i u e
  cases i with
  | zero => cases e; exact ⟨_, rfl, a⟩
  | succ i => exact ih (i := i) e
theorem IsL.append {h : Heap} {ρ : List Addr} {vs us : List V} {vals uals : List Value} (k : IsL h ρ vs vals) (y : IsL h ρ us uals) : IsL h ρ (vs ++ us) (vals ++ uals) :=
  k.ind (P := fun vs vals => IsL h ρ (vs ++ us) (vals ++ uals)) y fun a _ ih => .cons a ih
theorem IsL.set {h : Heap} {ρ : List Addr} {vs : List V} {vals : List Value} (k : IsL h ρ vs vals) : ∀ (i : Nat) {v : V} {val : Value}, Is h ρ v val → IsL h ρ (vs.set i v) (vals.set i val) := by
  refine k.ind (P := fun vs vals => ∀ (i : Nat) {v : V} {val : Value}, Is h ρ v val → IsL h ρ (vs.set i v) (vals.set i val)) (fun _ _ _ _ => .nil) ?_
  intro v val vs vals a b ih i _ _ r
  cases i with
  | zero => exact .cons r b
  | succ i => exact .cons a (ih i r)
theorem IsL.ints {h : Heap} {ρ : List Addr} {vals : List Value} {xs : List Int} (k : IntsAre vals xs) : IsL h ρ (xs.map .int) vals := by
  induction k with
  | nil => exact .nil
  | cons i t b ih => exact .cons (.int i t) ih
theorem IsL.toInts {h : Heap} {ρ : List Addr} {xs : List Int} : ∀ {vals : List Value}, IsL h ρ (xs.map .int) vals → IntsAre vals xs := by
  induction xs with
  | nil => intro vals k; cases k; exact .nil
  | cons x r ih =>
    intro vals k
    cases k with
    | cons a b =>
      cases a with
      | int _ t => exact .cons _ t (ih b)
inductive O where
  | nums (xs : List Int)
  | list (vs : List V)
  | app (vs : List V)
  | dict (kvs : List (Nat × V))
  | inst (C : Addr) (d : Nat)
  | ns (fs : List (Nat × V))
inductive KvL (h : Heap) (ρ : List Addr) : List (Nat × V) → List (Str × Value) → Prop
  | nil : KvL h ρ [] []
  | cons {x : Nat} {v : V} {val : Value} {vs : List (Nat × V)} {vals : List (Str × Value)} : x < nN → Is h ρ v val → KvL h ρ vs vals → KvL h ρ ((x, v) :: vs) ((nm x, val) :: vals)
theorem KvL.ext {h h' : Heap} {ρ ρ' : List Addr} (x : Ext h ρ h' ρ') {vs : List (Nat × V)} {vals : List (Str × Value)} (k : KvL h ρ vs vals) : KvL h' ρ' vs vals := by
  induction k with
  | nil => exact .nil
  | cons hx a b ih => exact .cons hx (a.ext x) ih
inductive NsL (h : Heap) (ρ : List Addr) : List (Nat × V) → List DictEntry → Prop
  | nil : NsL h ρ [] []
  | cons {x : Nat} {v : V} {val : Value} {hs : Int} {t : Tok} {vs : List (Nat × V)} {es : List DictEntry} : x < nN → Is h ρ v val → handedIn val = true → NsL h ρ vs es → NsL h ρ ((x, v) :: vs) (⟨hs, .str (nm x) t, val⟩ :: es)
theorem NsL.ext {h h' : Heap} {ρ ρ' : List Addr} (x : Ext h ρ h' ρ') {vs : List (Nat × V)} {es : List DictEntry} (k : NsL h ρ vs es) : NsL h' ρ' vs es := by
  induction k with
  | nil => exact .nil
  | cons hx a hh b ih => exact .cons hx (a.ext x) hh ih
noncomputable def NonTup (o : Obj) : Prop := ∀ xs n, o.cls = .type "tuple" → o.data ≠ .seq xs n
section
variable (prog : Program) (w : World)
noncomputable def OIs (h : Heap) (ρ : List Addr) (a : Addr) : O → Prop
  | .nums xs => ∃ vals, h.IsList a vals.toArray ∧ IntsAre vals xs
  | .list vs => ∃ vals, h.IsList a vals.toArray ∧ IsL h ρ vs vals
  | .app vs => ∃ vals nn, h.get? a = some (listOf vals.toArray nn) ∧ IsL h ρ vs vals
  | .dict kvs => ∃ kvals, h.DictOf (strKind prog w) a kvals ∧ KvL h ρ kvs kvals
  | .inst C d => ∃ da, ρ[d]? = some da ∧ h.get? a = some (instObj C da)
  | .ns fs => ∃ es n, h.get? a = some (dictOf es n) ∧ NsL h ρ fs es
end
variable {prog : Program} {w : World}
theorem OIs.obj {h : Heap} {ρ : List Addr} {a : Addr} {o : O} (x : OIs prog w h ρ a o) : ∃ ob, h.get? a = some ob ∧ NonTup ob := by
  cases o with
  | nums xs => obtain ⟨_, ⟨ob, ho, hc, _⟩, _⟩ := x; exact ⟨ob, ho, fun _ _ e => by rw [hc] at e; exact absurd e (by decide)⟩
  | list vs => obtain ⟨_, ⟨ob, ho, hc, _⟩, _⟩ := x; exact ⟨ob, ho, fun _ _ e => by rw [hc] at e; exact absurd e (by decide)⟩
  | app vs => obtain ⟨_, _, ho, _⟩ := x; exact ⟨_, ho, fun _ _ e => absurd e (by show ¬ (Value.type "list" = Value.type "tuple"); decide)⟩
  | dict kvs => obtain ⟨_, ⟨ob, _, _, ho, _, hd, _⟩, _⟩ := x; exact ⟨ob, ho, fun _ _ _ e => by rw [hd] at e; cases e⟩
  | inst C d => obtain ⟨da, _, ho⟩ := x; exact ⟨_, ho, fun _ _ _ e => by cases e⟩
  | ns fs => obtain ⟨es, n, ho, _⟩ := x; exact ⟨_, ho, fun _ _ _ e => by cases e⟩
theorem OIs.ext {h h' : Heap} {ρ ρ' : List Addr} (x : Ext h ρ h' ρ') {a : Addr} (he : ∀ ob, h.get? a = some ob → h'.get? a = some ob) {o : O} (r : OIs prog w h ρ a o) : OIs prog w h' ρ' a o := by
  cases o with
  | nums xs => obtain ⟨vals, ⟨ob, ho, q⟩, i⟩ := r; exact ⟨vals, ⟨ob, he _ ho, q⟩, i⟩
  | list vs => obtain ⟨vals, ⟨ob, ho, q⟩, i⟩ := r; exact ⟨vals, ⟨ob, he _ ho, q⟩, i.ext x⟩
  | app vs => obtain ⟨vals, nn, ho, i⟩ := r; exact ⟨vals, nn, he _ ho, i.ext x⟩
  | dict kvs => obtain ⟨kvals, ⟨ob, es, ep, ho, q⟩, i⟩ := r; exact ⟨kvals, ⟨ob, es, ep, he _ ho, q⟩, i.ext x⟩
  | inst C d => obtain ⟨da, e, ho⟩ := r; exact ⟨da, x.get e, he _ ho⟩
  | ns fs => obtain ⟨es, n, ho, i⟩ := r; exact ⟨es, n, he _ ho, i.ext x⟩
structure XE where
  a : Addr
  P : Obj → Prop
structure Rel (prog : Program) (w : World) (h₀ h : Heap) (ρ : List Addr) (H : List O) (X : List XE) : Prop where
  keep : ∀ (b : Addr) (o : Obj), h₀.get? b = some o → h.get? b = some o
  len : H.length = ρ.length
  objs : ∀ (k : Nat) (o : O) (a : Addr), H[k]? = some o → ρ[k]? = some a → OIs prog w h ρ a o
  fresh : ∀ a : Addr, a ∈ ρ ++ X.map XE.a → h₀.get? a = none
  nodup : (ρ ++ X.map XE.a).Nodup
  extra : ∀ p ∈ X, ∃ o, h.get? p.a = some o ∧ p.P o ∧ NonTup o
section
variable {h₀ h h' : Heap} {ρ : List Addr} {H : List O} {X : List XE}
theorem Rel.lt (R : Rel prog w h₀ h ρ H X) {a : Addr} (ha : a ∈ ρ ++ X.map XE.a) : ∃ o, h.get? a = some o ∧ NonTup o := by
  rcases List.mem_append.mp ha with h1 | h1
  · obtain ⟨k, hk, rfl⟩ := List.mem_iff_getElem.mp h1
    have hk' : k < H.length := R.len ▸ hk
    exact (R.objs k _ _ (List.getElem?_eq_getElem hk') (List.getElem?_eq_getElem hk)).obj
  · obtain ⟨p, hp, rfl⟩ := List.mem_map.mp h1
    obtain ⟨o, ho, _, hn⟩ := R.extra p hp
    exact ⟨o, ho, hn⟩
theorem tupKeep_but {a : Addr} {o : Obj} (hs : Heap.SameBut a h h') (ho : h.get? a = some o) (hn : NonTup o) : TupKeep h h' := fun b items ht => by
  obtain ⟨ob, hb, hc, n, hd⟩ := ht
  have hne : b ≠ a := fun e => by
    subst e
    rw [ho] at hb; cases hb
    exact hn _ _ hc hd
  exact ⟨ob, (hs.2 b hne).trans hb, hc, n, hd⟩
theorem tupKeep_ext (hs : ∀ b o, h.get? b = some o → h'.get? b = some o) : TupKeep h h' := fun b items ht => by
  obtain ⟨ob, hb, r⟩ := ht
  exact ⟨ob, hs _ _ hb, r⟩
theorem Rel.grow (R : Rel prog w h₀ h ρ H X) (hs : ∀ b o, h.get? b = some o → h'.get? b = some o) : Rel prog w h₀ h' ρ H X where
  keep b o e := hs _ _ (R.keep b o e)
  len := R.len
  objs k o a e e' := (R.objs k o a e e').ext ⟨tupKeep_ext hs, [], (List.append_nil ρ).symm⟩ fun _ => hs _ _
  fresh := R.fresh
  nodup := R.nodup
  extra p hp := let ⟨o, ho, r⟩ := R.extra p hp; ⟨o, hs _ _ ho, r⟩
theorem Rel.upd (R : Rel prog w h₀ h ρ H X) {k : Nat} {a : Addr} {o' : O} (e : ρ[k]? = some a) (hs : Heap.SameBut a h h') (ho' : OIs prog w h' ρ a o') : Rel prog w h₀ h' ρ (H.set k o') X := by
  have ha : a ∈ ρ := List.mem_of_getElem? e
  obtain ⟨ob, hob, hnt⟩ := R.lt (List.mem_append_left _ ha)
  have tk : TupKeep h h' := tupKeep_but hs hob hnt
  have hklt : k < ρ.length := (List.getElem?_eq_some_iff.mp e).1
  have nd := R.nodup
  refine ⟨fun b o hb => ?_, by rw [List.length_set]; exact R.len, fun j o b ej eb => ?_, R.fresh, R.nodup, fun p hp => ?_⟩
  · have hne : b ≠ a := fun q => by
      have := R.fresh a (List.mem_append_left _ ha)
      rw [← q, hb] at this; cases this
    exact (hs.2 b hne).trans (R.keep b o hb)
  · by_cases hj : k = j
    · subst hj
      rw [List.getElem?_set_self (R.len ▸ hklt)] at ej
      cases ej
      rw [e] at eb; cases eb
      exact ho'
    · rw [List.getElem?_set_ne hj] at ej
      have hne : b ≠ a := fun q => by
        subst q
        have n1 := (List.nodup_append.mp nd).1
        exact hj ((List.getElem?_inj hklt n1).mp (e.trans eb.symm))
      exact (R.objs j o b ej eb).ext ⟨tk, [], (List.append_nil ρ).symm⟩ fun ob' hb' => (hs.2 b hne).trans hb'
  · obtain ⟨o, ho, r⟩ := R.extra p hp
    have hne : p.a ≠ a := fun q => by
      have := (List.nodup_append.mp nd).2.2 a ha p.a (List.mem_map_of_mem hp)
      exact this q.symm
    exact ⟨o, (hs.2 _ hne).trans ho, r⟩
theorem Rel.updX (R : Rel prog w h₀ h ρ H X) {X₁ X₂ : List XE} {p p' : XE} (hX : X = X₁ ++ p :: X₂) (hp : p'.a = p.a) (hs : Heap.SameBut p.a h h') (ho' : ∃ o, h'.get? p.a = some o ∧ p'.P o ∧ NonTup o) : Rel prog w h₀ h' ρ H (X₁ ++ p' :: X₂) ∧ TupKeep h h' := by
  subst hX
  obtain ⟨ob, hob, _, hnt⟩ := R.extra p (by simp)
  have tk : TupKeep h h' := tupKeep_but hs hob hnt
  have hm : (X₁ ++ p' :: X₂).map XE.a = (X₁ ++ p :: X₂).map XE.a := by simp [hp]
  have nd := R.nodup
  refine ⟨⟨fun b o hb => ?_, R.len, fun j o b ej eb => ?_, by rw [hm]; exact R.fresh, by rw [hm]; exact R.nodup, fun q hq => ?_⟩, tk⟩
  · have hne : b ≠ p.a := fun q => by
      have := R.fresh p.a (by simp)
      rw [← q, hb] at this; cases this
    exact (hs.2 b hne).trans (R.keep b o hb)
  · have hne : b ≠ p.a := fun q => (List.nodup_append.mp nd).2.2 b (List.mem_of_getElem? eb) p.a (by simp) q
    exact (R.objs j o b ej eb).ext ⟨tk, [], (List.append_nil ρ).symm⟩ fun ob' hb' => (hs.2 b hne).trans hb'
  · have nx := (List.nodup_append.mp nd).2.1
    rw [List.map_append, List.map_cons] at nx
    have nx' := List.nodup_append.mp nx
    rcases List.mem_append.mp hq with h1 | h1
    · have hne : q.a ≠ p.a := nx'.2.2 q.a (List.mem_map_of_mem h1) p.a (.head _)
      obtain ⟨o, ho, r⟩ := R.extra q (List.mem_append_left _ h1)
      exact ⟨o, (hs.2 _ hne).trans ho, r⟩
    · rcases List.mem_cons.mp h1 with rfl | h1
      · rw [hp]; exact ho'
      · have hne : q.a ≠ p.a := fun e => (List.nodup_cons.mp nx'.2.1).1 (e ▸ List.mem_map_of_mem h1)
        obtain ⟨o, ho, r⟩ := R.extra q (List.mem_append_right _ (.tail _ h1))
        exact ⟨o, (hs.2 _ hne).trans ho, r⟩
theorem get_size_none (h : Heap) : h.get? h.objs.size = none := by
  cases e : h.get? h.objs.size with
  | none => rfl
  | some o => exact absurd (Heap.lt_size e) (Nat.lt_irrefl _)
theorem Rel.alloc (R : Rel prog w h₀ h ρ H X) {a : Addr} {o : O} (hn : h.get? a = none) (hs : ∀ b ob, h.get? b = some ob → h'.get? b = some ob) (ho : OIs prog w h' (ρ ++ [a]) a o) :
    Rel prog w h₀ h' (ρ ++ [a]) (H ++ [o]) X ∧ Ext h ρ h' (ρ ++ [a]) := by
  have x : Ext h ρ h' (ρ ++ [a]) := ⟨tupKeep_ext hs, [a], rfl⟩
  have hna : a ∉ ρ ++ X.map XE.a := fun hm => by
    obtain ⟨o, ho, _⟩ := R.lt hm
    rw [hn] at ho; cases ho
  have hperm : (ρ ++ [a] ++ X.map XE.a).Perm (a :: (ρ ++ X.map XE.a)) := by
    rw [List.append_assoc]; exact List.perm_middle
  refine ⟨⟨fun b o e => hs _ _ (R.keep b o e), by simp [R.len], fun k o' b ek eb => ?_, fun b hb => ?_, hperm.nodup_iff.mpr (List.nodup_cons.mpr ⟨hna, R.nodup⟩), fun p hp => ?_⟩, x⟩
  · rcases Nat.lt_trichotomy k ρ.length with hk | hk | hk
    · rw [List.getElem?_append_left (by rw [R.len]; exact hk)] at ek
      rw [List.getElem?_append_left hk] at eb
      exact (R.objs k o' b ek eb).ext x fun ob hb => hs _ _ hb
    · subst hk
      rw [List.getElem?_append_right (Nat.le_refl _), Nat.sub_self] at eb
      rw [← R.len, List.getElem?_append_right (Nat.le_refl _), Nat.sub_self] at ek
      cases eb; cases ek
      exact ho
    · have : (ρ ++ [a])[k]? = none := List.getElem?_eq_none (by simp; lia)
      rw [this] at eb; cases eb
  · rcases List.mem_cons.mp (hperm.mem_iff.mp hb) with rfl | hb
    · cases e : h₀.get? b with
      | none => rfl
      | some o => rw [R.keep _ _ e] at hn; cases hn
    · exact R.fresh b hb
  · obtain ⟨o, ho, r⟩ := R.extra p hp
    exact ⟨o, hs _ _ ho, r⟩
theorem Rel.allocX (R : Rel prog w h₀ h ρ H X) {p : XE} (hn : h.get? p.a = none) (hs : ∀ b ob, h.get? b = some ob → h'.get? b = some ob) (ho : ∃ o, h'.get? p.a = some o ∧ p.P o ∧ NonTup o) :
    Rel prog w h₀ h' ρ H (p :: X) := by
  have hna : p.a ∉ ρ ++ X.map XE.a := fun hm => by
    obtain ⟨o, ho, _⟩ := R.lt hm
    rw [hn] at ho; cases ho
  have R' := R.grow hs
  have hperm : (ρ ++ (p :: X).map XE.a).Perm (p.a :: (ρ ++ X.map XE.a)) := List.perm_middle
  refine ⟨R'.keep, R'.len, R'.objs, fun b hb => ?_, hperm.nodup_iff.mpr (List.nodup_cons.mpr ⟨hna, R.nodup⟩), fun q hq => ?_⟩
  · rcases List.mem_cons.mp (hperm.mem_iff.mp hb) with rfl | hb
    · cases e : h₀.get? p.a with
      | none => rfl
      | some o => rw [R.keep _ _ e] at hn; cases hn
    · exact R.fresh b hb
  · rcases List.mem_cons.mp hq with rfl | hq
    · exact ho
    · exact R'.extra q hq
theorem Rel.dropX {p : XE} (R : Rel prog w h₀ h ρ H (p :: X)) : Rel prog w h₀ h ρ H X := by
  have hperm : (ρ ++ (p :: X).map XE.a).Perm (p.a :: (ρ ++ X.map XE.a)) := List.perm_middle
  exact ⟨R.keep, R.len, R.objs, fun b hb => R.fresh b (hperm.mem_iff.mpr (.tail _ hb)), (List.nodup_cons.mp (hperm.nodup_iff.mp R.nodup)).2, fun q hq => R.extra q (.tail _ hq)⟩
end
theorem listOf_isList {h : Heap} {a : Addr} {its : Array Value} {nn : Nat} (e : h.get? a = some (listOf its nn)) : h.IsList a its := ⟨_, e, rfl, nn, rfl⟩
structure Room (n : Nat) (A : Around) : Prop where
  handled : A.handled = none
  depth : A.depth + 2 * n + 2 < recursionLimit
  units : A.units + 10 * n + 100 < cLine
theorem Room.deeper {n : Nat} {A : Around} (r : Room (n + 1) A) (env : Env) : Room n (A.deeper env) :=
  ⟨r.handled, by have := r.depth; show A.depth + 1 + 2 * n + 2 < _; lia, by have := r.units; show A.units + 3 + 10 * n + 100 < _; lia⟩
theorem Room.mono {n m : Nat} {A : Around} (r : Room n A) (h : m ≤ n) : Room m A :=
  ⟨r.handled, by have := r.depth; lia, by have := r.units; lia⟩
noncomputable abbrev Slots := List (Str × NameKind)
noncomputable def lget (L : List (Option V)) (i : Nat) : Option V := (L[i]?).join
noncomputable def SlotIs (env : Env) (h : Heap) (ρ : List Addr) (X : List XE) (m : Str → Option Value) (x : Str) (k : NameKind) (ov : Option V) : Prop := match k with
  | .local => ∀ v, ov = some v → ∃ val, m x = some val ∧ Is h ρ v val
  | .cell => ∃ c cv, env.cells.lookup x = some c ∧ h.IsCell c cv ∧ ∀ v, ov = some v → ∃ val, cv = some val ∧ Is h ρ v val
  | .free => ∀ v, ov = some v → ∃ c val, env.cells.lookup x = some c ∧ Is h ρ v val ∧ ∃ p ∈ X, p.a = c ∧ ∀ o, p.P o → o.data = .cell (some val)
  | _ => True
noncomputable def ownCell (env : Env) (p : Str × NameKind) : Option XE := match p.2 with
  | .cell => (env.cells.lookup p.1).map fun c => ⟨c, fun _ => True⟩
  | _ => none
noncomputable def frameX (env : Env) (slots : Slots) : List XE := ⟨env.locals, fun _ => True⟩ :: slots.filterMap (ownCell env)
noncomputable def FrameOK (env : Env) (slots : Slots) (h : Heap) (ρ : List Addr) (X : List XE) (L : List (Option V)) : Prop :=
  ∃ m, h.Ns env.locals m ∧ ∀ (i : Nat) (x : Str) (k : NameKind), slots[i]? = some (x, k) → SlotIs env h ρ X m x k (lget L i)
theorem mem_frameX_cell {env : Env} {slots : Slots} {i : Nat} {x : Str} {c : Addr} (hi : slots[i]? = some (x, .cell)) (hc : env.cells.lookup x = some c) : (⟨c, fun _ => True⟩ : XE) ∈ frameX env slots := by
  refine List.mem_cons_of_mem _ (List.mem_filterMap.mpr ⟨(x, .cell), List.mem_of_getElem? hi, ?_⟩)
  simp [ownCell, hc]
theorem FrameOK.keep {env : Env} {slots : Slots} {h h' : Heap} {ρ ρ' : List Addr} {X : List XE} {L : List (Option V)} (F : FrameOK env slots h ρ X L) (x : Ext h ρ h' ρ')
    (hk : ∀ p ∈ frameX env slots, ∀ o, h.get? p.a = some o → h'.get? p.a = some o) : FrameOK env slots h' ρ' X L := by
  obtain ⟨m, ⟨o, es, ep, ho, r⟩, hs⟩ := F
  refine ⟨m, ⟨o, es, ep, hk ⟨env.locals, fun _ => True⟩ (List.mem_cons_self ..) _ ho, r⟩, fun i y k hi => ?_⟩
  have z := hs i y k hi
  unfold SlotIs at z ⊢
  split
  · intro v hv
    obtain ⟨val, a, b⟩ := z v hv
    exact ⟨val, a, b.ext x⟩
  · obtain ⟨c, cv, a, ⟨oc, b, d⟩, e⟩ := z
    refine ⟨c, cv, a, ⟨oc, hk _ (mem_frameX_cell hi a) _ b, d⟩, fun v hv => ?_⟩
    obtain ⟨val, p, q⟩ := e v hv
    exact ⟨val, p, q.ext x⟩
  · intro v hv
    obtain ⟨c, val, a, b, d⟩ := z v hv
    exact ⟨c, val, a, b.ext x, d⟩
  · trivial
structure RelF (prog : Program) (w : World) (h₀ : Heap) (env : Env) (slots : Slots) (h : Heap) (ρ : List Addr) (L : List (Option V)) (H : List O) (X : List XE) : Prop where
  rel : Rel prog w h₀ h ρ H (frameX env slots ++ X)
  fr : FrameOK env slots h ρ X L
section
variable {prog : Program} {w : World} {h₀ h h' : Heap} {env : Env} {slots : Slots} {ρ : List Addr} {L : List (Option V)} {H : List O} {X : List XE}
theorem Rel.ne_of (R : Rel prog w h₀ h ρ H X) {a : Addr} (ha : a ∈ ρ) {p : XE} (hp : p ∈ X) : p.a ≠ a := fun q =>
  (List.nodup_append.mp R.nodup).2.2 a ha p.a (List.mem_map_of_mem hp) q.symm
theorem RelF.grow (R : RelF prog w h₀ env slots h ρ L H X) (hs : ∀ b o, h.get? b = some o → h'.get? b = some o) : RelF prog w h₀ env slots h' ρ L H X ∧ Ext h ρ h' ρ :=
  have x : Ext h ρ h' ρ := ⟨tupKeep_ext hs, [], (List.append_nil ρ).symm⟩
  ⟨⟨R.rel.grow hs, R.fr.keep x fun p _ o e => hs _ _ e⟩, x⟩
theorem RelF.upd (R : RelF prog w h₀ env slots h ρ L H X) {k : Nat} {a : Addr} {o' : O} (e : ρ[k]? = some a) (hs : Heap.SameBut a h h') (ho' : OIs prog w h' ρ a o') : RelF prog w h₀ env slots h' ρ L (H.set k o') X ∧ Ext h ρ h' ρ := by
  obtain ⟨ob, hob, hnt⟩ := R.rel.lt (List.mem_append_left _ (List.mem_of_getElem? e))
  have x : Ext h ρ h' ρ := ⟨tupKeep_but hs hob hnt, [], (List.append_nil ρ).symm⟩
  exact ⟨⟨R.rel.upd e hs ho', R.fr.keep x fun p hp o ho => (hs.2 _ (R.rel.ne_of (List.mem_of_getElem? e) (List.mem_append_left _ hp))).trans ho⟩, x⟩
theorem RelF.alloc (R : RelF prog w h₀ env slots h ρ L H X) {a : Addr} {o : O} (hn : h.get? a = none) (hs : ∀ b ob, h.get? b = some ob → h'.get? b = some ob) (ho : OIs prog w h' (ρ ++ [a]) a o) :
    RelF prog w h₀ env slots h' (ρ ++ [a]) L (H ++ [o]) X ∧ Ext h ρ h' (ρ ++ [a]) :=
  have z := R.rel.alloc hn hs ho
  ⟨⟨z.1, R.fr.keep z.2 fun p _ o e => hs _ _ e⟩, z.2⟩
theorem RelF.keep (R : RelF prog w h₀ env slots h ρ L H X) : ∀ (b : Addr) (o : Obj), h₀.get? b = some o → h.get? b = some o := R.rel.keep
theorem lget_set_self {L : List (Option V)} {i : Nat} (hi : i < L.length) (v : Option V) : lget (L.set i v) i = v := by
  unfold lget; rw [List.getElem?_set_self hi]; rfl
theorem lget_set_ne {L : List (Option V)} {i j : Nat} (hi : i ≠ j) (v : Option V) : lget (L.set i v) j = lget L j := by
  unfold lget; rw [List.getElem?_set_ne hi]
theorem RelF.store (R : RelF prog w h₀ env slots h ρ L H X) {i : Nat} {x : Str} {v : V} {val : Value} (hx : slots[i]? = some (x, .local)) (hnd : (slots.map (·.1)).Nodup) (hv : Is h ρ v val)
    {m : Str → Option Value} (hm : h.Ns env.locals m) (hn : h'.Ns env.locals (fun y => if y = x then some val else m y)) (hs : Heap.SameBut env.locals h h') :
    RelF prog w h₀ env slots h' ρ (L.set i (some v)) H X ∧ Ext h ρ h' ρ := by
  have ⟨oL, _, _, hoL, hdL, _⟩ := hn
  obtain ⟨R', tk⟩ := R.rel.updX (X₁ := []) (p := ⟨env.locals, fun _ => True⟩) (p' := ⟨env.locals, fun _ => True⟩) (X₂ := slots.filterMap (ownCell env) ++ X) rfl rfl hs
    ⟨oL, hoL, trivial, fun _ _ _ e => by rw [hdL] at e; cases e⟩
  have x' : Ext h ρ h' ρ := ⟨tk, [], (List.append_nil ρ).symm⟩
  refine ⟨⟨R', _, hn, fun j y k hj => ?_⟩, x'⟩
  obtain ⟨m₁, hm₁, hs₁⟩ := R.fr
  have em : m₁ = m := by
    obtain ⟨o1, es1, ep1, a1, b1, _, d1⟩ := hm₁
    obtain ⟨o2, es2, ep2, a2, b2, _, d2⟩ := hm
    rw [a1] at a2; cases a2
    rw [b1] at b2; cases b2
    funext z; rw [← d1, ← d2]
  subst em
  have z := hs₁ j y k hj
  by_cases hij : i = j
  · subst hij
    rw [hx] at hj; cases hj
    intro u hu
    have : lget (L.set i (some v)) i = some v ∨ lget (L.set i (some v)) i = none := by
      by_cases hl : i < L.length
      · exact .inl (lget_set_self hl _)
      · right; unfold lget; rw [List.getElem?_eq_none (by rw [List.length_set]; lia)]; rfl
    rcases this with e | e <;> rw [e] at hu <;> cases hu
    exact ⟨val, by simp, hv.ext x'⟩
  · rw [lget_set_ne hij]
    have hne : y ≠ x := fun q => by
      subst q
      have h1 : (slots.map (·.1))[i]? = some y := by rw [List.getElem?_map, hx]; rfl
      have h2 : (slots.map (·.1))[j]? = some y := by rw [List.getElem?_map, hj]; rfl
      exact hij ((List.getElem?_inj (List.getElem?_eq_some_iff.mp h1).1 hnd).mp (h1.trans h2.symm))
    unfold SlotIs at z ⊢
    split
    · intro u hu
      obtain ⟨vu, a, b⟩ := z u hu
      exact ⟨vu, by simp [hne, a], b.ext x'⟩
    · obtain ⟨c, cv, a, ⟨oc, b, d⟩, e⟩ := z
      have hcne : c ≠ env.locals := fun q => by
        subst q
        obtain ⟨o1, es1, ep1, a1, b1, _⟩ := hm
        rw [a1] at b; cases b
        rw [b1] at d; cases d
      refine ⟨c, cv, a, ⟨oc, (hs.2 _ hcne).trans b, d⟩, fun u hu => ?_⟩
      obtain ⟨vu, p, q⟩ := e u hu
      exact ⟨vu, p, q.ext x'⟩
    · intro u hu
      obtain ⟨c, vu, a, b, d⟩ := z u hu
      exact ⟨c, vu, a, b.ext x', d⟩
    · trivial
end
noncomputable abbrev PE := List (Option V) → List O → (V → List O → Prop) → Prop
noncomputable abbrev PL := List (Option V) → List O → (List V → List O → Prop) → Prop
noncomputable abbrev PB := List (Option V) → List O → (Bool → List O → Prop) → Prop
noncomputable abbrev PS := List (Option V) → List O → (List (Option V) → List O → Prop) → (V → List O → Prop) → Prop
section
variable (prog : Program) (w : World) (h₀ : Heap) (n : Nat) (env : Env) (slots : Slots)
noncomputable def Post {α β : Type} (r : Heap → List Addr → α → β → Prop) (L : List (Option V)) (X : List XE) (ρ : List Addr) (s : Shared) (Q : α → List O → Prop) (Q' : β → Shared → Prop) : Prop :=
  ∀ v H' ρ' val h' tk', Q v H' → RelF prog w h₀ env slots h' ρ' L H' X → Ext s.heap ρ h' ρ' → r h' ρ' v val → Q' val { s with heap := h', toks := tk' }
theorem Post.box {prog : Program} {w : World} {h₀ : Heap} {env : Env} {slots : Slots} {α β : Type} {r : Heap → List Addr → α → β → Prop} {L : List (Option V)} {X : List XE} {ρ : List Addr} {s : Shared} {Q : α → List O → Prop} {Q' : β → Shared → Prop} (hp : Post prog w h₀ env slots r L X ρ s Q Q') : Post prog w h₀ env slots r L X ρ s (fun v H => Box (Q v H)) Q' :=
  fun v H' ρ' val h' tk' hq => hp v H' ρ' val h' tk' hq.out
noncomputable def Judge {α β : Type} (r : Heap → List Addr → α → β → Prop) (t : Sem β) (f : List (Option V) → List O → (α → List O → Prop) → Prop) : Prop :=
  ∀ (A : Around) (L : List (Option V)) (H : List O) (X : List XE) (ρ : List Addr) (s : Shared) (Q : α → List O → Prop) (Q' : β → Shared → Prop) (E : Value → Shared → Prop),
    Room n A → RelF prog w h₀ env slots s.heap ρ L H X → f L H Q → Post prog w h₀ env slots r L X ρ s Q Q' → wpAny (model prog w) A t Q' E s
noncomputable def SE (e : Expr) (f : PE) : Prop := Judge prog w h₀ n env slots Is (eval e env) f
noncomputable def SL (pos : Pos) (es : List Expr) (f : PL) : Prop := Judge prog w h₀ n env slots IsL (spliced (backTo pos (starEach es env))) f
noncomputable def ST (e : Expr) (f : PB) : Prop := Judge prog w h₀ n env slots (fun _ _ a b => a = b) (isTrue e env (eval e env)) f
noncomputable def SA (es : List Expr) (op : BoolOp) (f : PB) : Prop := Judge prog w h₀ n env slots (fun _ _ a b => a = b) (allTrue op es env) f
noncomputable def StmtJ (t : Sem Flow) (f : PS) : Prop :=
  ∀ (A : Around) (L : List (Option V)) (H : List O) (X : List XE) (ρ : List Addr) (s : Shared) (Qn : List (Option V) → List O → Prop) (Qr : V → List O → Prop) (Q' : Flow → Shared → Prop) (E : Value → Shared → Prop),
    Room n A → RelF prog w h₀ env slots s.heap ρ L H X → f L H Qn Qr →
    (∀ L' H' ρ' h' tk', Qn L' H' → RelF prog w h₀ env slots h' ρ' L' H' X → Ext s.heap ρ h' ρ' → Q' .next { s with heap := h', toks := tk' }) →
    (∀ v L' H' ρ' val h' tk', Qr v H' → RelF prog w h₀ env slots h' ρ' L' H' X → Ext s.heap ρ h' ρ' → Is h' ρ' v val → Q' (.ret val) { s with heap := h', toks := tk' }) →
    wpAny (model prog w) A t Q' E s
noncomputable def SX (st : Stmt) (f : PS) : Prop := StmtJ prog w h₀ n env slots (exec st env) f
noncomputable def SS (b : List Stmt) (f : PS) : Prop := StmtJ prog w h₀ n env slots (execs b env) f
end
section
variable {prog : Program} {w : World} {h₀ : Heap} {n : Nat} {env : Env} {slots : Slots}
theorem Post.then {α β : Type} {r : Heap → List Addr → α → β → Prop} {L : List (Option V)} {X : List XE} {ρ ρ₁ : List Addr} {s : Shared} {h₁ : Heap} {tk₁ : Nat} {Q : α → List O → Prop} {Q' : β → Shared → Prop}
    (p : Post prog w h₀ env slots r L X ρ s Q Q') (x : Ext s.heap ρ h₁ ρ₁) : Post prog w h₀ env slots r L X ρ₁ { s with heap := h₁, toks := tk₁ } Q Q' :=
  fun v H' ρ' val h' tk' hq R' x' hv => p v H' ρ' val h' tk' hq R' (x.trans x') hv
noncomputable def pV (v : V) : PE := fun _ H Q => Q v H
noncomputable def pLoc (i : Nat) : PE := fun L H Q => match lget L i with | some v => Q v H | none => False
theorem SE.int (i : Int) (k : Nat) (pos : Pos) : SE prog w h₀ n env slots (.Constant (.int i) k pos) (pV (.int i)) :=
  fun A L H X ρ s Q Q' E _ R hq hp => wpAny_Constant_int (hp _ _ _ _ _ _ hq R (Ext.refl ..) (.int i s.toks))
theorem SE.str {x : Str} {k : Nat} {pos : Pos} (c : Nat) (hc : c < nN) (hx : x = nm c) : SE prog w h₀ n env slots (.Constant (.str x) k pos) (pV (.str c)) :=
  fun A L H X ρ s Q Q' E _ R hq hp => by subst hx; exact Constant_str (hp _ _ _ _ _ _ hq R (Ext.refl ..) (.str hc s.toks))
theorem SE.bool (b : Bool) (k : Nat) (pos : Pos) : SE prog w h₀ n env slots (.Constant (.bool b) k pos) (pV (.bool b)) :=
  fun A L H X ρ s Q Q' E _ R hq hp => wpAny_Constant_bool (hp _ _ _ _ s.heap s.toks hq R (Ext.refl ..) (.bool b))
theorem SE.loc {x : Str} {pos : Pos} (i : Nat) (hk : env.scope.kind = .function) (hi : slots[i]? = some (x, .local)) (hl : env.kindOf x = some .local) (hd : (x == ("__debug__" : Str)) = false) :
    SE prog w h₀ n env slots (.Name x pos) (pLoc i) := fun A L H X ρ s Q Q' E _ R hq hp => by
  unfold pLoc at hq
  obtain ⟨m, hm, hs⟩ := R.fr
  have z := hs i x _ hi
  split at hq
  · rename_i v hv
    obtain ⟨val, a, b⟩ := z v hv
    exact wpAny_Name (wpAny_loadName_local hk hl hm a (hp _ _ _ _ s.heap s.toks hq R (Ext.refl ..) b)) hd
  · exact hq.elim
theorem SE.cell {x : Str} {pos : Pos} (i : Nat) (hk : env.scope.kind = .function) (hi : slots[i]? = some (x, .cell)) (hl : env.kindOf x = some .cell) (hd : (x == ("__debug__" : Str)) = false) :
    SE prog w h₀ n env slots (.Name x pos) (pLoc i) := fun A L H X ρ s Q Q' E _ R hq hp => by
  unfold pLoc at hq
  obtain ⟨m, hm, hs⟩ := R.fr
  have z := hs i x _ hi
  split at hq
  · rename_i v hv
    obtain ⟨c, cv, a, b, d⟩ := z
    obtain ⟨val, rfl, e⟩ := d v hv
    exact wpAny_Name (wpAny_loadName_cell hk hl a b (hp _ _ _ _ s.heap s.toks hq R (Ext.refl ..) e)) hd
  · exact hq.elim
noncomputable def GlobIs (h₀ : Heap) (x : Str) (v : V) : Prop := ∃ mg val, h₀.Ns mainGlobals mg ∧ mg x = some val ∧ ∀ h ρ, (∀ b o, h₀.get? b = some o → h.get? b = some o) → Is h ρ v val
noncomputable def BuiltIs (h₀ : Heap) (x : Str) (val : Value) : Prop := ∃ mg mb, h₀.Ns mainGlobals mg ∧ mg x = none ∧ h₀.Ns builtinsNs mb ∧ mb x = some val
theorem SE.glob {x : Str} {pos : Pos} {v : V} (g : GlobIs h₀ x v) (hk : env.scope.kind = .function) (hg : env.globals = mainGlobals) (hx : env.kindOf x = some .globalImplicit) (hd : (x == ("__debug__" : Str)) = false) :
    SE prog w h₀ n env slots (.Name x pos) (pV v) := fun A L H X ρ s Q Q' E _ R hq hp => by
  obtain ⟨mg, val, a, b, c⟩ := g
  exact Name_function_global hk hx (loadGlobal_global (by rw [hg]; exact a.keeps R.keep) b (hp _ _ _ _ s.heap s.toks hq R (Ext.refl ..) (c _ _ R.keep))) hd
theorem SE.builtin {x : Str} {pos : Pos} {val : Value} (g : BuiltIs h₀ x val) (hk : env.scope.kind = .function) (hg : env.globals = mainGlobals) (hb : env.builtins = builtinsNs) (hx : env.kindOf x = some .globalImplicit) (hd : (x == ("__debug__" : Str)) = false) :
    SE prog w h₀ n env slots (.Name x pos) (pV (.raw val)) := fun A L H X ρ s Q Q' E _ R hq hp => by
  obtain ⟨mg, mb, a, b, c, d⟩ := g
  exact Name_function_global hk hx (loadGlobal_builtin (by rw [hg]; exact a.keeps R.keep) b (by rw [hb]; exact c.keeps R.keep) d (hp _ _ _ _ s.heap s.toks hq R (Ext.refl ..) (.raw _))) hd
noncomputable def plNil : PL := fun _ H Q => Q [] H
noncomputable def plCons (f : PE) (g : PL) : PL := fun L H Q => f L H fun v H₁ => g L H₁ fun vs H₂ => Q (v :: vs) H₂
theorem SL.nil (pos : Pos) : SL prog w h₀ n env slots pos [] plNil :=
  fun A L H X ρ s Q Q' E _ R hq hp => spliced_nil (hp _ _ _ _ s.heap s.toks hq R (Ext.refl ..) .nil)
theorem SL.cons {pos : Pos} {e : Expr} {es : List Expr} {f : PE} {g : PL} (he : SE prog w h₀ n env slots e f) (hes : SL prog w h₀ n env slots pos es g)
    (hst : starEach (e :: es) env = (false, eval e env) :: starEach es env) : SL prog w h₀ n env slots pos (e :: es) (plCons f g) := fun A L H X ρ s Q Q' E hr R hq hp => by
  show wpAny _ _ (spliced (backTo pos (starEach (e :: es) env))) Q' E s
  rw [hst]
  refine spliced_cons (he A L H X ρ s _ _ E hr R hq fun v H₁ ρ₁ val h₁ tk₁ hq₁ R₁ x₁ hv => ?_)
  refine hes A L H₁ X ρ₁ _ _ _ E hr R₁ hq₁ fun vs H₂ ρ₂ vals h₂ tk₂ hq₂ R₂ x₂ hvs => ?_
  exact hp _ _ _ _ h₂ tk₂ hq₂ R₂ (x₁.trans x₂) (.cons (hv.ext x₂) hvs)
noncomputable def opI (op : Operator) (a b : Int) (Q : V → Prop) : Prop := match op with
  | .Add => Q (.int (a + b))
  | .Sub => Q (.int (a - b))
  | .Mult => a.natAbs < 2 ^ 63 ∧ b.natAbs < 2 ^ 63 ∧ Q (.int (a * b))
  | .Mod => b ≠ 0 ∧ Q (.int (a.fmod b))
  | .FloorDiv => b ≠ 0 ∧ b.natAbs < 1073741824 ∧ Q (.int (a.fdiv b))
  | .BitAnd => Q (.int (Builtin.bitAnd a b))
  | .BitOr => Q (.int (Builtin.bitOr a b))
  | .BitXor => Q (.int (Builtin.bitXor a b))
  | .LShift => 0 ≤ b ∧ b ≤ 1000 ∧ a.natAbs < 2 ^ 63 ∧ Q (.int (a * 2 ^ b.toNat))
  | .RShift => 0 ≤ b ∧ Q (.int (a.fdiv (2 ^ b.toNat)))
  | _ => False
noncomputable def opBin (op : Operator) (a b : V) (Q : V → Prop) : Prop := match a with
  | .int i => (match b with
    | .int j => opI op i j Q
    | _ => False)
  | _ => False
theorem mulOk {a b : Int} (ha : a.natAbs < 2 ^ 63) (hb : b.natAbs < 2 ^ 63) : IntMulOk a b := by mul_fits
theorem opBin_sound {op : Operator} {va vb : V} {a b : Value} {A : Around} {s : Shared} {h : Heap} {ρ : List Addr} {Q : V → Prop} {Q' : Value → Shared → Prop} {E : Value → Shared → Prop}
    (ha : Is h ρ va a) (hb : Is h ρ vb b) (hq : opBin op va vb Q) (hp : ∀ i t tk, Q (.int i) → Q' (.int i t) { s with toks := tk }) : wpAny (model prog w) A (binaryOp op a b) Q' E s := by
  cases ha with
  | int i t =>
    cases hb with
    | int j u =>
      cases op with
      | Add => exact PyProof.Rows.add_int (hp _ _ _ hq)
      | Sub => exact PyProof.Rows.sub_int (hp _ _ _ hq)
      | Mult => exact PyProof.Rows.mul_int (hp _ _ _ hq.2.2) (mulOk hq.1 hq.2.1)
      | Mod => exact PyProof.Rows.mod_int hq.1 (hp _ _ _ hq.2)
      | FloorDiv => exact PyProof.Rows.floordiv_int hq.1 (hp _ _ _ hq.2.2) (.inl (PyProof.noPylong_small hq.2.1))
      | BitAnd => exact PyProof.Rows.and_int (hp _ _ _ hq)
      | BitOr => exact PyProof.Rows.or_int (hp _ _ _ hq)
      | BitXor => exact PyProof.Rows.xor_int (hp _ _ _ hq)
      | LShift => exact PyProof.Rows.lshift_int_small hq.1 (by have := hq.2.1; lia) (by have := hq.2.2.1; lia) (hp _ _ _ hq.2.2.2)
      | RShift => exact PyProof.Rows.rshift_int hq.1 (hp _ _ _ hq.2)
      | _ => exact False.elim hq
    | _ => exact False.elim hq
  | _ => exact False.elim hq
noncomputable def pBin (op : Operator) (f g : PE) : PE := fun L H Q => f L H fun a H₁ => g L H₁ fun b H₂ => opBin op a b fun v => Q v H₂
theorem SE.bin {op : Operator} {l r : Expr} {pos : Pos} {f g : PE} (hl : SE prog w h₀ n env slots l f) (hr : SE prog w h₀ n env slots r g) : SE prog w h₀ n env slots (.BinOp l op r pos) (pBin op f g) :=
  fun A L H X ρ s Q Q' E hro R hq hp => by
  refine wpAny_BinOp (hl A L H X ρ s _ _ E hro R hq fun a H₁ ρ₁ va h₁ tk₁ hq₁ R₁ x₁ ha => ?_)
  refine hr A L H₁ X ρ₁ _ _ _ E hro R₁ hq₁ fun b H₂ ρ₂ vb h₂ tk₂ hq₂ R₂ x₂ hb => ?_
  exact opBin_sound (ha.ext x₂) hb hq₂ fun i t tk hq₃ => hp _ _ _ _ h₂ tk hq₃ R₂ (x₁.trans x₂) (.int i t)
noncomputable def cmpI (op : CmpOp) (a b : Int) : Option Bool := match op with
  | .Eq => some (a == b)
  | .NotEq => some (a != b)
  | .Lt => some (decide (a < b))
  | .LtE => some (decide (a ≤ b))
  | .Gt => some (decide (b < a))
  | .GtE => some (decide (b ≤ a))
  | _ => none
noncomputable def cmpS (op : CmpOp) (a b : Nat) : Option Bool := match op with
  | .Eq => some (Nat.beq a b)
  | .NotEq => some (!(Nat.beq a b))
  | _ => none
noncomputable def opCmp (op : CmpOp) (a b : V) : Option Bool := match a with
  | .int i => (match b with
    | .int j => cmpI op i j
    | _ => none)
  | .str i => (match b with
    | .str j => cmpS op i j
    | _ => none)
  | _ => none
theorem nm_beq {a b : Nat} (ha : a < nN) (hb : b < nN) : (nm a == nm b) = Nat.beq a b := by
  by_cases h : a = b
  · subst h; rw [beq_self_eq_true, Nat.beq_refl]
  · rw [beq_eq_false_iff_ne.mpr fun e => h (nm_inj ha hb e)]
    cases e : Nat.beq a b with
    | false => rfl
    | true => exact absurd (Nat.eq_of_beq_eq_true e) h
theorem noneNe {c : Bool} (h : (none : Option Bool) = some c) : False := nomatch h
theorem opCmp_sound {op : CmpOp} {va vb : V} {a b : Value} {A : Around} {s : Shared} {h : Heap} {ρ : List Addr} {c : Bool} {Q' : Value → Shared → Prop} {E : Value → Shared → Prop}
    (ha : Is h ρ va a) (hb : Is h ρ vb b) (hq : opCmp op va vb = some c) (hp : Q' (.bool c) s) : wpAny (model prog w) A (compareOp op a b) Q' E s := by
  cases ha with
  | int i t =>
    cases hb with
    | int j u =>
      cases op with
      | Eq => cases hq; exact PyProof.Rows.eq_int hp
      | NotEq => cases hq; exact PyProof.Rows.ne_int hp
      | Lt => cases hq; exact PyProof.Rows.lt_int hp
      | LtE => cases hq; exact PyProof.Rows.le_int hp
      | Gt => cases hq; exact PyProof.Rows.gt_int hp
      | GtE => cases hq; exact PyProof.Rows.ge_int hp
      | _ => exact (noneNe hq).elim
    | _ => exact (noneNe hq).elim
  | str h1 t =>
    cases hb with
    | str h2 u =>
      cases op with
      | Eq => cases hq; exact PyProof.Rows.eq_str (by rw [nm_beq h1 h2]; exact hp)
      | NotEq => cases hq; exact PyProof.Rows.ne_str (by rw [bne, nm_beq h1 h2]; exact hp)
      | _ => exact (noneNe hq).elim
    | _ => exact (noneNe hq).elim
  | _ => exact (noneNe hq).elim
noncomputable def pCmp (op : CmpOp) (f g : PE) : PE := fun L H Q => f L H fun a H₁ => g L H₁ fun b H₂ => match opCmp op a b with | some c => Q (.bool c) H₂ | none => False
theorem SE.cmp {op : CmpOp} {l r : Expr} {pos : Pos} {f g : PE} (hl : SE prog w h₀ n env slots l f) (hr : SE prog w h₀ n env slots r g) (hm : behindInMarks op r = false) : SE prog w h₀ n env slots (.Compare l [op] [r] pos) (pCmp op f g) :=
  fun A L H X ρ s Q Q' E hro R hq hp => by
  refine wpAny_Compare1 (hl A L H X ρ s _ _ E hro R hq fun a H₁ ρ₁ va h₁ tk₁ hq₁ R₁ x₁ ha => ?_) hm
  refine hr A L H₁ X ρ₁ _ _ _ E hro R₁ hq₁ fun b H₂ ρ₂ vb h₂ tk₂ hq₂ R₂ x₂ hb => ?_
  split at hq₂
  · rename_i c hc
    exact opCmp_sound (ha.ext x₂) hb hc (hp _ _ _ _ h₂ tk₂ hq₂ R₂ (x₁.trans x₂) (.bool c))
  · exact hq₂.elim
noncomputable def truthV : V → Option Bool
  | .none => some false
  | .bool b => some b
  | .int i => some (i != 0)
  | _ => none
theorem truth_sound {v : V} {val : Value} {A : Around} {s : Shared} {h : Heap} {ρ : List Addr} {c : Bool} {Q' : Bool → Shared → Prop} {E : Value → Shared → Prop}
    (hv : Is h ρ v val) (hq : truthV v = some c) (hp : Q' c s) : wpAny (model prog w) A (truthy val) Q' E s := by
  unfold truthV at hq
  split at hq <;> cases hq <;> cases hv
  · exact PyProof.Rows.truthy_none hp
  · exact wpAny_truthy_bool hp
  · exact PyProof.Rows.truthy_int hp
noncomputable def bVal (f : PE) : PB := fun L H Q => f L H fun v H₁ => match truthV v with | some b => Q b H₁ | none => False
theorem ST.val {e : Expr} {f : PE} (he : SE prog w h₀ n env slots e f) (hf : isTrue e env (eval e env) = (do let v ← eval e env; standAt e.pos; holding [v] (truthy v))) : ST prog w h₀ n env slots e (bVal f) :=
  fun A L H X ρ s Q Q' E hro R hq hp => by
  refine isTrue_plain (he A L H X ρ s _ _ E hro R hq fun v H₁ ρ₁ val h₁ tk₁ hq₁ R₁ x₁ hv => ?_) hf
  split at hq₁
  · rename_i c hc
    exact truth_sound hv hc (hp _ _ _ _ h₁ tk₁ hq₁ R₁ x₁ rfl)
  · exact hq₁.elim
noncomputable def bCmp (op : CmpOp) (f g : PE) : PB := fun L H Q => f L H fun a H₁ => g L H₁ fun b H₂ => match opCmp op a b with | some c => Q c H₂ | none => False
theorem ST.cmp {op : CmpOp} {l r : Expr} {pos : Pos} {f g : PE} (hl : SE prog w h₀ n env slots l f) (hr : SE prog w h₀ n env slots r g) (hm : behindInMarks op r = false) : ST prog w h₀ n env slots (.Compare l [op] [r] pos) (bCmp op f g) :=
  fun A L H X ρ s Q Q' E hro R hq hp => by
  refine wpAny_isTrue_Compare1 (hl A L H X ρ s _ _ E hro R hq fun a H₁ ρ₁ va h₁ tk₁ hq₁ R₁ x₁ ha => ?_) hm
  refine hr A L H₁ X ρ₁ _ _ _ E hro R₁ hq₁ fun b H₂ ρ₂ vb h₂ tk₂ hq₂ R₂ x₂ hb => ?_
  split at hq₂
  · rename_i c hc
    exact opCmp_sound (ha.ext x₂) hb hc (wpAny_truthy_bool (hp _ _ _ _ h₂ tk₂ hq₂ R₂ (x₁.trans x₂) rfl))
  · exact hq₂.elim
noncomputable def bNot (f : PB) : PB := fun L H Q => f L H fun b H₁ => Q (!b) H₁
theorem ST.not {e : Expr} {pos : Pos} {f : PB} (he : ST prog w h₀ n env slots e f) : ST prog w h₀ n env slots (.UnaryOp .Not e pos) (bNot f) :=
  fun A L H X ρ s Q Q' E hro R hq hp => wpAny_isTrue_Not (he A L H X ρ s _ _ E hro R hq fun v H₁ ρ₁ val h₁ tk₁ hq₁ R₁ x₁ hv => by
    subst hv; exact hp _ _ _ _ h₁ tk₁ hq₁ R₁ x₁ rfl)
theorem ST.boolOp {op : BoolOp} {es : List Expr} {pos : Pos} {f : PB} (he : SA prog w h₀ n env slots es op f) : ST prog w h₀ n env slots (.BoolOp op es pos) f :=
  fun A L H X ρ s Q Q' E hro R hq hp => wpAny_isTrue_BoolOp (he A L H X ρ s _ _ E hro R hq hp)
noncomputable def bAndNil : PB := fun _ H Q => Q true H
noncomputable def bOrNil : PB := fun _ H Q => Q false H
noncomputable def bAnd (f g : PB) : PB := fun L H Q => f L H fun b H₁ => cond b (g L H₁ Q) (Q false H₁)
noncomputable def bOr (f g : PB) : PB := fun L H Q => f L H fun b H₁ => cond b (Q true H₁) (g L H₁ Q)
theorem SA.andNil : SA prog w h₀ n env slots [] .And bAndNil := fun A L H X ρ s Q Q' E hro R hq hp => wpAny_allTrue_And_nil (hp _ _ _ _ s.heap s.toks hq R (Ext.refl ..) rfl)
theorem SA.orNil : SA prog w h₀ n env slots [] .Or bOrNil := fun A L H X ρ s Q Q' E hro R hq hp => wpAny_allTrue_Or_nil (hp _ _ _ _ s.heap s.toks hq R (Ext.refl ..) rfl)
theorem SA.and {e : Expr} {es : List Expr} {f g : PB} (he : ST prog w h₀ n env slots e f) (hes : SA prog w h₀ n env slots es .And g) : SA prog w h₀ n env slots (e :: es) .And (bAnd f g) :=
  fun A L H X ρ s Q Q' E hro R hq hp => wpAny_allTrue_And_cons (he A L H X ρ s _ _ E hro R hq fun b H₁ ρ₁ b' h₁ tk₁ hq₁ R₁ x₁ hb => by
    subst hb
    cases b with
    | true => exact hes A L H₁ X ρ₁ _ _ _ E hro R₁ hq₁ (hp.then x₁)
    | false => exact hp _ _ _ _ h₁ tk₁ hq₁ R₁ x₁ rfl)
theorem SA.or {e : Expr} {es : List Expr} {f g : PB} (he : ST prog w h₀ n env slots e f) (hes : SA prog w h₀ n env slots es .Or g) : SA prog w h₀ n env slots (e :: es) .Or (bOr f g) :=
  fun A L H X ρ s Q Q' E hro R hq hp => wpAny_allTrue_Or_cons (he A L H X ρ s _ _ E hro R hq fun b H₁ ρ₁ b' h₁ tk₁ hq₁ R₁ x₁ hb => by
    subst hb
    cases b with
    | false => exact hes A L H₁ X ρ₁ _ _ _ E hro R₁ hq₁ (hp.then x₁)
    | true => exact hp _ _ _ _ h₁ tk₁ hq₁ R₁ x₁ rfl)
noncomputable def pIf (c : PB) (f g : PE) : PE := fun L H Q => c L H fun b H₁ => cond b (f L H₁ Q) (g L H₁ Q)
theorem SE.ifExp {c a b : Expr} {pos : Pos} {fc : PB} {f g : PE} (hc : ST prog w h₀ n env slots c fc) (ha : SE prog w h₀ n env slots a f) (hb : SE prog w h₀ n env slots b g) : SE prog w h₀ n env slots (.IfExp c a b pos) (pIf fc f g) :=
  fun A L H X ρ s Q Q' E hro R hq hp => wpAny_IfExp (hc A L H X ρ s _ _ E hro R hq fun b H₁ ρ₁ b' h₁ tk₁ hq₁ R₁ x₁ hb' => by
    subst hb'
    cases b with
    | true => exact ha A L H₁ X ρ₁ _ _ _ E hro R₁ hq₁ (hp.then x₁)
    | false => exact hb A L H₁ X ρ₁ _ _ _ E hro R₁ hq₁ (hp.then x₁))
noncomputable def pIfI (c : PB) (i j : Int) : PE := fun L H Q => c L H fun b H₁ => Q (.int (cond b i j)) H₁
theorem SE.ifInt {c a b : Expr} {pos : Pos} {fc : PB} {i j : Int} {f g : PE} (hc : ST prog w h₀ n env slots c fc) (ha : SE prog w h₀ n env slots a f) (hb : SE prog w h₀ n env slots b g)
    (hf : ∀ L H (Q : V → List O → Prop), Q (.int i) H → f L H Q) (hg : ∀ L H (Q : V → List O → Prop), Q (.int j) H → g L H Q) : SE prog w h₀ n env slots (.IfExp c a b pos) (pIfI fc i j) :=
  fun A L H X ρ s Q Q' E hro R hq hp => wpAny_IfExp (hc A L H X ρ s _ _ E hro R hq fun b H₁ ρ₁ b' h₁ tk₁ hq₁ R₁ x₁ hb' => by
    subst hb'
    cases b with
    | true => exact ha A L H₁ X ρ₁ _ _ _ E hro R₁ (hf _ _ _ hq₁) (hp.then x₁)
    | false => exact hb A L H₁ X ρ₁ _ _ _ E hro R₁ (hg _ _ _ hq₁) (hp.then x₁))
end
section
variable {prog : Program} {w : World} {h₀ : Heap} {n : Nat} {env : Env} {slots : Slots}
noncomputable def V.plain : V → Bool
  | .raw _ => false
  | _ => true
theorem V.handed {v : V} {val : Value} {h : Heap} {ρ : List Addr} (hv : Is h ρ v val) (hp : v.plain = true) : handedIn val = true := by
  cases hv <;> first | rfl | cases hp
noncomputable def fget (x : Nat) : List (Nat × V) → Option V
  | [] => none
  | (y, v) :: r => match Nat.beq y x with | true => some v | false => fget x r
noncomputable def fput (x : Nat) (v : V) : List (Nat × V) → List (Nat × V)
  | [] => [(x, v)]
  | (y, u) :: r => match Nat.beq y x with | true => (y, v) :: r | false => (y, u) :: fput x v r
theorem isStr_str (x y : Str) (t : Tok) : (Value.str x t).isStr y = (x == y) := rfl
theorem NsL.noRef {h : Heap} {ρ : List Addr} {fs : List (Nat × V)} {es : List DictEntry} (k : NsL h ρ fs es) : es.any (·.refKey) = false := by
  induction k with
  | nil => rfl
  | cons _ _ _ _ ih => rw [List.any_cons, ih]; rfl
theorem NsL.get {h : Heap} {ρ : List Addr} {x : Nat} {v : V} (hx : x < nN) {fs : List (Nat × V)} {es : List DictEntry} (k : NsL h ρ fs es) (e : fget x fs = some v) : ∃ val, getL (nm x) es = some (some val) ∧ Is h ρ v val ∧ handedIn val = true := by
  induction k with
  | nil => cases e
  | @cons y u val hs t vs es hy a hh r ih =>
    have q1 : (⟨hs, .str (nm y) t, val⟩ : DictEntry).key.isStr (nm x) = Nat.beq y x := by rw [isStr_str, nm_beq hy hx]
    unfold fget at e
    unfold getL
    rw [List.find?_cons, q1]
    cases q : Nat.beq y x with
    | true => rw [q] at e; cases e; exact ⟨val, rfl, a, hh⟩
    | false => rw [q] at e; exact ih e
theorem NsL.isSome {h : Heap} {ρ : List Addr} {x : Str} {fs : List (Nat × V)} {es : List DictEntry} (r : NsL h ρ fs es) : (getL x es).isSome = true := by
  unfold getL
  split
  · rfl
  · rw [r.noRef]; rfl
theorem NsL.put {h : Heap} {ρ : List Addr} {x : Nat} {v : V} {val : Value} {hs : Int} {t : Tok} (hx : x < nN) (hv : Is h ρ v val) (hh : handedIn val = true) : ∀ {fs : List (Nat × V)} {es : List DictEntry}, NsL h ρ fs es → NsL h ρ (fput x v fs) (putL (nm x) hs (.str (nm x) t) val es)
  | _, _, .nil => .cons hx hv hh .nil
  | _, _, .cons (x := y) hy a b r => by
    unfold fput putL
    rw [isStr_str, nm_beq hy hx]
    cases q : Nat.beq y x with
    | true =>
      rw [if_pos rfl]
      exact .cons hy hv hh r
    | false =>
      rw [if_neg (by decide)]
      exact .cons hy a b (NsL.put hx hv hh r)
theorem NsL.length {h : Heap} {ρ : List Addr} : ∀ {fs : List (Nat × V)} {es : List DictEntry}, NsL h ρ fs es → fs.length = es.length
  | _, _, .nil => rfl
  | _, _, .cons _ _ _ r => by rw [List.length_cons, List.length_cons, NsL.length r]
noncomputable def AttrGet (prog : Program) (w : World) (h₀ : Heap) (C : Addr) (name : Str) : Prop :=
  ∀ (A : Around) (s : Shared) (x dx : Addr) (es : List DictEntry) (n : Nat) (v : Value) (Q : Value → Shared → Prop) (E : Value → Shared → Prop),
    (∀ b o, h₀.get? b = some o → s.heap.get? b = some o) → s.heap.get? x = some (instObj C dx) → s.heap.get? dx = some (dictOf es n) → getL name es = some (some v) → handedIn v = true →
    Q v { s with toks := s.toks + 1 } → wpAny (model prog w) A (getAttr (.ref x) name true) Q E s
theorem attrGet_of {K : Frag} {C : Addr} {name : Str} {attr : Option Value} (X : K.In h₀) (hg : plainGet K C name = true) (hh : hasDictIn K C = true) (ha : findIn K (.ref C) name = some attr) (hn : noGet K attr = true) : AttrGet prog w h₀ C name :=
  fun A s x dx es n v Q E hk hx hd hl hv h => get_value (X.keeps hk) ⟨hx, rfl, rfl, hd⟩ (plainGet_of hg).1 (findObj_own (od := dictOf es n) hh ha hn (by rw [lookIn_dict]; exact hl)) hv h
noncomputable def AttrSet (prog : Program) (w : World) (h₀ : Heap) (C : Addr) (name : Str) : Prop :=
  ∀ (A : Around) (s : Shared) (x dx : Addr) (es : List DictEntry) (n : Nat) (v : Value) (L : Addr) (m : Str → Option Value) (Q : Unit → Shared → Prop) (E : Value → Shared → Prop),
    (∀ b o, h₀.get? b = some o → s.heap.get? b = some o) → s.heap.get? x = some (instObj C dx) → s.heap.get? dx = some (dictOf es n) → (getL name es).isSome = true → es.length ≤ 900 →
    s.heap.Ns L m → L ≠ dx →
    (∀ h' hs t n', (∀ b o, b ≠ dx → b ≠ L → s.heap.get? b = some o → h'.get? b = some o) → h'.Ns L m → h'.get? dx = some (dictOf (putL name hs (.str name t) v es) n') → Q () { s with heap := h', toks := s.toks + 2 }) →
    wpAny (model prog w) A (setAttr (.ref x) name v) Q E s
theorem putL_length (name : Str) (hs : Int) (k v : Value) : ∀ es : List DictEntry, (putL name hs k v es).length ≤ es.length + 1
  | [] => by simp [putL]
  | e :: r => by
    unfold putL
    split
    · simp
    · have := putL_length name hs k v r
      simp only [List.length_cons]; lia
noncomputable def restOf (h : Heap) (L d : Addr) : List (Addr × Obj) := (List.range h.objs.size).filterMap fun a => if a = L ∨ a = d then none else (h.get? a).map fun o => (a, o)
theorem mem_restOf {h : Heap} {L d a : Addr} {o : Obj} : (a, o) ∈ restOf h L d ↔ h.get? a = some o ∧ a ≠ L ∧ a ≠ d := by
  unfold restOf
  rw [List.mem_filterMap]
  constructor
  · rintro ⟨b, hb, e⟩
    split at e
    · cases e
    · rename_i q
      obtain ⟨o', ho', e'⟩ := Option.map_eq_some_iff.mp e
      cases e'
      exact ⟨ho', fun z => q (.inl z), fun z => q (.inr z)⟩
  · rintro ⟨ho, h1, h2⟩
    refine ⟨a, List.mem_range.mpr (Heap.lt_size ho), ?_⟩
    rw [if_neg (by rintro (z | z); exact h1 z; exact h2 z), ho]; rfl
noncomputable def noHeap : Heap := ⟨#[], {}⟩
theorem noHeap_get (a : Addr) : noHeap.get? a = none := by
  cases e : noHeap.get? a with
  | none => rfl
  | some o => exact absurd (Heap.lt_size e) (Nat.not_lt_zero _)
theorem attrSet_of {K : Frag} {C : Addr} {name : Str} (X : K.In h₀) (hs : findIn K (.ref C) "__setattr__" = some (some (.builtin "object.__setattr__"))) (hp : plainOver K C = true) (ht : takerIn K C name = some none) (hh : hasDictIn K C = true) : AttrSet prog w h₀ C name :=
  fun A s x dx es n v L m Q E hk hx hd hl hz hL hne h => by
  have F : Fr noHeap L s.heap m := ⟨hL, (fun b o e => by rw [noHeap_get] at e; cases e), Nat.zero_le _⟩
  have N : News noHeap L s.heap ([] ++ (dx, dictOf es n) :: restOf s.heap L dx) := by
    intro p hp
    rcases List.mem_cons.mp hp with rfl | hp
    · exact ⟨hd, fun e => hne e.symm, noHeap_get _⟩
    · obtain ⟨a, o⟩ := p
      obtain ⟨a1, a2, _⟩ := mem_restOf.mp hp
      exact ⟨a1, a2, noHeap_get _⟩
  have I : InstAt s.heap x (instObj C dx) C (some (dictOf es n)) := ⟨hx, rfl, rfl, hd⟩
  refine set_plain (X.keeps hk) I hs (osa_dict (s := { s with toks := s.toks + 1 }) (h₀ := noHeap) (L := L) (m := m) (pre := []) (post := restOf s.heap L dx) (es := putL name (PyData.keyHash w.params name) (.str name (s.toks + 1)) v es) (n := putN name es n) F N (X.keeps hk) I rfl hp ht hh hl (fun _ h => nomatch h)
    (fun p hp => by obtain ⟨a, o⟩ := p; exact (mem_restOf.mp hp).2.2) (putName_dict _ _ _ _ _ _) rfl (by have := putL_length name (PyData.keyHash w.params name) (.str name (s.toks + 1)) v es; lia) fun h' F' N' => ?_)
  refine h h' _ _ _ (fun b o h1 h2 ho => (N' (b, o) (List.mem_cons_of_mem _ (mem_restOf.mpr ⟨ho, h2, h1⟩))).1) F'.ns (N' _ (List.mem_cons_self ..)).1
noncomputable def guardB (b : Bool) (P : Prop) : Prop := match b with
  | true => P
  | false => False
theorem guardB_i {b : Bool} {P : Prop} (h : guardB b P) : b = true ∧ P := by
  cases b with
  | true => exact ⟨rfl, h⟩
  | false => exact h.elim
theorem beq_i {a b : Nat} {P : Prop} (h : guardB (Nat.beq a b) P) : a = b ∧ P := ⟨Nat.eq_of_beq_eq_true (guardB_i h).1, (guardB_i h).2⟩
noncomputable def pAttr (C : Addr) (name : Nat) (f : PE) : PE := fun L H Q => f L H fun v H₁ => match v with
  | .obj k => (match H₁[k]? with
    | some (.inst C' d) => guardB (Nat.beq C' C) (match H₁[d]? with
        | some (.ns fs) => (match fget name fs with | some u => Q u H₁ | none => False)
        | _ => False)
    | _ => False)
  | _ => False
theorem SE.attr {C : Addr} {nameS : Str} {e : Expr} {pos : Pos} {f : PE} (name : Nat) (hnm : name < nN) (hnS : nameS = nm name) (hc : AttrGet prog w h₀ C (nm name)) (he : SE prog w h₀ n env slots e f)
    (ha : eval (.Attribute e nameS pos) env = (do
      let o ← eval e env
      standAt pos.atName
      let r ← holding [o] (getAttr o nameS true)
      letTemporaryGo e o r
      pure r)) : SE prog w h₀ n env slots (.Attribute e nameS pos) (pAttr C name f) := fun A L H X ρ s Q Q' E hro R hq hp => by
  subst hnS
  refine Attribute_any_ (he A L H X ρ s _ _ E hro R hq fun v H₁ ρ₁ val h₁ tk₁ hq₁ R₁ x₁ hv => ?_) ha
  split at hq₁
  · rename_i k
    cases hv with
    | obj ek =>
      split at hq₁
      · rename_i C' d eo
        replace hq₁ := beq_i hq₁
        obtain ⟨rfl, hq₁⟩ := hq₁
        split at hq₁
        · rename_i fs ed
          split at hq₁
          · rename_i u eu
            have o1 := R₁.rel.objs _ _ _ eo ek
            obtain ⟨da, eda, hx⟩ := o1
            have o2 := R₁.rel.objs _ _ _ ed eda
            obtain ⟨es, nn, hd, hes⟩ := o2
            obtain ⟨uval, g1, g2, g3⟩ := hes.get hnm eu
            exact hc A _ _ _ _ _ _ _ _ R₁.keep hx hd g1 g3 (hp _ _ _ _ h₁ _ hq₁ R₁ x₁ g2)
          · exact hq₁.elim
        · exact hq₁.elim
      · exact hq₁.elim
  · exact hq₁.elim
theorem RelF.updNs {h h' : Heap} {ρ : List Addr} {L : List (Option V)} {H : List O} {X : List XE} (R : RelF prog w h₀ env slots h ρ L H X) {k : Nat} {a : Addr} {o' : O} (e : ρ[k]? = some a)
    (hs : ∀ b o, b ≠ a → b ≠ env.locals → h.get? b = some o → h'.get? b = some o) (hn : ∀ m, h.Ns env.locals m → h'.Ns env.locals m) (hl : ∀ h'', (∀ b o, b ≠ env.locals → h'.get? b = some o → h''.get? b = some o) → OIs prog w h'' ρ a o') :
    RelF prog w h₀ env slots h' ρ L (H.set k o') X ∧ Ext h ρ h' ρ := by
  obtain ⟨m, hm, hsl⟩ := R.fr
  have hm' := hn m hm
  have hae : env.locals ≠ a := R.rel.ne_of (List.mem_of_getElem? e) (p := ⟨env.locals, fun _ => True⟩) (List.mem_cons_self ..)
  obtain ⟨oL, esL, epL, hoL, hdL, _⟩ := id hm
  obtain ⟨oL', esL', epL', hoL', hdL', _⟩ := id hm'
  obtain ⟨ob, hob, hnt⟩ := R.rel.lt (List.mem_append_left _ (List.mem_of_getElem? e))
  have tk : TupKeep h h' := fun b items ht => by
    obtain ⟨ot, hb, hc, nn, hd⟩ := ht
    refine ⟨ot, hs b ot (fun q => ?_) (fun q => ?_) hb, hc, nn, hd⟩
    · subst q; rw [hob] at hb; cases hb; exact hnt _ _ hc hd
    · subst q; rw [hoL] at hb; cases hb; rw [hdL] at hd; cases hd
  have x : Ext h ρ h' ρ := ⟨tk, [], (List.append_nil ρ).symm⟩
  have nd := R.rel.nodup
  have hmem : ∀ p ∈ slots.filterMap (ownCell env) ++ X, p.a ≠ env.locals := fun p hp q => by
    have n2 := (List.nodup_append.mp nd).2.1
    show False
    have n3 : (env.locals :: (slots.filterMap (ownCell env) ++ X).map XE.a).Nodup := by simpa [frameX] using n2
    exact (List.nodup_cons.mp n3).1 (q ▸ List.mem_map_of_mem hp)
  have hno : ∀ b ∈ ρ, b ≠ env.locals := fun b hb q => R.rel.ne_of hb (p := ⟨env.locals, fun _ => True⟩) (List.mem_cons_self ..) q.symm
  have hklt : k < ρ.length := (List.getElem?_eq_some_iff.mp e).1
  refine ⟨⟨⟨fun b o hb => ?_, by rw [List.length_set]; exact R.rel.len, fun j o b ej eb => ?_, R.rel.fresh, nd, fun p hp => ?_⟩, m, hm', fun i y kk hi => ?_⟩, x⟩
  · refine hs b o (fun q => ?_) (fun q => ?_) (R.keep b o hb)
    · have := R.rel.fresh a (List.mem_append_left _ (List.mem_of_getElem? e)); rw [← q, hb] at this; cases this
    · have := R.rel.fresh env.locals (List.mem_append_right _ (by simp [frameX])); rw [← q, hb] at this; cases this
  · by_cases hj : k = j
    · subst hj
      rw [List.getElem?_set_self (R.rel.len ▸ hklt)] at ej
      cases ej
      rw [e] at eb; cases eb
      exact hl h' fun _ _ _ z => z
    · rw [List.getElem?_set_ne hj] at ej
      have hne : b ≠ a := fun q => by
        subst q
        exact hj ((List.getElem?_inj hklt (List.nodup_append.mp nd).1).mp (e.trans eb.symm))
      exact (R.rel.objs j o b ej eb).ext x fun ob' hb' => hs b ob' hne (hno b (List.mem_of_getElem? eb)) hb'
  · rcases List.mem_cons.mp hp with rfl | hp'
    · exact ⟨oL', hoL', trivial, fun _ _ _ q => by rw [hdL'] at q; cases q⟩
    · obtain ⟨o, ho, r⟩ := R.rel.extra p hp
      exact ⟨o, hs _ _ (R.rel.ne_of (List.mem_of_getElem? e) hp) (hmem p hp') ho, r⟩
  · have z := hsl i y kk hi
    unfold SlotIs at z ⊢
    split
    · intro v hv
      obtain ⟨val, p, q⟩ := z v hv
      exact ⟨val, p, q.ext x⟩
    · obtain ⟨c, cv, p, ⟨oc, q, r⟩, t⟩ := z
      have hin := mem_frameX_cell hi p
      have hin' : (⟨c, fun _ => True⟩ : XE) ∈ slots.filterMap (ownCell env) ++ X := List.mem_append_left _ (List.mem_filterMap.mpr ⟨(y, .cell), List.mem_of_getElem? hi, by simp [ownCell, p]⟩)
      refine ⟨c, cv, p, ⟨oc, hs _ _ (R.rel.ne_of (List.mem_of_getElem? e) (List.mem_append_left _ hin)) (hmem _ hin') q, r⟩, fun v hv => ?_⟩
      obtain ⟨val, p, q⟩ := t v hv
      exact ⟨val, p, q.ext x⟩
    · intro v hv
      obtain ⟨c, val, p, q, r⟩ := z v hv
      exact ⟨c, val, p, q.ext x, r⟩
    · trivial
noncomputable abbrev PT := V → List (Option V) → List O → (List (Option V) → List O → Prop) → Prop
noncomputable def TJ (prog : Program) (w : World) (h₀ : Heap) (n : Nat) (env : Env) (slots : Slots) (t : Value → Sem Unit) (f : PT) : Prop :=
  ∀ (A : Around) (v : V) (val : Value) (L : List (Option V)) (H : List O) (X : List XE) (ρ : List Addr) (s : Shared) (Q : List (Option V) → List O → Prop) (Q' : Unit → Shared → Prop) (E : Value → Shared → Prop),
    Room n A → RelF prog w h₀ env slots s.heap ρ L H X → Is s.heap ρ v val → f v L H Q →
    (∀ L' H' ρ' h' tk', Q L' H' → RelF prog w h₀ env slots h' ρ' L' H' X → Ext s.heap ρ h' ρ' → Q' () { s with heap := h', toks := tk' }) → wpAny (model prog w) A (t val) Q' E s
noncomputable def tLoc (i : Nat) : PT := fun v L H Q => Q (L.set i (some v)) H
theorem TJ.bind {x : Str} (i : Nat) (hk : env.scope.kind = .function) (hi : slots[i]? = some (x, .local)) (hl : env.kindOf x = some .local) (hnd : (slots.map (·.1)).Nodup) :
    TJ prog w h₀ n env slots (fun v => bindName env x v) (tLoc i) := fun A v val L H X ρ s Q Q' E hro R hv hq hp => by
  obtain ⟨m, hm, hs⟩ := id R.fr
  refine wpAny_bindName (wpAny_storeName_local hl hm (fun h' hn hsb => ?_) (by rw [hk]; rfl))
  obtain ⟨R', x'⟩ := R.store hi hnd hv hm hn hsb
  exact hp _ _ _ h' _ hq R' x'
theorem TJ.name {x : Str} {pos : Pos} (i : Nat) (hk : env.scope.kind = .function) (hi : slots[i]? = some (x, .local)) (hl : env.kindOf x = some .local) (hnd : (slots.map (·.1)).Nodup) :
    TJ prog w h₀ n env slots (assign (.Name x pos) env) (tLoc i) := fun A v val L H X ρ s Q Q' E hro R hv hq hp => by
  rw [PySem.assign_Name]
  exact wpAny_bind (wpAny_standAt (TJ.bind i hk hi hl hnd A v val L H X ρ s Q Q' E hro R hv hq hp))
noncomputable def putAttr (C : Addr) (name : Nat) (ov v : V) (H : List O) (Q : List O → Prop) : Prop := match ov with
  | .obj k => (match H[k]? with
    | some (.inst C' d) => guardB (Nat.beq C' C) (guardB v.plain (match H[d]? with
          | some (.ns fs) => guardB (Nat.ble fs.length 900) (Q (H.set d (.ns (fput name v fs))))
          | _ => False))
    | _ => False)
  | _ => False
theorem putAttr_sound {C : Addr} {name : Nat} {ov v : V} {oval val : Value} {A : Around} {L : List (Option V)} {H : List O} {X : List XE} {ρ : List Addr} {s : Shared} {Q : List O → Prop} {Q' : Unit → Shared → Prop} {E : Value → Shared → Prop}
    (hnm : name < nN) (hc : AttrSet prog w h₀ C (nm name)) (R : RelF prog w h₀ env slots s.heap ρ L H X) (ho : Is s.heap ρ ov oval) (hv : Is s.heap ρ v val) (hq : putAttr C name ov v H Q)
    (hp : ∀ H' h' tk', Q H' → RelF prog w h₀ env slots h' ρ L H' X → Ext s.heap ρ h' ρ → Q' () { s with heap := h', toks := tk' }) : wpAny (model prog w) A (setAttr oval (nm name) val) Q' E s := by
  unfold putAttr at hq
  split at hq
  · rename_i k
    cases ho with
    | obj ek =>
      split at hq
      · rename_i C' d eo
        replace hq := beq_i hq
        obtain ⟨rfl, hq⟩ := hq
        replace hq := guardB_i hq
        obtain ⟨hpl, hq⟩ := hq
        split at hq
        · rename_i fs ed
          obtain ⟨hb, hq⟩ := guardB_i hq
          have hlen := Nat.le_of_ble_eq_true hb
          obtain ⟨da, eda, hx⟩ := R.rel.objs _ _ _ eo ek
          obtain ⟨es, nn, hd, hes⟩ := R.rel.objs _ _ _ ed eda
          obtain ⟨m, hm, _⟩ := id R.fr
          have hne : env.locals ≠ da := R.rel.ne_of (List.mem_of_getElem? eda) (p := ⟨env.locals, fun _ => True⟩) (List.mem_cons_self ..)
          refine hc A s _ _ es nn val env.locals m _ _ R.keep hx hd hes.isSome (by rw [← hes.length]; exact hlen) hm hne fun h' hs t n' h1 h2 h3 => ?_
          have hn : ∀ m', s.heap.Ns env.locals m' → h'.Ns env.locals m' := fun m' hm' => by
            have : m' = m := by
              obtain ⟨o1, es1, ep1, a1, b1, _, d1⟩ := hm'
              obtain ⟨o2, es2, ep2, a2, b2, _, d2⟩ := hm
              rw [a1] at a2; cases a2
              rw [b1] at b2; cases b2
              funext z; rw [← d1, ← d2]
            rw [this]; exact h2
          have tkx : Ext s.heap ρ h' ρ := by
            refine ⟨fun b items ht => ?_, [], (List.append_nil ρ).symm⟩
            obtain ⟨ot, hb, hcc, nn', hdd⟩ := ht
            refine ⟨ot, h1 b ot (fun q => ?_) (fun q => ?_) hb, hcc, nn', hdd⟩
            · subst q; rw [hd] at hb; cases hb; cases hdd
            · subst q
              obtain ⟨o2, es2, ep2, a2, b2, _⟩ := hm
              rw [a2] at hb; cases hb; rw [b2] at hdd; cases hdd
          have hns : ∀ h'' : Heap, (∀ b o, b ≠ env.locals → h'.get? b = some o → h''.get? b = some o) → NsL h'' ρ (fput name v fs) (putL (nm name) hs (.str (nm name) t) val es) := fun h'' hh => by
            have x2 : Ext h' ρ h'' ρ := ⟨(fun b items ht => by
                obtain ⟨ot, hb, hcc, nn', hdd⟩ := ht
                refine ⟨ot, hh b ot (fun q => ?_) hb, hcc, nn', hdd⟩
                subst q
                obtain ⟨o2, es2, ep2, a2, b2, _⟩ := h2
                rw [a2] at hb; cases hb; rw [b2] at hdd; cases hdd), [], (List.append_nil ρ).symm⟩
            exact NsL.put hnm ((hv.ext tkx).ext x2) (V.handed hv hpl) ((hes.ext tkx).ext x2)
          obtain ⟨R', x'⟩ := R.updNs (o' := .ns (fput name v fs)) eda h1 hn (fun h'' hh => ⟨_, n', hh _ _ (Ne.symm hne) h3, hns h'' hh⟩)
          exact hp _ h' _ hq R' x'
        · exact hq.elim
      · exact hq.elim
  · exact hq.elim
noncomputable def tAttr (C : Addr) (name : Nat) (f : PE) : PT := fun v L H Q => f L H fun ov H₁ => putAttr C name ov v H₁ fun H₂ => Q L H₂
theorem TJ.attr {C : Addr} {nameS : Str} {o : Expr} {pos : Pos} {f : PE} (name : Nat) (hnm : name < nN) (hnS : nameS = nm name) (hc : AttrSet prog w h₀ C (nm name)) (ho : SE prog w h₀ n env slots o f) : TJ prog w h₀ n env slots (assign (.Attribute o nameS pos) env) (tAttr C name f) :=
  fun A v val L H X ρ s Q Q' E hro R hv hq hp => by
  subst hnS
  rw [arm_assign_Attribute]
  refine wpAny_bind (wpAny_holding (ho A L H X ρ s _ _ E hro R hq fun ov H₁ ρ₁ oval h₁ tk₁ hq₁ R₁ x₁ hov => ?_))
  refine wpAny_bind (wpAny_standAt (wpAny_bind (wpAny_holding ?_)))
  refine putAttr_sound hnm hc R₁ hov (hv.ext x₁) hq₁ fun H₂ h₂ tk₂ hq₂ R₂ x₂ => ?_
  exact wpAny_release (hp _ _ _ h₂ tk₂ hq₂ R₂ (x₁.trans x₂))
end
section
variable {prog : Program} {w : World} {h₀ : Heap} {n : Nat} {env : Env} {slots : Slots}
theorem KvL.get {h : Heap} {ρ : List Addr} {x : Nat} {v : V} (hx : x < nN) : ∀ {fs : List (Nat × V)} {kvs : List (Str × Value)}, KvL h ρ fs kvs → fget x fs = some v → ∃ val, valueAt kvs (nm x) = some val ∧ Is h ρ v val := by
  intro fs kvs k
  induction k with
  | nil => exact fun e => nomatch e
  | @cons y _ val _ _ hy a r ih =>
    intro e
    unfold fget at e
    split at e
    · rename_i q
      cases e
      refine ⟨val, ?_, a⟩
      have : y = x := Nat.eq_of_beq_eq_true q
      subst this
      simp [valueAt]
    · rename_i q
      obtain ⟨u, e1, e2⟩ := ih e
      refine ⟨u, ?_, e2⟩
      have hne : ¬ nm y = nm x := fun z => Nat.ne_of_beq_eq_false q (nm_inj hy hx z)
      simp only [valueAt, List.find?_cons, hne, decide_false] at e1 ⊢
      exact e1
theorem KvL.length {h : Heap} {ρ : List Addr} {fs : List (Nat × V)} {kvs : List (Str × Value)} (k : KvL h ρ fs kvs) : fs.length = kvs.length := by
  induction k with
  | nil => rfl
  | cons _ _ _ ih => exact congrArg (· + 1) ih
theorem stored_cons_ne {x y : Str} {u v : Value} (kvs : List (Str × Value)) (h : y ≠ x) : stored ((y, u) :: kvs) x v = (y, u) :: stored kvs x v := by
  unfold stored
  simp only [List.any_cons, decide_eq_false h, Bool.false_or, List.map_cons, if_neg h]
  split <;> rfl
theorem stored_cons_eq {x : Str} {u v : Value} (kvs : List (Str × Value)) (hn : x ∉ kvs.map (·.1)) : stored ((x, u) :: kvs) x v = (x, v) :: kvs := by
  unfold stored
  simp only [List.any_cons, decide_true, Bool.true_or, if_true, List.map_cons]
  congr 1
  conv => rhs; rw [← List.map_id kvs]
  refine List.map_congr_left fun kv hkv => ?_
  have hne : ¬ kv.1 = x := fun e => hn (by rw [← e]; exact List.mem_map_of_mem hkv)
  rw [if_neg hne]; rfl
theorem KvL.put {h : Heap} {ρ : List Addr} {x : Nat} {v : V} {val : Value} (hx : x < nN) (hv : Is h ρ v val) : ∀ {fs : List (Nat × V)} {kvs : List (Str × Value)}, KvL h ρ fs kvs → (kvs.map (·.1)).Nodup → KvL h ρ (fput x v fs) (stored kvs (nm x) val) := by
  intro fs kvs k
  induction k with
  | nil => exact fun _ => .cons hx hv .nil
  | @cons y _ _ _ _ hy a r ih =>
    intro hn
    rw [List.map_cons, List.nodup_cons] at hn
    unfold fput
    cases q : Nat.beq y x with
    | true =>
      have : y = x := Nat.eq_of_beq_eq_true q
      subst this
      rw [stored_cons_eq _ hn.1]
      exact .cons hy hv r
    | false =>
      rw [stored_cons_ne _ fun z => Nat.ne_of_beq_eq_false q (nm_inj hy hx z)]
      exact .cons hy a (ih hn.2)
noncomputable def natIx (j : Int) (Q : Nat → Prop) : Prop := match j with
  | .ofNat i => guardB (Nat.blt i 4611686018427387904) (Q i)
  | .negSucc _ => False
theorem natIx_i {j : Int} {Q : Nat → Prop} (h : natIx j Q) : ∃ i : Nat, j = (i : Int) ∧ i < 2 ^ 62 ∧ Q i := by
  cases j with
  | negSucc _ => exact h.elim
  | ofNat i =>
    obtain ⟨e, h⟩ := guardB_i (b := Nat.blt i 4611686018427387904) (P := Q i) h
    refine ⟨i, rfl, ?_, h⟩
    have := Nat.le_of_ble_eq_true e
    lia
noncomputable def itemOf (vs : List V) (i : V) (Q : V → Prop) : Prop := match i with
  | .int j => natIx j fun i => match vs[i]? with | some v => Q v | none => False
  | _ => False
noncomputable def itemN (xs : List Int) (i : V) (Q : V → Prop) : Prop := match i with
  | .int j => natIx j fun i => match xs[i]? with | some x => Q (.int x) | none => False
  | _ => False
theorem itemOf_i {vs : List V} {i : V} {Q : V → Prop} (h : itemOf vs i Q) : ∃ (k : Nat) (v : V), i = .int (k : Int) ∧ k < 2 ^ 62 ∧ vs[k]? = some v ∧ Q v := by
  unfold itemOf at h
  split at h
  · obtain ⟨k, rfl, hlt, h⟩ := natIx_i h
    split at h
    · rename_i v ev; exact ⟨k, v, rfl, hlt, ev, h⟩
    · exact h.elim
  · exact h.elim
theorem itemN_i {xs : List Int} {i : V} {Q : V → Prop} (h : itemN xs i Q) : ∃ (k : Nat) (x : Int), i = .int (k : Int) ∧ k < 2 ^ 62 ∧ xs[k]? = some x ∧ Q (.int x) := by
  unfold itemN at h
  split at h
  · obtain ⟨k, rfl, hlt, h⟩ := natIx_i h
    split at h
    · rename_i v ev; exact ⟨k, v, rfl, hlt, ev, h⟩
    · exact h.elim
  · exact h.elim
theorem IntsAre.getQ {vals : List Value} {xs : List Int} (h : IntsAre vals xs) {j : Nat} {x : Int} (hj : xs[j]? = some x) : ∃ t, vals[j]? = some (.int x t) := h.get j x hj
noncomputable def opItem (o i : V) (H : List O) (Q : V → Prop) : Prop := match o with
  | .obj k => (match H[k]? with
    | some (.nums xs) => itemN xs i Q
    | some (.list vs) => itemOf vs i Q
    | some (.app vs) => itemOf vs i Q
    | some (.dict kvs) => (match i with
      | .str x => (match fget x kvs with | some v => Q v | none => False)
      | _ => False)
    | _ => False)
  | .tup vs => itemOf vs i Q
  | _ => False
theorem opItem_sound {slice value : Expr} {o i : V} {oval ival : Value} {A : Around} {L : List (Option V)} {H : List O} {X : List XE} {ρ : List Addr} {s : Shared} {Q : V → Prop} {Q' : Value → Shared → Prop} {E : Value → Shared → Prop}
    (R : Rel prog w h₀ s.heap ρ H X) (ho : Is s.heap ρ o oval) (hi : Is s.heap ρ i ival) (hq : opItem o i H Q)
    (hp : ∀ v val tk', Q v → Is s.heap ρ v val → Q' val { s with toks := tk' })
    (hs : ∀ a b, subscripted slice false a b = operate [a, b] (getItem a b)) : wpAny (model prog w) A (subscriptTail value slice oval ival) Q' E s := by
  have lst : ∀ {a : Addr} {vals : List Value} {vs : List V}, s.heap.IsList a vals.toArray → IsL s.heap ρ vs vals → itemOf vs i Q → wpAny (model prog w) A (subscriptTail value slice (.ref a) ival) Q' E s := fun {a vals vs} hl hx hq => by
    obtain ⟨k, v, rfl, hlt, ev, hq⟩ := itemOf_i hq
    cases hi with
    | int _ t =>
      obtain ⟨val, hu, hval⟩ := hx.get ev
      exact tail_any hl.typeIs slot_list_getitem.lookup (wpAny_getItem_list hl (by lia) (by lia) (by rw [List.getElem?_toArray]; exact hu) (hp _ _ s.toks hq hval)) (hs _ _)
  unfold opItem at hq
  split at hq
  · rename_i k
    cases ho with
    | obj ek =>
      split at hq
      · rename_i xs eo
        obtain ⟨j, x, rfl, hlt, ev, hq⟩ := itemN_i hq
        cases hi with
        | int _ t =>
          obtain ⟨vals, hl, hx⟩ := R.objs _ _ _ eo ek
          obtain ⟨u, hu⟩ := IntsAre.getQ hx ev
          exact tail_any hl.typeIs slot_list_getitem.lookup (wpAny_getItem_list hl (by lia) (by lia) (by rw [List.getElem?_toArray]; exact hu) (hp _ _ s.toks hq (.int _ u))) (hs _ _)
      · rename_i vs eo
        obtain ⟨vals, hl, hx⟩ := R.objs _ _ _ eo ek
        exact lst hl hx hq
      · rename_i vs eo
        obtain ⟨vals, nn, hl, hx⟩ := R.objs _ _ _ eo ek
        exact lst (listOf_isList hl) hx hq
      · rename_i kvs eo
        split at hq
        · rename_i x
          cases hi with
          | str hlt t =>
            split at hq
            · rename_i v ev
              obtain ⟨kvals, hd, hx⟩ := R.objs _ _ _ eo ek
              obtain ⟨val, hu, hval⟩ := hx.get hlt ev
              exact tail_any hd.typeIs slot_dict_getitem.lookup (wpAny_getItem_of (strKind_is prog w (nm x) t) hd.mapOf hu (hp _ _ _ hq hval)) (hs _ _)
            · exact hq.elim
        · exact hq.elim
      · exact hq.elim
  · rename_i vs
    cases ho with
    | tup ht hl =>
      obtain ⟨j, v, rfl, hlt', ev, hq⟩ := itemOf_i hq
      cases hi with
      | int _ t =>
        obtain ⟨val, hu, hval⟩ := hl.get ev
        have hlt := (List.getElem?_eq_some_iff.mp hu).1
        refine tail_any (IsTup.typeIs ht) slot_tuple_getitem.lookup (getItem_tuple ht (by lia) (by lia) (j := j) ?_ (by rw [List.getElem?_toArray]; exact hu) (hp _ _ s.toks hq hval)) (hs _ _)
        unfold seqIndex?
        rw [List.size_toArray]
        have : ¬ (j : Int) < 0 := by lia
        simp only [this, if_false]
        rw [if_pos (by simp only [Bool.and_eq_true, decide_eq_true_eq]; lia)]
        simp
  · exact hq.elim
noncomputable def pSub (f g : PE) : PE := fun L H Q => f L H fun o H₁ => g L H₁ fun i H₂ => opItem o i H₂ fun v => Q v H₂
theorem SE.sub {value slice : Expr} {pos : Pos} {f g : PE} (hv : SE prog w h₀ n env slots value f) (hi : SE prog w h₀ n env slots slice g) (hs : ∀ a b, subscripted slice false a b = operate [a, b] (getItem a b)) :
    SE prog w h₀ n env slots (.Subscript value slice pos) (pSub f g) := fun A L H X ρ s Q Q' E hro R hq hp => by
  refine Subscript_ (hv A L H X ρ s _ _ E hro R hq fun o H₁ ρ₁ oval h₁ tk₁ hq₁ R₁ x₁ ho => ?_)
  refine hi A L H₁ X ρ₁ _ _ _ E hro R₁ hq₁ fun i H₂ ρ₂ ival h₂ tk₂ hq₂ R₂ x₂ hiv => ?_
  exact opItem_sound (L := L) (s := { s with heap := h₂, toks := tk₂ }) R₂.rel (ho.ext x₂) hiv hq₂ (fun v val tk' hq₃ hval => hp _ _ _ _ h₂ tk' hq₃ R₂ (x₁.trans x₂) hval) hs
noncomputable def TabList (h₀ : Heap) (a : Addr) (xs : List Int) : Prop := ∃ vals, h₀.IsList a vals.toArray ∧ IntsAre vals xs
noncomputable def iget (x : Nat) : List (Nat × Int) → Option Int
  | [] => none
  | (y, v) :: r => match Nat.beq y x with | true => some v | false => iget x r
noncomputable def TabDict (prog : Program) (w : World) (h₀ : Heap) (a : Addr) (kvs : List (Nat × Int)) : Prop := ∀ x i, iget x kvs = some i → ∃ f t, h₀.MapOf (strKind prog w) a f ∧ f (nm x) = some (.int i t)
theorem mapOf_keeps {h h' : Heap} {a : Addr} {f : Str → Option Value} (hm : h.MapOf (strKind prog w) a f) (hk : ∀ b o, h.get? b = some o → h'.get? b = some o) : h'.MapOf (strKind prog w) a f :=
  let ⟨o, es, ep, ho, r⟩ := hm; ⟨o, es, ep, hk _ _ ho, r⟩
noncomputable def pSubL (xs : List Int) (g : PE) : PE := fun L H Q => g L H fun i H₁ => itemN xs i fun v => Q v H₁
theorem SE.subL {value slice : Expr} {pos : Pos} {a : Addr} {xs : List Int} {g : PE} (hv : SE prog w h₀ n env slots value (pV (.raw (.ref a)))) (ht : TabList h₀ a xs) (hlen : xs.length < 2 ^ 62) (hi : SE prog w h₀ n env slots slice g)
    (hs : ∀ a b, subscripted slice false a b = operate [a, b] (getItem a b)) : SE prog w h₀ n env slots (.Subscript value slice pos) (pSubL xs g) := fun A L H X ρ s Q Q' E hro R hq hp => by
  refine Subscript_ (hv A L H X ρ s (fun v H' => v = .raw (.ref a) ∧ H' = H) _ E hro R ⟨rfl, rfl⟩ fun o H₁ ρ₁ oval h₁ tk₁ hq₁ R₁ x₁ ho => ?_)
  obtain ⟨rfl, rfl⟩ := hq₁
  refine hi A L H₁ X ρ₁ _ _ _ E hro R₁ hq fun i H₂ ρ₂ ival h₂ tk₂ hq₂ R₂ x₂ hiv => ?_
  cases ho
  obtain ⟨j, x, rfl, hlt, ev, hq₂⟩ := itemN_i hq₂
  cases hiv with
  | int _ t =>
    obtain ⟨vals, ⟨ob, hob, r⟩, hx⟩ := ht
    have hl : h₂.IsList a vals.toArray := ⟨ob, R₂.keep _ _ hob, r⟩
    obtain ⟨u, hu⟩ := IntsAre.getQ hx ev
    exact tail_any (s := { s with heap := h₂, toks := tk₂ }) hl.typeIs slot_list_getitem.lookup (wpAny_getItem_list hl (by lia) (by lia) (by rw [List.getElem?_toArray]; exact hu) (hp _ _ _ _ h₂ tk₂ hq₂ R₂ (x₁.trans x₂) (.int _ u))) (hs _ _)
noncomputable def pSubD (kvs : List (Nat × Int)) (g : PE) : PE := fun L H Q => g L H fun i H₁ => match i with | .str x => (match iget x kvs with | some j => Q (.int j) H₁ | none => False) | _ => False
theorem SE.subD {value slice : Expr} {pos : Pos} {a : Addr} {kvs : List (Nat × Int)} {g : PE} (hv : SE prog w h₀ n env slots value (pV (.raw (.ref a)))) (ht : TabDict prog w h₀ a kvs) (hi : SE prog w h₀ n env slots slice g)
    (hs : ∀ a b, subscripted slice false a b = operate [a, b] (getItem a b)) : SE prog w h₀ n env slots (.Subscript value slice pos) (pSubD kvs g) := fun A L H X ρ s Q Q' E hro R hq hp => by
  refine Subscript_ (hv A L H X ρ s (fun v H' => v = .raw (.ref a) ∧ H' = H) _ E hro R ⟨rfl, rfl⟩ fun o H₁ ρ₁ oval h₁ tk₁ hq₁ R₁ x₁ ho => ?_)
  obtain ⟨rfl, rfl⟩ := hq₁
  refine hi A L H₁ X ρ₁ _ _ _ E hro R₁ hq fun i H₂ ρ₂ ival h₂ tk₂ hq₂ R₂ x₂ hiv => ?_
  cases ho
  split at hq₂
  · rename_i x
    cases hiv with
    | str hlt t =>
      split at hq₂
      · rename_i j ej
        obtain ⟨f, u, hm, hf⟩ := ht x j ej
        have hm' := mapOf_keeps hm R₂.keep
        exact tail_any (s := { s with heap := h₂, toks := tk₂ }) hm'.typeIs slot_dict_getitem.lookup (wpAny_getItem_of (strKind_is prog w (nm x) t) hm' hf (hp _ _ _ _ h₂ _ hq₂ R₂ (x₁.trans x₂) (.int _ u))) (hs _ _)
      · exact hq₂.elim
  · exact hq₂.elim
noncomputable def putN (xs : List Int) (i v : V) (Q : List Int → Prop) : Prop := match i with
  | .int j => (match v with
    | .int a => natIx j fun i => guardB (Nat.blt i xs.length) (Q (xs.set i a))
    | _ => False)
  | _ => False
noncomputable def putL' (vs : List V) (i v : V) (Q : List V → Prop) : Prop := match i with
  | .int j => natIx j fun i => guardB (Nat.blt i vs.length) (Q (vs.set i v))
  | _ => False
theorem blt_i {i n : Nat} (h : Nat.blt i n = true) : i < n := Nat.le_of_ble_eq_true h
theorem putN_i {xs : List Int} {i v : V} {Q : List Int → Prop} (h : putN xs i v Q) : ∃ (k : Nat) (a : Int), i = .int (k : Int) ∧ v = .int a ∧ k < 2 ^ 62 ∧ k < xs.length ∧ Q (xs.set k a) := by
  unfold putN at h
  split at h
  · split at h
    · obtain ⟨k, rfl, hlt, h⟩ := natIx_i h
      obtain ⟨e, h⟩ := guardB_i h
      exact ⟨k, _, rfl, rfl, hlt, blt_i e, h⟩
    · exact h.elim
  · exact h.elim
theorem putL'_i {vs : List V} {i v : V} {Q : List V → Prop} (h : putL' vs i v Q) : ∃ (k : Nat), i = .int (k : Int) ∧ k < 2 ^ 62 ∧ k < vs.length ∧ Q (vs.set k v) := by
  unfold putL' at h
  split at h
  · obtain ⟨k, rfl, hlt, h⟩ := natIx_i h
    obtain ⟨e, h⟩ := guardB_i h
    exact ⟨k, rfl, hlt, blt_i e, h⟩
  · exact h.elim
noncomputable def putItem (o i v : V) (H : List O) (Q : List O → Prop) : Prop := match o with
  | .obj k => (match H[k]? with
    | some (.nums xs) => putN xs i v fun ys => Q (H.set k (.nums ys))
    | some (.list vs) => putL' vs i v fun us => Q (H.set k (.list us))
    | some (.app vs) => putL' vs i v fun us => Q (H.set k (.list us))
    | some (.dict kvs) => (match i with
      | .str x => guardB (Nat.ble kvs.length 1000) (Q (H.set k (.dict (fput x v kvs))))
      | _ => False)
    | _ => False)
  | _ => False
theorem putItem_sound {o i v : V} {oval ival val : Value} {A : Around} {L : List (Option V)} {H : List O} {X : List XE} {ρ : List Addr} {s : Shared} {Q : List O → Prop} {Q' : Unit → Shared → Prop} {E : Value → Shared → Prop}
    (R : RelF prog w h₀ env slots s.heap ρ L H X) (ho : Is s.heap ρ o oval) (hi : Is s.heap ρ i ival) (hv : Is s.heap ρ v val) (hq : putItem o i v H Q)
    (hp : ∀ H' h' tk', Q H' → RelF prog w h₀ env slots h' ρ L H' X → Ext s.heap ρ h' ρ → Q' () { s with heap := h', toks := tk' }) : wpAny (model prog w) A (setItem oval ival val) Q' E s := by
  unfold putItem at hq
  split at hq
  · rename_i k
    cases ho with
    | @obj _ a ek =>
      obtain ⟨ob, hob, hnt⟩ := R.rel.lt (List.mem_append_left _ (List.mem_of_getElem? ek))
      have ext : ∀ {h'}, Heap.SameBut a s.heap h' → Ext s.heap ρ h' ρ := fun hs => ⟨tupKeep_but hs hob hnt, [], (List.append_nil ρ).symm⟩
      have lst : ∀ {vals : List Value} {vs : List V}, s.heap.IsList a vals.toArray → IsL s.heap ρ vs vals → putL' vs i v (fun us => Q (H.set k (.list us))) → wpAny (model prog w) A (setItem (.ref a) ival val) Q' E s := fun {vals vs} hl hx hq => by
        obtain ⟨j, rfl, hlt, hlt2, hq⟩ := putL'_i hq
        cases hi with
        | int _ t =>
          have hlen : vs.length = vals.length := hx.length
          refine wpAny_setItem_list hl (by lia) (by lia) (by rw [List.size_toArray]; lia) fun h' hl' hs' => ?_
          obtain ⟨R', x'⟩ := R.upd (o' := .list (vs.set j v)) ek hs' ⟨vals.set j val, by simpa using hl', (hx.ext (ext hs')).set _ (hv.ext (ext hs'))⟩
          exact hp _ h' s.toks hq R' x'
      split at hq
      · rename_i xs eo
        obtain ⟨j, b, rfl, rfl, hlt, hlt2, hq⟩ := putN_i hq
        cases hi with
        | int _ t =>
          cases hv with
          | int _ u =>
            obtain ⟨vals, hl, hx⟩ := R.rel.objs _ _ _ eo ek
            have hlen : vals.length = xs.length := hx.length
            refine wpAny_setItem_list hl (by lia) (by lia) (by rw [List.size_toArray]; lia) fun h' hl' hs' => ?_
            obtain ⟨R', x'⟩ := R.upd (o' := .nums (xs.set j b)) ek hs' ⟨vals.set j (.int b u), by simpa using hl', by
              have := (IsL.ints (h := h') (ρ := ρ) hx).set j (.int b u)
              rw [← List.map_set] at this
              exact this.toInts⟩
            exact hp _ h' s.toks hq R' x'
      · rename_i vs eo
        obtain ⟨vals, hl, hx⟩ := R.rel.objs _ _ _ eo ek
        exact lst hl hx hq
      · rename_i vs eo
        obtain ⟨vals, nn, hl, hx⟩ := R.rel.objs _ _ _ eo ek
        exact lst (listOf_isList hl) hx hq
      · rename_i kvs eo
        split at hq
        · rename_i x
          obtain ⟨hb, hq⟩ := guardB_i hq
          cases hi with
          | str hlt t =>
            have h2 := Nat.le_of_ble_eq_true hb
            obtain ⟨kvals, hd, hx⟩ := R.rel.objs _ _ _ eo ek
            have hlen : kvs.length = kvals.length := hx.length
            obtain ⟨_, _, _, _, _, _, _, _, hnd⟩ := id hd
            refine wpAny_setItem_pairs (strKind_is prog w (nm x) t) hd (fun h' hd' hs' => ?_) (by rw [sizeLine_eq]; lia)
            obtain ⟨R', x'⟩ := R.upd (o' := .dict (fput x v kvs)) ek hs' ⟨_, hd', (hx.ext (ext hs')).put hlt (hv.ext (ext hs')) hnd⟩
            exact hp _ h' _ hq R' x'
        · exact hq.elim
      · exact hq.elim
  · exact hq.elim
noncomputable def tSub (f g : PE) : PT := fun v L H Q => f L H fun ov H₁ => g L H₁ fun iv H₂ => putItem ov iv v H₂ fun H₃ => Q L H₃
theorem TJ.sub {o i : Expr} {pos : Pos} {f g : PE} (ho : SE prog w h₀ n env slots o f) (hi : SE prog w h₀ n env slots i g) : TJ prog w h₀ n env slots (assign (.Subscript o i pos) env) (tSub f g) :=
  fun A v val L H X ρ s Q Q' E hro R hv hq hp => by
  rw [arm_assign_Subscript]
  refine wpAny_bind (wpAny_holding (ho A L H X ρ s _ _ E hro R hq fun ov H₁ ρ₁ oval h₁ tk₁ hq₁ R₁ x₁ hov => ?_))
  refine wpAny_bind (wpAny_holding (hi A L H₁ X ρ₁ _ _ _ E hro R₁ hq₁ fun iv H₂ ρ₂ ival h₂ tk₂ hq₂ R₂ x₂ hiv => ?_))
  refine wpAny_bind (wpAny_standAt (wpAny_bind (wpAny_holding ?_)))
  refine putItem_sound R₂ (hov.ext x₂) hiv (hv.ext (x₁.trans x₂)) hq₂ fun H₃ h₃ tk₃ hq₃ R₃ x₃ => ?_
  exact wpAny_release (hp _ _ _ h₃ tk₃ hq₃ R₃ ((x₁.trans x₂).trans x₃))
noncomputable abbrev PTs := List V → List (Option V) → List O → (List (Option V) → List O → Prop) → Prop
noncomputable def TsJ (prog : Program) (w : World) (h₀ : Heap) (n : Nat) (env : Env) (slots : Slots) (ts : List (Value → Sem Unit)) (f : PTs) : Prop :=
  ∀ (A : Around) (vs : List V) (vals : List Value) (L : List (Option V)) (H : List O) (X : List XE) (ρ : List Addr) (s : Shared) (Q : List (Option V) → List O → Prop) (Q' : Unit → Shared → Prop) (E : Value → Shared → Prop),
    Room n A → RelF prog w h₀ env slots s.heap ρ L H X → IsL s.heap ρ vs vals → f vs L H Q →
    (∀ L' H' ρ' h' tk', Q L' H' → RelF prog w h₀ env slots h' ρ' L' H' X → Ext s.heap ρ h' ρ' → Q' () { s with heap := h', toks := tk' }) → wpAny (model prog w) A (assignInOrder ts vals) Q' E s
noncomputable def tsNil : PTs := fun vs L H Q => match vs with | [] => Q L H | _ :: _ => False
noncomputable def tsCons (f : PT) (g : PTs) : PTs := fun vs L H Q => match vs with | [] => False | v :: r => f v L H fun L₁ H₁ => Box (g r L₁ H₁ Q)
theorem TsJ.nil : TsJ prog w h₀ n env slots [] tsNil := fun A vs vals L H X ρ s Q Q' E hro R hv hq hp => by
  cases hv with
  | nil => exact wpAny_assignInOrder_none (hp _ _ _ s.heap s.toks hq R (Ext.refl ..))
  | cons => exact hq.elim
theorem TsJ.cons {t : Value → Sem Unit} {ts : List (Value → Sem Unit)} {f : PT} {g : PTs} (ht : TJ prog w h₀ n env slots t f) (hts : TsJ prog w h₀ n env slots ts g) : TsJ prog w h₀ n env slots (t :: ts) (tsCons f g) :=
  fun A vs vals L H X ρ s Q Q' E hro R hv hq hp => by
  cases hv with
  | nil => exact hq.elim
  | cons a b =>
    refine wpAny_assignInOrder_more (ht A _ _ L H X ρ s _ _ E hro R a hq fun L₁ H₁ ρ₁ h₁ tk₁ hq₁ R₁ x₁ => ?_)
    exact hts A _ _ L₁ H₁ X ρ₁ _ _ _ E hro R₁ (b.ext x₁) hq₁.out fun L₂ H₂ ρ₂ h₂ tk₂ hq₂ R₂ x₂ => hp _ _ _ h₂ tk₂ hq₂ R₂ (x₁.trans x₂)
noncomputable def tTup (k : Nat) (f : PTs) : PT := fun v L H Q => match v with | .tup vs => guardB (Nat.beq vs.length k) (f vs L H Q) | _ => False
theorem TJ.tup {elts : List Expr} {x1 : Nat} {pos : Pos} {f : PTs} (hst : (assignEach elts env).findIdx? (·.1) = none) (hf : TsJ prog w h₀ n env slots ((assignEach elts env).map (·.2)) f) :
    TJ prog w h₀ n env slots (assign (.Tuple elts x1 pos) env) (tTup (assignEach elts env).length f) := fun A v val L H X ρ s Q Q' E hro R hv hq hp => by
  unfold tTup at hq
  split at hq
  · rename_i vs
    replace hq := beq_i hq
    cases hv with
    | @tup _ vals a ht hl =>
      have hlen := hl.length
      refine wpAny_assign_Tuple hro.handled ht (by rw [List.size_toArray]; lia) hst fun h' he => ?_
      obtain ⟨R', x'⟩ := R.grow (h' := h') fun b o e => he b o (Nat.ne_of_lt (Heap.lt_size e)) e
      exact hf A vs _ L H X ρ _ _ _ E hro R' (hl.ext x') hq.2 fun L₂ H₂ ρ₂ h₂ tk₂ hq₂ R₂ x₂ => hp _ _ _ h₂ tk₂ hq₂ R₂ (x'.trans x₂)
  · exact hq.elim
noncomputable def sAssign (f : PE) (g : PT) : PS := fun L H Qn _ => f L H fun v H₁ => g v L H₁ Qn
theorem SX.assign {t value : Expr} {pos : Pos} {f : PE} {g : PT} (hv : SE prog w h₀ n env slots value f) (ht : TJ prog w h₀ n env slots (assign t env) g) (he : (assignEach [t] env).map (·.2) = [assign t env])
    (hs : swapsWithSole [t] value pos.line env = pure false) (hw : swappedStores [t] value env = pure none) : SX prog w h₀ n env slots (.Assign [t] value pos) (sAssign f g) :=
  fun A L H X ρ s Qn Qr Q' E hro R hq hn hr => by
  refine wpAny_Assign_stores (hv A L H X ρ s _ _ E hro R hq fun v H₁ ρ₁ val h₁ tk₁ hq₁ R₁ x₁ hval => ?_) hs hw
  rw [he]
  exact ht A v val L H₁ X ρ₁ _ _ _ E hro R₁ hval hq₁ fun L₂ H₂ ρ₂ h₂ tk₂ hq₂ R₂ x₂ => hn _ _ _ h₂ tk₂ hq₂ R₂ (x₁.trans x₂)
theorem unpackItems_sound {vs : List V} {val : Value} {k : Nat} {A : Around} {L : List (Option V)} {H : List O} {X : List XE} {ρ : List Addr} {s : Shared} {Q' : List Value → Shared → Prop} {E : Value → Shared → Prop}
    (hro : Room n A) (R : RelF prog w h₀ env slots s.heap ρ L H X) (hv : Is s.heap ρ (.tup vs) val) (hk : vs.length = k)
    (hp : ∀ vals h', RelF prog w h₀ env slots h' ρ L H X → Ext s.heap ρ h' ρ → IsL h' ρ vs vals → Q' vals { s with heap := h' }) : wpAny (model prog w) A (unpackItems val k none) Q' E s := by
  cases hv with
  | @tup _ vals a ht hl =>
    have hlen := hl.length
    have e : k = vals.toArray.size := by rw [List.size_toArray]; lia
    rw [e]
    refine unpackItems_tuple hro.handled ht fun h' he => ?_
    obtain ⟨R', x'⟩ := R.grow (h' := h') fun b o e => he b o (Nat.ne_of_lt (Heap.lt_size e)) e
    exact hp _ h' R' x' (by simpa using hl.ext x')
theorem IsL.reverse {h : Heap} {ρ : List Addr} : ∀ {vs : List V} {vals : List Value}, IsL h ρ vs vals → IsL h ρ vs.reverse vals.reverse
  | _, _, .nil => .nil
  | _, _, .cons a b => by rw [List.reverse_cons, List.reverse_cons]; exact (IsL.reverse b).append (.cons a .nil)
noncomputable def sSwap (k : Nat) (f : PE) (g : PTs) : PS := fun L H Qn _ => f L H fun v H₁ => match v with | .tup vs => guardB (Nat.beq vs.length k) (g vs.reverse L H₁ Qn) | _ => False
theorem SX.swap {elts : List Expr} {x1 : Nat} {tpos : Pos} {value : Expr} {pos : Pos} {f : PE} {g : PTs} (names : List Str) (hv : SE prog w h₀ n env slots value f)
    (ht : TsJ prog w h₀ n env slots (names.reverse.map fun x => fun v => bindName env x v) g)
    (hs : swapsWithSole [.Tuple elts x1 tpos] value pos.line env = pure false) (hw : swappedStores [.Tuple elts x1 tpos] value env = pure (some names)) : SX prog w h₀ n env slots (.Assign [.Tuple elts x1 tpos] value pos) (sSwap names.length f g) :=
  fun A L H X ρ s Qn Qr Q' E hro R hq hn hr => by
  refine Assign_Tuple_swapped (hv A L H X ρ s _ _ E hro R hq fun v H₁ ρ₁ val h₁ tk₁ hq₁ R₁ x₁ hval => ?_) hs hw
  split at hq₁
  · rename_i vs
    replace hq₁ := beq_i hq₁
    refine unpackItems_sound hro R₁ hval hq₁.1 fun vals h₂ R₂ x₂ hvs => ?_
    exact ht A _ _ L H₁ X ρ₁ _ _ _ E hro R₂ hvs.reverse hq₁.2 fun L₃ H₃ ρ₃ h₃ tk₃ hq₃ R₃ x₃ => hn _ _ _ h₃ tk₃ hq₃ R₃ ((x₁.trans x₂).trans x₃)
  · exact hq₁.elim
noncomputable def sIf (c : PB) (f g : PS) : PS := fun L H Qn Qr => c L H fun b H₁ => cond b (f L H₁ Qn Qr) (g L H₁ Qn Qr)
theorem SX.if_ {test : Expr} {body orelse : List Stmt} {pos : Pos} {c : PB} {f g : PS} (hc : ST prog w h₀ n env slots test c) (hf : SS prog w h₀ n env slots body f) (hg : SS prog w h₀ n env slots orelse g) :
    SX prog w h₀ n env slots (.If test body orelse pos) (sIf c f g) := fun A L H X ρ s Qn Qr Q' E hro R hq hn hr => by
  refine wpAny_If (hc A L H X ρ s _ _ E hro R hq fun b H₁ ρ₁ b' h₁ tk₁ hq₁ R₁ x₁ hb => ?_)
  subst hb
  cases b with
  | true => exact hf A L H₁ X ρ₁ _ _ _ _ E hro R₁ hq₁ (fun L' H' ρ' h' tk' q R' x' => hn _ _ _ h' tk' q R' (x₁.trans x')) fun v L' H' ρ' val h' tk' q R' x' hv => hr _ _ _ _ _ h' tk' q R' (x₁.trans x') hv
  | false => exact hg A L H₁ X ρ₁ _ _ _ _ E hro R₁ hq₁ (fun L' H' ρ' h' tk' q R' x' => hn _ _ _ h' tk' q R' (x₁.trans x')) fun v L' H' ρ' val h' tk' q R' x' hv => hr _ _ _ _ _ h' tk' q R' (x₁.trans x') hv
noncomputable def sRet (f : PE) : PS := fun L H _ Qr => f L H Qr
noncomputable def sRetN : PS := fun _ H _ Qr => Qr .none H
noncomputable def sExpr (f : PE) : PS := fun L H Qn _ => f L H fun _ H₁ => Qn L H₁
theorem SX.ret {e : Expr} {pos : Pos} {f : PE} (he : SE prog w h₀ n env slots e f) : SX prog w h₀ n env slots (.Return (some e) pos) (sRet f) := fun A L H X ρ s Qn Qr Q' E hro R hq hn hr =>
  wpAny_Return_some (he A L H X ρ s _ _ E hro R hq fun v H₁ ρ₁ val h₁ tk₁ hq₁ R₁ x₁ hv => hr _ _ _ _ _ h₁ tk₁ hq₁ R₁ x₁ hv)
theorem SX.retN {pos : Pos} : SX prog w h₀ n env slots (.Return none pos) sRetN := fun A L H X ρ s Qn Qr Q' E hro R hq hn hr =>
  wpAny_Return_none (hr _ _ _ _ _ s.heap s.toks hq R (Ext.refl ..) .none)
theorem SX.expr {e : Expr} {pos : Pos} {f : PE} (he : SE prog w h₀ n env slots e f) (hi : interactive env = false) (hs : swapsWith e none pos.line env = pure false) : SX prog w h₀ n env slots (.Expr e pos) (sExpr f) :=
  fun A L H X ρ s Qn Qr Q' E hro R hq hn hr =>
  wpAny_Expr_any (he A L H X ρ s _ _ E hro R hq fun v H₁ ρ₁ val h₁ tk₁ hq₁ R₁ x₁ hv => hn _ _ _ h₁ tk₁ hq₁ R₁ x₁) hi hs
noncomputable def sNil : PS := fun L H Qn _ => Qn L H
noncomputable def sCons (f g : PS) : PS := fun L H Qn Qr => f L H (fun L₁ H₁ => Box (g L₁ H₁ Qn Qr)) Qr
theorem SS.nil : SS prog w h₀ n env slots [] sNil := fun A L H X ρ s Qn Qr Q' E hro R hq hn hr => wpAny_execs_nil (hn _ _ _ s.heap s.toks hq R (Ext.refl ..))
theorem SS.cons {st : Stmt} {rest : List Stmt} {f g : PS} (hst : SX prog w h₀ n env slots st f) (hrest : SS prog w h₀ n env slots rest g) : SS prog w h₀ n env slots (st :: rest) (sCons f g) :=
  fun A L H X ρ s Qn Qr Q' E hro R hq hn hr => by
  refine wpAny_execs_cons (hst A L H X ρ s _ _ _ E hro R hq (fun L₁ H₁ ρ₁ h₁ tk₁ hq₁ R₁ x₁ => ?_) fun v L' H' ρ' val h' tk' q R' x' hv => hr _ _ _ _ _ h' tk' q R' x' hv)
  exact hrest A L₁ H₁ X ρ₁ _ _ _ _ E hro R₁ hq₁.out (fun L' H' ρ' h' tk' q R' x' => hn _ _ _ h' tk' q R' (x₁.trans x')) fun v L' H' ρ' val h' tk' q R' x' hv => hr _ _ _ _ _ h' tk' q R' (x₁.trans x') hv
noncomputable def opAI (op : Operator) (a b : Int) (Q : V → Prop) : Prop := match op with
  | .Add => Q (.int (a + b))
  | .BitXor => Q (.int (Builtin.bitXor a b))
  | _ => False
noncomputable def opAug (op : Operator) (x y : V) (Q : V → Prop) : Prop := match x with
  | .int a => (match y with
    | .int b => opAI op a b Q
    | _ => False)
  | _ => False
theorem opAug_sound {op : Operator} {va vb : V} {a b : Value} {A : Around} {s : Shared} {h : Heap} {ρ : List Addr} {Q : V → Prop} {Q' : Value → Shared → Prop} {E : Value → Shared → Prop}
    (ha : Is h ρ va a) (hb : Is h ρ vb b) (hq : opAug op va vb Q) (hp : ∀ i t tk, Q (.int i) → Q' (.int i t) { s with toks := tk }) : wpAny (model prog w) A (inplaceOp op a b) Q' E s := by
  cases ha with
  | int a t => cases hb with
    | int b u => cases op with
      | Add => exact PyProof.Rows.iadd_int (hp _ _ _ hq)
      | BitXor => exact PyProof.Rows.ixor_int (hp _ _ _ hq)
      | _ => exact hq.elim
    | _ => exact hq.elim
  | _ => exact hq.elim
noncomputable def sAugName (i : Nat) (op : Operator) (f : PE) : PS := fun L H Qn _ => match lget L i with | some old => f L H fun v H₁ => opAug op old v fun r => Qn (L.set i (some r)) H₁ | none => False
theorem SX.augName {x : Str} {pos' pos : Pos} {op : Operator} {value : Expr} {f : PE} (i : Nat) (hk : env.scope.kind = .function) (hi : slots[i]? = some (x, .local)) (hl : env.kindOf x = some .local) (hnd : (slots.map (·.1)).Nodup)
    (hv : SE prog w h₀ n env slots value f) : SX prog w h₀ n env slots (.AugAssign (.Name x pos') op value pos) (sAugName i op f) := fun A L H X ρ s Qn Qr Q' E hro R hq hn hr => by
  unfold sAugName at hq
  split at hq
  · rename_i old hold
    obtain ⟨m, hm, hs⟩ := id R.fr
    obtain ⟨oval, a, b⟩ := hs i x _ hi old hold
    refine wpAny_AugAssign_Name (wpAny_loadName_local hk hl hm a ?_)
    refine hv A L H X ρ s _ _ E hro R hq fun v H₁ ρ₁ val h₁ tk₁ hq₁ R₁ x₁ hval => ?_
    refine opAug_sound (b.ext x₁) hval hq₁ fun j t tk hq₂ => ?_
    obtain ⟨m₁, hm₁, _⟩ := id R₁.fr
    refine wpAny_storeName_local hl hm₁ (fun h' hn' hsb => ?_) (by rw [hk]; rfl)
    obtain ⟨R', x'⟩ := R₁.store hi hnd (.int j t) hm₁ hn' hsb
    exact hn _ _ _ h' _ hq₂ R' (x₁.trans x')
  · exact hq.elim
noncomputable def sAugAttr (C : Addr) (name : Nat) (op : Operator) (g f : PE) : PS := fun L H Qn _ => g L H fun ov H₁ => pAttr C name (pV ov) L H₁ fun old H₂ => f L H₂ fun v H₃ => opAug op old v fun r => putAttr C name ov r H₃ fun H₄ => Qn L H₄
theorem SX.augAttr {C : Addr} {nameS : Str} {o value : Expr} {tpos pos : Pos} {op : Operator} {g f : PE} (name : Nat) (hnm : name < nN) (hnS : nameS = nm name) (hg : AttrGet prog w h₀ C (nm name)) (hset : AttrSet prog w h₀ C (nm name)) (ho : SE prog w h₀ n env slots o g) (hv : SE prog w h₀ n env slots value f) :
    SX prog w h₀ n env slots (.AugAssign (.Attribute o nameS tpos) op value pos) (sAugAttr C name op g f) := fun A L H X ρ s Qn Qr Q' E hro R hq hn hr => by
  subst hnS
  refine wpAny_AugAssign_AttributeAny (ho A L H X ρ s _ _ E hro R hq fun ov H₁ ρ₁ oval h₁ tk₁ hq₁ R₁ x₁ hov => ?_)
  unfold pAttr pV at hq₁
  dsimp only at hq₁
  split at hq₁
  · rename_i k
    cases hov with
    | @obj _ a ek =>
      split at hq₁
      · rename_i C' d eo
        replace hq₁ := beq_i hq₁
        obtain ⟨rfl, hq₁⟩ := hq₁
        split at hq₁
        · rename_i fs ed
          split at hq₁
          · rename_i u eu
            obtain ⟨da, eda, hx⟩ := R₁.rel.objs _ _ _ eo ek
            obtain ⟨es, nn, hd, hes⟩ := R₁.rel.objs _ _ _ ed eda
            obtain ⟨uval, g1, g2, g3⟩ := hes.get hnm eu
            refine hg A _ _ _ _ _ _ _ _ R₁.keep hx hd g1 g3 ?_
            refine hv A L H₁ X ρ₁ { s with heap := h₁, toks := tk₁ + 1 } _ _ E hro R₁ hq₁ fun v H₂ ρ₂ val h₂ tk₂ hq₂ R₂ x₂ hval => ?_
            refine opAug_sound (g2.ext x₂) hval hq₂ fun j t tk hq₃ => ?_
            refine putAttr_sound hnm hset (s := { s with heap := h₂, toks := tk }) R₂ (Is.obj (x₂.get ek)) (.int j t) hq₃ fun H₄ h₄ tk₄ hq₄ R₄ x₄ => ?_
            exact hn _ _ _ h₄ tk₄ hq₄ R₄ ((x₁.trans x₂).trans x₄)
          · exact hq₁.elim
        · exact hq₁.elim
      · exact hq₁.elim
  · exact hq₁.elim
end
section
variable {prog : Program} {w : World} {h₀ : Heap} {n : Nat} {env : Env} {slots : Slots}
noncomputable def froz (h : Heap) (F : List XE) : List XE := F.map fun p => ⟨p.a, fun o => h.get? p.a = some o⟩
theorem froz_map (h : Heap) (F : List XE) : (froz h F).map XE.a = F.map XE.a := by simp [froz, Function.comp_def]
theorem Rel.froz {h : Heap} {ρ : List Addr} {H : List O} {F X : List XE} (R : Rel prog w h₀ h ρ H (F ++ X)) : Rel prog w h₀ h ρ H (froz h F ++ X) := by
  have e : (Mine.froz h F ++ X).map XE.a = (F ++ X).map XE.a := by rw [List.map_append, List.map_append, froz_map]
  refine ⟨R.keep, R.len, R.objs, by rw [e]; exact R.fresh, by rw [e]; exact R.nodup, fun p hp => ?_⟩
  rcases List.mem_append.mp hp with hp | hp
  · obtain ⟨q, hq, rfl⟩ := List.mem_map.mp hp
    obtain ⟨o, ho, _, hn⟩ := R.extra q (List.mem_append_left _ hq)
    exact ⟨o, ho, ho, hn⟩
  · exact R.extra p (List.mem_append_right _ hp)
theorem Rel.thaw {h h' : Heap} {ρ ρ' : List Addr} {H H' : List O} {F X : List XE} (R : Rel prog w h₀ h ρ H (F ++ X)) (R' : Rel prog w h₀ h' ρ' H' (Mine.froz h F ++ X)) :
    Rel prog w h₀ h' ρ' H' (F ++ X) ∧ ∀ p ∈ F, ∀ o, h.get? p.a = some o → h'.get? p.a = some o := by
  have e : (Mine.froz h F ++ X).map XE.a = (F ++ X).map XE.a := by rw [List.map_append, List.map_append, froz_map]
  have k : ∀ p ∈ F, ∀ o, h.get? p.a = some o → h'.get? p.a = some o := fun p hp o ho => by
    obtain ⟨o', ho', hP, _⟩ := R'.extra ⟨p.a, fun o => h.get? p.a = some o⟩ (List.mem_append_left _ (List.mem_map_of_mem (f := fun p : XE => (⟨p.a, fun o => h.get? p.a = some o⟩ : XE)) hp))
    dsimp only at ho' hP
    rw [ho] at hP; cases hP
    exact ho'
  refine ⟨⟨R'.keep, R'.len, R'.objs, by rw [← e]; exact R'.fresh, by rw [← e]; exact R'.nodup, fun p hp => ?_⟩, k⟩
  rcases List.mem_append.mp hp with hp | hp
  · obtain ⟨o, ho, r⟩ := R.extra p (List.mem_append_left _ hp)
    exact ⟨o, k p hp o ho, r⟩
  · exact R'.extra p (List.mem_append_right _ hp)
theorem RelF.back {h h' : Heap} {ρ ρ' : List Addr} {L : List (Option V)} {H H' : List O} {X : List XE} (R : RelF prog w h₀ env slots h ρ L H X) (R' : Rel prog w h₀ h' ρ' H' (Mine.froz h (frameX env slots) ++ X)) (x : Ext h ρ h' ρ') :
    RelF prog w h₀ env slots h' ρ' L H' X :=
  have z := R.rel.thaw R'
  ⟨z.1, R.fr.keep x z.2⟩
theorem Rel.drops {h : Heap} {ρ : List Addr} {H : List O} {X : List XE} : ∀ {F : List XE}, Rel prog w h₀ h ρ H (F ++ X) → Rel prog w h₀ h ρ H X
  | [], R => R
  | _ :: F, R => Rel.drops (F := F) (Rel.dropX R)
noncomputable abbrev PF := List V → List O → (V → List O → Prop) → Prop
noncomputable def SFv (prog : Program) (w : World) (h₀ : Heap) (n : Nat) (f : Value) (sem : PF) : Prop :=
  ∀ (A : Around) (args : List V) (vals : List Value) (H : List O) (X : List XE) (ρ : List Addr) (s : Shared) (Q : V → List O → Prop) (Q' : Value → Shared → Prop) (E : Value → Shared → Prop),
    Room n A → Rel prog w h₀ s.heap ρ H X → IsL s.heap ρ args vals → sem args H Q →
    (∀ v H' ρ' val h' tk', Q v H' → Rel prog w h₀ h' ρ' H' X → Ext s.heap ρ h' ρ' → Is h' ρ' v val → Q' val { s with heap := h', toks := tk' }) → wpAny (model prog w) A (call f vals) Q' E s
noncomputable def SFc (prog : Program) (w : World) (h₀ : Heap) (n : Nat) (f : Value) (sem : PF) : Prop :=
  ∀ (A : Around) (args : List V) (vals : List Value) (H : List O) (X : List XE) (ρ : List Addr) (s : Shared) (Q : V → List O → Prop) (R' : Result → Shared → Prop),
    Room n A → Rel prog w h₀ s.heap ρ H X → IsL s.heap ρ args vals → sem args H Q →
    (∀ v H' ρ' val h' tk', Q v H' → Rel prog w h₀ h' ρ' H' X → Ext s.heap ρ h' ρ' → Is h' ρ' v val → R' (.ok (.ret val)) { s with heap := h', toks := tk' }) → codeAny (model prog w) A (.call f ⟨vals, []⟩) R' s
theorem SFc.v {f : Value} {g : PF} (h : SFc prog w h₀ n f g) : SFv prog w h₀ n f g :=
  fun A args vals H X ρ s Q Q' E hro R hv hq hp => wpAny_call (h A args vals H X ρ s Q _ hro R hv hq hp)
theorem SFv.mono {f : Value} {g g' : PF} (h : SFv prog w h₀ n f g) (hg : ∀ args H Q, g' args H Q → g args H Q) : SFv prog w h₀ n f g' :=
  fun A args vals H X ρ s Q Q' E hro R hv hq hp => h A args vals H X ρ s Q Q' E hro R hv (hg _ _ _ hq) hp
theorem SFv.level {f : Value} {g : PF} {m : Nat} (h : SFv prog w h₀ n f g) (hm : n ≤ m) : SFv prog w h₀ m f g :=
  fun A args vals H X ρ s Q Q' E hro R hv hq hp => h A args vals H X ρ s Q Q' E (hro.mono hm) R hv hq hp
theorem zip_lookup : ∀ {names : List Str} {vals : List Value} {i : Nat} {x : Str} {v : Value}, names.Nodup → names[i]? = some x → vals[i]? = some v → (names.zip vals).reverse.lookup x = some v
  | y :: names, u :: vals, 0, x, v, hn, hx, hv => by
    cases hx; cases hv
    rw [List.zip_cons_cons, List.reverse_cons, List.lookup_append]
    have : (names.zip vals).reverse.lookup y = none := by
      rw [List.lookup_eq_none_iff]
      intro p hp
      have h1 := (List.of_mem_zip (List.mem_reverse.mp hp)).1
      have h2 := (List.nodup_cons.mp hn).1
      have h3 : y ≠ p.1 := fun e => h2 (by rw [e]; exact h1)
      simpa using h3
    rw [this]
    simp
  | y :: names, u :: vals, i + 1, x, v, hn, hx, hv => by
    rw [List.getElem?_cons_succ] at hx hv
    rw [List.zip_cons_cons, List.reverse_cons, List.lookup_append, zip_lookup (List.nodup_cons.mp hn).2 hx hv]
    rfl
  | [], _, _, _, _, _, hx, _ => by cases hx
  | _ :: _, [], _, _, _, _, _, hv => by cases hv
noncomputable def initL (k : Nat) (args : List V) : List (Option V) := args.map some ++ List.replicate (k - args.length) none
theorem lget_initL {k : Nat} {args : List V} {i : Nat} {v : V} (h : lget (initL k args) i = some v) : args[i]? = some v := by
  unfold lget initL at h
  by_cases hi : i < args.length
  · rw [List.getElem?_append_left (by simpa using hi), List.getElem?_map] at h
    rw [List.getElem?_eq_getElem hi] at h ⊢
    simpa using h
  · rw [List.getElem?_append_right (by simpa using Nat.le_of_not_lt hi)] at h
    exfalso
    simp only [List.length_map, List.getElem?_replicate] at h
    split at h <;> cases h
noncomputable def defSem (params : List Str) (slots : Slots) (g : PS) : PF := fun args H Q => guardB (Nat.beq args.length params.length) (g (initL slots.length args) H (fun _ H' => Q .none H') Q)
theorem SFc.ofDef' {f : Addr} {o : Obj} {fd : FuncData} {body : List Stmt} {params : List Str} {g : PS} (ho : h₀.get? f = some o) (hdata : o.data = .func fd) (hlim : h₀.NoLimit) (hcd : h₀.CodeRec fd.code fd.qualname) (hbody : fd.body = .stmts body)
    (hbind : ∀ vals : List Value, vals.length = params.length → bindArgs fd ⟨vals, []⟩ = pure (params.zip vals))
    (hcell : ∀ x ∈ fd.scope.names, x.2 ≠ .cell) (hpar : ∀ x ∈ params, fd.scope.names.lookup x = some .local) (hnd : params.Nodup)
    (hslots : ∀ (i : Nat) (x : Str) (k : NameKind), slots[i]? = some (x, k) → k ≠ .cell ∧ (i < params.length → params[i]? = some x ∧ k = .local))
    (hS : ∀ L, SS prog w h₀ n (callEnv fd L f) slots body g)
    (hco : fd.scope.isCoroutine = false) (hgen : fd.scope.isGenerator = false) (hk : fd.scope.kind = .function) : SFc prog w h₀ (n + 1) (.ref f) (defSem params slots g) :=
  fun A args vals H X ρ s Q Q' hro R hv hq hp => by
  replace hq := beq_i hq
  obtain ⟨hlen, hq⟩ := hq
  have hvl := hv.length
  refine (codeAny_call_def (binds := params.zip vals) (by have := hro.depth; lia) (R.keep _ _ ho) hdata (hlim.keeps R.keep) (hcd.keeps R.keep) hbody (BindsTo.of_eq (hbind vals (by lia))) hcell (fun x hx => hpar _ (List.of_mem_zip hx).1) (fun h₁ hns hk₁ => ?_) hco hgen hk)
  have hsz : s.heap.get? s.heap.objs.size = none := get_size_none _
  have hown : slots.filterMap (ownCell (callEnv fd s.heap.objs.size f)) = [] := by
    rw [List.filterMap_eq_nil_iff]
    rintro ⟨x, k⟩ hx
    obtain ⟨i, hi, e⟩ := List.mem_iff_getElem.mp hx
    have := (hslots i x k (by rw [List.getElem?_eq_getElem hi, e])).1
    cases k <;> first | rfl | exact absurd rfl this
  have hX : frameX (callEnv fd s.heap.objs.size f) slots = [⟨s.heap.objs.size, fun _ => True⟩] := by
    unfold frameX; rw [hown]; rfl
  obtain ⟨oL, esL, epL, hoL, hdL, _⟩ := id hns
  have x₁ : Ext s.heap ρ h₁ ρ := ⟨tupKeep_ext hk₁, [], (List.append_nil ρ).symm⟩
  have R₁ : RelF prog w h₀ (callEnv fd s.heap.objs.size f) slots h₁ ρ (initL slots.length args) H X := by
    refine ⟨by rw [hX]; exact R.allocX (p := ⟨s.heap.objs.size, fun _ => True⟩) hsz hk₁ ⟨oL, hoL, trivial, fun _ _ _ e => by rw [hdL] at e; cases e⟩, _, hns, fun i x k hi => ?_⟩
    obtain ⟨hnc, hpi⟩ := hslots i x k hi
    have key : ∀ v, lget (initL slots.length args) i = some v → ∃ val, params[i]? = some x ∧ k = .local ∧ (params.zip vals).reverse.lookup x = some val ∧ Is h₁ ρ v val := fun v hvv => by
      have hai := lget_initL hvv
      have hil := (List.getElem?_eq_some_iff.mp hai).1
      obtain ⟨val, e1, e2⟩ := hv.get hai
      obtain ⟨p1, p2⟩ := hpi (by lia)
      exact ⟨val, p1, p2, zip_lookup hnd p1 e1, e2.ext x₁⟩
    unfold SlotIs
    split
    · intro v hvv
      obtain ⟨val, _, _, e1, e2⟩ := key v hvv
      exact ⟨val, e1, e2⟩
    · exact absurd rfl hnc
    · intro v hvv
      obtain ⟨val, _, e, _⟩ := key v hvv
      cases e
    · trivial
  refine hS _ _ _ H X ρ _ _ _ _ _ (hro.deeper _) R₁ hq (fun L' H' ρ' h' tk' q R' x' => ?_) fun v L' H' ρ' val h' tk' q R' x' hval => ?_
  · exact hp _ _ _ _ h' tk' q (Rel.drops R'.rel) (x₁.trans x') .none
  · exact hp _ _ _ _ h' tk' q (Rel.drops R'.rel) (x₁.trans x') hval
noncomputable def KeepOk (prog : Program) (w : World) (h₀ : Heap) (f : Value) : Prop := ∀ h, (∀ b o, h₀.get? b = some o → h.get? b = some o) → ∃ k, (k = Keeper.frame ∨ k = Keeper.machine ∨ k = Keeper.boundFrame) ∧ Looks (model prog w) h (keeperOf f) k
theorem keepOk_of {K : Frag} {f : Value} (X : K.In h₀) (hk : keepIn K f = true) : KeepOk prog w h₀ f := fun h hh => keeps_K hk h (X.keeps hh)
theorem callWith_sound {pos : Pos} {f : Value} {args : List Expr} {g : PL} {sem : PF} {A : Around} {L : List (Option V)} {H : List O} {X : List XE} {ρ : List Addr} {s : Shared} {Q : V → List O → Prop} {Q' : Value → Shared → Prop} {E : Value → Shared → Prop}
    (hk : KeepOk prog w h₀ f) (hS : SFv prog w h₀ n f sem) (ha : SL prog w h₀ n env slots pos args g) (hpl : (backTo pos (starEach args env)).any (·.1) = false)
    (hro : Room n A) (R : RelF prog w h₀ env slots s.heap ρ L H X) (hq : g L H fun vs H₁ => sem vs H₁ Q) (hp : Post prog w h₀ env slots Is L X ρ s Q Q') : wpAny (model prog w) A (callWith pos f [] (backTo pos (starEach args env)) []) Q' E s := by
  refine callWith_of (P := fun h => ∀ b o, h₀.get? b = some o → h.get? b = some o) (by rw [hpl]; rfl) hk ?_
  have main : wpAny (model prog w) A (spliced (backTo pos (starEach args env))) (fun vs s₁ => (∀ b o, h₀.get? b = some o → s₁.heap.get? b = some o) ∧ wpAny (model prog w) A (call f ([] ++ vs) []) Q' E s₁) E s := by
    refine ha A L H X ρ s _ _ E hro R hq fun vs H₁ ρ₁ vals h₁ tk₁ hq₁ R₁ x₁ hvs => ⟨R₁.keep, ?_⟩
    refine hS A vs vals H₁ _ ρ₁ _ Q _ _ hro R₁.rel.froz hvs hq₁ fun v H₂ ρ₂ val h₂ tk₂ hq₂ R₂ x₂ hv => ?_
    exact hp _ _ _ _ h₂ tk₂ hq₂ (R₁.back R₂ x₂) (x₁.trans x₂) hv
  cases hsp : backTo pos (starEach args env) with
  | nil =>
    rw [hsp] at main
    unfold evalArgs
    show wpAny _ A (spliced [] >>= _) _ E s
    refine wpAny_bind (wpAny_mono main (fun vs s₁ h₁ => ?_) fun _ _ x => x)
    refine wpAny_bind (wpAny_pure ?_)
    refine wpAny_holding ?_
    exact wpAny_bind (wpAny_pure (wpAny_bind (wpAny_pure (wpAny_pure h₁))))
  | cons p rest =>
    rw [hsp] at main hpl
    obtain ⟨b, x⟩ := p
    have hb : b = false := by
      rw [List.any_cons] at hpl
      exact (Bool.or_eq_false_iff.mp hpl).1
    subst hb
    exact evalArgs_plain main
noncomputable def pCall (sem : PF) (g : PL) : PE := fun L H Q => g L H fun vs H₁ => sem vs H₁ fun v H₂ => Box (Q v H₂)
theorem SE.call {x : Str} {np pos : Pos} {args : List Expr} {f : Value} {g : PL} {sem : PF} (hf : SE prog w h₀ n env slots (.Name x np) (pV (.raw f))) (hk : KeepOk prog w h₀ f) (hS : SFv prog w h₀ n f sem)
    (ha : SL prog w h₀ n env slots pos args g) (hpl : (backTo pos (starEach args env)).any (·.1) = false) : SE prog w h₀ n env slots (.Call (.Name x np) args [] pos) (pCall sem g) :=
  fun A L H X ρ s Q Q' E hro R hq hp => by
  refine wpAny_Call_NameR (hf A L H X ρ s (fun v H' => v = .raw f ∧ H' = H) _ E hro R ⟨rfl, rfl⟩ fun o H₁ ρ₁ oval h₁ tk₁ hq₁ R₁ x₁ ho => ?_)
  obtain ⟨rfl, rfl⟩ := hq₁
  cases ho
  exact callWith_sound (s := { s with heap := h₁, toks := tk₁ }) hk hS ha hpl hro R₁ hq (hp.then x₁).box
noncomputable def pCallV (i : Nat) (sems : List (Addr × PF)) (g : PL) : PE := fun L H Q => match lget L i with
  | some (.raw (.ref a)) => (match sems.find? fun p => p.1 = a with | some p => g L H fun vs H₁ => p.2 vs H₁ Q | none => False)
  | _ => False
theorem SE.callV {x : Str} {np pos : Pos} {args : List Expr} {i : Nat} {g : PL} {sems : List (Addr × PF)} (hf : SE prog w h₀ n env slots (.Name x np) (pLoc i)) (hk : ∀ p ∈ sems, KeepOk prog w h₀ (.ref p.1)) (hS : ∀ p ∈ sems, SFv prog w h₀ n (.ref p.1) p.2)
    (ha : SL prog w h₀ n env slots pos args g) (hpl : (backTo pos (starEach args env)).any (·.1) = false) : SE prog w h₀ n env slots (.Call (.Name x np) args [] pos) (pCallV i sems g) :=
  fun A L H X ρ s Q Q' E hro R hq hp => by
  unfold pCallV at hq
  split at hq
  · rename_i a hl
    refine wpAny_Call_NameR (hf A L H X ρ s (fun v H' => v = .raw (.ref a) ∧ H' = H) _ E hro R (by unfold pLoc; rw [hl]; exact ⟨rfl, rfl⟩) fun o H₁ ρ₁ oval h₁ tk₁ hq₁ R₁ x₁ ho => ?_)
    obtain ⟨rfl, rfl⟩ := hq₁
    cases ho
    cases hfd : sems.find? fun p => p.1 = a with
    | none =>
      rw [hfd] at hq
      exact hq.elim
    | some p =>
      rw [hfd] at hq
      have e : p.1 = a := by simpa using List.find?_some hfd
      subst e
      exact callWith_sound (s := { s with heap := h₁, toks := tk₁ }) (hk p (List.mem_of_find?_eq_some hfd)) (hS p (List.mem_of_find?_eq_some hfd)) ha hpl hro R₁ hq (hp.then x₁)
  · exact hq.elim
end
section
variable {prog : Program} {w : World} {h₀ : Heap} {n : Nat} {env : Env} {slots : Slots}
theorem Rel.adopt {h : Heap} {ρ : List Addr} {H : List O} {X : List XE} (R : Rel prog w h₀ h ρ H X) {a : Addr} {o : O} (hna : a ∉ ρ ++ X.map XE.a) (h0 : h₀.get? a = none) (ho : OIs prog w h (ρ ++ [a]) a o) :
    Rel prog w h₀ h (ρ ++ [a]) (H ++ [o]) X := by
  have x : Ext h ρ h (ρ ++ [a]) := ⟨TupKeep.refl h, [a], rfl⟩
  have hperm : (ρ ++ [a] ++ X.map XE.a).Perm (a :: (ρ ++ X.map XE.a)) := by rw [List.append_assoc]; exact List.perm_middle
  refine ⟨R.keep, by simp [R.len], fun k o' b ek eb => ?_, fun b hb => ?_, hperm.nodup_iff.mpr (List.nodup_cons.mpr ⟨hna, R.nodup⟩), R.extra⟩
  · rcases Nat.lt_trichotomy k ρ.length with hk | hk | hk
    · rw [List.getElem?_append_left (by rw [R.len]; exact hk)] at ek
      rw [List.getElem?_append_left hk] at eb
      exact (R.objs k o' b ek eb).ext x fun ob hb => hb
    · subst hk
      rw [List.getElem?_append_right (Nat.le_refl _), Nat.sub_self] at eb
      rw [← R.len, List.getElem?_append_right (Nat.le_refl _), Nat.sub_self] at ek
      cases eb; cases ek
      exact ho
    · have : (ρ ++ [a])[k]? = none := List.getElem?_eq_none (by simp; lia)
      rw [this] at eb; cases eb
  · rcases List.mem_cons.mp (hperm.mem_iff.mp hb) with rfl | hb
    · exact h0
    · exact R.fresh b hb
theorem Rel.notIn {h : Heap} {ρ : List Addr} {H : List O} {X : List XE} (R : Rel prog w h₀ h ρ H X) {a : Addr} (hn : h.get? a = none) : a ∉ ρ ++ X.map XE.a ∧ h₀.get? a = none := by
  refine ⟨fun hm => ?_, ?_⟩
  · obtain ⟨o, ho, _⟩ := R.lt hm
    rw [hn] at ho; cases ho
  · cases e : h₀.get? a with
    | none => rfl
    | some o => rw [R.keep _ _ e] at hn; cases hn
theorem RelF.adopt {h : Heap} {ρ : List Addr} {L : List (Option V)} {H : List O} {X : List XE} (R : RelF prog w h₀ env slots h ρ L H X) {a : Addr} {o : O} (hna : a ∉ ρ ++ (frameX env slots ++ X).map XE.a) (h0 : h₀.get? a = none) (ho : OIs prog w h (ρ ++ [a]) a o) :
    RelF prog w h₀ env slots h (ρ ++ [a]) L (H ++ [o]) X ∧ Ext h ρ h (ρ ++ [a]) :=
  have x : Ext h ρ h (ρ ++ [a]) := ⟨TupKeep.refl h, [a], rfl⟩
  ⟨⟨R.rel.adopt hna h0 ho, R.fr.keep x fun _ _ _ e => e⟩, x⟩
theorem RelF.reNs {h h' : Heap} {ρ : List Addr} {L : List (Option V)} {H : List O} {X : List XE} (R : RelF prog w h₀ env slots h ρ L H X)
    (hs : ∀ b o, b ≠ env.locals → h.get? b = some o → h'.get? b = some o) (hn : ∀ m, h.Ns env.locals m → h'.Ns env.locals m) : RelF prog w h₀ env slots h' ρ L H X ∧ Ext h ρ h' ρ := by
  obtain ⟨m, hm, hsl⟩ := R.fr
  have hm' := hn m hm
  obtain ⟨oL, esL, epL, hoL, hdL, _⟩ := id hm
  obtain ⟨oL', esL', epL', hoL', hdL', _⟩ := id hm'
  have tk : TupKeep h h' := fun b items ht => by
    obtain ⟨ot, hb, hc, nn, hd⟩ := ht
    refine ⟨ot, hs b ot (fun q => ?_) hb, hc, nn, hd⟩
    subst q; rw [hoL] at hb; cases hb; rw [hdL] at hd; cases hd
  have x : Ext h ρ h' ρ := ⟨tk, [], (List.append_nil ρ).symm⟩
  have nd := R.rel.nodup
  have hmem : ∀ p ∈ slots.filterMap (ownCell env) ++ X, p.a ≠ env.locals := fun p hp q => by
    have n2 := (List.nodup_append.mp nd).2.1
    have n3 : (env.locals :: (slots.filterMap (ownCell env) ++ X).map XE.a).Nodup := by simpa [frameX] using n2
    exact (List.nodup_cons.mp n3).1 (q ▸ List.mem_map_of_mem hp)
  have hno : ∀ b ∈ ρ, b ≠ env.locals := fun b hb q => R.rel.ne_of hb (p := ⟨env.locals, fun _ => True⟩) (List.mem_cons_self ..) q.symm
  refine ⟨⟨⟨fun b o hb => ?_, R.rel.len, fun j o b ej eb => ?_, R.rel.fresh, nd, fun p hp => ?_⟩, m, hm', fun i y kk hi => ?_⟩, x⟩
  · refine hs b o (fun q => ?_) (R.keep b o hb)
    have := R.rel.fresh env.locals (List.mem_append_right _ (by simp [frameX])); rw [← q, hb] at this; cases this
  · exact (R.rel.objs j o b ej eb).ext x fun ob' hb' => hs b ob' (hno b (List.mem_of_getElem? eb)) hb'
  · rcases List.mem_cons.mp hp with rfl | hp'
    · exact ⟨oL', hoL', trivial, fun _ _ _ q => by rw [hdL'] at q; cases q⟩
    · obtain ⟨o, ho, r⟩ := R.rel.extra p hp
      exact ⟨o, hs _ _ (hmem p hp') ho, r⟩
  · have z := hsl i y kk hi
    unfold SlotIs at z ⊢
    split
    · intro v hv
      obtain ⟨val, p, q⟩ := z v hv
      exact ⟨val, p, q.ext x⟩
    · obtain ⟨c, cv, p, ⟨oc, q, r⟩, t⟩ := z
      have hin' : (⟨c, fun _ => True⟩ : XE) ∈ slots.filterMap (ownCell env) ++ X := List.mem_append_left _ (List.mem_filterMap.mpr ⟨(y, .cell), List.mem_of_getElem? hi, by simp [ownCell, p]⟩)
      refine ⟨c, cv, p, ⟨oc, hs _ _ (hmem _ hin') q, r⟩, fun v hv => ?_⟩
      obtain ⟨val, p, q⟩ := t v hv
      exact ⟨val, p, q.ext x⟩
    · intro v hv
      obtain ⟨c, val, p, q, r⟩ := z v hv
      exact ⟨c, val, p, q.ext x, r⟩
    · trivial
theorem fullFr {h : Heap} {ρ : List Addr} {L : List (Option V)} {H : List O} {X : List XE} (R : RelF prog w h₀ env slots h ρ L H X) : ∃ m, Fr noHeap env.locals h m := by
  obtain ⟨m, hm, _⟩ := R.fr
  exact ⟨m, hm, (fun b o e => by rw [noHeap_get] at e; cases e), Nat.zero_le _⟩
theorem fullNews {h : Heap} {L d : Addr} {od : Obj} (hd : h.get? d = some od) (hne : d ≠ L) : News noHeap L h ((d, od) :: restOf h L d) := by
  intro p hp
  rcases List.mem_cons.mp hp with rfl | hp
  · exact ⟨hd, hne, noHeap_get _⟩
  · obtain ⟨a, o⟩ := p
    obtain ⟨a1, a2, _⟩ := mem_restOf.mp hp
    exact ⟨a1, a2, noHeap_get _⟩
theorem fullNews0 {h : Heap} {L : Addr} : News noHeap L h (restOf h L L) := by
  intro p hp
  obtain ⟨a, o⟩ := p
  obtain ⟨a1, a2, _⟩ := mem_restOf.mp hp
  exact ⟨a1, a2, noHeap_get _⟩
theorem ns_same {h h' : Heap} {a : Addr} {m : Str → Option Value} (hm : h.Ns a m) (hm' : h'.Ns a m) : ∀ m', h.Ns a m' → h'.Ns a m' := fun m' hx => by
  have : m' = m := by
    obtain ⟨o1, es1, ep1, a1, b1, _, d1⟩ := hx
    obtain ⟨o2, es2, ep2, a2, b2, _, d2⟩ := hm
    rw [a1] at a2; cases a2
    rw [b1] at b2; cases b2
    funext z; rw [← d1, ← d2]
  rw [this]; exact hm'
end
section
variable {prog : Program} {w : World} {h₀ : Heap} {n : Nat} {env : Env} {slots : Slots}
theorem sizeOk_of {k : Nat} (h : k ≤ 1048576) : k ≤ sizeLine := by rw [sizeLine_eq]; lia
noncomputable def pTup (g : PL) : PE := fun L H Q => g L H fun vs H₁ => guardB (Nat.ble vs.length 1000) (Q (.tup vs) H₁)
theorem SE.tup {elts : List Expr} {x1 : Nat} {pos : Pos} {g : PL} (hg : SL prog w h₀ n env slots pos elts g) : SE prog w h₀ n env slots (.Tuple elts x1 pos) (pTup g) := fun A L H X ρ s Q Q' E hro R hq hp => by
  refine wpAny_Tuple_spliced (hg A L H X ρ s _ _ E hro R hq fun vs H₁ ρ₁ vals h₁ tk₁ hq₁ R₁ x₁ hvs => ?_)
  have hlen := hvs.length
  replace hq₁ := guardB_i hq₁
  have hle := Nat.le_of_ble_eq_true hq₁.1
  refine ⟨sizeOk_of (by lia), ?_⟩
  obtain ⟨R₂, x₂⟩ := R₁.grow (h' := h₁.push { cls := .type "tuple", data := .seq vals.toArray }) fun b o e => Heap.get?_push_of_some _ e
  exact hp _ _ _ _ _ tk₁ hq₁.2 R₂ (x₁.trans x₂) (.tup ⟨_, Heap.get?_push_size _ rfl, rfl, 0, rfl⟩ (hvs.ext x₂))
noncomputable def pList (g : PL) : PE := fun L H Q => g L H fun vs H₁ => guardB (Nat.ble vs.length 1000) (Box (Q (.obj H₁.length) (H₁ ++ [.app vs])))
theorem getElem?_append_new {α : Type} (l : List α) (a : α) : (l ++ [a])[l.length]? = some a := by simp
theorem SE.list {elts : List Expr} {pos : Pos} {g : PL} (hg : SL prog w h₀ n env slots pos elts g) : SE prog w h₀ n env slots (.List elts pos) (pList g) := fun A L H X ρ s Q Q' E hro R hq hp => by
  refine wpAny_List_spliced (hg A L H X ρ s _ _ E hro R hq fun vs H₁ ρ₁ vals h₁ tk₁ hq₁ R₁ x₁ hvs => ?_)
  have hlen := hvs.length
  replace hq₁ := guardB_i hq₁
  have hle := Nat.le_of_ble_eq_true hq₁.1
  refine ⟨sizeOk_of (by lia), ?_⟩
  have hnone := get_size_none h₁
  have e1 : (h₁.push { cls := .type "list", data := .seq vals.toArray }).get? h₁.objs.size = some (listOf vals.toArray 0) := Heap.get?_push_size _ rfl
  have xx : Ext h₁ ρ₁ (h₁.push { cls := .type "list", data := .seq vals.toArray }) (ρ₁ ++ [h₁.objs.size]) := ⟨tupKeep_ext fun b o e => Heap.get?_push_of_some _ e, [_], rfl⟩
  obtain ⟨R₂, x₂⟩ := R₁.alloc (o := .app vs) (h' := h₁.push { cls := .type "list", data := .seq vals.toArray }) hnone (fun b o e => Heap.get?_push_of_some _ e) ⟨vals, 0, e1, hvs.ext xx⟩
  exact hp _ _ _ _ _ tk₁ hq₁.2.out R₂ (x₁.trans x₂) (.obj (by rw [R₁.rel.len]; exact getElem?_append_new _ _))
noncomputable def pNeg (f : PE) : PE := fun L H Q => f L H fun v H₁ => match v with | .int i => Q (.int (-i)) H₁ | _ => False
theorem SE.neg {e : Expr} {pos : Pos} {f : PE} (he : SE prog w h₀ n env slots e f) : SE prog w h₀ n env slots (.UnaryOp .USub e pos) (pNeg f) := fun A L H X ρ s Q Q' E hro R hq hp => by
  refine wpAny_UnaryOp (he A L H X ρ s _ _ E hro R hq fun v H₁ ρ₁ val h₁ tk₁ hq₁ R₁ x₁ hv => ?_)
  split at hq₁
  · cases hv with
    | int i t => exact PyProof.Rows.neg_int (hp _ _ _ _ h₁ _ hq₁ R₁ x₁ (.int _ _))
  · exact hq₁.elim
noncomputable def pAnd2 (f g : PE) : PE := fun L H Q => f L H fun v H₁ => match truthV v with | some b => cond b (g L H₁ Q) (Q v H₁) | none => False
theorem SE.and2 {x y : Expr} {pos : Pos} {f g : PE} (hx : SE prog w h₀ n env slots x f) (hy : SE prog w h₀ n env slots y g) : SE prog w h₀ n env slots (.BoolOp .And [x, y] pos) (pAnd2 f g) := fun A L H X ρ s Q Q' E hro R hq hp => by
  refine wpAny_And2 (hx A L H X ρ s _ _ E hro R hq fun v H₁ ρ₁ val h₁ tk₁ hq₁ R₁ x₁ hv => ?_)
  split at hq₁
  · rename_i b hb
    refine truth_sound hv hb ?_
    cases b with
    | true => exact hy A L H₁ X ρ₁ { s with heap := h₁, toks := tk₁ } _ _ E hro R₁ hq₁ (hp.then x₁)
    | false => exact hp _ _ _ _ h₁ tk₁ hq₁ R₁ x₁ hv
  · exact hq₁.elim
noncomputable def toInts : List V → Option (List Int)
  | [] => some []
  | .int i :: r => (toInts r).map (i :: ·)
  | _ => none
theorem toInts_map {vs : List V} {xs : List Int} (h : toInts vs = some xs) : vs = xs.map .int := by
  induction vs generalizing xs with
  | nil => cases h; rfl
  | cons v r ih =>
    cases v with
    | int i =>
      simp only [toInts, Option.map_eq_some_iff] at h
      obtain ⟨ys, e, rfl⟩ := h
      rw [ih e]; rfl
    | _ => cases h
noncomputable def asInts : O → Option (List Int)
  | .nums xs => some xs
  | .list vs => toInts vs
  | .app vs => toInts vs
  | _ => none
noncomputable def asVs : O → Option (List V)
  | .nums xs => some (xs.map .int)
  | .list vs => some vs
  | .app vs => some vs
  | _ => none
theorem asVs_of_ints {o : O} {xs : List Int} (h : asInts o = some xs) : asVs o = some (xs.map .int) := by
  cases o with
  | nums ys => cases h; rfl
  | list vs => show some vs = _; rw [toInts_map h]
  | app vs => show some vs = _; rw [toInts_map h]
  | _ => cases h
theorem asVs_sound {h : Heap} {ρ : List Addr} {a : Addr} {o : O} {vs : List V} (ho : OIs prog w h ρ a o) (e : asVs o = some vs) : ∃ vals, h.IsList a vals.toArray ∧ IsL h ρ vs vals := by
  cases o with
  | nums ys => cases e; obtain ⟨vals, hl, hi⟩ := ho; exact ⟨vals, hl, IsL.ints hi⟩
  | list us => cases e; exact ho
  | app us => cases e; obtain ⟨vals, nn, hl, hi⟩ := ho; exact ⟨vals, listOf_isList hl, hi⟩
  | _ => cases e
noncomputable def joinO (a b : O) : Option O := match asInts a, asInts b with
  | some xs, some ys => some (.nums (xs ++ ys))
  | _, _ => match asVs a, asVs b with
    | some vs, some us => some (.app (vs ++ us))
    | _, _ => none
noncomputable def lenO (o : O) : Option Nat := match o with
  | .nums xs => some xs.length
  | .list vs => some vs.length
  | .app vs => some vs.length
  | _ => none
theorem lenO_sound {o : O} {k : Nat} (h : lenO o = some k) : ∃ vs, asVs o = some vs ∧ vs.length = k := by
  cases o with
  | nums xs => cases h; exact ⟨_, rfl, List.length_map _⟩
  | list vs => cases h; exact ⟨_, rfl, rfl⟩
  | app vs => cases h; exact ⟨_, rfl, rfl⟩
  | _ => cases h
theorem joinO_sound {a b o : O} (h : joinO a b = some o) : ∃ vs us, asVs a = some vs ∧ asVs b = some us ∧ (o = .app (vs ++ us) ∨ ∃ zs, o = .nums zs ∧ vs ++ us = zs.map .int) := by
  unfold joinO at h
  split at h
  · rename_i xs ys ex ey
    cases h
    exact ⟨_, _, asVs_of_ints ex, asVs_of_ints ey, .inr ⟨_, rfl, (List.map_append).symm⟩⟩
  · split at h
    · rename_i vs us ev eu
      cases h
      exact ⟨_, _, ev, eu, .inl rfl⟩
    · cases h
theorem OIs.ofVs {h : Heap} {ρ : List Addr} {a : Addr} {o : O} {vs : List V} {vals : List Value} {nn : Nat} (e : h.get? a = some (listOf vals.toArray nn)) (hv : IsL h ρ vs vals) (ho : o = .app vs ∨ ∃ zs, o = .nums zs ∧ vs = zs.map .int) : OIs prog w h ρ a o := by
  rcases ho with rfl | ⟨zs, rfl, rfl⟩
  · exact ⟨vals, nn, e, hv⟩
  · exact ⟨vals, listOf_isList e, hv.toInts⟩
noncomputable def repO (o : O) (k : Nat) : Option O := match o with
  | .app vs => match toInts vs with
    | some xs => some (.nums (List.replicate k xs).flatten)
    | none => some (.app (List.replicate k vs).flatten)
  | _ => none
theorem IsL.flatten_rep {h : Heap} {ρ : List Addr} {vs : List V} {vals : List Value} (hv : IsL h ρ vs vals) : ∀ k, IsL h ρ (List.replicate k vs).flatten (List.replicate k vals).flatten
  | 0 => .nil
  | k + 1 => by rw [List.replicate_succ, List.replicate_succ, List.flatten_cons, List.flatten_cons]; exact hv.append (IsL.flatten_rep hv k)
theorem foldl_rep (vals : List Value) : ∀ (k : Nat) (acc : Array Value), (List.replicate k vals.toArray).foldl (fun x y => x ++ y) acc = (acc.toList ++ (List.replicate k vals).flatten).toArray
  | 0, acc => by simp
  | k + 1, acc => by
    rw [List.replicate_succ, List.foldl_cons, foldl_rep vals k, List.replicate_succ, List.flatten_cons]
    simp
noncomputable def opBinX (op : Operator) (a b : V) (H : List O) (Q : V → List O → Prop) : Prop := match a with
  | .obj i => (match op with
    | .Add => (match b with
      | .obj j => (match H[i]? with
        | some oa => (match H[j]? with
          | some ob => (match joinO oa ob with
            | some o => (match lenO o with | some k => guardB (Nat.ble k 100000) (Q (.obj H.length) (H ++ [o])) | none => False)
            | none => False)
          | none => False)
        | none => False)
      | _ => False)
    | .Mult => (match b with
      | .int k => (match H[i]? with
        | some oa => 0 ≤ k ∧ k ≤ 1000 ∧ (match lenO oa with | some l => l ≤ 1000 ∧ (match repO oa k.toNat with | some o => Q (.obj H.length) (H ++ [o]) | none => False) | none => False)
        | none => False)
      | _ => False)
    | _ => False)
  | _ => opBin op a b fun v => Q v H
noncomputable def pBinX (op : Operator) (f g : PE) : PE := fun L H Q => f L H fun a H₁ => g L H₁ fun b H₂ => opBinX op a b H₂ fun v H₃ => Box (Q v H₃)
theorem RelF.newList {h h' : Heap} {ρ : List Addr} {L : List (Option V)} {H : List O} {X : List XE} {m : Str → Option Value} {vals : List Value} {nn : Nat} {vs : List V} {o : O} (R : RelF prog w h₀ env slots h ρ L H X) (F : Fr noHeap env.locals h m)
    (F' : Fr noHeap env.locals h' m) (N' : News noHeap env.locals h' ((h.objs.size, listOf vals.toArray nn) :: restOf h env.locals env.locals)) (hv : IsL h ρ vs vals) (ho : o = .app vs ∨ ∃ zs, o = .nums zs ∧ vs = zs.map .int) :
    RelF prog w h₀ env slots h' (ρ ++ [h.objs.size]) L (H ++ [o]) X ∧ Ext h ρ h' (ρ ++ [h.objs.size]) := by
  obtain ⟨R₁, x₁⟩ := R.reNs (h' := h') (fun b o hb e => (N' (b, o) (List.mem_cons_of_mem _ (mem_restOf.mpr ⟨e, hb, hb⟩))).1) (ns_same F.ns F'.ns)
  obtain ⟨n1, n2⟩ := R.rel.notIn (get_size_none h)
  have xx : Ext h' ρ h' (ρ ++ [h.objs.size]) := ⟨TupKeep.refl _, [_], rfl⟩
  obtain ⟨R₂, x₂⟩ := R₁.adopt (o := o) n1 n2 (OIs.ofVs (N' _ (List.mem_cons_self ..)).1 ((hv.ext x₁).ext xx) ho)
  exact ⟨R₂, x₁.trans x₂⟩
theorem opBinX_sound {op : Operator} {va vb : V} {a b : Value} {A : Around} {L : List (Option V)} {H : List O} {X : List XE} {ρ : List Addr} {s : Shared} {Q : V → List O → Prop} {Q' : Value → Shared → Prop} {E : Value → Shared → Prop}
    (R : RelF prog w h₀ env slots s.heap ρ L H X) (ha : Is s.heap ρ va a) (hb : Is s.heap ρ vb b) (hq : opBinX op va vb H Q) (hp : Post prog w h₀ env slots Is L X ρ s Q Q') : wpAny (model prog w) A (binaryOp op a b) Q' E s := by
  unfold opBinX at hq
  obtain ⟨m, F⟩ := fullFr R
  split at hq
  · rename_i i
    cases ha with
    | obj ei =>
      split at hq
      · split at hq
        · rename_i j
          cases hb with
          | obj ej =>
            split at hq
            · rename_i oa eoa
              split at hq
              · rename_i ob eob
                split at hq
                · rename_i o eo
                  split at hq
                  · rename_i k ek
                    obtain ⟨hk, hq⟩ := guardB_i hq
                    have hk := Nat.le_of_ble_eq_true hk
                    obtain ⟨vs, us, e1, e2, e3⟩ := joinO_sound eo
                    obtain ⟨vals, hl1, hv1⟩ := asVs_sound (R.rel.objs _ _ _ eoa ei) e1
                    obtain ⟨uals, hl2, hv2⟩ := asVs_sound (R.rel.objs _ _ _ eob ej) e2
                    have hlen : vs.length + us.length = k := by
                      rcases e3 with rfl | ⟨zs, rfl, e⟩
                      · cases ek; simp
                      · cases ek; have := congrArg List.length e; simpa using this
                    refine add_lists F fullNews0 hl1 hl2 (fun h' F' N' => ?_) (sizeOk_of (by rw [← hv1.length, ← hv2.length]; lia))
                    obtain ⟨R', x'⟩ := R.newList F F' N' (hv1.append hv2) e3
                    exact hp _ _ _ _ h' s.toks hq R' x' (.obj (by rw [R.rel.len]; exact getElem?_append_new _ _))
                  · exact hq.elim
                · exact hq.elim
              · exact hq.elim
            · exact hq.elim
        · exact hq.elim
      · split at hq
        · rename_i k
          cases hb with
          | int _ t =>
            split at hq
            · rename_i oa eoa
              obtain ⟨h0, h1, hq⟩ := hq
              split at hq
              · rename_i l el
                obtain ⟨hl, hq⟩ := hq
                split at hq
                · rename_i o eo
                  cases oa with
                  | app vs =>
                    cases el
                    obtain ⟨vals, nn, hx, hv⟩ := R.rel.objs _ _ _ eoa ei
                    have hlen := hv.length
                    refine mul_list F fullNews0 hx (by lia) (by lia) ?_ fun h' F' N' => ?_
                    · rw [List.size_toArray, ← hlen]
                      have : vs.length * k.toNat ≤ 1000 * 1000 := Nat.mul_le_mul hl (by lia)
                      lia
                    have e : List.foldl (fun x1 x2 => x1 ++ x2) #[] (List.replicate (if vals.toArray.isEmpty = true then 0 else k.toNat) vals.toArray) = ((List.replicate k.toNat vals).flatten).toArray := by
                      rw [foldl_rep]
                      by_cases he : vals = []
                      · subst he; simp
                      · have : vals.toArray.isEmpty = false := by simpa using he
                        rw [this]; simp
                    rw [e] at N'
                    obtain ⟨R', x'⟩ := R.newList (o := o) F F' N' (hv.flatten_rep k.toNat) (by
                      cases ex : toInts vs with
                      | some xs =>
                        simp only [repO, ex, Option.some.injEq] at eo
                        subst eo
                        refine .inr ⟨_, rfl, ?_⟩
                        rw [toInts_map ex, List.map_flatten, List.map_replicate]
                      | none =>
                        simp only [repO, ex, Option.some.injEq] at eo
                        subst eo
                        exact .inl rfl)
                    exact hp _ _ _ _ h' s.toks hq R' x' (.obj (by rw [R.rel.len]; exact getElem?_append_new _ _))
                  | _ => cases eo
                · exact hq.elim
              · exact hq.elim
            · exact hq.elim
        · exact hq.elim
      · exact hq.elim
  · exact opBin_sound ha hb hq fun i t tk hq₃ => hp _ _ _ _ s.heap tk hq₃ R (Ext.refl ..) (.int i t)
theorem SE.binX {op : Operator} {l r : Expr} {pos : Pos} {f g : PE} (hl : SE prog w h₀ n env slots l f) (hr : SE prog w h₀ n env slots r g) : SE prog w h₀ n env slots (.BinOp l op r pos) (pBinX op f g) :=
  fun A L H X ρ s Q Q' E hro R hq hp => by
  refine wpAny_BinOp (hl A L H X ρ s _ _ E hro R hq fun a H₁ ρ₁ va h₁ tk₁ hq₁ R₁ x₁ ha => ?_)
  refine hr A L H₁ X ρ₁ _ _ _ E hro R₁ hq₁ fun b H₂ ρ₂ vb h₂ tk₂ hq₂ R₂ x₂ hb => ?_
  exact opBinX_sound (s := { s with heap := h₂, toks := tk₂ }) R₂ (ha.ext x₂) hb hq₂ (hp.then (x₁.trans x₂)).box
end
section
variable {prog : Program} {w : World} {h₀ : Heap} {n : Nat} {env : Env} {slots : Slots}
theorem evalArgs_any {P : Args → Shared → Prop} {f : Value} {args : List (Bool × Sem Value)} {A : Around} {E : Value → Shared → Prop} {s : Shared} (hpl : args.any (·.1) = false)
    (main : wpAny (model prog w) A (spliced args) (fun vs s₁ => P ⟨vs, []⟩ s₁) E s) : wpAny (model prog w) A (evalArgs f true args []) P E s := by
  cases args with
  | nil =>
    unfold evalArgs
    show wpAny _ A (spliced [] >>= _) _ E s
    refine wpAny_bind (wpAny_mono main (fun vs s₁ h₁ => ?_) fun _ _ x => x)
    refine wpAny_bind (wpAny_pure ?_)
    refine wpAny_holding ?_
    exact wpAny_bind (wpAny_pure (wpAny_bind (wpAny_pure (wpAny_pure h₁))))
  | cons p rest =>
    obtain ⟨b, x⟩ := p
    have hb : b = false := by
      rw [List.any_cons] at hpl
      exact (Bool.or_eq_false_iff.mp hpl).1
    subst hb
    exact evalArgs_plain main
theorem SE.callB {x : Str} {np pos : Pos} {args : List Expr} {id : String} {g : PL} {sem : PF} (hf : SE prog w h₀ n env slots (.Name x np) (pV (.raw (.builtin id)))) (hS : SFv prog w h₀ n (.builtin id) sem)
    (ha : SL prog w h₀ n env slots pos args g) (hpl : (backTo pos (starEach args env)).any (·.1) = false) : SE prog w h₀ n env slots (.Call (.Name x np) args [] pos) (pCall sem g) :=
  fun A L H X ρ s Q Q' E hro R hq hp => by
  refine wpAny_Call_NameR (hf A L H X ρ s (fun v H' => v = .raw (.builtin id) ∧ H' = H) _ E hro R ⟨rfl, rfl⟩ fun o H₁ ρ₁ oval h₁ tk₁ hq₁ R₁ x₁ ho => ?_)
  obtain ⟨rfl, rfl⟩ := hq₁
  cases ho
  refine callWith_builtin hpl (evalArgs_any hpl (ha A L H₁ X ρ₁ _ _ _ E hro R₁ hq fun vs H₂ ρ₂ vals h₂ tk₂ hq₂ R₂ x₂ hvs => ?_))
  exact hS A vs vals H₂ _ ρ₂ _ _ _ _ hro R₂.rel.froz hvs hq₂ fun v H₃ ρ₃ val h₃ tk₃ hq₃ R₃ x₃ hv => hp _ _ _ _ h₃ tk₃ hq₃.out (R₂.back R₃ x₃) ((x₁.trans x₂).trans x₃) hv
theorem SE.callT {x : Str} {np pos : Pos} {args : List Expr} {T : String} {g : PL} {sem : PF} (hf : SE prog w h₀ n env slots (.Name x np) (pV (.raw (.type T)))) (hS : SFv prog w h₀ n (.type T) sem)
    (ha : SL prog w h₀ n env slots pos args g) (hpl : (backTo pos (starEach args env)).any (·.1) = false) : SE prog w h₀ n env slots (.Call (.Name x np) args [] pos) (pCall sem g) :=
  fun A L H X ρ s Q Q' E hro R hq hp => by
  refine wpAny_Call_NameR (hf A L H X ρ s (fun v H' => v = .raw (.type T) ∧ H' = H) _ E hro R ⟨rfl, rfl⟩ fun o H₁ ρ₁ oval h₁ tk₁ hq₁ R₁ x₁ ho => ?_)
  obtain ⟨rfl, rfl⟩ := hq₁
  cases ho
  refine PyProof.Rows.callWith_type hpl (evalArgs_any hpl (ha A L H₁ X ρ₁ _ _ _ E hro R₁ hq fun vs H₂ ρ₂ vals h₂ tk₂ hq₂ R₂ x₂ hvs => ?_))
  exact hS A vs vals H₂ _ ρ₂ _ _ _ _ hro R₂.rel.froz hvs hq₂ fun v H₃ ρ₃ val h₃ tk₃ hq₃ R₃ x₃ hv => hp _ _ _ _ h₃ tk₃ hq₃.out (R₂.back R₃ x₃) ((x₁.trans x₂).trans x₃) hv
noncomputable def lenF : PF := fun args H Q => match args with
  | [.obj k] => (match H[k]? with
    | some o => (match lenO o with | some l => l < 2 ^ 62 ∧ Q (.int l) H | none => False)
    | none => False)
  | _ => False
theorem SFv.len : SFv prog w h₀ n (.builtin "len") lenF := fun A args vals H X ρ s Q Q' E hro R hv hq hp => by
  unfold lenF at hq
  split at hq
  · rename_i k
    cases hv with
    | cons hk hn =>
      cases hn
      cases hk with
      | obj ek =>
        split at hq
        · rename_i o eo
          split at hq
          · rename_i l el
            obtain ⟨vs, ev, rfl⟩ := lenO_sound el
            obtain ⟨vals, hl, hx⟩ := asVs_sound (R.objs _ _ _ eo ek) ev
            have := hx.length
            refine call_len_list hl (by rw [List.size_toArray]; lia) ?_
            rw [List.size_toArray, ← this]
            exact hp _ _ _ _ s.heap _ hq.2 R (Ext.refl ..) (.int _ _)
          · exact hq.elim
        · exact hq.elim
  · exact hq.elim
noncomputable def absF : PF := fun args H Q => match args with | [.int i] => Q (.int (if i < 0 then -i else i)) H | _ => False
theorem SFv.abs : SFv prog w h₀ n (.builtin "abs") absF := fun A args vals H X ρ s Q Q' E hro R hv hq hp => by
  unfold absF at hq
  split at hq
  · cases hv with
    | cons hk hn =>
      cases hn
      cases hk with
      | int i t => exact PyProof.Rows.call_abs_int fun u tk => hp _ _ _ _ s.heap tk hq R (Ext.refl ..) (.int _ _)
  · exact hq.elim
noncomputable def intF : PF := fun args H Q => match args with | [.int i] => Q (.int i) H | _ => False
theorem SFv.int : SFv prog w h₀ n (.type "int") intF := fun A args vals H X ρ s Q Q' E hro R hv hq hp => by
  unfold intF at hq
  split at hq
  · cases hv with
    | cons hk hn =>
      cases hn
      cases hk with
      | int i t => exact call_int_int (hp _ _ _ _ s.heap s.toks hq R (Ext.refl ..) (.int _ _))
  · exact hq.elim
noncomputable def copyO (o : O) : Option O := match asInts o with
  | some xs => some (.nums xs)
  | none => (asVs o).map .app
noncomputable def listF : PF := fun args H Q => match args with
  | [.obj k] => (match H[k]? with
    | some o => (match copyO o with
      | some o' => (match lenO o with | some l => guardB (Nat.ble l 100000) (Q (.obj H.length) (H ++ [o'])) | none => False)
      | none => False)
    | none => False)
  | _ => False
theorem SFv.list : SFv prog w h₀ n (.type "list") listF := fun A args vals H X ρ s Q Q' E hro R hv hq hp => by
  unfold listF at hq
  split at hq
  · rename_i k
    cases hv with
    | cons hk hn =>
      cases hn
      cases hk with
      | obj ek =>
        split at hq
        · rename_i o eo
          split at hq
          · rename_i o' ec
            split at hq
            · rename_i l el
              replace hq := guardB_i hq
              have hle := Nat.le_of_ble_eq_true hq.1
              obtain ⟨vs, ev, rfl⟩ := lenO_sound el
              obtain ⟨vals, hl, hx⟩ := asVs_sound (R.objs _ _ _ eo ek) ev
              have hlen := hx.length
              obtain ⟨ob, hob, hc, nn, hd⟩ := hl
              refine call_list_seq _ (.inl rfl) hob hc hd (fun h' c' hkp hD => ?_) (sizeOk_of (by rw [List.size_toArray]; lia))
              have ho' : o' = .app vs ∨ ∃ zs, o' = .nums zs ∧ vs = zs.map .int := by
                unfold copyO at ec
                split at ec
                · rename_i xs ex
                  cases ec
                  have := asVs_of_ints ex
                  rw [ev] at this; cases this
                  exact .inr ⟨_, rfl, rfl⟩
                · rw [ev] at ec; cases ec; exact .inl rfl
              have xx : Ext s.heap ρ h' (ρ ++ [s.heap.objs.size]) := ⟨tupKeep_ext hkp, [_], rfl⟩
              obtain ⟨R', x'⟩ := R.alloc (o := o') (get_size_none _) hkp (OIs.ofVs hD (hx.ext xx) ho')
              exact hp _ _ _ _ h' s.toks hq.2 R' x' (.obj (by rw [R.len]; exact getElem?_append_new _ _))
            · exact hq.elim
          · exact hq.elim
        · exact hq.elim
  · exact hq.elim
noncomputable def sumF : PF := fun args H Q => match args with
  | [.obj k] => (match H[k]? with
    | some o => (match asInts o with | some xs => Q (.int xs.sum) H | none => False)
    | none => False)
  | _ => False
theorem Rel.growE {h h' : Heap} {ρ : List Addr} {H : List O} {X : List XE} (R : Rel prog w h₀ h ρ H X) (hs : ∀ b o, h.get? b = some o → h'.get? b = some o) : Rel prog w h₀ h' ρ H X ∧ Ext h ρ h' ρ := ⟨R.grow hs, tupKeep_ext hs, [], (List.append_nil ρ).symm⟩
theorem SFv.sum : SFv prog w h₀ n (.builtin "sum") sumF := fun A args vals H X ρ s Q Q' E hro R hv hq hp => by
  unfold sumF at hq
  split at hq
  · rename_i k
    cases hv with
    | cons hk hn =>
      cases hn
      cases hk with
      | obj ek =>
        split at hq
        · rename_i o eo
          split at hq
          · rename_i xs ex
            obtain ⟨vals, hl, hx⟩ := asVs_sound (R.objs _ _ _ eo ek) (asVs_of_ints ex)
            have hi : IntsAre vals xs := hx.toInts
            have hnums := hi.numsOf
            obtain ⟨ys, e⟩ := hi.allInts.items
            rw [e] at hl
            have e2 : (PySem.numsOf vals).sum = preSum (numAt ys) ys.size := by
              have : vals = (intItems ys).toList := by rw [← e]
              rw [this, nums_intItems, preSum_eq, List.take_of_length_le (by simp)]
            refine sum_intListG hro.handled hl fun h' tk t' hkp => ?_
            rw [← e2, hnums]
            obtain ⟨R', x'⟩ := R.growE hkp
            exact hp _ _ _ _ h' tk hq R' x' (.int _ _)
          · exact hq.elim
        · exact hq.elim
  · exact hq.elim
end
noncomputable def ownsTuple (nme : String) : Bool := ["enumerate", "zip", "dict_itemiterator", "dict_reverseitemiterator", "odict_iterator", "itertools.zip_longest", "itertools.pairwise"].contains nme
noncomputable def Stepper (prog : Program) (w : World) (h₀ : Heap) (it : Addr) (At : Nat → Obj → Prop) (dep : List O → Prop) (h : Heap) (ρ : List Addr) (items : List V) : Prop :=
  (∀ k o, At k o → (∃ vs, o.data = .fields vs) ∧ ∃ nme, o.cls = .type nme ∧ ownsTuple nme = false) ∧
  (∀ (A : Around) (s : Shared) (k : Nat) (o : Obj) (Q : Value → Shared → Prop) (E : Value → Shared → Prop), s.heap.get? it = some o → At k o → Q (.ref it) s → wpAny (model prog w) A (pyIter (.ref it)) Q E s) ∧
  ∀ (ρ' : List Addr) (H : List O) (X : List XE) (A : Around) (s : Shared) (k : Nat) (o : Obj), Ext h ρ s.heap ρ' → Rel prog w h₀ s.heap ρ' H X → dep H → A.handled = none → s.heap.get? it = some o → At k o →
    (∀ v, items[k]? = some v → ∀ (Q : Option Value → Shared → Prop) (E : Value → Shared → Prop),
      (∀ val h' tk' o', Is s.heap ρ' v val → Heap.SameBut it s.heap h' → h'.get? it = some o' → At (k + 1) o' → Q (some val) { s with heap := h', toks := tk' }) → wpAny (model prog w) A (pyNext (.ref it)) Q E s) ∧
    (items[k]? = none → ∀ (Q : Option Value → Shared → Prop) (E : Value → Shared → Prop),
      (∀ h', Heap.ExtBut it s.heap h' → Q none { s with heap := h' }) → wpAny (model prog w) A (pyNext (.ref it)) Q E s)
noncomputable def AtList (l : Addr) (k : Nat) (o : Obj) : Prop := o.cls = .type "list_iterator" ∧ o.data = .fields #[.ref l, .int k 0]
noncomputable def AtTup (l : Addr) (k : Nat) (o : Obj) : Prop := o.cls = .type "tuple_iterator" ∧ o.data = .fields #[.ref l, .int k 0]
noncomputable def AtRange (n : Nat) (k : Nat) (o : Obj) : Prop := o = { cls := .type "range_iterator", dict := none, data := .fields #[rawInt k, rawInt ((n : Int) - k), rawInt 1], slots := #[] }
theorem nonTup_fields {o : Obj} {vs : Array Value} (h : o.data = .fields vs) : NonTup o := fun _ _ _ e => by rw [h] at e; cases e
section
variable {prog : Program} {w : World} {h₀ : Heap} {n : Nat} {env : Env} {slots : Slots}
noncomputable def depList (kk : Nat) (items : List V) (H : List O) : Prop := ∃ o, H[kk]? = some o ∧ asVs o = some items
theorem stepper_list {h : Heap} {ρ : List Addr} {kk : Nat} {l it : Addr} {items : List V} (ek : ρ[kk]? = some l) : Stepper prog w h₀ it (AtList l) (depList kk items) h ρ items := by
  refine ⟨fun k o h => ⟨⟨_, h.2⟩, _, h.1, by decide⟩, fun A s k o Q E ho ha hq => wpAny_pyIter_listiter (l := l) (i := k) ⟨o, ho, ha.1, ha.2⟩ hq, fun ρ' H X A s k o x R hd hh ho ha => ?_⟩
  obtain ⟨ob, eo, ev⟩ := hd
  obtain ⟨vals, hl, hv⟩ := asVs_sound (R.objs _ _ _ eo (x.get ek)) ev
  have hit : s.heap.IsListIter it l k := ⟨o, ho, ha.1, ha.2⟩
  refine ⟨fun v hkv Q E hq => ?_, fun hkn Q E hq => ?_⟩
  · obtain ⟨val, e1, e2⟩ := hv.get hkv
    refine wpAny_pyNext_list_item hit hl (by rw [List.getElem?_toArray]; exact e1) fun h' hit' hs' => ?_
    obtain ⟨o', ho', a1, a2⟩ := hit'
    exact hq val h' s.toks o' e2 hs' ho' ⟨a1, a2⟩
  · refine wpAny_pyNext_list_end hh hit hl (by rw [List.getElem?_toArray]; rw [List.getElem?_eq_none_iff] at hkn ⊢; rw [← hv.length]; exact hkn) fun h' he => hq h' he
theorem stepper_tup {h : Heap} {ρ : List Addr} {a it : Addr} {items : List V} {vals : List Value} (ht : h.IsTuple a vals.toArray) (hv : IsL h ρ items vals) : Stepper prog w h₀ it (AtTup a) (fun _ => True) h ρ items := by
  refine ⟨fun k o h => ⟨⟨_, h.2⟩, _, h.1, by decide⟩, fun A s k o Q E ho ha hq => wpAny_pyIter_tupleiter (t := a) (i := k) ⟨o, ho, ha.1, ha.2⟩ hq, fun ρ' H X A s k o x R _ hh ho ha => ?_⟩
  have ht' := x.tup _ _ ht
  have hv' := hv.ext x
  have hit : s.heap.IsTupleIter it a k := ⟨o, ho, ha.1, ha.2⟩
  refine ⟨fun v hkv Q E hq => ?_, fun hkn Q E hq => ?_⟩
  · obtain ⟨val, e1, e2⟩ := hv'.get hkv
    refine wpAny_pyNext_tuple_item hit ht' (by rw [List.getElem?_toArray]; exact e1) fun h' hit' hs' => ?_
    obtain ⟨o', ho', a1, a2⟩ := hit'
    exact hq val h' s.toks o' e2 hs' ho' ⟨a1, a2⟩
  · refine wpAny_pyNext_tuple_end hh hit ht' (by rw [List.getElem?_toArray]; rw [List.getElem?_eq_none_iff] at hkn ⊢; rw [← hv'.length]; exact hkn) fun h' he => hq h' he
noncomputable def rangeVs (n : Nat) : List V := (List.range n).map fun j : Nat => V.int (j : Int)
theorem rangeVs_get (n k : Nat) : (rangeVs n)[k]? = if k < n then some (.int (k : Int)) else none := by
  unfold rangeVs
  rw [List.getElem?_map]
  by_cases h : k < n
  · rw [if_pos h, List.getElem?_range h]; rfl
  · rw [if_neg h, List.getElem?_eq_none (by simpa using Nat.le_of_not_lt h)]; rfl
theorem stepper_range {h : Heap} {ρ : List Addr} {it : Addr} (m : Nat) : Stepper prog w h₀ it (AtRange m) (fun _ => True) h ρ (rangeVs m) := by
  refine ⟨fun k o h => by subst h; exact ⟨⟨_, rfl⟩, _, rfl, by decide⟩, fun A s k o Q E ho ha hq => by subst ha; exact wpAny_pyIter_rangeiter ho hq, fun ρ' H X A s k o x R _ hh ho ha => ?_⟩
  have hit : IsRangeIter s.heap it (k : Int) ((m : Int) - k) 1 := by rw [ha] at ho; exact ho
  refine ⟨fun v hkv Q E hq => ?_, fun hkn Q E hq => ?_⟩
  · rw [rangeVs_get] at hkv
    split at hkv
    · cases hkv
      refine wpAny_pyNext_range_item hit (by lia) fun h' hit' hs' => ?_
      refine hq _ h' _ _ (.int _ _) hs' hit' ?_
      unfold AtRange
      rw [show ((m : Int) - (k : Int) - 1) = (m : Int) - ((k + 1 : Nat) : Int) by lia]
      rfl
    · cases hkv
  · rw [rangeVs_get] at hkn
    split at hkn
    · cases hkn
    · exact wpAny_pyNext_range_end hh hit (by lia) fun h' he => hq h' he
noncomputable abbrev PI := List (Option V) → List O → (List V → (List O → Prop) → List O → Prop) → Prop
noncomputable def SIt (prog : Program) (w : World) (h₀ : Heap) (n : Nat) (env : Env) (slots : Slots) (e : Expr) (f : PI) : Prop :=
  ∀ (A : Around) (L : List (Option V)) (H : List O) (X : List XE) (ρ : List Addr) (s : Shared) (K : List V → (List O → Prop) → List O → Prop) (Q' : Value → Shared → Prop) (E : Value → Shared → Prop),
    Room n A → RelF prog w h₀ env slots s.heap ρ L H X → f L H K →
    (∀ items dep H' ρ' h' tk' it At o, K items dep H' → RelF prog w h₀ env slots h' ρ' L H' X → Ext s.heap ρ h' ρ' → dep H' → Stepper prog w h₀ it At dep h' ρ' items → h'.get? it = some o → At 0 o →
      it ∉ ρ' ++ (frameX env slots ++ X).map XE.a → h₀.get? it = none → Q' (.ref it) { s with heap := h', toks := tk' }) →
    wpAny (model prog w) A (eval e env) (fun x s₁ => wpAny (model prog w) A (pyIter x) Q' E s₁) E s
noncomputable def pItList (f : PE) : PI := fun L H K => f L H fun v H₁ => match v with
  | .obj k => (match H₁[k]? with
    | some o => (match asVs o with | some vs => K vs (depList k vs) H₁ | none => False)
    | none => False)
  | _ => False
theorem SIt.list {e : Expr} {f : PE} (he : SE prog w h₀ n env slots e f) : SIt prog w h₀ n env slots e (pItList f) := fun A L H X ρ s K Q' E hro R hq hp => by
  refine he A L H X ρ s _ _ E hro R hq fun v H₁ ρ₁ val h₁ tk₁ hq₁ R₁ x₁ hv => ?_
  split at hq₁
  · rename_i k
    cases hv with
    | @obj _ l ek =>
      split at hq₁
      · rename_i o eo
        split at hq₁
        · rename_i vs ev
          obtain ⟨vals, hl, hx⟩ := asVs_sound (R₁.rel.objs _ _ _ eo ek) ev
          refine wpAny_pyIter_list (s := { s with heap := h₁, toks := tk₁ }) hl ?_
          obtain ⟨n1, n2⟩ := R₁.rel.notIn (get_size_none h₁)
          obtain ⟨R₂, x₂⟩ := R₁.grow (h' := h₁.push { cls := .type "list_iterator", data := .fields #[.ref l, .int 0 0] }) fun b o e => Heap.get?_push_of_some _ e
          exact hp vs _ H₁ ρ₁ _ tk₁ _ (AtList l) _ hq₁ R₂ (x₁.trans x₂) ⟨o, eo, ev⟩ (stepper_list ek) (Heap.get?_push_size _ rfl) ⟨rfl, rfl⟩ n1 n2
        · exact hq₁.elim
      · exact hq₁.elim
  · exact hq₁.elim
noncomputable def pItTup (f : PE) : PI := fun L H K => f L H fun v H₁ => match v with | .tup vs => K vs (fun _ => True) H₁ | _ => False
theorem SIt.tup {e : Expr} {f : PE} (he : SE prog w h₀ n env slots e f) : SIt prog w h₀ n env slots e (pItTup f) := fun A L H X ρ s K Q' E hro R hq hp => by
  refine he A L H X ρ s _ _ E hro R hq fun v H₁ ρ₁ val h₁ tk₁ hq₁ R₁ x₁ hv => ?_
  split at hq₁
  · rename_i vs
    cases hv with
    | @tup _ vals a ht hl =>
      refine wpAny_pyIter_tuple (s := { s with heap := h₁, toks := tk₁ }) ht ?_
      obtain ⟨n1, n2⟩ := R₁.rel.notIn (get_size_none h₁)
      obtain ⟨R₂, x₂⟩ := R₁.grow (h' := h₁.push { cls := .type "tuple_iterator", data := .fields #[.ref a, .int 0 0] }) fun b o e => Heap.get?_push_of_some _ e
      exact hp vs _ H₁ ρ₁ _ tk₁ _ (AtTup a) _ hq₁ R₂ (x₁.trans x₂) trivial (stepper_tup (x₂.tup _ _ ht) (hl.ext x₂)) (Heap.get?_push_size _ rfl) ⟨rfl, rfl⟩ n1 n2
  · exact hq₁.elim
noncomputable def pItRange (m : Nat) : PI := fun L H K => K (rangeVs m) (fun _ => True) H
theorem SIt.range {x : Str} {np pos : Pos} {e : Expr} {g : PE} (m : Nat) (hm : m ≤ 1000) (hf : SE prog w h₀ n env slots (.Name x np) (pV (.raw (.type "range")))) (he : SE prog w h₀ n env slots e (pV (.int (m : Int))))
    (hst : starEach [e] env = [(false, eval e env)]) : SIt prog w h₀ n env slots (.Call (.Name x np) [e] [] pos) (pItRange m) := fun A L H X ρ s K Q' E hro R hq hp => by
  refine wpAny_Call_NameR (hf A L H X ρ s (fun v H' => v = .raw (.type "range") ∧ H' = H) _ E hro R ⟨rfl, rfl⟩ fun o H₁ ρ₁ oval h₁ tk₁ hq₁ R₁ x₁ ho => ?_)
  obtain ⟨rfl, rfl⟩ := hq₁
  cases ho
  rw [hst]
  refine PyProof.Rows.callWith_type rfl (evalArgs_plain (spliced_cons (he A L H₁ X ρ₁ _ (fun v H' => v = .int m ∧ H' = H₁) _ E hro R₁ ⟨rfl, rfl⟩ fun v H₂ ρ₂ val h₂ tk₂ hq₂ R₂ x₂ hv => spliced_nil ?_)))
  obtain ⟨rfl, rfl⟩ := hq₂
  cases hv with
  | int _ t =>
    refine call_range_1 (s := { s with heap := h₂, toks := tk₂ }) ?_
    have er : (h₂.push { cls := .type "range", data := .fields #[.int 0 tk₂, .int m t, .int 1 (tk₂ + 1)] }).get? h₂.objs.size = some { cls := .type "range", dict := none, data := .fields #[.int 0 tk₂, .int m t, .int 1 (tk₂ + 1)], slots := #[] } := Heap.get?_push_size _ rfl
    obtain ⟨R₃, x₃⟩ := R₂.grow (h' := h₂.push { cls := .type "range", data := .fields #[.int 0 tk₂, .int m t, .int 1 (tk₂ + 1)] }) fun b o e => Heap.get?_push_of_some _ e
    have hsz : Builtin.Range.rangeSize 0 (m : Int) 1 = (m : Int) := by unfold Builtin.Range.rangeSize; simp; lia
    refine wpAny_pyIter_range er (by unfold Builtin.Range.small; rw [hsz]; simp [Builtin.Range.rangeFitsLong]; lia) ?_
    rw [hsz]
    obtain ⟨n1, n2⟩ := R₃.rel.notIn (get_size_none _)
    obtain ⟨R₄, x₄⟩ := R₃.grow (h' := (h₂.push { cls := .type "range", data := .fields #[.int 0 tk₂, .int m t, .int 1 (tk₂ + 1)] }).push { cls := .type "range_iterator", data := .fields #[rawInt 0, rawInt m, rawInt 1] }) fun b o e => Heap.get?_push_of_some _ e
    refine hp _ _ H₂ ρ₂ _ _ _ (AtRange m) _ hq R₄ (((x₁.trans x₂).trans x₃).trans x₄) trivial (stepper_range m) (Heap.get?_push_size _ rfl) ?_ n1 n2
    unfold AtRange
    simp
@[irreducible] noncomputable def forS (t : PT) (body : PS) (dep : List O → Prop) : List V → PS
  | [] => fun L H Qn _ => Box (Qn L H)
  | v :: vs => fun L H Qn Qr => Box (t v L H fun L₁ H₁ => body L₁ H₁ (fun L₂ H₂ => dep H₂ ∧ forS t body dep vs L₂ H₂ Qn Qr) Qr)
theorem forS_n {t : PT} {body : PS} {dep : List O → Prop} {L : List (Option V)} {H : List O} {Qn : List (Option V) → List O → Prop} {Qr : V → List O → Prop} (h : Qn L H) : forS t body dep [] L H Qn Qr := by
  with_unfolding_all exact Box.mk h
theorem forS_c {t : PT} {body : PS} {dep : List O → Prop} {v : V} {vs : List V} {L : List (Option V)} {H : List O} {Qn : List (Option V) → List O → Prop} {Qr : V → List O → Prop}
    (h : t v L H fun L₁ H₁ => body L₁ H₁ (fun L₂ H₂ => dep H₂ ∧ forS t body dep vs L₂ H₂ Qn Qr) Qr) : forS t body dep (v :: vs) L H Qn Qr := by
  with_unfolding_all exact Box.mk h
theorem forS_n' {t : PT} {body : PS} {dep : List O → Prop} {L : List (Option V)} {H : List O} {Qn : List (Option V) → List O → Prop} {Qr : V → List O → Prop} (h : forS t body dep [] L H Qn Qr) : Qn L H := by
  with_unfolding_all exact Box.out h
theorem forS_c' {t : PT} {body : PS} {dep : List O → Prop} {v : V} {vs : List V} {L : List (Option V)} {H : List O} {Qn : List (Option V) → List O → Prop} {Qr : V → List O → Prop}
    (h : forS t body dep (v :: vs) L H Qn Qr) : t v L H fun L₁ H₁ => body L₁ H₁ (fun L₂ H₂ => dep H₂ ∧ forS t body dep vs L₂ H₂ Qn Qr) Qr := by
  with_unfolding_all exact Box.out h
noncomputable def sFor (f : PI) (t : PT) (body : PS) : PS := fun L H Qn Qr => f L H fun items dep H₁ => forS t body dep items L H₁ Qn Qr
theorem RelF.withX {h : Heap} {ρ : List Addr} {L : List (Option V)} {H : List O} {X : List XE} (R : RelF prog w h₀ env slots h ρ L H X) {p : XE} {o : Obj} (hn : p.a ∉ ρ ++ (frameX env slots ++ X).map XE.a) (h0 : h₀.get? p.a = none)
    (ho : h.get? p.a = some o) (hP : p.P o) (hnt : NonTup o) : RelF prog w h₀ env slots h ρ L H (p :: X) := by
  have hperm : (ρ ++ (frameX env slots ++ p :: X).map XE.a).Perm (p.a :: (ρ ++ (frameX env slots ++ X).map XE.a)) := by
    rw [List.map_append, List.map_append, List.map_cons, ← List.append_assoc, ← List.append_assoc]
    exact List.perm_middle
  refine ⟨⟨R.rel.keep, R.rel.len, R.rel.objs, fun b hb => ?_, hperm.nodup_iff.mpr (List.nodup_cons.mpr ⟨hn, R.rel.nodup⟩), fun q hq => ?_⟩, ?_⟩
  · rcases List.mem_cons.mp (hperm.mem_iff.mp hb) with rfl | hb
    · exact h0
    · exact R.rel.fresh b hb
  · rcases List.mem_append.mp hq with hq | hq
    · exact R.rel.extra q (List.mem_append_left _ hq)
    · rcases List.mem_cons.mp hq with rfl | hq
      · exact ⟨o, ho, hP, hnt⟩
      · exact R.rel.extra q (List.mem_append_right _ hq)
  · obtain ⟨m, hm, hs⟩ := R.fr
    refine ⟨m, hm, fun i x k hi => ?_⟩
    have z := hs i x k hi
    unfold SlotIs at z ⊢
    split
    · exact z
    · exact z
    · intro v hv
      obtain ⟨c, val, a, b, q, hq, d⟩ := z v hv
      exact ⟨c, val, a, b, q, List.mem_cons_of_mem _ hq, d⟩
    · trivial
theorem SlotIs.weakX {h : Heap} {ρ : List Addr} {X X' : List XE} {m : Str → Option Value} {x : Str} {k : NameKind} {ov : Option V} (hX : ∀ c val, (∃ p ∈ X, p.a = c ∧ ∀ o, p.P o → o.data = .cell (some val)) → ∃ p ∈ X', p.a = c ∧ ∀ o, p.P o → o.data = .cell (some val)) (z : SlotIs env h ρ X m x k ov) : SlotIs env h ρ X' m x k ov := by
  unfold SlotIs at z ⊢
  split
  · exact z
  · exact z
  · intro v hv
    obtain ⟨c, val, a, b, q⟩ := z v hv
    exact ⟨c, val, a, b, hX c val q⟩
  · trivial
theorem RelF.stepX {h h' : Heap} {ρ : List Addr} {L : List (Option V)} {H : List O} {X : List XE} {it : Addr} {P P' : Obj → Prop} {o' : Obj} (R : RelF prog w h₀ env slots h ρ L H (⟨it, P⟩ :: X)) (hs : Heap.SameBut it h h') (ho' : h'.get? it = some o') (hP : P' o') (hnt : NonTup o')
    (hPc : ∀ o, P o → ∀ v, o.data ≠ .cell v) : RelF prog w h₀ env slots h' ρ L H (⟨it, P'⟩ :: X) ∧ Ext h ρ h' ρ := by
  obtain ⟨R', tk⟩ := R.rel.updX (X₁ := frameX env slots) (p := ⟨it, P⟩) (p' := ⟨it, P'⟩) (X₂ := X) rfl rfl hs ⟨o', ho', hP, hnt⟩
  have x : Ext h ρ h' ρ := ⟨tk, [], (List.append_nil ρ).symm⟩
  have nd := (List.nodup_append.mp R.rel.nodup).2.1
  rw [List.map_append, List.map_cons] at nd
  have hne : ∀ p ∈ frameX env slots, p.a ≠ it := fun p hp => (List.nodup_append.mp nd).2.2 p.a (List.mem_map_of_mem hp) it (.head _)
  have F := R.fr.keep x fun p hp o ho => (hs.2 _ (hne p hp)).trans ho
  obtain ⟨m, hm, hsl⟩ := F
  obtain ⟨oit, hoit, hPo, _⟩ := R.rel.extra ⟨it, P⟩ (List.mem_append_right _ (List.mem_cons_self ..))
  refine ⟨⟨R', m, hm, fun i y k hi => (hsl i y k hi).weakX fun c val => ?_⟩, x⟩
  rintro ⟨p, hp, e, d⟩
  rcases List.mem_cons.mp hp with rfl | hp
  · exact absurd (d oit hPo) (hPc oit hPo _)
  · exact ⟨p, List.mem_cons_of_mem _ hp, e, d⟩
theorem RelF.endX {h h' : Heap} {ρ : List Addr} {L : List (Option V)} {H : List O} {X : List XE} {it : Addr} {P : Obj → Prop} (R : RelF prog w h₀ env slots h ρ L H (⟨it, P⟩ :: X)) (hs : Heap.ExtBut it h h') (hPc : ∀ o, P o → ∀ v, o.data ≠ .cell v) :
    RelF prog w h₀ env slots h' ρ L H X ∧ Ext h ρ h' ρ := by
  obtain ⟨oit, hoit, hPo, hnt⟩ := R.rel.extra ⟨it, P⟩ (List.mem_append_right _ (List.mem_cons_self ..))
  have tk : TupKeep h h' := fun b items ht => by
    obtain ⟨ob, hb, hc, nn, hd⟩ := ht
    refine ⟨ob, hs b ob (fun e => ?_) hb, hc, nn, hd⟩
    subst e
    rw [hoit] at hb; cases hb
    exact hnt _ _ hc hd
  have x : Ext h ρ h' ρ := ⟨tk, [], (List.append_nil ρ).symm⟩
  have hperm : (ρ ++ (frameX env slots ++ ⟨it, P⟩ :: X).map XE.a).Perm (it :: (ρ ++ (frameX env slots ++ X).map XE.a)) := by
    rw [List.map_append, List.map_append, List.map_cons, ← List.append_assoc, ← List.append_assoc]
    exact List.perm_middle
  have nd := List.nodup_cons.mp (hperm.nodup_iff.mp R.rel.nodup)
  have hne : ∀ b ∈ ρ ++ (frameX env slots ++ X).map XE.a, b ≠ it := fun b hb e => nd.1 (e ▸ hb)
  have hfr : ∀ b ∈ ρ ++ (frameX env slots ++ X).map XE.a, h₀.get? b = none := fun b hb => R.rel.fresh b (hperm.mem_iff.mpr (.tail _ hb))
  have hit0 : h₀.get? it = none := R.rel.fresh it (hperm.mem_iff.mpr (.head _))
  have F := R.fr.keep x fun p hp o ho => hs p.a o (hne p.a (List.mem_append_right _ (by rw [List.map_append]; exact List.mem_append_left _ (List.mem_map_of_mem hp)))) ho
  refine ⟨⟨⟨fun b o e => hs b o (fun q => by rw [q, hit0] at e; cases e) (R.rel.keep b o e), R.rel.len, fun k o a e1 e2 => (R.rel.objs k o a e1 e2).ext x fun ob hb => hs a ob (hne a (List.mem_append_left _ (List.mem_of_getElem? e2))) hb, hfr, nd.2, fun p hp => ?_⟩, ?_⟩, x⟩
  · obtain ⟨o, ho, r⟩ := R.rel.extra p (by
      rcases List.mem_append.mp hp with q | q
      · exact List.mem_append_left _ q
      · exact List.mem_append_right _ (List.mem_cons_of_mem _ q))
    exact ⟨o, hs p.a o (hne p.a (List.mem_append_right _ (List.mem_map_of_mem hp))) ho, r⟩
  · obtain ⟨m, hm, hsl⟩ := F
    refine ⟨m, hm, fun i y k hi => (hsl i y k hi).weakX fun c val => ?_⟩
    rintro ⟨p, hp, e, d⟩
    rcases List.mem_cons.mp hp with rfl | hp
    · exact absurd (d oit hPo) (hPc oit hPo _)
    · exact ⟨p, hp, e, d⟩
theorem letGo_plain {target : Expr} {it : Addr} {v : Value} {o : Obj} {nme : String} {A : Around} {s : Shared} {Q : Unit → Shared → Prop} {E : Value → Shared → Prop} (ho : s.heap.get? it = some o) (hc : o.cls = .type nme) (hp : ownsTuple nme = false) (hq : Q () s) :
    wpAny (model prog w) A (letOwnedTupleGo target (.ref it) v) Q E s := by
  have main : wpAny (model prog w) A (do
    let (.ref r, .ref a) := ((.ref it : Value), v) | return
    let o ← load r
    match o.cls, o.data with
    | .type n, .fields vs =>
      if ["enumerate", "zip", "dict_itemiterator", "dict_reverseitemiterator", "odict_iterator", "itertools.zip_longest", "itertools.pairwise"].contains n && vs[0]? == some (rawInt a) then
        rule "for.unpacks-the-owned-tuple"
        updateField r 0 .none
    | _, _ => pure ()) Q E s := by
    cases v with
    | ref a =>
      refine wpAny_bind (wpAny_load ho ?_)
      rw [hc]
      cases hd : o.data with
      | fields vs =>
        dsimp only
        rw [if_neg (by
          intro h
          have : ownsTuple nme = true := (Bool.and_eq_true_iff.mp h).1
          rw [hp] at this; cases this)]
        exact wpAny_pure hq
      | _ => exact wpAny_pure hq
    | _ => exact wpAny_pure hq
  cases target with
  | Tuple => exact main
  | List => exact main
  | _ => exact wpAny_pure hq
theorem wp_gen {β : Type} {w : World} {prog : Program} {A : Around} {c : Sem β} {Q : β → Shared → Prop} {E : Value → Shared → Prop} {s : Shared}
    (h : ∀ (P : β → Shared → Prop) (F : Value → Shared → Prop), (∀ r t, Q r t → P r t) → wpAny (model prog w) A c P F s) : wpAny (model prog w) A c Q E s := h Q E fun _ _ x => x
theorem SX.for_ {target iter : Expr} {body : List Stmt} {pos : Pos} {f : PI} {t : PT} {g : PS} (hi : SIt prog w h₀ n env slots iter f) (ht : TJ prog w h₀ n env slots (PySem.assign target env) t) (hg : SS prog w h₀ n env slots body g)
    (hs : ∀ x, foldedSetIterable iter env x = pure x) : SX prog w h₀ n env slots (.For target iter body [] pos) (sFor f t g) :=
  fun A L H X ρ s Qn Qr Q' E hro R hq hn hr => by
  refine wpAny_For (hi A L H X ρ s _ _ E hro R hq fun items dep H₁ ρ₁ h₁ tk₁ it At o hK R₁ x₁ hdep hst ho hAt hnin h0 => ?_) hs
  have hnt : ∀ k o, At k o → NonTup o ∧ ∀ v, o.data ≠ .cell v := fun k o h => by
    obtain ⟨⟨vs, e⟩, _⟩ := hst.1 k o h
    exact ⟨nonTup_fields e, fun v q => by rw [e] at q; cases q⟩
  have R₂ := R₁.withX (p := ⟨it, At 0⟩) hnin h0 ho hAt (hnt 0 o hAt).1
  obtain ⟨I, hI⟩ : ∃ I : Nat → Shared → Prop, ∀ m s', I m s' ↔ ∃ (k : Nat) (L' : List (Option V)) (H' : List O) (ρ' : List Addr) (h' : Heap) (tk' : Nat), m = items.length - k ∧ k ≤ items.length ∧ s' = { s with heap := h', toks := tk' } ∧ RelF prog w h₀ env slots h' ρ' L' H' (⟨it, At k⟩ :: X) ∧ Ext h₁ ρ₁ h' ρ' ∧ dep H' ∧ forS t g dep (items.drop k) L' H' Qn Qr := ⟨_, fun _ _ => Iff.rfl⟩
  refine codeAny_forLoop_any I (fun m s' hi => ?_) items.length ((hI _ _).mpr ⟨0, L, H₁, ρ₁, h₁, tk₁, by lia, Nat.zero_le _, rfl, R₂, Ext.refl .., hdep, by simpa using hK⟩)
  refine wp_gen fun P F hP => ?_
  obtain ⟨k, L', H', ρ', h', tk', hm, hk, rfl, R', x', hd', hF⟩ := (hI _ _).mp hi
  obtain ⟨oit, hoit, hAk, _⟩ := R'.rel.extra ⟨it, At k⟩ (List.mem_append_right _ (List.mem_cons_self ..))
  have st := hst.2.2 ρ' H' _ A { s with heap := h', toks := tk' } k oit x' R'.rel hd' hro.handled hoit hAk
  cases hkv : items[k]? with
  | none =>
    have hk2 : items.length ≤ k := List.getElem?_eq_none_iff.mp hkv
    have e : items.drop k = [] := List.drop_eq_nil_of_le hk2
    rw [e] at hF
    replace hF := forS_n' hF
    refine st.2 hkv _ _ fun h'' he => ?_
    obtain ⟨R'', x''⟩ := R'.endX he fun o h => (hnt k o h).2
    exact hP _ _ (wpAny_execs_nil (hn _ _ _ h'' tk' hF R'' ((x₁.trans x').trans x'')))
  | some v =>
    have hk2 : k < items.length := (List.getElem?_eq_some_iff.mp hkv).1
    have e : items.drop k = v :: items.drop (k + 1) := by
      rw [List.drop_eq_getElem_cons hk2]
      congr 1
      rw [List.getElem?_eq_getElem hk2] at hkv
      exact Option.some.inj hkv
    rw [e] at hF
    replace hF := forS_c' hF
    refine st.1 v hkv _ _ fun val h'' tk'' o' hval hs'' ho'' hA' => ?_
    obtain ⟨R'', x''⟩ := R'.stepX (P' := At (k + 1)) hs'' ho'' hA' (hnt _ _ hA').1 fun o h => (hnt k o h).2
    obtain ⟨nme, hcl, hown⟩ := (hst.1 _ _ hA').2
    refine hP _ _ ?_
    refine letGo_plain (s := { s with heap := h'', toks := tk'' }) ho'' hcl hown ?_
    refine ht A v val L' H' _ ρ' _ _ _ _ hro R'' (hval.ext x'') hF fun L₃ H₃ ρ₃ h₃ tk₃ hq₃ R₃ x₃ => ?_
    refine hg A L₃ H₃ _ ρ₃ _ _ _ _ _ hro R₃ hq₃ (fun L₄ H₄ ρ₄ h₄ tk₄ hq₄ R₄ x₄ => ?_) fun v' L₄ H₄ ρ₄ val' h₄ tk₄ hq₄ R₄ x₄ hv₄ => ?_
    · exact ⟨items.length - (k + 1), by omega, (hI _ _).mpr ⟨k + 1, L₄, H₄, ρ₄, h₄, tk₄, rfl, hk2, rfl, R₄, ((x'.trans x'').trans x₃).trans x₄, hq₄.1, hq₄.2⟩⟩
    · obtain ⟨R₅, x₅⟩ := R₄.endX (h' := h₄) (fun _ _ _ e => e) fun o h => (hnt _ o h).2
      exact hr _ _ _ _ _ h₄ tk₄ hq₄ R₅ ((((x₁.trans x').trans x'').trans x₃).trans x₄) hv₄
@[irreducible] noncomputable def compS (t : PT) (g : PE) (dep : List O → Prop) (D : Nat) : List V → List V → List (Option V) → List O → (List O → Prop) → Prop
  | [], acc => fun L H Q => Box (Q H)
  | v :: vs, acc => fun L H Q => Box (t v L H fun L₁ H₁ => g L₁ H₁ fun u H₂ => acc.length ≤ 1000 ∧ H₂[D]? = some (.app acc) ∧ dep (H₂.set D (.app (acc ++ [u]))) ∧ compS t g dep D vs (acc ++ [u]) L₁ (H₂.set D (.app (acc ++ [u]))) Q)
theorem compS_n {t : PT} {g : PE} {dep : List O → Prop} {D : Nat} {acc : List V} {L : List (Option V)} {H : List O} {Q : List O → Prop} (h : Q H) : compS t g dep D [] acc L H Q := by
  with_unfolding_all exact Box.mk h
theorem compS_c {t : PT} {g : PE} {dep : List O → Prop} {D : Nat} {v : V} {vs acc : List V} {L : List (Option V)} {H : List O} {Q : List O → Prop}
    (h : t v L H fun L₁ H₁ => g L₁ H₁ fun u H₂ => acc.length ≤ 1000 ∧ H₂[D]? = some (.app acc) ∧ dep (H₂.set D (.app (acc ++ [u]))) ∧ compS t g dep D vs (acc ++ [u]) L₁ (H₂.set D (.app (acc ++ [u]))) Q) : compS t g dep D (v :: vs) acc L H Q := by
  with_unfolding_all exact Box.mk h
theorem compS_n' {t : PT} {g : PE} {dep : List O → Prop} {D : Nat} {acc : List V} {L : List (Option V)} {H : List O} {Q : List O → Prop} (h : compS t g dep D [] acc L H Q) : Q H := by
  with_unfolding_all exact Box.out h
theorem compS_c' {t : PT} {g : PE} {dep : List O → Prop} {D : Nat} {v : V} {vs acc : List V} {L : List (Option V)} {H : List O} {Q : List O → Prop} (h : compS t g dep D (v :: vs) acc L H Q) :
    t v L H fun L₁ H₁ => g L₁ H₁ fun u H₂ => acc.length ≤ 1000 ∧ H₂[D]? = some (.app acc) ∧ dep (H₂.set D (.app (acc ++ [u]))) ∧ compS t g dep D vs (acc ++ [u]) L₁ (H₂.set D (.app (acc ++ [u]))) Q := by
  with_unfolding_all exact Box.out h
end
section
variable {prog : Program} {w : World} {h₀ : Heap} {n : Nat} {env : Env} {slots : Slots}
theorem Rel.endX {h h' : Heap} {ρ : List Addr} {H : List O} {X : List XE} {p : XE} (R : Rel prog w h₀ h ρ H (p :: X)) (hs : Heap.ExtBut p.a h h') : Rel prog w h₀ h' ρ H X ∧ Ext h ρ h' ρ := by
  obtain ⟨oit, hoit, hPo, hnt⟩ := R.extra p (List.mem_cons_self ..)
  have tk : TupKeep h h' := fun b items ht => by
    obtain ⟨ob, hb, hc, nn, hd⟩ := ht
    refine ⟨ob, hs b ob (fun e => ?_) hb, hc, nn, hd⟩
    subst e
    rw [hoit] at hb; cases hb
    exact hnt _ _ hc hd
  have x : Ext h ρ h' ρ := ⟨tk, [], (List.append_nil ρ).symm⟩
  have hperm : (ρ ++ (p :: X).map XE.a).Perm (p.a :: (ρ ++ X.map XE.a)) := List.perm_middle
  have nd := List.nodup_cons.mp (hperm.nodup_iff.mp R.nodup)
  have hne : ∀ b ∈ ρ ++ X.map XE.a, b ≠ p.a := fun b hb e => nd.1 (e ▸ hb)
  have hit0 : h₀.get? p.a = none := R.fresh p.a (hperm.mem_iff.mpr (.head _))
  refine ⟨⟨fun b o e => hs b o (fun q => by rw [q, hit0] at e; cases e) (R.keep b o e), R.len, fun k o a e1 e2 => (R.objs k o a e1 e2).ext x fun ob hb => hs a ob (hne a (List.mem_append_left _ (List.mem_of_getElem? e2))) hb, fun b hb => R.fresh b (hperm.mem_iff.mpr (.tail _ hb)), nd.2, fun q hq => ?_⟩, x⟩
  obtain ⟨o, ho, r⟩ := R.extra q (.tail _ hq)
  exact ⟨o, hs q.a o (hne q.a (List.mem_append_right _ (List.mem_map_of_mem hq))) ho, r⟩
noncomputable def innerL (src : List (Option Nat)) (L : List (Option V)) : List (Option V) := src.map fun o => match o with | some i => lget L i | none => none
theorem lget_innerL {src : List (Option Nat)} {L : List (Option V)} {j : Nat} {v : V} (h : lget (innerL src L) j = some v) : ∃ i, src[j]? = some (some i) ∧ lget L i = some v := by
  unfold lget innerL at h
  rw [List.getElem?_map] at h
  cases e : src[j]? with
  | none => rw [e] at h; cases h
  | some o =>
    rw [e] at h
    cases o with
    | none => cases h
    | some i => exact ⟨i, rfl, h⟩
noncomputable def pComp (src : List (Option Nat)) (f : PI) (t : PT) (g : PE) : PE := fun L H Q => f L H fun items dep H₁ => items.length ≤ 1000 ∧ dep (H₁ ++ [.app []]) ∧ compS t g dep H₁.length items [] (innerL src L) (H₁ ++ [.app []]) fun H₂ => Q (.obj H₁.length) H₂
theorem SE.listComp {elt target iter : Expr} {scope : Scope} {pos : Pos} {cl : List (Str × Addr)} {islots : Slots} {f : PI} {t : PT} {g : PE} (src : List (Option Nat)) (hi : SIt prog w h₀ n env slots iter f)
    (hclos : closureFor scope env = pure cl) (hkind : scope.kind = .function) (hcell : ∀ x ∈ scope.names, x.2 ≠ .cell) (hnames : ∀ x ∈ scope.names, x.2 = .local → scope.names.lookup x.1 = some .local)
    (hsl : ∀ (j : Nat) (x : Str) (k : NameKind), islots[j]? = some (x, k) → (k = .local ∧ src[j]? = some none) ∨ (k = .free ∧ ∃ i, src[j]? = some (some i) ∧ slots[i]? = some (x, .cell) ∧ cl.lookup x = env.cells.lookup x) ∨ k = .globalImplicit)
    (ht : ∀ C, TJ prog w h₀ n (compEnvC scope cl C env) islots (PySem.assign target (compEnvC scope cl C env)) t) (hg : ∀ C, SE prog w h₀ n (compEnvC scope cl C env) islots elt g)
    (hs : ∀ x, foldedSetIterable iter env x = pure x) (hlt : ∀ it v, letOwnedTupleGo target it v = pure ()) :
    SE prog w h₀ n env slots (.ListComp elt [⟨target, iter, [], 0⟩] scope pos) (pComp src f t g) := fun A L H X ρ s Q Q' E hro R hq hp => by
  rw [eval_ListComp]
  show wpAny (model prog w) A (comprehension (.ListComp elt [⟨target, iter, [], 0⟩] scope pos) scope env _ (newList []) false (eval iter env)) Q' E s
  refine wpAny_comprehension_free (use := none) (g := ⟨target, iter, [], 0⟩) (gs := []) rfl hs hclos hkind hnames (hi A L H X ρ s _ _ E hro R hq fun items dep H₁ ρ₁ h₁ tk₁ it At o hK R₁ x₁ hdep hst ho hAt hnin h0 => ?_)
  obtain ⟨hitl, hdep₂, hK⟩ := hK
  have hnt : ∀ k o, At k o → NonTup o ∧ ∀ v, o.data ≠ .cell v := fun k o h => by
    obtain ⟨⟨vs, e⟩, _⟩ := hst.1 k o h
    exact ⟨nonTup_fields e, fun v q => by rw [e] at q; cases q⟩
  have R₂ := R₁.withX (p := ⟨it, At 0⟩) hnin h0 ho hAt (hnt 0 o hAt).1
  refine wpAny_newObj_type (T := "list") ?_
  have e1 : (h₁.push { cls := .type "list", dict := none, data := .seq ([] : List Value).toArray }).get? h₁.objs.size = some (listOf ([] : List Value).toArray 0) := Heap.get?_push_size _ rfl
  obtain ⟨R₃, x₃⟩ := R₂.alloc (o := .app []) (h' := h₁.push { cls := .type "list", dict := none, data := .seq ([] : List Value).toArray }) (get_size_none _) (fun b o e => Heap.get?_push_of_some _ e) ⟨[], 0, e1, .nil⟩
  generalize hH2 : h₁.push { cls := .type "list", dict := none, data := .seq ([] : List Value).toArray } = h₂ at R₃ x₃ e1 ⊢
  refine wpAny_newFunctionEnv (s := { s with heap := h₂, toks := tk₁ }) hcell (by intro y hy; simp at hy) (fun h₃ hns hsb => ?_) hkind
  have hk₃ : ∀ b o, h₂.get? b = some o → h₃.get? b = some o := fun b o e => hsb.extBut b o (Nat.ne_of_lt (Heap.lt_size e)) (Heap.get?_push_of_some _ e)
  obtain ⟨R₄, x₄⟩ := R₃.grow hk₃
  show codeAny _ A (.compStart _ 0 (.ref it) (.ref h₁.objs.size) (compEnvC scope cl h₂.objs.size env)) (compPost (model prog w) A E none Q' (.ref h₁.objs.size) h₂.objs.size) _
  dsimp only [List.length_nil, Nat.add_zero]
  obtain ⟨oC, esC, epC, hoC, hdC, _⟩ := id hns
  have hCn : h₂.get? h₂.objs.size = none := get_size_none _
  have hown : islots.filterMap (ownCell (compEnvC scope cl h₂.objs.size env)) = [] := by
    rw [List.filterMap_eq_nil_iff]
    rintro ⟨x, k⟩ hx
    obtain ⟨i, hi', e⟩ := List.mem_iff_getElem.mp hx
    rcases hsl i x k (by rw [List.getElem?_eq_getElem hi', e]) with ⟨rfl, _⟩ | ⟨rfl, _⟩ | rfl <;> rfl
  have hX : frameX (compEnvC scope cl h₂.objs.size env) islots = [⟨h₂.objs.size, fun _ => True⟩] := by
    unfold frameX; rw [hown]; rfl
  have R₅ : Rel prog w h₀ h₃ (ρ₁ ++ [h₁.objs.size]) (H₁ ++ [.app []]) (⟨it, At 0⟩ :: (froz h₃ (frameX env slots) ++ X)) := by
    have hperm : (froz h₃ (frameX env slots) ++ ⟨it, At 0⟩ :: X).Perm (⟨it, At 0⟩ :: (froz h₃ (frameX env slots) ++ X)) := List.perm_middle
    have z := R₄.rel.froz
    have hm := hperm.map XE.a
    exact ⟨z.keep, z.len, z.objs, fun a ha => z.fresh a ((List.Perm.append_left _ hm).mem_iff.mpr ha), (List.Perm.append_left _ hm).nodup_iff.mp z.nodup, fun p hp => z.extra p (hperm.mem_iff.mpr hp)⟩
  have R₆ : RelF prog w h₀ (compEnvC scope cl h₂.objs.size env) islots h₃ (ρ₁ ++ [h₁.objs.size]) (innerL src L) (H₁ ++ [.app []]) (⟨it, At 0⟩ :: (froz h₃ (frameX env slots) ++ X)) := by
    refine ⟨?_, _, hns, fun j x k hj => ?_⟩
    · rw [hX]
      have hperm0 := R₃.rel.notIn hCn
      have hna : h₂.objs.size ∉ (ρ₁ ++ [h₁.objs.size]) ++ (⟨it, At 0⟩ :: (froz h₃ (frameX env slots) ++ X)).map XE.a := fun hm => by
        refine hperm0.1 ?_
        have hp1 : ((⟨it, At 0⟩ :: (froz h₃ (frameX env slots) ++ X)).map XE.a).Perm ((frameX env slots ++ ⟨it, At 0⟩ :: X).map XE.a) := by
          rw [List.map_cons, List.map_append, froz_map, List.map_append, List.map_cons]
          exact List.perm_middle.symm
        exact (List.Perm.append_left _ hp1).mem_iff.mp hm
      have hperm : ((ρ₁ ++ [h₁.objs.size]) ++ (([(⟨h₂.objs.size, fun _ => True⟩ : XE)] ++ (⟨it, At 0⟩ : XE) :: (froz h₃ (frameX env slots) ++ X)) : List XE).map XE.a).Perm (h₂.objs.size :: ((ρ₁ ++ [h₁.objs.size]) ++ (⟨it, At 0⟩ :: (froz h₃ (frameX env slots) ++ X)).map XE.a)) := List.perm_middle
      refine ⟨R₅.keep, R₅.len, R₅.objs, fun b hb => ?_, hperm.nodup_iff.mpr (List.nodup_cons.mpr ⟨hna, R₅.nodup⟩), fun p hp => ?_⟩
      · rcases List.mem_cons.mp (hperm.mem_iff.mp hb) with rfl | hb
        · exact hperm0.2
        · exact R₅.fresh b hb
      · rcases List.mem_cons.mp hp with rfl | hp
        · exact ⟨oC, hoC, trivial, fun _ _ _ e => by rw [hdC] at e; cases e⟩
        · exact R₅.extra p hp
    · rcases hsl j x k hj with ⟨rfl, hsrc⟩ | ⟨rfl, i, hsrc, hoi, hcl⟩ | rfl
      · intro v hv
        obtain ⟨i, hi', _⟩ := lget_innerL hv
        rw [hsrc] at hi'; cases hi'
      · intro v hv
        obtain ⟨i', hi', hvi⟩ := lget_innerL hv
        rw [hsrc] at hi'; cases hi'
        obtain ⟨m, hm, hss⟩ := R₄.fr
        obtain ⟨c, cv, a1, ⟨oc, a2, a3⟩, a4⟩ := hss i x _ hoi
        obtain ⟨val, rfl, hval⟩ := a4 v hvi
        refine ⟨c, val, by rw [← a1]; exact hcl, hval, ⟨c, fun o => h₃.get? c = some o⟩, List.mem_cons_of_mem _ (List.mem_append_left _ (List.mem_map.mpr ⟨_, mem_frameX_cell hoi a1, rfl⟩)), rfl, fun o ho => ?_⟩
        rw [a2] at ho; cases ho
        exact a3
      · trivial
  have xs : Ext h₁ ρ₁ h₃ (ρ₁ ++ [h₁.objs.size]) := x₃.trans x₄
  have loop : codeAny (model prog w) A (.compLoop (.ListComp elt [⟨target, iter, [], 0⟩] scope pos) 0 (.ref it) (.ref h₁.objs.size) (compEnvC scope cl h₂.objs.size env)) (compPost (model prog w) A E none Q' (.ref h₁.objs.size) h₂.objs.size) { s with heap := h₃, toks := tk₁ } := by
    obtain ⟨I, hI⟩ : ∃ I : Nat → Shared → Prop, ∀ m s', I m s' ↔ ∃ (k : Nat) (acc : List V) (L' : List (Option V)) (H' : List O) (ρ' : List Addr) (h' : Heap) (tk' : Nat), m = items.length - k ∧ k ≤ items.length ∧ s' = { s with heap := h', toks := tk' } ∧ RelF prog w h₀ (compEnvC scope cl h₂.objs.size env) islots h' ρ' L' H' (⟨it, At k⟩ :: (froz h₃ (frameX env slots) ++ X)) ∧ Ext h₃ (ρ₁ ++ [h₁.objs.size]) h' ρ' ∧ dep H' ∧ compS t g dep H₁.length (items.drop k) acc L' H' fun H₂ => Q (.obj H₁.length) H₂ := ⟨_, fun _ _ => Iff.rfl⟩
    refine codeAny_compLoop_list I (fun m s' hi => ?_) items.length ((hI _ _).mpr ⟨0, [], innerL src L, H₁ ++ [.app []], ρ₁ ++ [h₁.objs.size], h₃, tk₁, by lia, Nat.zero_le _, rfl, R₆, Ext.refl .., hdep₂, by simpa using hK⟩) (fun v => hlt _ v)
    refine wp_gen fun P F hP => ?_
    obtain ⟨k, acc, L', H', ρ', h', tk', hm, hk, rfl, R', x', hd', hF⟩ := (hI _ _).mp hi
    obtain ⟨oit, hoit, hAk, _⟩ := R'.rel.extra ⟨it, At k⟩ (List.mem_append_right _ (List.mem_cons_self ..))
    have st := hst.2.2 ρ' H' _ A { s with heap := h', toks := tk' } k oit (xs.trans x') R'.rel hd' hro.handled hoit hAk
    cases hkv : items[k]? with
    | none =>
      have hk2 : items.length ≤ k := List.getElem?_eq_none_iff.mp hkv
      have e : items.drop k = [] := List.drop_eq_nil_of_le hk2
      rw [e] at hF
      replace hF := compS_n' hF
      refine st.2 hkv _ _ fun h'' he => ?_
      obtain ⟨R'', x''⟩ := R'.endX he fun o h => (hnt k o h).2
      obtain ⟨m', hm', _⟩ := id R''.fr
      refine hP _ _ ⟨m', hm', fun h4 hs4 => ?_⟩
      have Rr := R''.rel
      rw [hX] at Rr
      obtain ⟨R7, x7⟩ := Rel.endX (p := ⟨h₂.objs.size, fun _ => True⟩) (X := froz h₃ (frameX env slots) ++ X) Rr (hs4.extBut)
      obtain ⟨R₄', x₄'⟩ := R₄.endX (h' := h₃) (fun _ _ _ e => e) fun o h => (hnt 0 o h).2
      have R8 := R₄'.back R7 ((x'.trans x'').trans x7)
      exact hp _ _ _ _ h4 tk' hF R8 (x₁.trans (xs.trans ((x'.trans x'').trans x7))) (.obj (((x'.trans x'').trans x7).get (by rw [R₁.rel.len]; exact getElem?_append_new _ _)))
    | some v =>
      have hk2 : k < items.length := (List.getElem?_eq_some_iff.mp hkv).1
      have e : items.drop k = v :: items.drop (k + 1) := by
        rw [List.drop_eq_getElem_cons hk2]
        congr 1
        rw [List.getElem?_eq_getElem hk2] at hkv
        exact Option.some.inj hkv
      rw [e] at hF
      replace hF := compS_c' hF
      refine st.1 v hkv _ _ fun val h'' tk'' o' hval hs'' ho'' hA' => ?_
      obtain ⟨R'', x''⟩ := R'.stepX (P' := At (k + 1)) hs'' ho'' hA' (hnt _ _ hA').1 fun o h => (hnt k o h).2
      refine hP _ _ ?_
      refine ht _ A v val L' H' _ ρ' _ _ _ _ hro R'' (hval.ext x'') hF fun L₃ H₃ ρ₃ h5 tk₃ hq₃ R5 x5 => ?_
      refine hg _ A L₃ H₃ _ ρ₃ _ _ _ _ hro R5 hq₃ fun u H₄ ρ₄ uval h6 tk₄ hq₄ R6 x6 huv => ?_
      obtain ⟨d2, d3, d1, d4⟩ := hq₄
      have eD : ρ₄[H₁.length]? = some h₁.objs.size := ((((x'.trans x'').trans x5).trans x6)).get (by rw [R₁.rel.len]; exact getElem?_append_new _ _)
      obtain ⟨vals, nn, hl, hv⟩ := R6.rel.objs _ _ _ d3 eD
      have hlen := hv.length
      refine append_at hl (fun h7 hs7 ho7 => ?_) (sizeOk_of (by rw [List.size_toArray]; lia))
      obtain ⟨ob, hob, hnt7⟩ := R6.rel.lt (List.mem_append_left _ (List.mem_of_getElem? eD))
      have ext7 : Ext h6 ρ₄ h7 ρ₄ := ⟨tupKeep_but hs7 hob hnt7, [], (List.append_nil ρ₄).symm⟩
      obtain ⟨R7, x7⟩ := R6.upd (o' := .app (acc ++ [u])) eD hs7 ⟨vals ++ [uval], nn + 1, by rw [ho7]; simp, (hv.ext ext7).append (.cons (huv.ext ext7) .nil)⟩
      exact ⟨items.length - (k + 1), by lia, (hI _ _).mpr ⟨k + 1, acc ++ [u], L₃, H₄.set H₁.length (.app (acc ++ [u])), ρ₄, h7, tk₄, rfl, hk2, rfl, R7, (((x'.trans x'').trans x5).trans x6).trans x7, d1, d4⟩⟩
  refine codeAny_compStart_list loop (hst.2.1 A _ 0 o _ _ (hk₃ _ _ (by rw [← hH2]; exact Heap.get?_push_of_some _ ho)) hAt loop)
end
section
variable {prog : Program} {w : World} {h₀ : Heap} {n : Nat} {env : Env} {slots : Slots}
noncomputable def putApp (k : Nat) (v : V) (H : List O) (Q : List O → Prop) : Prop := match H[k]? with
  | some (.app vs) => vs.length ≤ 1000 ∧ Q (H.set k (.app (vs ++ [v])))
  | _ => False
noncomputable def pAppend (f g : PE) : PE := fun L H Q => f L H fun o H₁ => match o with
  | .obj k => (match H₁[k]? with
    | some (.app _) => g L H₁ fun v H₂ => putApp k v H₂ fun H₃ => Q .none H₃
    | _ => False)
  | _ => False
theorem RelF.extOf {h h' : Heap} {ρ : List Addr} {L : List (Option V)} {H : List O} {X : List XE} (R : RelF prog w h₀ env slots h ρ L H X) {k : Nat} {a : Addr} (ek : ρ[k]? = some a) (hs : Heap.SameBut a h h') : Ext h ρ h' ρ := by
  obtain ⟨ob, hob, hnt⟩ := R.rel.lt (List.mem_append_left _ (List.mem_of_getElem? ek))
  exact ⟨tupKeep_but hs hob hnt, [], (List.append_nil ρ).symm⟩
theorem SE.append {o elt : Expr} {apos pos : Pos} {f g : PE} (ho : SE prog w h₀ n env slots o f) (he : SE prog w h₀ n env slots elt g) (hbase : attributeBase o "append" env (eval o env) = eval o env)
    (hline : (apos.endLine == pos.line) = true) (hst : starEach [elt] env = [(false, eval elt env)]) : SE prog w h₀ n env slots (.Call (.Attribute o "append" apos) [elt] [] pos) (pAppend f g) := fun A L H X ρ s Q Q' E hro R hq hp => by
  refine wpAny_Call_append hbase (by rw [hst]; rfl) hline (by rw [hst]; rfl) (ho A L H X ρ s _ _ E hro R hq fun ov H₁ ρ₁ oval h₁ tk₁ hq₁ R₁ x₁ hov => ?_)
  split at hq₁
  · rename_i k
    cases hov with
    | @obj _ a ek =>
      split at hq₁
      · rename_i vs eo
        obtain ⟨vals, nn, hl, _⟩ := R₁.rel.objs _ _ _ eo ek
        refine ⟨a, vals.toArray, rfl, ⟨_, nn, hl, rfl, rfl, rfl⟩, he A L H₁ X ρ₁ _ _ _ E hro R₁ hq₁ fun v H₂ ρ₂ val h₂ tk₂ hq₂ R₂ x₂ hv => ?_⟩
        unfold putApp at hq₂
        split at hq₂
        · rename_i us eo₂
          obtain ⟨hlen, hq₂⟩ := hq₂
          obtain ⟨uals, mm, hl₂, hu⟩ := R₂.rel.objs _ _ _ eo₂ (x₂.get ek)
          have := hu.length
          refine append_at (s := { s with heap := h₂, toks := tk₂ }) hl₂ (fun h₃ hs₃ ho₃ => ?_) (sizeOk_of (by rw [List.size_toArray]; lia))
          have x3 := R₂.extOf (x₂.get ek) hs₃
          obtain ⟨R₃, x₃⟩ := R₂.upd (o' := .app (us ++ [v])) (x₂.get ek) hs₃ ⟨uals ++ [val], mm + 1, by rw [ho₃]; simp, (hu.ext x3).append (.cons (hv.ext x3) .nil)⟩
          exact hp _ _ _ _ h₃ tk₂ hq₂ R₃ ((x₁.trans x₂).trans x₃) .none
        · exact hq₂.elim
      · exact hq₁.elim
  · exact hq₁.elim
noncomputable def pPop0 (f g : PE) : PE := fun L H Q => f L H fun o H₁ => match o with
  | .obj k => (match H₁[k]? with
    | some (.app _) => g L H₁ fun i H₂ => i = .int 0 ∧ (match H₂[k]? with
      | some (.app vs) => (match vs with
        | v :: r => r.length ≤ 1000 ∧ Q v (H₂.set k (.app r))
        | [] => False)
      | _ => False)
    | _ => False)
  | _ => False
theorem SE.pop0 {o idx : Expr} {apos pos : Pos} {f g : PE} (ho : SE prog w h₀ n env slots o f) (he : SE prog w h₀ n env slots idx g) (hbase : attributeBase o "pop" env (eval o env) = eval o env)
    (hline : (apos.endLine == pos.line) = true) (hst : starEach [idx] env = [(false, eval idx env)]) : SE prog w h₀ n env slots (.Call (.Attribute o "pop" apos) [idx] [] pos) (pPop0 f g) := fun A L H X ρ s Q Q' E hro R hq hp => by
  refine wpAny_Call_method hbase (by rw [hst]; rfl) hline PySem.F.plainAttrs_list PySem.F.slot_list_pop PySem.F.type_list_pop (ho A L H X ρ s _ _ E hro R hq fun ov H₁ ρ₁ oval h₁ tk₁ hq₁ R₁ x₁ hov => ?_)
  split at hq₁
  · rename_i k
    cases hov with
    | @obj _ a ek =>
      split at hq₁
      · rename_i vs eo
        obtain ⟨vals, nn, hl, _⟩ := R₁.rel.objs _ _ _ eo ek
        refine ⟨⟨_, hl, rfl⟩, fun a' e => by cases e; exact ⟨_, hl, rfl⟩, ?_⟩
        rw [hst]
        refine callWith_builtin rfl (evalArgs_plain (spliced_cons (he A L H₁ X ρ₁ { s with heap := h₁, toks := tk₁ } _ _ E hro R₁ hq₁ fun v H₂ ρ₂ val h₂ tk₂ hq₂ R₂ x₂ hv => spliced_nil ?_)))
        obtain ⟨rfl, hq₂⟩ := hq₂
        cases hv with
        | int _ t =>
        split at hq₂
        · rename_i us eo₂
          split at hq₂
          · rename_i u r
            obtain ⟨hlen, hq₂⟩ := hq₂
            have ek₂ := x₂.get ek
            obtain ⟨uals, mm, hl₂, hu⟩ := R₂.rel.objs _ _ _ eo₂ ek₂
            cases hu with
            | @cons _ uval _ rvals hu hr =>
              have hrl := hr.length
              obtain ⟨m, F⟩ := fullFr R₂
              have hne : a ≠ env.locals := fun q => R₂.rel.ne_of (List.mem_of_getElem? ek₂) (p := ⟨env.locals, fun _ => True⟩) (List.mem_cons_self ..) q.symm
              refine kl_popAt (s := { s with heap := h₂, toks := tk₂ }) (its := (uval :: rvals).toArray) (news := (a, listOf (uval :: rvals).toArray mm) :: restOf h₂ env.locals a) (news' := (a, listOf ([] ++ rvals).toArray (mm + 1)) :: restOf h₂ env.locals a)
                (k := 0) F (fullNews hl₂ hne) (by decide +kernel) (by unfold seqIndex?; simp) (e := rfl) (Upd.head fun p hp => (mem_restOf (o := p.2) |>.mp hp).2.2) (sizeOk_of (by simp; lia)) fun h₃ F₃ N₃ => ?_
              have hs : ∀ b o, b ≠ a → b ≠ env.locals → h₂.get? b = some o → h₃.get? b = some o := fun b o q1 q2 q3 => (N₃ (b, o) (List.mem_cons_of_mem _ (mem_restOf.mpr ⟨q3, q2, q1⟩))).1
              have hn := ns_same F.ns F₃.ns
              have ho₃ : h₃.get? a = some (listOf rvals.toArray (mm + 1)) := (N₃ _ (List.mem_cons_self ..)).1
              have tk : ∀ h'', (∀ b o, b ≠ env.locals → h₃.get? b = some o → h''.get? b = some o) → Ext h₂ ρ₂ h'' ρ₂ := fun h'' hh => by
                refine ⟨fun b items ht => ?_, [], (List.append_nil ρ₂).symm⟩
                obtain ⟨ot, hb, hc, nn', hd⟩ := ht
                have q1 : b ≠ a := fun q => by subst q; rw [hl₂] at hb; cases hb; exact absurd hc (by show ¬ (Value.type "list" = Value.type "tuple"); decide)
                have q2 : b ≠ env.locals := fun q => by
                  subst q
                  obtain ⟨o2, es2, ep2, a2, b2, _⟩ := F.ns
                  rw [a2] at hb; cases hb; rw [b2] at hd; cases hd
                exact ⟨ot, hh b ot q2 (hs b ot q1 q2 hb), hc, nn', hd⟩
              obtain ⟨R₃, x₃⟩ := R₂.updNs (o' := .app r) ek₂ hs hn fun h'' hh => ⟨rvals, mm + 1, hh a _ hne ho₃, hr.ext (tk h'' hh)⟩
              exact hp _ _ _ _ h₃ tk₂ hq₂ R₃ ((x₁.trans x₂).trans x₃) (hu.ext x₃)
          · exact hq₂.elim
        · exact hq₂.elim
      · exact hq₁.elim
  · exact hq₁.elim
noncomputable def pSliceTop (l : Addr) (xs : List Int) (k : Nat) (f : PE) : PE := fun L H Q => f L H fun v H₁ => v = .raw (.ref l) ∧ Q (.obj H₁.length) (H₁ ++ [.nums (xs.take k)])
theorem SE.sliceTop {value : Expr} {p pos : Pos} {kk : Nat} {cpos : Pos} {l : Addr} {vals : List Value} {xs : List Int} {f : PE} (k : Nat) (hl : h₀.IsList l vals.toArray) (hi : IntsAre vals xs) (hlen : vals.length ≤ 1048576) (hv : SE prog w h₀ n env slots value f)
    (ht : ∀ o r, letTemporaryGo value o r = pure ()) : SE prog w h₀ n env slots (.Subscript value (.Slice none (some (.Constant (.int k) kk cpos)) none p) pos) (pSliceTop l xs k f) := fun A L H X ρ s Q Q' E hro R hq hp => by
  refine wpAny_Subscript_list_slice (hv A L H X ρ s _ _ E hro R hq fun v H₁ ρ₁ val h₁ tk₁ hq₁ R₁ x₁ hval => ?_) ht
  obtain ⟨rfl, hq₁⟩ := hq₁
  cases hval
  refine wpAny_evalPart_none (wpAny_evalPart_some (wpAny_Constant_int ?_))
  obtain ⟨ob, hob, hc, nn, hd⟩ := hl
  refine ⟨l, vals.toArray, none, some (k : Int), rfl, ⟨ob, R₁.keep _ _ hob, hc, nn, hd⟩, sizeOk_of (by rw [List.size_toArray]; exact hlen), .none, .int _ _, ?_⟩
  have hx := kmk_upto (y := (k : Int)) hi (by lia)
  obtain ⟨R₂, x₂⟩ := R₁.grow (h' := h₁.push { cls := .type "slice", data := .fields #[.none, .int k tk₁, .none] }) fun b o e => Heap.get?_push_of_some _ e
  have e3 : ((h₁.push { cls := .type "slice", data := .fields #[.none, .int k tk₁, .none] }).push { cls := .type "list", data := .seq (slicePick vals.toArray none (some (k : Int)) none) }).get? (h₁.objs.size + 1) = some { cls := .type "list", data := .seq (slicePick vals.toArray none (some (k : Int)) none) } := by
    have := Heap.get?_push_size (h₁.push { cls := .type "slice", data := .fields #[.none, .int k tk₁, .none] }) (o := { cls := .type "list", data := .seq (slicePick vals.toArray none (some (k : Int)) none) }) rfl
    rwa [Heap.size_push] at this
  have hnone : (h₁.push { cls := .type "slice", data := .fields #[.none, .int k tk₁, .none] }).get? (h₁.objs.size + 1) = none := by
    have := get_size_none (h₁.push { cls := .type "slice", data := .fields #[.none, .int k tk₁, .none] })
    rwa [Heap.size_push] at this
  obtain ⟨R₃, x₃⟩ := R₂.alloc (o := .nums (xs.take k)) (a := h₁.objs.size + 1) (h' := (h₁.push { cls := .type "slice", data := .fields #[.none, .int k tk₁, .none] }).push { cls := .type "list", data := .seq (slicePick vals.toArray none (some (k : Int)) none) }) hnone (fun b o e => Heap.get?_push_of_some _ e)
    ⟨(slicePick vals.toArray none (some (k : Int)) none).toList, ⟨_, e3, rfl, 0, by rw [Array.toArray_toList]⟩, by simpa using hx⟩
  exact hp _ _ _ _ _ _ hq₁ R₃ ((x₁.trans x₂).trans x₃) (.obj (by rw [R₁.rel.len]; exact getElem?_append_new _ _))
noncomputable def pyInt (v : V) : Option Int := match v with
  | .int a => some a
  | _ => none
noncomputable def pyP2 (vs : List V) : Option PyData := match vs with
  | [] => none
  | u :: r => (match r with
    | [] => none
    | v :: r' => (match r' with
      | [] => (pyInt u).bind fun a => (pyInt v).map fun b => .tuple [.int a, .int b]
      | _ :: _ => none))
noncomputable def pyPair (v : V) : Option PyData := match v with
  | .tup vs => pyP2 vs
  | _ => none
theorem pyInt_i {v : V} {a : Int} (h : pyInt v = some a) : v = .int a := by
  cases v with
  | int i => exact congrArg V.int (Option.some.inj h)
  | _ => exact nomatch h
noncomputable def pyPairs : List V → Option (List PyData)
  | [] => some []
  | v :: r => match pyPair v, pyPairs r with
    | some d, some ds => some (d :: ds)
    | _, _ => none
theorem pyPair_eq {v : V} {d : PyData} (h : pyPair v = some d) : ∃ a b, v = .tup [.int a, .int b] ∧ d = .tuple [.int a, .int b] := by
  cases v with
  | tup vs => cases vs with
    | nil => exact nomatch h
    | cons u r => cases r with
      | nil => exact nomatch h
      | cons v r' => cases r' with
        | cons _ _ => exact nomatch h
        | nil =>
          obtain ⟨a, e1, h⟩ := Option.bind_eq_some_iff.mp (show (pyInt u).bind (fun a => (pyInt v).map fun b => .tuple [.int a, .int b]) = some d from h)
          obtain ⟨b, e2, h⟩ := Option.map_eq_some_iff.mp h
          exact ⟨a, b, by rw [pyInt_i e1, pyInt_i e2], h.symm⟩
  | _ => exact nomatch h
theorem pyPairs_reads {h : Heap} {ρ : List Addr} {vs : List V} {vals : List Value} (k : IsL h ρ vs vals) : ∀ {ds : List PyData}, pyPairs vs = some ds → ∃ as, ReadsAll h vals ds as :=
  k.ind (P := fun vs vals => ∀ {ds : List PyData}, pyPairs vs = some ds → ∃ as, ReadsAll h vals ds as) (fun e => by cases e; exact ⟨_, .nil⟩) <| by
    intro v val vs vals hv hr ih ds e
    unfold pyPairs at e
    split at e
    · rename_i d ds' e1 e2
      cases e
      obtain ⟨as, h2⟩ := ih e2
      obtain ⟨a, b, rfl, rfl⟩ := pyPair_eq e1
      cases hv with
      | tup ht hl =>
        cases hl with
        | cons ha hl =>
          cases ha
          cases hl with
          | cons hb hl =>
            cases hb; cases hl
            obtain ⟨ob, hob, hc, nn, hd⟩ := ht
            exact ⟨_, .cons (.tuple hob hc hd (.cons (.int _ _) (.cons (.int _ _) .nil))) h2⟩
    · cases e
theorem pyPairs_lay : ∀ {vs : List V} {ds : List PyData}, pyPairs vs = some ds → PyData.canLayAll0 ds = true ∧ PyData.depthAll ds ≤ 2 ∧ noMixAll ds ds = true ∧ PySem.Spec.sameAll ds ds = true
  | [], _, e => by cases e; exact ⟨by simp [PyData.canLayAll0], by simp [PyData.depthAll], by simp [noMixAll], by simp [PySem.Spec.sameAll]⟩
  | v :: r, ds, e => by
    unfold pyPairs at e
    split at e
    · rename_i d ds' e1 e2
      cases e
      obtain ⟨a1, a2, a3, a4⟩ := pyPairs_lay e2
      obtain ⟨a, b, rfl, rfl⟩ := pyPair_eq e1
      refine ⟨by simp [PyData.canLayAll0, PyData.canLay0, a1], ?_, by simp [noMixAll, noMix, a3], by simp [PySem.Spec.sameAll, PySem.Spec.same, a4]⟩
      simp only [PyData.depthAll, PyData.depth]
      lia
    · cases e
noncomputable def sameV (a b : V) (H : List O) : Prop := match a with
  | .obj i => (match b with
    | .obj j => ∃ xs, (H[i]?).bind asInts = some xs ∧ (H[j]?).bind asInts = some xs
    | _ => False)
  | .tup [.int x, .obj i] => (match b with
    | .tup [.int y, .obj j] => x = y ∧ ∃ vs, (H[i]?).bind asVs = some vs ∧ (H[j]?).bind asVs = some vs ∧ (pyPairs vs).isSome = true
    | _ => False)
  | _ => False
theorem sameV_sound {a b : V} {aval bval : Value} {A : Around} {H : List O} {X : List XE} {ρ : List Addr} {s : Shared} {Q' : Value → Shared → Prop} {E : Value → Shared → Prop} (hro : Room n A)
    (R : Rel prog w h₀ s.heap ρ H X) (ha : Is s.heap ρ a aval) (hb : Is s.heap ρ b bval) (hq : sameV a b H) (hp : Q' (.bool false) s) : wpAny (model prog w) A (compareOp .NotEq aval bval) Q' E s := by
  have hu : A.units + 64 < cLine := by have := hro.units; lia
  unfold sameV at hq
  split at hq
  · rename_i i
    split at hq
    · rename_i j
      obtain ⟨xs, e1, e2⟩ := hq
      cases ha with
      | obj ei =>
        cases hb with
        | obj ej =>
          obtain ⟨o1, f1, g1⟩ := Option.bind_eq_some_iff.mp e1
          obtain ⟨o2, f2, g2⟩ := Option.bind_eq_some_iff.mp e2
          obtain ⟨v1, l1, i1⟩ := asVs_sound (R.objs _ _ _ f1 ei) (asVs_of_ints g1)
          obtain ⟨v2, l2, i2⟩ := asVs_sound (R.objs _ _ _ f2 ej) (asVs_of_ints g2)
          refine ne_intsK l1 i1.toInts l2 i2.toInts hu ?_
          simpa using hp
    · exact hq.elim
  · rename_i x i
    split at hq
    · rename_i y j
      obtain ⟨rfl, vs, e1, e2, e3⟩ := hq
      obtain ⟨ds, e3⟩ := Option.isSome_iff_exists.mp e3
      obtain ⟨a1, a2, a3, a4⟩ := pyPairs_lay e3
      obtain ⟨o1, f1, g1⟩ := Option.bind_eq_some_iff.mp e1
      obtain ⟨o2, f2, g2⟩ := Option.bind_eq_some_iff.mp e2
      have rd : ∀ {val : Value} {k : Nat} {o : O}, H[k]? = some o → asVs o = some vs → Is s.heap ρ (.tup [.int x, .obj k]) val → ∃ as, Reads s.heap val (.tuple [.int x, .list ds]) as := fun {val k o} f g hv => by
        cases hv with
        | tup ht hl =>
          cases hl with
          | cons hx hl =>
            cases hx
            cases hl with
            | cons ho hl =>
              cases hl
              cases ho with
              | obj ek =>
                obtain ⟨uals, hl', hv'⟩ := asVs_sound (R.objs _ _ _ f ek) g
                obtain ⟨as, hr⟩ := pyPairs_reads hv' e3
                obtain ⟨ob, hob, hc, nn, hd⟩ := ht
                obtain ⟨ob', hob', hc', nn', hd'⟩ := hl'
                exact ⟨_, .tuple hob hc hd (.cons (.int _ _) (.cons (.list hob' hc' hd' (by simpa using hr)) .nil))⟩
      obtain ⟨as, r1⟩ := rd f1 g1 ha
      obtain ⟨bs, r2⟩ := rd f2 g2 hb
      have hsh : shaped (.tuple [.int x, .list ds]) = true := by
        show (PyData.canLay0 _ && decide (PyData.depth _ ≤ 64)) = true
        rw [Bool.and_eq_true]
        refine ⟨by simp [PyData.canLay0, PyData.canLayAll0, a1], decide_eq_true ?_⟩
        simp only [PyData.depth, PyData.depthAll]
        lia
      refine ne_dataH_same r1 r2 hsh hsh hu (by simp [noMix, noMixAll, a3]) ?_
      have : PySem.Spec.same (.tuple [.int x, .list ds]) (.tuple [.int x, .list ds]) = true := by simp [PySem.Spec.same, PySem.Spec.sameAll, a4]
      rw [this]
      exact hp
    · exact hq.elim
  · exact hq.elim
noncomputable def bNeSame (f g : PE) : PB := fun L H Q => f L H fun a H₁ => g L H₁ fun b H₂ => sameV a b H₂ ∧ Q false H₂
theorem ST.neSame {l r : Expr} {pos : Pos} {f g : PE} (hl : SE prog w h₀ n env slots l f) (hr : SE prog w h₀ n env slots r g) (hm : behindInMarks .NotEq r = false) : ST prog w h₀ n env slots (.Compare l [.NotEq] [r] pos) (bNeSame f g) :=
  fun A L H X ρ s Q Q' E hro R hq hp => by
  refine wpAny_isTrue_Compare1 (hl A L H X ρ s _ _ E hro R hq fun a H₁ ρ₁ va h₁ tk₁ hq₁ R₁ x₁ ha => ?_) hm
  refine hr A L H₁ X ρ₁ _ _ _ E hro R₁ hq₁ fun b H₂ ρ₂ vb h₂ tk₂ hq₂ R₂ x₂ hb => ?_
  exact sameV_sound (s := { s with heap := h₂, toks := tk₂ }) hro R₂.rel (ha.ext x₂) hb hq₂.1 (wpAny_truthy_bool (hp _ _ _ _ h₂ tk₂ hq₂.2 R₂ (x₁.trans x₂) rfl))
noncomputable def inStrs (a : Nat) : List V → Option Bool
  | [] => some false
  | v :: r => match v with
    | .str b => (inStrs a r).map fun t => Nat.beq b a || t
    | _ => none
theorem inStrs_sound {h : Heap} {ρ : List Addr} {a : Nat} (ha : a < nN) {vs : List V} {vals : List Value} {c : Bool} (k : IsL h ρ vs vals) : inStrs a vs = some c → ∃ ys, StrsAre vals ys ∧ ys.any (· == nm a) = c := by
  refine k.ind (P := fun vs vals => ∀ c, inStrs a vs = some c → ∃ ys, StrsAre vals ys ∧ ys.any (· == nm a) = c) (fun c e => ⟨[], .nil, Option.some.inj e⟩) (fun hv _ ih c e => ?_) c
  cases hv with
  | @str b hb t =>
    obtain ⟨t', e', rfl⟩ := Option.map_eq_some_iff.mp e
    obtain ⟨ys, h1, h2⟩ := ih t' e'
    exact ⟨nm b :: ys, .cons _ _ h1, by rw [List.any_cons, h2, nm_beq hb ha]⟩
  | _ => exact nomatch e
noncomputable def bIn (f g : PE) : PB := fun L H Q => f L H fun a H₁ => g L H₁ fun b H₂ => match a with
  | .str x => (match b with
    | .tup vs => (match inStrs x vs with | some c => Q c H₂ | none => False)
    | _ => False)
  | _ => False
theorem ST.in_ {l r : Expr} {pos : Pos} {f g : PE} (hl : SE prog w h₀ n env slots l f) (hr : SE prog w h₀ n env slots r g) (hm : behindInMarks .In r = false) : ST prog w h₀ n env slots (.Compare l [.In] [r] pos) (bIn f g) :=
  fun A L H X ρ s Q Q' E hro R hq hp => by
  refine wpAny_isTrue_Compare1 (hl A L H X ρ s _ _ E hro R hq fun a H₁ ρ₁ va h₁ tk₁ hq₁ R₁ x₁ ha => ?_) hm
  refine hr A L H₁ X ρ₁ _ _ _ E hro R₁ hq₁ fun b H₂ ρ₂ vb h₂ tk₂ hq₂ R₂ x₂ hb => ?_
  split at hq₂
  · rename_i x
    split at hq₂
    · rename_i vs
      split at hq₂
      · rename_i c hc
        cases ha with
        | str hx t =>
          cases hb with
          | tup ht hlv =>
            obtain ⟨ys, h1, rfl⟩ := inStrs_sound hx hlv hc
            exact in_tuple_strs (s := { s with heap := h₂, toks := tk₂ }) ht (by simpa using h1) (wpAny_truthy_bool (hp _ _ _ _ h₂ tk₂ hq₂ R₂ (x₁.trans x₂) rfl))
      · exact hq₂.elim
    · exact hq₂.elim
  · exact hq₂.elim
noncomputable def bChain (op₁ op₂ : CmpOp) (f g k : PE) : PB := fun L H Q => f L H fun a H₁ => g L H₁ fun b H₂ => match opCmp op₁ a b with
  | some c => cond c (k L H₂ fun d H₃ => match opCmp op₂ b d with | some e => Q e H₃ | none => False) (Q false H₂)
  | none => False
theorem ST.chain {l r₁ r₂ : Expr} {op₁ op₂ : CmpOp} {pos : Pos} {f g k : PE} (hl : SE prog w h₀ n env slots l f) (hr₁ : SE prog w h₀ n env slots r₁ g) (hr₂ : SE prog w h₀ n env slots r₂ k) (hm : lastMarks [op₁, op₂] [r₁, r₂] = false) :
    ST prog w h₀ n env slots (.Compare l [op₁, op₂] [r₁, r₂] pos) (bChain op₁ op₂ f g k) := fun A L H X ρ s Q Q' E hro R hq hp => by
  refine isTrue_chain (rs := []) (hl A L H X ρ s _ _ E hro R hq fun a H₁ ρ₁ va h₁ tk₁ hq₁ R₁ x₁ ha => ?_) hm
  show wpAny _ _ (do
    let rv ← holding [va] (eval r₁ env)
    standAt pos
    let c ← holding [va, rv] (compareOp op₁ va rv)
    release [va, rv] [c]
    if ← holding [c, rv] (truthy c) then testChain pos rv [op₂] [eval r₂ env] else pure false) _ _ _
  refine wpAny_bind (wpAny_holding (hr₁ A L H₁ X ρ₁ _ _ _ E hro R₁ hq₁ fun b H₂ ρ₂ vb h₂ tk₂ hq₂ R₂ x₂ hb => ?_))
  split at hq₂
  · rename_i c hc
    refine wpAny_bind (wpAny_standAt (wpAny_bind (wpAny_holding (opCmp_sound (ha.ext x₂) hb hc ?_))))
    refine wpAny_bind (wpAny_release' (wpAny_bind (wpAny_holding (wpAny_truthy_bool ?_))))
    cases c with
    | false =>
      exact wpAny_pure (hp _ _ _ _ h₂ tk₂ hq₂ R₂ (x₁.trans x₂) rfl)
    | true =>
      show wpAny _ _ (do
        let rv ← holding [vb] (eval r₂ env)
        standAt pos
        let c ← operate [vb, rv] (compareOp op₂ vb rv)
        holding [c] (truthy c)) _ _ _
      refine wpAny_bind (wpAny_holding (hr₂ A L H₂ X ρ₂ _ _ _ E hro R₂ hq₂ fun d H₃ ρ₃ vd h₃ tk₃ hq₃ R₃ x₃ hd => ?_))
      split at hq₃
      · rename_i e he
        exact wpAny_bind (wpAny_standAt (wpAny_bind (wpAny_operate' (opCmp_sound (hb.ext x₃) hd he (wpAny_holding (wpAny_truthy_bool (hp _ _ _ _ h₃ tk₃ hq₃ R₃ ((x₁.trans x₂).trans x₃) rfl)))))))
      · exact hq₃.elim
  · exact hq₂.elim
end
noncomputable def enc (s : Str) : Nat := s.cps.toList.foldl (fun a c => a * 256 + c) 1
noncomputable def nodupB : List Nat → Bool
  | [] => true
  | a :: r => r.all (fun b => !(Nat.beq a b)) && nodupB r
theorem nodupB_sound : ∀ {l : List Nat}, nodupB l = true → l.Nodup
  | [], _ => List.nodup_nil
  | a :: r, h => by
    unfold nodupB at h
    rw [Bool.and_eq_true, List.all_eq_true] at h
    refine List.nodup_cons.mpr ⟨fun hm => ?_, nodupB_sound h.2⟩
    have := h.1 a hm
    rw [Nat.beq_refl] at this; cases this
theorem nodup_of_map {α β : Type} (f : α → β) : ∀ {l : List α}, (l.map f).Nodup → l.Nodup
  | [], _ => List.nodup_nil
  | a :: r, h => by
    rw [List.map_cons, List.nodup_cons] at h
    exact List.nodup_cons.mpr ⟨fun hm => h.1 (List.mem_map_of_mem hm), nodup_of_map f h.2⟩
noncomputable def relab : NameKind → NameKind
  | .free => .cell
  | k => k
structure FE (env : Env) (names : Slots) : Prop where
  kind : env.scope.kind = .function
  glob : env.globals = mainGlobals
  blt : env.builtins = builtinsNs
  nms : env.scope.names = names.map fun p => (p.1, relab p.2)
  nodup : (names.map (·.1)).Nodup
  nodbg : ∀ p ∈ names, (p.1 == ("__debug__" : Str)) = false
theorem FE.of {env : Env} {names : Slots} (codes : List Nat) (hn : env.scope.names = names.map fun p => (p.1, relab p.2)) (hk : env.scope.kind = .function) (hg : env.globals = mainGlobals) (hb : env.builtins = builtinsNs)
    (he : names.map (fun p => enc p.1) = codes) (hd : nodupB (enc "__debug__" :: codes) = true) : FE env names := by
  have nd := nodupB_sound hd
  rw [List.nodup_cons] at nd
  have e : (names.map (·.1)).map enc = codes := by rw [List.map_map]; exact he
  refine ⟨hk, hg, hb, hn, nodup_of_map enc (by rw [e]; exact nd.2), fun p hp => beq_eq_false_iff_ne.mpr fun q => nd.1 ?_⟩
  rw [← e, ← q]
  exact List.mem_map_of_mem (List.mem_map_of_mem hp)
inductive SlotAt : Slots → Nat → Str → NameKind → Prop
  | head {x : Str} {k : NameKind} {r : Slots} : SlotAt ((x, k) :: r) 0 x k
  | tail {p : Str × NameKind} {x : Str} {k : NameKind} {r : Slots} {i : Nat} : SlotAt r i x k → SlotAt (p :: r) (i + 1) x k
theorem SlotAt.get {l : Slots} {i : Nat} {x : Str} {k : NameKind} (h : SlotAt l i x k) : l[i]? = some (x, k) := by
  induction h with
  | head => rfl
  | tail h ih => exact ih
theorem lookup_of_nodup : ∀ {l : Slots} {i : Nat} {x : Str} {k : NameKind}, (l.map (·.1)).Nodup → l[i]? = some (x, k) → l.lookup x = some k
  | (y, j) :: r, 0, x, k, _, h => by cases h; simp
  | (y, j) :: r, i + 1, x, k, hn, h => by
    rw [List.getElem?_cons_succ] at h
    rw [List.map_cons, List.nodup_cons] at hn
    have hne : x ≠ y := fun e => hn.1 (by subst e; exact List.mem_map.mpr ⟨_, List.mem_of_getElem? h, rfl⟩)
    rw [List.lookup_cons, beq_eq_false_iff_ne.mpr hne]
    exact lookup_of_nodup hn.2 h
theorem FE.kindOf {env : Env} {names : Slots} (F : FE env names) {i : Nat} {x : Str} {k : NameKind} (h : SlotAt names i x k) : env.kindOf x = some (relab k) := by
  show env.scope.names.lookup x = some (relab k)
  rw [F.nms]
  refine lookup_of_nodup (i := i) (by rw [List.map_map]; exact F.nodup) ?_
  rw [List.getElem?_map, h.get]; rfl
theorem FE.dbg {env : Env} {names : Slots} (F : FE env names) {i : Nat} {x : Str} {k : NameKind} (h : SlotAt names i x k) : (x == ("__debug__" : Str)) = false := F.nodbg _ (List.mem_of_getElem? h.get)
section
variable {prog : Program} {w : World} {h₀ : Heap} {n : Nat} {env : Env} {slots : Slots}
theorem SE.locF {x : Str} {pos : Pos} {i : Nat} (F : FE env slots) (h : SlotAt slots i x .local) : SE prog w h₀ n env slots (.Name x pos) (pLoc i) := SE.loc i F.kind h.get (F.kindOf h) (F.dbg h)
theorem SE.cellF {x : Str} {pos : Pos} {i : Nat} (F : FE env slots) (h : SlotAt slots i x .cell) : SE prog w h₀ n env slots (.Name x pos) (pLoc i) := SE.cell i F.kind h.get (F.kindOf h) (F.dbg h)
theorem SE.globF {x : Str} {pos : Pos} {i : Nat} {v : V} (F : FE env slots) (g : GlobIs h₀ x v) (h : SlotAt slots i x .globalImplicit) : SE prog w h₀ n env slots (.Name x pos) (pV v) := SE.glob g F.kind F.glob (F.kindOf h) (F.dbg h)
theorem SE.builtinF {x : Str} {pos : Pos} {i : Nat} {val : Value} (F : FE env slots) (g : BuiltIs h₀ x val) (h : SlotAt slots i x .globalImplicit) : SE prog w h₀ n env slots (.Name x pos) (pV (.raw val)) := SE.builtin g F.kind F.glob F.blt (F.kindOf h) (F.dbg h)
theorem TJ.nameF {x : Str} {pos : Pos} {i : Nat} (F : FE env slots) (h : SlotAt slots i x .local) : TJ prog w h₀ n env slots (PySem.assign (.Name x pos) env) (tLoc i) := TJ.name i F.kind h.get (F.kindOf h) F.nodup
theorem TJ.bindF {x : Str} {i : Nat} (F : FE env slots) (h : SlotAt slots i x .local) : TJ prog w h₀ n env slots (fun v => bindName env x v) (tLoc i) := TJ.bind i F.kind h.get (F.kindOf h) F.nodup
theorem SX.augNameF {x : Str} {pos' pos : Pos} {op : Operator} {value : Expr} {f : PE} {i : Nat} (F : FE env slots) (h : SlotAt slots i x .local) (hv : SE prog w h₀ n env slots value f) : SX prog w h₀ n env slots (.AugAssign (.Name x pos') op value pos) (sAugName i op f) := SX.augName i F.kind h.get (F.kindOf h) F.nodup hv
structure AttrG (prog : Program) (w : World) (h₀ : Heap) (x : Str) (C : Addr) (k : Nat) : Prop where
  lt : k < nN
  eq : x = nm k
  get : AttrGet prog w h₀ C (nm k)
  set : AttrSet prog w h₀ C (nm k)
theorem SE.attrF {x : Str} {C : Addr} {k : Nat} {e : Expr} {pos : Pos} {f : PE} (g : AttrG prog w h₀ x C k) (he : SE prog w h₀ n env slots e f)
    (ha : eval (.Attribute e x pos) env = (do
      let o ← eval e env
      standAt pos.atName
      let r ← holding [o] (getAttr o x true)
      letTemporaryGo e o r
      pure r)) : SE prog w h₀ n env slots (.Attribute e x pos) (pAttr C k f) := SE.attr k g.lt g.eq g.get he ha
theorem TJ.attrF {x : Str} {C : Addr} {k : Nat} {o : Expr} {pos : Pos} {f : PE} (g : AttrG prog w h₀ x C k) (ho : SE prog w h₀ n env slots o f) : TJ prog w h₀ n env slots (PySem.assign (.Attribute o x pos) env) (tAttr C k f) := TJ.attr k g.lt g.eq g.set ho
theorem SX.augAttrF {x : Str} {C : Addr} {k : Nat} {o value : Expr} {tpos pos : Pos} {op : Operator} {g f : PE} (G : AttrG prog w h₀ x C k) (ho : SE prog w h₀ n env slots o g) (hv : SE prog w h₀ n env slots value f) : SX prog w h₀ n env slots (.AugAssign (.Attribute o x tpos) op value pos) (sAugAttr C k op g f) := SX.augAttr k G.lt G.eq G.get G.set ho hv
structure IsNm (x : Str) (k : Nat) : Prop where
  lt : k < nN
  eq : x = nm k
theorem SE.strF {x : Str} {kk : Nat} {pos : Pos} {c : Nat} (g : IsNm x c) : SE prog w h₀ n env slots (.Constant (.str x) kk pos) (pV (.str c)) := SE.str c g.lt g.eq
theorem SFc.ofDefF {f : Addr} {o : Obj} {fd : FuncData} {body : List Stmt} {params : List Str} {names : Slots} {g : PS} (codes : List Nat) (ho : h₀.get? f = some o) (hdata : o.data = .func fd) (hlim : h₀.NoLimit) (hcd : h₀.CodeRec fd.code fd.qualname) (hbody : fd.body = .stmts body)
    (hnames : fd.scope.names = names) (hglob : fd.globals = mainGlobals) (hblt : fd.builtins = builtinsNs)
    (hbind : ∀ vals : List Value, vals.length = params.length → bindArgs fd ⟨vals, []⟩ = pure (params.zip vals))
    (hcell : (names.all fun x => x.2 != NameKind.cell && x.2 != NameKind.free) = true) (hpar : names.take params.length = params.map fun x => (x, NameKind.local))
    (he : names.map (fun p => enc p.1) = codes) (hd : nodupB (enc "__debug__" :: codes) = true)
    (hco : fd.scope.isCoroutine = false) (hgen : fd.scope.isGenerator = false) (hk : fd.scope.kind = .function)
    (hS : ∀ env, FE env names → SS prog w h₀ n env names body g) : SFc prog w h₀ (n + 1) (.ref f) (defSem params names g) := by
  have hcell' : ∀ p ∈ names, p.2 ≠ NameKind.cell ∧ p.2 ≠ NameKind.free := fun p hp => by
    have := List.all_eq_true.mp hcell p hp
    simpa using this
  have hrl : (names.map fun p => (p.1, relab p.2)) = names := by
    conv => rhs; rw [← List.map_id names]
    refine List.map_congr_left fun p hp => ?_
    obtain ⟨x, k⟩ := p
    have := (hcell' _ hp).2
    cases k <;> first | rfl | exact absurd rfl this
  have F : ∀ L, FE (callEnv fd L f) names := fun L => FE.of codes (by rw [hrl]; exact hnames) hk hglob hblt he hd
  have nd := (F 0).nodup
  have hpi : ∀ (i : Nat) (x : Str), params[i]? = some x → names[i]? = some (x, NameKind.local) := fun i x hi => by
    have h1 : (names.take params.length)[i]? = some (x, NameKind.local) := by rw [hpar, List.getElem?_map, hi]; rfl
    rw [List.getElem?_take] at h1
    split at h1
    · exact h1
    · cases h1
  have hle : params.length ≤ names.length := by
    have := congrArg List.length hpar
    rw [List.length_take, List.length_map] at this
    lia
  refine SFc.ofDef' ho hdata hlim hcd hbody hbind (fun x hx => ?_) (fun x hx => ?_) ?_ (fun i x k hi => ?_) (fun L => hS _ (F L)) hco hgen hk
  · rw [hnames] at hx
    exact (hcell' x hx).1
  · obtain ⟨i, hi, rfl⟩ := List.mem_iff_getElem.mp hx
    rw [hnames]
    exact lookup_of_nodup nd (hpi i _ (List.getElem?_eq_getElem hi))
  · have : params = (names.take params.length).map (·.1) := by rw [hpar, List.map_map]; simp [Function.comp_def]
    rw [this, List.map_take]
    exact nd.sublist (List.take_sublist _ _)
  · refine ⟨?_, fun hlt => ?_⟩
    · exact (hcell' _ (List.mem_of_getElem? hi)).1
    · have h1 := hpi i params[i] (List.getElem?_eq_getElem hlt)
      rw [hi] at h1
      have := Option.some.inj h1
      exact ⟨by rw [List.getElem?_eq_getElem hlt]; congr 1; exact (Prod.mk.inj this).1.symm, (Prod.mk.inj this).2⟩
end
mutual
noncomputable def closedV (k : Nat) : V → Prop
  | .obj i => i < k
  | .tup vs => closedL k vs
  | _ => True
noncomputable def closedL (k : Nat) : List V → Prop
  | [] => True
  | v :: r => closedV k v ∧ closedL k r
end
noncomputable def closedF (k : Nat) : List (Nat × V) → Prop
  | [] => True
  | (_, v) :: r => closedV k v ∧ closedF k r
noncomputable def closedO (k : Nat) : O → Prop
  | .nums _ => True
  | .list vs => closedL k vs
  | .app vs => closedL k vs
  | .dict kvs => closedF k kvs
  | .inst _ d => d < k
  | .ns fs => closedF k fs
noncomputable def closedH (k : Nat) : List O → Prop
  | [] => True
  | o :: r => closedO k o ∧ closedH k r
noncomputable def closedX (k : Nat) : List (Option V) → Prop
  | [] => True
  | none :: r => closedX k r
  | some v :: r => closedV k v ∧ closedX k r
section
variable {prog : Program} {w : World} {h₀ : Heap} {n : Nat} {env : Env} {slots : Slots}
theorem get_cut {ρ t : List Addr} {k i : Nat} {a : Addr} (hk : ρ.length = k) (hi : i < k) (h : (ρ ++ t)[i]? = some a) : ρ[i]? = some a := by
  rw [List.getElem?_append_left (by lia)] at h; exact h
theorem Is.cut {h : Heap} {ρ t : List Addr} {k : Nat} (hk : ρ.length = k) {v : V} {val : Value} (r : Is h (ρ ++ t) v val) : closedV k v → Is h ρ v val :=
  Is.rec (motive_1 := fun v val _ => closedV k v → Is h ρ v val) (motive_2 := fun vs vals _ => closedL k vs → IsL h ρ vs vals) (fun _ => .none) (fun b _ => .bool b) (fun i t _ => .int i t) (fun hk t _ => .str hk t) (fun v _ => .raw v)
    (fun e c => .obj (get_cut hk c e)) (fun ht _ hl c => .tup ht (hl c)) (fun _ => .nil) (fun _ _ a b c => .cons (a c.1) (b c.2)) r
theorem IsL.cut {h : Heap} {ρ t : List Addr} {k : Nat} (hk : ρ.length = k) {vs : List V} {vals : List Value} (r : IsL h (ρ ++ t) vs vals) : closedL k vs → IsL h ρ vs vals :=
  r.ind (P := fun vs vals => closedL k vs → IsL h ρ vs vals) (fun _ => .nil) fun a _ b c => .cons (a.cut hk c.1) (b c.2)
theorem KvL.cut {h : Heap} {ρ t : List Addr} {k : Nat} (hk : ρ.length = k) {vs : List (Nat × V)} {vals : List (Str × Value)} (r : KvL h (ρ ++ t) vs vals) (c : closedF k vs) : KvL h ρ vs vals := by
  induction r with
  | nil => exact .nil
  | cons hx a b ih => exact .cons hx (Is.cut hk a c.1) (ih c.2)
theorem NsL.cut {h : Heap} {ρ t : List Addr} {k : Nat} (hk : ρ.length = k) {vs : List (Nat × V)} {es : List DictEntry} (r : NsL h (ρ ++ t) vs es) (c : closedF k vs) : NsL h ρ vs es := by
  induction r with
  | nil => exact .nil
  | cons hx a hh b ih => exact .cons hx (Is.cut hk a c.1) hh (ih c.2)
theorem OIs.cut {h : Heap} {ρ t : List Addr} {k : Nat} (hk : ρ.length = k) {a : Addr} {o : O} (r : OIs prog w h (ρ ++ t) a o) (c : closedO k o) : OIs prog w h ρ a o := by
  cases o with
  | nums xs => exact r
  | list vs => obtain ⟨vals, q, i⟩ := r; exact ⟨vals, q, i.cut hk c⟩
  | app vs => obtain ⟨vals, nn, q, i⟩ := r; exact ⟨vals, nn, q, i.cut hk c⟩
  | dict kvs => obtain ⟨kvals, q, i⟩ := r; exact ⟨kvals, q, i.cut hk c⟩
  | inst C d => obtain ⟨da, e, q⟩ := r; exact ⟨da, get_cut hk c e, q⟩
  | ns fs => obtain ⟨es, nn, q, i⟩ := r; exact ⟨es, nn, q, i.cut hk c⟩
theorem closedH_get {k : Nat} : ∀ {H : List O} {i : Nat} {o : O}, closedH k H → H[i]? = some o → closedO k o
  | o :: r, 0, _, c, e => by cases e; exact c.1
  | o :: r, i + 1, _, c, e => by rw [List.getElem?_cons_succ] at e; exact closedH_get c.2 e
theorem closedX_get {k : Nat} : ∀ {L : List (Option V)} {i : Nat} {v : V}, closedX k L → lget L i = some v → closedV k v
  | [], i, v, _, e => by simp [lget] at e
  | none :: r, 0, _, c, e => by simp [lget] at e
  | some v :: r, 0, _, c, e => by simp [lget] at e; subst e; exact c.1
  | none :: r, i + 1, v, c, e => closedX_get (L := r) (i := i) c (by simpa [lget] using e)
  | some u :: r, i + 1, v, c, e => closedX_get (L := r) (i := i) c.2 (by simpa [lget] using e)
theorem Rel.cut {h : Heap} {ρ t : List Addr} {H H' : List O} {X : List XE} (hk : ρ.length = H.length) (R : Rel prog w h₀ h (ρ ++ t) H' X) (c : closedH H.length (H'.take H.length)) : Rel prog w h₀ h ρ (H'.take H.length) X := by
  have hl := R.len
  rw [List.length_append] at hl
  have hsub : (ρ ++ X.map XE.a).Sublist (ρ ++ t ++ X.map XE.a) := (List.sublist_append_left ρ t).append_right _
  refine ⟨R.keep, by rw [List.length_take]; lia, fun i o a e1 e2 => ?_, fun a ha => R.fresh a (hsub.subset ha), R.nodup.sublist hsub, R.extra⟩
  have hi : i < H.length := by have := (List.getElem?_eq_some_iff.mp e2).1; lia
  refine (R.objs i o a ?_ ?_).cut hk (closedH_get c e1)
  · rw [List.getElem?_take] at e1
    rw [if_pos hi] at e1; exact e1
  · rw [List.getElem?_append_left (by lia)]; exact e2
theorem FrameOK.cut {h : Heap} {ρ t : List Addr} {k : Nat} {X : List XE} {L : List (Option V)} (hk : ρ.length = k) (F : FrameOK env slots h (ρ ++ t) X L) (c : closedX k L) : FrameOK env slots h ρ X L := by
  obtain ⟨m, hm, hs⟩ := F
  refine ⟨m, hm, fun i x kk hi => ?_⟩
  have z := hs i x kk hi
  unfold SlotIs at z ⊢
  split
  · intro v hv
    obtain ⟨val, a, b⟩ := z v hv
    exact ⟨val, a, b.cut hk (closedX_get c hv)⟩
  · obtain ⟨cc, cv, a, b, e⟩ := z
    refine ⟨cc, cv, a, b, fun v hv => ?_⟩
    obtain ⟨val, p, q⟩ := e v hv
    exact ⟨val, p, q.cut hk (closedX_get c hv)⟩
  · intro v hv
    obtain ⟨cc, val, a, b, d⟩ := z v hv
    exact ⟨cc, val, a, b.cut hk (closedX_get c hv), d⟩
  · trivial
@[irreducible] noncomputable def truncF (f : PF) : PF := fun args H Q => f args H fun v H' => closedV H.length v ∧ closedH H.length (H'.take H.length) ∧ Q v (H'.take H.length)
theorem SFv.trunc {f : Value} {g : PF} (h : SFv prog w h₀ n f g) : SFv prog w h₀ n f (truncF g) := fun A args vals H X ρ s Q Q' E hro R hv hq hp => by
  unfold truncF at hq
  refine h A args vals H X ρ s _ Q' E hro R hv hq fun v H' ρ' val h' tk' q R' x hval => ?_
  obtain ⟨c1, c2, q⟩ := q
  obtain ⟨tk, t, rfl⟩ := x
  exact hp v _ ρ val h' tk' q (R'.cut R.len.symm c2) ⟨tk, [], (List.append_nil ρ).symm⟩ (hval.cut R.len.symm c1)
noncomputable def truncS (f : PS) : PS := fun L H Qn Qr => f L H (fun L' H' => closedX H.length L' ∧ closedH H.length (H'.take H.length) ∧ Qn L' (H'.take H.length)) Qr
theorem SS.trunc {b : List Stmt} {g : PS} (h : SS prog w h₀ n env slots b g) : SS prog w h₀ n env slots b (truncS g) := fun A L H X ρ s Qn Qr Q' E hro R hq hn hr => by
  refine h A L H X ρ s _ _ Q' E hro R hq (fun L' H' ρ' h' tk' q R' x => ?_) hr
  obtain ⟨c1, c2, q⟩ := q
  obtain ⟨tk, t, rfl⟩ := x
  exact hn L' _ ρ h' tk' q ⟨R'.rel.cut R.rel.len.symm c2, R'.fr.cut R.rel.len.symm c1⟩ ⟨tk, [], (List.append_nil ρ).symm⟩
theorem FE.block {names : Slots} (F : FE env names) : env.blockKind = .function := by
  unfold Env.blockKind; rw [F.kind]; rfl
theorem FE.inter {names : Slots} (F : FE env names) : interactive env = false := by
  unfold interactive; rw [F.kind]; rfl
noncomputable def isStarE (e : Expr) : Bool := Nat.beq e.ctorIdx 22
theorem noStar {vs : List Expr} (h : vs.any isStarE = false) (f : Expr → Bool) (hf : ∀ e, isStarE e = false → f e = false) : vs.any f = false := by
  rw [List.any_eq_false] at h ⊢
  intro a ha e
  rw [hf a (by simpa using h a ha)] at e; cases e
noncomputable def isNameE (e : Expr) : Bool := Nat.beq e.ctorIdx 23
theorem iteR {α : Sort _} {c : Prop} [Decidable c] {a b x : α} (h1 : a = x) (h2 : b = x) : (if c then a else b) = x := by
  by_cases h : c
  · rw [if_pos h]; exact h1
  · rw [if_neg h]; exact h2
theorem swapped_none {ts vs : List Expr} {x y : Nat} {p q : Pos} (hk : env.blockKind = .function) (h : (ts.any isNameE) = false) (hne : ts.isEmpty = false) : swappedStores [.Tuple ts x p] (.Tuple vs y q) env = pure none := by
  have hnil : ∀ f : Expr → Option Str, (∀ e, isNameE e = false → f e = none) → ts.filterMap f = [] := fun f hf => by
    rw [List.filterMap_eq_nil_iff]
    intro a ha
    exact hf a (by simpa using List.any_eq_false.mp h a ha)
  have hl : ts.length ≠ 0 := by cases ts <;> simp_all
  unfold swappedStores
  dsimp only
  rw [hk]
  refine iteR rfl (iteR rfl ?_)
  have : (([] : List Str).length != ts.length) = true := by
    simp only [List.length_nil, bne_iff_ne, ne_eq]; omega
  rw [hnil _ (fun e he => by cases e <;> first | rfl | cases he), this]
  rfl
theorem fm2 {f : Expr → Option Str} {x y : Expr} {a b : Str} (h1 : f x = some a) (h2 : f y = some b) : [x, y].filterMap f = [a, b] := by
  rw [List.filterMap_cons_some h1, List.filterMap_cons_some h2]; rfl
theorem fm3 {f : Expr → Option Str} {x y z : Expr} {a b c : Str} (h1 : f x = some a) (h2 : f y = some b) (h3 : f z = some c) : [x, y, z].filterMap f = [a, b, c] := by
  rw [List.filterMap_cons_some h1, fm2 h2 h3]
theorem nmF {env : Env} {a : Str} {l m : Nat} (h : env.kindOf a = some .local) (e : (m == l) = true) : (if (env.kindOf a == some .local && m == l) = true then some a else none) = some a := by
  rw [h, e]; rfl
theorem swapped_two {a b : Str} {pa pb : Pos} {vs : List Expr} {x y : Nat} {p q : Pos} (hk : env.blockKind = .function) (ha : env.kindOf a = some .local) (hb : env.kindOf b = some .local) (hne : a ≠ b) (hp : (pb.line == pa.line) = true) (hl : vs.length = 2)
    (hst : vs.any isStarE = false) (hf : vs.all (foldedForSure 8) = false) (hc : vs.all (constantsAlone 8) = false) : swappedStores [.Tuple [.Name a pa, .Name b pb] x p] (.Tuple vs y q) env = pure (some [a, b]) := by
  unfold swappedStores
  dsimp only
  rw [hk, hl, noStar hst _ (fun e he => by cases e <;> first | rfl | cases he), hf, hc, fm2 (a := a) (b := b)]
  · have hna : (b == a) = false := beq_eq_false_iff_ne.mpr fun e => hne e.symm
    simp [List.eraseDups_cons, hna]
  · exact nmF ha (beq_self_eq_true _)
  · exact nmF hb hp
theorem swapped_three {a b c : Str} {pa pb pc : Pos} {vs : List Expr} {x y : Nat} {p q : Pos} (hk : env.blockKind = .function) (ha : env.kindOf a = some .local) (hb : env.kindOf b = some .local) (hcl : env.kindOf c = some .local) (h1 : a ≠ b) (h2 : a ≠ c) (h3 : b ≠ c)
    (hp : (pb.line == pa.line) = true) (hp' : (pc.line == pa.line) = true) (hl : vs.length = 3)
    (hst : vs.any isStarE = false) (hf : vs.all (foldedForSure 8) = false) (hc : vs.all (constantsAlone 8) = false) : swappedStores [.Tuple [.Name a pa, .Name b pb, .Name c pc] x p] (.Tuple vs y q) env = pure (some [a, b, c]) := by
  unfold swappedStores
  dsimp only
  rw [hk, hl, noStar hst _ (fun e he => by cases e <;> first | rfl | cases he), hf, hc, fm3 (a := a) (b := b) (c := c)]
  · have n1 : (b == a) = false := beq_eq_false_iff_ne.mpr fun e => h1 e.symm
    have n2 : (c == a) = false := beq_eq_false_iff_ne.mpr fun e => h2 e.symm
    have n3 : (c == b) = false := beq_eq_false_iff_ne.mpr fun e => h3 e.symm
    simp [List.eraseDups_cons, n1, n2, n3]
  · exact nmF ha (beq_self_eq_true _)
  · exact nmF hb hp
  · exact nmF hcl hp'
theorem slot_ne {names : Slots} {i j : Nat} {a b : Str} {k k' : NameKind} (hnd : (names.map (·.1)).Nodup) (hi : SlotAt names i a k) (hj : SlotAt names j b k') (hne : i ≠ j) : a ≠ b := fun e => by
  subst e
  have h1 : (names.map (·.1))[i]? = some a := by rw [List.getElem?_map, hi.get]; rfl
  have h2 : (names.map (·.1))[j]? = some a := by rw [List.getElem?_map, hj.get]; rfl
  exact hne ((List.getElem?_inj (List.getElem?_eq_some_iff.mp h1).1 hnd).mp (h1.trans h2.symm))
theorem SX.swap2 {a b : Str} {pa pb : Pos} {vs : List Expr} {x y : Nat} {p q pos : Pos} {i j : Nat} {f : PE} (F : FE env slots) (ha : SlotAt slots i a .local) (hb : SlotAt slots j b .local) (hij : i ≠ j) (hp : (pb.line == pa.line) = true) (hl : vs.length = 2)
    (hst : vs.any isStarE = false) (hf : vs.all (foldedForSure 8) = false) (hc : vs.all (constantsAlone 8) = false) (hv : SE prog w h₀ n env slots (.Tuple vs y q) f) :
    SX prog w h₀ n env slots (.Assign [.Tuple [.Name a pa, .Name b pb] x p] (.Tuple vs y q) pos) (sSwap 2 f (tsCons (tLoc j) (tsCons (tLoc i) tsNil))) :=
  SX.swap [a, b] hv (TsJ.cons (TJ.bindF F hb) (TsJ.cons (TJ.bindF F ha) TsJ.nil)) rfl (swapped_two F.block (F.kindOf ha) (F.kindOf hb) (slot_ne F.nodup ha hb hij) hp hl hst hf hc)
theorem SX.swap3 {a b c : Str} {pa pb pc : Pos} {vs : List Expr} {x y : Nat} {p q pos : Pos} {i j k : Nat} {f : PE} (F : FE env slots) (ha : SlotAt slots i a .local) (hb : SlotAt slots j b .local) (hcl : SlotAt slots k c .local) (hij : i ≠ j) (hik : i ≠ k) (hjk : j ≠ k)
    (hp : (pb.line == pa.line) = true) (hp' : (pc.line == pa.line) = true) (hl : vs.length = 3)
    (hst : vs.any isStarE = false) (hf : vs.all (foldedForSure 8) = false) (hc : vs.all (constantsAlone 8) = false) (hv : SE prog w h₀ n env slots (.Tuple vs y q) f) :
    SX prog w h₀ n env slots (.Assign [.Tuple [.Name a pa, .Name b pb, .Name c pc] x p] (.Tuple vs y q) pos) (sSwap 3 f (tsCons (tLoc k) (tsCons (tLoc j) (tsCons (tLoc i) tsNil)))) :=
  SX.swap [a, b, c] hv (TsJ.cons (TJ.bindF F hcl) (TsJ.cons (TJ.bindF F hb) (TsJ.cons (TJ.bindF F ha) TsJ.nil))) rfl
    (swapped_three F.block (F.kindOf ha) (F.kindOf hb) (F.kindOf hcl) (slot_ne F.nodup ha hb hij) (slot_ne F.nodup ha hcl hik) (slot_ne F.nodup hb hcl hjk) hp hp' hl hst hf hc)
theorem SX.exprF {e : Expr} {pos : Pos} {f : PE} (F : FE env slots) (he : SE prog w h₀ n env slots e f) (hs : swapsWith e none pos.line env = pure false) : SX prog w h₀ n env slots (.Expr e pos) (sExpr f) := SX.expr he F.inter hs
theorem SE.freeF {x : Str} {pos : Pos} {i : Nat} (F : FE env slots) (hi : SlotAt slots i x .free) : SE prog w h₀ n env slots (.Name x pos) (pLoc i) := fun A L H X ρ s Q Q' E _ R hq hp => by
  unfold pLoc at hq
  obtain ⟨m, hm, hs⟩ := R.fr
  have z := hs i x _ hi.get
  split at hq
  · rename_i v hv
    obtain ⟨c, val, a, b, p, hpX, rfl, d⟩ := z v hv
    obtain ⟨o, ho, hP, _⟩ := R.rel.extra p (List.mem_append_right _ hpX)
    exact wpAny_Name (wpAny_loadName_cell F.kind (F.kindOf hi) a ⟨o, ho, d o hP⟩ (hp _ _ _ _ s.heap s.toks hq R (Ext.refl ..) b)) (F.dbg hi)
  · exact hq.elim
theorem FE.comp {names : Slots} {scope : Scope} {cl : List (Str × Addr)} {C : Addr} {islots : Slots} (F : FE env names) (hk : scope.kind = .function) (codes : List Nat) (hn : (relabel scope env).names = islots.map fun p => (p.1, relab p.2))
    (he : islots.map (fun p => enc p.1) = codes) (hd : nodupB (enc "__debug__" :: codes) = true) : FE (compEnvC scope cl C env) islots :=
  FE.of codes hn hk F.glob F.blt he hd
end
section
variable {prog : Program} {w : World} {h₀ : Heap} {n : Nat} {env : Env} {slots : Slots}
noncomputable def newF (C : Addr) (sem : PF) : PF := fun args H Q => sem (.obj (H.length + 1) :: args) (H ++ [.ns [], .inst C H.length]) fun v H' => v = .none ∧ Q (.obj (H.length + 1)) H'
theorem Room.make {A : Around} (r : Room (n + 1) A) (args : Args) : Room n (A.under (.builtin "type.__call__" args)) := by
  have hw : (Code.builtin "type.__call__" args).weight ≤ 2 := by
    unfold Code.weight
    have e1 : (Code.builtin "type.__call__" args).frames = 0 := by rfl
    have e2 : (Code.builtin "type.__call__" args).isCaller = false := by rfl
    rw [e1, e2]
    split <;> split <;> simp
  have hu : (Code.builtin "type.__call__" args).cUnits = 1 := by rfl
  refine ⟨r.handled, ?_, ?_⟩
  · have := r.depth
    show A.depth + (Code.builtin "type.__call__" args).weight + 2 * n + 2 < _
    lia
  · have := r.units
    show A.units + (Code.builtin "type.__call__" args).cUnits + 10 * n + 100 < _
    lia
theorem SFv.new {K : Frag} {C fI : Addr} {sem : PF} (X : K.In h₀) (hm : makesIn K C = true) (hi : findIn K (.ref C) "__init__" = some (some (.ref fI))) (hf : typeIn K (.ref fI) = some (.type "function")) (hS : SFc prog w h₀ n (.ref fI) sem) : SFv prog w h₀ (n + 1) (.ref C) (newF C sem) := by
  refine SFc.v ?_
  intro A args vals H Xs ρ s Q R' hro R hv hq hp
  obtain ⟨hh, g, d, t, os⟩ := s
  have X' : K.In hh := X.keeps R.keep
  refine make_core (makes_of X' hm) (looks_findIn X' hi) (fun self => bind_fn X' self hf) (.inl rfl) ?_
  have n1 : hh.get? hh.objs.size = none := get_size_none _
  have k1 : ∀ b o, hh.get? b = some o → (hh.push emptyDict).get? b = some o := fun b o e => Heap.get?_push_of_some _ e
  have R₁ := R.alloc (o := .ns []) (h' := hh.push emptyDict) n1 k1 ⟨[], 0, Heap.get?_push_size _ rfl, .nil⟩
  have n2 : (hh.push emptyDict).get? (hh.objs.size + 1) = none := by
    have := get_size_none (hh.push emptyDict)
    rwa [Heap.size_push] at this
  have k2 : ∀ b o, (hh.push emptyDict).get? b = some o → ((hh.push emptyDict).push (instObj C hh.objs.size)).get? b = some o := fun b o e => Heap.get?_push_of_some _ e
  have e2 : ((hh.push emptyDict).push (instObj C hh.objs.size)).get? (hh.objs.size + 1) = some (instObj C hh.objs.size) := by
    have := Heap.get?_push_size (hh.push emptyDict) (o := instObj C hh.objs.size) rfl
    rwa [Heap.size_push] at this
  have eρ : (ρ ++ [hh.objs.size] ++ [hh.objs.size + 1])[H.length]? = some hh.objs.size := by
    rw [R.len, List.getElem?_append_left (by simp)]; exact getElem?_append_new _ _
  have R₂ := R₁.1.alloc (o := .inst C H.length) (h' := (hh.push emptyDict).push (instObj C hh.objs.size)) n2 k2 ⟨_, eρ, e2⟩
  have x := R₁.2.trans R₂.2
  have e3 : (ρ ++ [hh.objs.size] ++ [hh.objs.size + 1])[H.length + 1]? = some (hh.objs.size + 1) := by
    have := getElem?_append_new (ρ ++ [hh.objs.size]) (hh.objs.size + 1)
    rw [List.length_append, List.length_singleton, ← R.len] at this
    exact this
  have eH : H ++ [.ns []] ++ [.inst C H.length] = H ++ [.ns [], .inst C H.length] := by rw [List.append_assoc]; rfl
  refine hS _ _ _ (H ++ [.ns []] ++ [.inst C H.length]) Xs _ ⟨_, g, d, t, os⟩ _ _ (hro.make _) R₂.1 (.cons (.obj e3) (hv.ext x)) (by rw [eH]; exact hq) fun v H' ρ' val h' tk' q R'' x'' hval => ?_
  obtain ⟨rfl, q⟩ := q
  cases hval
  exact ⟨rfl, hp _ _ _ _ h' tk' q R'' (x.trans x'') (.obj (x''.get e3))⟩
noncomputable def tTupL (k : Nat) (f : PTs) : PT := fun v L H Q => match v with | .obj i => (match H[i]? with | some (.app vs) => guardB (Nat.beq vs.length k) (f vs L H Q) | _ => False) | _ => False
theorem RelF.moved {h h' : Heap} {ρ : List Addr} {L : List (Option V)} {H : List O} {X : List XE} {p q : XE} (R : RelF prog w h₀ env slots h ρ L H (p :: q :: X)) (hs : ∀ b o, b ≠ p.a → b ≠ q.a → h.get? b = some o → h'.get? b = some o)
    (hPc : ∀ o, p.P o → ∀ v, o.data ≠ .cell v) (hQc : ∀ o, q.P o → ∀ v, o.data ≠ .cell v) :
    (RelF prog w h₀ env slots h' ρ L H X ∧ Ext h ρ h' ρ) ∧ (p.a ∉ ρ ++ (frameX env slots ++ q :: X).map XE.a ∧ q.a ∉ ρ ++ (frameX env slots ++ X).map XE.a) ∧ h₀.get? p.a = none ∧ h₀.get? q.a = none := by
  obtain ⟨op, hop, hPp, hntp⟩ := R.rel.extra p (List.mem_append_right _ (List.mem_cons_self ..))
  obtain ⟨oq, hoq, hPq, hntq⟩ := R.rel.extra q (List.mem_append_right _ (List.mem_cons_of_mem _ (List.mem_cons_self ..)))
  have tk : TupKeep h h' := fun b items ht => by
    obtain ⟨ob, hb, hc, nn, hd⟩ := ht
    refine ⟨ob, hs b ob (fun e => ?_) (fun e => ?_) hb, hc, nn, hd⟩
    · subst e; rw [hop] at hb; cases hb; exact hntp _ _ hc hd
    · subst e; rw [hoq] at hb; cases hb; exact hntq _ _ hc hd
  have x : Ext h ρ h' ρ := ⟨tk, [], (List.append_nil ρ).symm⟩
  have hperm : (ρ ++ (frameX env slots ++ p :: q :: X).map XE.a).Perm (p.a :: (ρ ++ (frameX env slots ++ q :: X).map XE.a)) := by
    rw [List.map_append, List.map_append, List.map_cons, ← List.append_assoc, ← List.append_assoc]
    exact List.perm_middle
  have hperm2 : (ρ ++ (frameX env slots ++ q :: X).map XE.a).Perm (q.a :: (ρ ++ (frameX env slots ++ X).map XE.a)) := by
    rw [List.map_append, List.map_append, List.map_cons, ← List.append_assoc, ← List.append_assoc]
    exact List.perm_middle
  have nd := List.nodup_cons.mp (hperm.nodup_iff.mp R.rel.nodup)
  have nd2 := List.nodup_cons.mp (hperm2.nodup_iff.mp nd.2)
  have hne : ∀ b ∈ ρ ++ (frameX env slots ++ X).map XE.a, b ≠ p.a ∧ b ≠ q.a := fun b hb => ⟨fun e => nd.1 (e ▸ hperm2.mem_iff.mpr (.tail _ hb)), fun e => nd2.1 (e ▸ hb)⟩
  have hfr : ∀ b ∈ ρ ++ (frameX env slots ++ X).map XE.a, h₀.get? b = none := fun b hb => R.rel.fresh b (hperm.mem_iff.mpr (.tail _ (hperm2.mem_iff.mpr (.tail _ hb))))
  have p0 : h₀.get? p.a = none := R.rel.fresh p.a (hperm.mem_iff.mpr (.head _))
  have q0 : h₀.get? q.a = none := R.rel.fresh q.a (hperm.mem_iff.mpr (.tail _ (hperm2.mem_iff.mpr (.head _))))
  have kp : ∀ b ∈ ρ ++ (frameX env slots ++ X).map XE.a, ∀ o, h.get? b = some o → h'.get? b = some o := fun b hb o ho => hs b o (hne b hb).1 (hne b hb).2 ho
  have F := R.fr.keep x fun r hr o ho => kp r.a (List.mem_append_right _ (by rw [List.map_append]; exact List.mem_append_left _ (List.mem_map_of_mem hr))) o ho
  refine ⟨⟨⟨⟨fun b o e => hs b o (fun z => by rw [z, p0] at e; cases e) (fun z => by rw [z, q0] at e; cases e) (R.rel.keep b o e), R.rel.len, fun k o a e1 e2 => (R.rel.objs k o a e1 e2).ext x fun ob hb => kp a (List.mem_append_left _ (List.mem_of_getElem? e2)) ob hb, hfr, nd2.2, fun r hr => ?_⟩, ?_⟩, x⟩, ⟨nd.1, nd2.1⟩, p0, q0⟩
  · obtain ⟨o, ho, z⟩ := R.rel.extra r (by
      rcases List.mem_append.mp hr with z | z
      · exact List.mem_append_left _ z
      · exact List.mem_append_right _ (List.mem_cons_of_mem _ (List.mem_cons_of_mem _ z)))
    exact ⟨o, kp r.a (List.mem_append_right _ (List.mem_map_of_mem hr)) o ho, z⟩
  · obtain ⟨m, hm, hsl⟩ := F
    refine ⟨m, hm, fun i y k hi => (hsl i y k hi).weakX fun c val => ?_⟩
    rintro ⟨r, hr, e, d⟩
    rcases List.mem_cons.mp hr with rfl | hr
    · exact absurd (d op hPp) (hPc op hPp _)
    · rcases List.mem_cons.mp hr with rfl | hr
      · exact absurd (d oq hPq) (hQc oq hPq _)
      · exact ⟨r, hr, e, d⟩
noncomputable def enumVs : Nat → List V → List V
  | _, [] => []
  | i, v :: r => .tup [.int i, v] :: enumVs (i + 1) r
theorem enumVs_get : ∀ {vs : List V} {i k : Nat}, (enumVs i vs)[k]? = (vs[k]?).map fun v => .tup [.int ((i + k : Nat) : Int), v]
  | [], _, _ => by simp [enumVs]
  | v :: r, i, 0 => by simp [enumVs]
  | v :: r, i, k + 1 => by
    rw [enumVs, List.getElem?_cons_succ, List.getElem?_cons_succ, enumVs_get]
    have : i + 1 + k = i + (k + 1) := by lia
    rw [this]
theorem enumVs_length : ∀ {vs : List V} {i : Nat}, (enumVs i vs).length = vs.length
  | [], _ => rfl
  | _ :: r, i => by rw [enumVs, List.length_cons, List.length_cons, enumVs_length]
noncomputable def sForEnum (f : PE) (t : PT) (g : PS) : PS := fun L H Qn Qr => f L H fun v H₁ => match v with
  | .obj k => (match H₁[k]? with
    | some (.app vs) => forS t g (depList k vs) (enumVs 0 vs) L H₁ Qn Qr
    | _ => False)
  | _ => False
noncomputable def AtEnum (it : Addr) (k : Nat) (o : Obj) : Prop := ∃ old, o = { cls := .type "enumerate", dict := none, data := .fields #[.none, .bool false, .ref it, rawInt k, .none, old], slots := #[] }
theorem SX.forEnum {elts : List Expr} {x1 : Nat} {tp : Pos} {x : Str} {np cp : Pos} {e : Expr} {body : List Stmt} {pos : Pos} {f : PE} {t : PT} {g : PS} (hf : SE prog w h₀ n env slots (.Name x np) (pV (.raw (.type "enumerate")))) (he : SE prog w h₀ n env slots e f)
    (hst : starEach [e] env = [(false, eval e env)]) (ht : TJ prog w h₀ n env slots (PySem.assign (.Tuple elts x1 tp) env) t) (hg : SS prog w h₀ n env slots body g)
    (hs : ∀ x', foldedSetIterable (.Call (.Name x np) [e] [] cp) env x' = pure x') : SX prog w h₀ n env slots (.For (.Tuple elts x1 tp) (.Call (.Name x np) [e] [] cp) body [] pos) (sForEnum f t g) :=
  fun A L H X ρ s Qn Qr Q' E hro R hq hn hr => by
  refine wpAny_For ?_ hs
  refine wpAny_Call_NameR (hf A L H X ρ s (fun v H' => v = .raw (.type "enumerate") ∧ H' = H) _ E hro R ⟨rfl, rfl⟩ fun o H₀ ρ₀ oval h₀' tk₀ hq₀ R₀ x₀ ho => ?_)
  obtain ⟨rfl, rfl⟩ := hq₀
  cases ho
  rw [hst]
  refine PyProof.Rows.callWith_type rfl (evalArgs_plain (spliced_cons (he A L H₀ X ρ₀ _ _ _ E hro R₀ hq fun v H₁ ρ₁ val h₁ tk₁ hq₁ R₁ x₁ hv => spliced_nil ?_)))
  split at hq₁
  rotate_left
  · exact hq₁.elim
  rename_i k
  cases hv with
  | @obj _ l ek =>
  split at hq₁
  rotate_left
  · exact hq₁.elim
  rename_i vs eo
  obtain ⟨vals, nn, hl, hvs⟩ := R₁.rel.objs _ _ _ eo ek
  refine call_enumerate_1 (s := { s with heap := h₁, toks := tk₁ }) (items := vals.toArray) (n := nn) hl fun h₂ he₂ hit₂ hz₂ hk₂ => ?_
  replace hk₂ : ∀ b o, h₁.get? b = some o → h₂.get? b = some o := hk₂
  replace he₂ : IsEnum h₂ (h₁.objs.size + 1) h₁.objs.size 0 .none := he₂
  replace hit₂ : h₂.IsListIter h₁.objs.size l 0 := hit₂
  refine wpAny_pyIter_enum (s := { s with heap := h₂, toks := tk₁ }) he₂ ?_
  generalize hie : h₁.objs.size = it at he₂ hit₂ hz₂
  generalize hee : it + 1 = eA at he₂
  have hne : eA ≠ it := fun e => by rw [← hee] at e; exact absurd e (Nat.succ_ne_self _)
  have nit := R₁.rel.notIn (a := it) (by rw [← hie]; exact get_size_none _)
  have neA := R₁.rel.notIn (a := eA) (by
    cases q : h₁.get? eA with
    | none => rfl
    | some o => exact absurd (Heap.lt_size q) (by rw [hie, ← hee]; exact Nat.not_lt.mpr (Nat.le_succ _)))
  obtain ⟨R₂, x₂⟩ := R₁.grow hk₂
  obtain ⟨oit, hoit, hc1, hd1⟩ := id hit₂
  have hntl : ∀ (j : Nat) (o : Obj), AtList l j o → NonTup o ∧ ∀ v, o.data ≠ .cell v := fun j o h => ⟨nonTup_fields h.2, fun v q => by rw [h.2] at q; cases q⟩
  have hnte : ∀ (j : Nat) (o : Obj), AtEnum it j o → NonTup o ∧ ∀ v, o.data ≠ .cell v := fun j o h => by
    obtain ⟨old, rfl⟩ := h
    exact ⟨nonTup_fields rfl, fun v q => by cases q⟩
  have R₃ := R₂.withX (p := ⟨it, AtList l 0⟩) nit.1 nit.2 hoit ⟨hc1, hd1⟩ (hntl 0 _ ⟨hc1, hd1⟩).1
  have R₄ := R₃.withX (p := ⟨eA, AtEnum it 0⟩) (fun hm => by
    have hperm : (ρ₁ ++ (frameX env slots ++ ⟨it, AtList l 0⟩ :: X).map XE.a).Perm (it :: (ρ₁ ++ (frameX env slots ++ X).map XE.a)) := by
      rw [List.map_append, List.map_append, List.map_cons, ← List.append_assoc, ← List.append_assoc]
      exact List.perm_middle
    rcases List.mem_cons.mp (hperm.mem_iff.mp hm) with z | z
    · exact hne z
    · exact neA.1 z) neA.2 he₂ ⟨.none, rfl⟩ (hnte 0 _ ⟨.none, rfl⟩).1
  have hIs : ∀ (ρ' : List Addr) (h' : Heap) (H' : List O), Ext h₂ ρ₁ h' ρ' → (∀ (X' : List XE), Rel prog w h₀ h' ρ' H' X' → depList k vs H' → ∃ vals', h'.IsList l vals'.toArray ∧ IsL h' ρ' vs vals') := fun ρ' h' H' x' X' R' hd => by
    obtain ⟨ob, eo', ev'⟩ := hd
    exact asVs_sound (R'.objs _ _ _ eo' (x'.get ek)) ev'
  obtain ⟨I, hI⟩ : ∃ I : Nat → Shared → Prop, ∀ m s', I m s' ↔ ∃ (j : Nat) (L' : List (Option V)) (H' : List O) (ρ' : List Addr) (h' : Heap) (tk' : Nat), m = vs.length - j ∧ j ≤ vs.length ∧ s' = { s with heap := h', toks := tk' } ∧ RelF prog w h₀ env slots h' ρ' L' H' (⟨eA, AtEnum it j⟩ :: ⟨it, AtList l j⟩ :: X) ∧ Ext h₂ ρ₁ h' ρ' ∧ depList k vs H' ∧ forS t g (depList k vs) ((enumVs 0 vs).drop j) L' H' Qn Qr := ⟨_, fun _ _ => Iff.rfl⟩
  refine codeAny_forLoop_any I (fun m s' hi => ?_) vs.length ((hI _ _).mpr ⟨0, L, H₁, ρ₁, h₂, tk₁, by lia, Nat.zero_le _, rfl, R₄, Ext.refl .., ⟨_, eo, rfl⟩, by simpa using hq₁⟩)
  refine wp_gen fun P F hP => ?_
  obtain ⟨j, L', H', ρ', h', tk', hm, hj, rfl, R', x', hd', hF⟩ := (hI _ _).mp hi
  obtain ⟨oe, hoe, ⟨old, rfl⟩, _⟩ := R'.rel.extra ⟨eA, AtEnum it j⟩ (List.mem_append_right _ (List.mem_cons_self ..))
  obtain ⟨oi, hoi, hAi, _⟩ := R'.rel.extra ⟨it, AtList l j⟩ (List.mem_append_right _ (List.mem_cons_of_mem _ (List.mem_cons_self ..)))
  dsimp only at hoe hoi
  obtain ⟨vals', hl', hv'⟩ := hIs _ _ _ x' _ R'.rel hd'
  have hit' : h'.IsListIter it l j := ⟨oi, hoi, hAi.1, hAi.2⟩
  have x₀₂ := (x₀.trans x₁).trans x₂
  have hlen := hv'.length
  cases hkv : vs[j]? with
  | none =>
    have hk2 : vs.length ≤ j := List.getElem?_eq_none_iff.mp hkv
    have e0 : (enumVs 0 vs).drop j = [] := List.drop_eq_nil_of_le (by rw [enumVs_length]; exact hk2)
    rw [e0] at hF
    replace hF := forS_n' hF
    refine wpAny_pyNext_enum_end (s := { s with heap := h', toks := tk' }) hro.handled hoe hit' hl' (by rw [List.getElem?_toArray, List.getElem?_eq_none_iff]; lia) fun h₅ he₅ => ?_
    obtain ⟨⟨R₅, x₅⟩, _⟩ := R'.moved (h' := h₅) (fun b o h1 h2 ho => he₅ b o h2 ho) (fun o h => (hnte j o h).2) (fun o h => (hntl j o h).2)
    refine hP _ _ ?_
    exact wpAny_execs_nil (hn _ _ _ h₅ tk' hF R₅ ((x₀₂.trans x').trans x₅))
  | some v =>
    have hk2 : j < vs.length := (List.getElem?_eq_some_iff.mp hkv).1
    have e0 : (enumVs 0 vs).drop j = .tup [.int (j : Int), v] :: (enumVs 0 vs).drop (j + 1) := by
      have hlt : j < (enumVs 0 vs).length := by rw [enumVs_length]; exact hk2
      rw [List.drop_eq_getElem_cons hlt]
      congr 1
      have := enumVs_get (vs := vs) (i := 0) (k := j)
      rw [List.getElem?_eq_getElem hlt, hkv] at this
      simpa using this
    rw [e0] at hF
    replace hF := forS_c' hF
    obtain ⟨val, hvj, hval⟩ := hv'.get hkv
    refine wpAny_pyNext_enum_item (s := { s with heap := h', toks := tk' }) (i := j) hoe hit' hl' (x := val) (by rw [List.getElem?_toArray]; exact hvj) hne fun h₅ heo hit₅ ht₅ hz₅ hk₅ => ?_
    refine hP _ _ ?_
    refine wpAny_letOwnedTupleGo_enum (s := { s with heap := h₅, toks := tk' + 1 }) heo fun h₆ he₆ hs₆ => ?_
    replace hs₆ : Heap.SameBut eA h₅ h₆ := hs₆
    replace hz₅ : h₅.objs.size = h'.objs.size + 1 := hz₅
    have hlt1 : eA < h'.objs.size := Heap.lt_size hoe
    have hlt2 : it < h'.objs.size := Heap.lt_size hoi
    obtain ⟨⟨R₆, x₆⟩, ⟨nm1, nm2⟩, p0, q0⟩ := R'.moved (h' := h₆) (fun b o h1 h2 ho => hs₆.extBut b o h1 (hk₅ b o h1 h2 ho)) (fun o h => (hnte j o h).2) (fun o h => (hntl j o h).2)
    have hit₆ : h₆.IsListIter it l (j + 1) := hit₅.extBut hs₆.extBut (Ne.symm hne)
    obtain ⟨o6, ho6, hc6, hd6⟩ := hit₆
    have R₇ := R₆.withX (p := ⟨it, AtList l (j + 1)⟩) nm2 q0 ho6 ⟨hc6, hd6⟩ (hntl (j + 1) _ ⟨hc6, hd6⟩).1
    have R₈ := R₇.withX (p := ⟨eA, AtEnum it (j + 1)⟩) (by rw [List.map_append, List.map_cons] at nm1 ⊢; exact nm1) p0 he₆ ⟨_, rfl⟩ (hnte (j + 1) _ ⟨_, rfl⟩).1
    have htup : h₆.IsTuple h'.objs.size #[.int j tk', val] := ⟨_, hs₆.extBut _ _ (by show h'.objs.size ≠ eA; lia) ht₅, rfl, 0, rfl⟩
    have hisv : Is h₆ ρ' (.tup [.int (j : Int), v]) (.ref h'.objs.size) := .tup htup (.cons (.int _ _) (.cons (hval.ext x₆) .nil))
    refine ht A _ _ L' H' _ ρ' { s with heap := h₆, toks := tk' + 1 } _ _ _ hro R₈ hisv hF fun L₃ H₃ ρ₃ h₃ tk₃ hq₃ R₃ x₃ => ?_
    refine hg A L₃ H₃ _ ρ₃ _ _ _ _ _ hro R₃ hq₃ (fun L₄ H₄ ρ₄ h₄ tk₄ hq₄ R₄ x₄ => ?_) fun v' L₄ H₄ ρ₄ val' h₄ tk₄ hq₄ R₄ x₄ hv₄ => ?_
    · exact ⟨vs.length - (j + 1), by lia, (hI _ _).mpr ⟨j + 1, L₄, H₄, ρ₄, h₄, tk₄, rfl, hk2, rfl, R₄, ((x'.trans x₆).trans x₃).trans x₄, hq₄.1, hq₄.2⟩⟩
    · obtain ⟨⟨R₅, x₅⟩, _⟩ := R₄.moved (h' := h₄) (fun _ _ _ _ e => e) (fun o h => (hnte _ o h).2) (fun o h => (hntl _ o h).2)
      exact hr _ _ _ _ _ h₄ tk₄ hq₄ R₅ ((((x₀₂.trans x').trans x₆).trans x₃).trans x₄) hv₄
end
section
variable {prog : Program} {w : World} {h₀ : Heap} {n : Nat} {env : Env} {slots : Slots}
theorem drawn_list {A : Around} {E : Value → Shared → Prop} {it l : Addr} {items : Array Value} (hne : l ≠ it) : ∀ (k i : Nat) (s : Shared) (Q : List Value → Shared → Prop), s.heap.IsListIter it l i → s.heap.IsList l items → i + k ≤ items.size →
    (∀ h', h'.IsListIter it l (i + k) → Heap.SameBut it s.heap h' → Q ((items.toList.drop i).take k) { s with heap := h' }) → wpAny (model prog w) A (draw (.ref it) k) Q E s := by
  intro k
  induction k with
  | zero =>
    intro i s Q hit _ _ hQ
    have z := hQ s.heap (by simpa using hit) (Heap.SameBut.refl ..)
    exact wpAny_pure (by simpa using z)
  | succ k ih =>
    intro i s Q hit hl hle hQ
    have hi : i < items.size := by lia
    show wpAny _ _ (pyNext (.ref it) >>= _) Q E s
    refine wpAny_bind (wpAny_pyNext_list_item hit hl (x := items[i]) (by simp [hi]) fun h₁ hit₁ hs₁ => ?_)
    refine wpAny_bind (wpAny_holding (ih (i + 1) _ _ hit₁ (hl.extBut hs₁.extBut hne) (by lia) fun h₂ hit₂ hs₂ => wpAny_pure ?_))
    have e : (items.toList.drop i).take (k + 1) = items[i] :: (items.toList.drop (i + 1)).take k := by
      rw [List.drop_eq_getElem_cons (by simpa using hi), List.take_succ_cons]; simp
    have z := hQ h₂ (by rw [show i + (k + 1) = i + 1 + k by lia]; exact hit₂) (hs₁.trans hs₂)
    rw [e] at z
    exact z
theorem unpacked_list {A : Around} {E : Value → Shared → Prop} {s : Shared} {l : Addr} {items : Array Value} {Q : List Value → Shared → Prop} (hh : A.handled = none) (hl : s.heap.IsList l items)
    (hQ : ∀ h', Heap.ExtBut s.heap.objs.size s.heap h' → Q items.toList { s with heap := h' }) : wpAny (model prog w) A (unpackItems (.ref l) items.size none) Q E s := by
  have hlt : l ≠ s.heap.objs.size := by obtain ⟨o, ho, _⟩ := hl; exact Nat.ne_of_lt (Heap.lt_size ho)
  unfold unpackItems
  refine wpAny_bind ?_
  unfold notIterableAtAll
  refine wpAny_bind (wpAny_specialOf hl.typeIs F.slot_list_iter.lookup (wpAny_pure ?_))
  simp only [Bool.false_eq_true, if_false]
  refine wpAny_bind (wpAny_holding (wpAny_pyIter_list hl ?_))
  have hl1 : (s.heap.push { cls := .type "list_iterator", data := .fields #[.ref l, .int 0 0] }).IsList l items := by
    obtain ⟨o, ho, r⟩ := hl; exact ⟨o, Heap.get?_push_of_some _ ho, r⟩
  refine wpAny_bind (wpAny_holding (drawn_list hlt items.size 0 _ _ ⟨_, Heap.get?_push_size _ rfl, rfl, rfl⟩ hl1 (by lia) fun h₁ hit₁ hs₁ => ?_))
  have hall : List.take items.size (List.drop 0 items.toList) = items.toList := by
    rw [List.drop_zero]; exact List.take_of_length_le (by simp)
  rw [hall, if_neg (by simp)]
  have hl2 : h₁.IsList l items := hl1.extBut hs₁.extBut hlt
  refine wpAny_bind (wpAny_holding (wpAny_pyNext_list_end hh hit₁ hl2 (by simp) fun h₂ he₂ => ?_))
  simp only [Option.isSome_none, Bool.false_eq_true, if_false]
  exact wpAny_pure (hQ h₂ fun b o hb e => he₂ b o hb (hs₁.extBut b o hb (Heap.get?_push_of_some _ e)))
theorem TJ.tupL {elts : List Expr} {x1 : Nat} {pos : Pos} {f : PTs} (hst : (assignEach elts env).findIdx? (·.1) = none) (hf : TsJ prog w h₀ n env slots ((assignEach elts env).map (·.2)) f) :
    TJ prog w h₀ n env slots (PySem.assign (.Tuple elts x1 pos) env) (tTupL (assignEach elts env).length f) := fun A v val L H X ρ s Q Q' E hro R hv hq hp => by
  unfold tTupL at hq
  split at hq
  · rename_i i
    split at hq
    · rename_i vs eo
      replace hq := beq_i hq
      cases hv with
      | @obj _ a ek =>
        obtain ⟨vals, nn, hl, hx⟩ := R.rel.objs _ _ _ eo ek
        have hlen := hx.length
        rw [PySem.arm_assign_Tuple]
        refine wpAny_bind (wpAny_standAt ?_)
        unfold unpack
        rw [hst]
        have e : (assignEach elts env).length = vals.toArray.size := by rw [List.size_toArray]; lia
        rw [e]
        refine wpAny_bind (wpAny_holding (unpacked_list hro.handled (listOf_isList hl) fun h' he => ?_))
        obtain ⟨R', x'⟩ := R.grow (h' := h') fun b o e => he b o (Nat.ne_of_lt (Heap.lt_size e)) e
        exact hf A vs _ L H X ρ _ _ _ E hro R' (hx.ext x') hq.2 fun L₂ H₂ ρ₂ h₂ tk₂ hq₂ R₂ x₂ => hp _ _ _ h₂ tk₂ hq₂ R₂ (x'.trans x₂)
    · exact hq.elim
  · exact hq.elim
noncomputable def pDict2 (a b : Nat) (f g : PE) : PE := fun L H Q => f L H fun u H₁ => g L H₁ fun v H₂ => Q (.obj H₂.length) (H₂ ++ [.dict (fput b v [(a, u)])])
theorem SE.dict2 {x y : Str} {kx ky : Nat} {px py pos : Pos} {e₁ e₂ : Expr} {a b : Nat} {f g : PE} (ha : IsNm x a) (hb : IsNm y b) (h1 : SE prog w h₀ n env slots e₁ f) (h2 : SE prog w h₀ n env slots e₂ g) :
    SE prog w h₀ n env slots (.Dict [some (.Constant (.str x) kx px), some (.Constant (.str y) ky py)] [e₁, e₂] pos) (pDict2 a b f g) := fun A L H X ρ s Q Q' E hro R hq hp => by
  obtain ⟨ha, rfl⟩ := ha
  obtain ⟨hb, rfl⟩ := hb
  refine wpAny_Dict_pairs (knd := strKind prog w) (pairs := [(eval (.Constant (.str (nm a)) kx px) env, do let x ← eval e₁ env; standAt pos; pure x), (eval (.Constant (.str (nm b)) ky py) env, do let x ← eval e₂ env; standAt pos; pure x)]) rfl (by simp) (by simp) ?_
  have hne := get_size_none s.heap
  have e1 : (s.heap.push emptyDict).get? s.heap.objs.size = some emptyDict := Heap.get?_push_size _ rfl
  obtain ⟨ni, n0⟩ := R.rel.notIn hne
  obtain ⟨R₀, x₀⟩ := R.grow (h' := s.heap.push emptyDict) fun b o e => Heap.get?_push_of_some _ e
  have hnt : NonTup emptyDict := fun _ _ _ e => by cases e
  have R₁ := R₀.withX (p := ⟨s.heap.objs.size, fun o => o = emptyDict⟩) ni n0 e1 rfl hnt
  show wpAny _ _ (do
    let kv ← eval (.Constant (.str (nm a)) kx px) env
    let vv ← holding [kv] (do let x ← eval e₁ env; standAt pos; pure x)
    return (kv, vv) :: (← holding [kv, vv] (evalPairs [(eval (.Constant (.str (nm b)) ky py) env, do let x ← eval e₂ env; standAt pos; pure x)]))) _ _ _
  refine wpAny_bind (SE.str (env := env) (slots := slots) (pos := px) (k := kx) a ha rfl A L H _ ρ { s with heap := s.heap.push emptyDict } (fun v H' => v = .str a ∧ H' = H) _ E hro R₁ ⟨rfl, rfl⟩ fun v1 H1 ρ1 k1 hh1 tk1 hq1 R2 x1 hv1 => ?_)
  obtain ⟨rfl, rfl⟩ := hq1
  refine wpAny_bind (wpAny_holding (wpAny_bind (h1 A L H1 _ ρ1 _ _ _ E hro R2 hq fun u H2 ρ2 uval hh2 tk2 hq2 R3 x2 hu => wpAny_bind (wpAny_standAt (wpAny_pure ?_)))))
  refine wpAny_bind (wpAny_holding ?_)
  show wpAny _ _ (do
    let kv ← eval (.Constant (.str (nm b)) ky py) env
    let vv ← holding [kv] (do let x ← eval e₂ env; standAt pos; pure x)
    return (kv, vv) :: (← holding [kv, vv] (evalPairs []))) _ _ _
  refine wpAny_bind (SE.str (env := env) (slots := slots) (pos := py) (k := ky) b hb rfl A L H2 _ ρ2 { s with heap := hh2, toks := tk2 } (fun v H' => v = .str b ∧ H' = H2) _ E hro R3 ⟨rfl, rfl⟩ fun v3 H3 ρ3 k3 hh3 tk3 hq3 R4 x3 hv3 => ?_)
  obtain ⟨rfl, rfl⟩ := hq3
  refine wpAny_bind (wpAny_holding (wpAny_bind (h2 A L H3 _ ρ3 _ _ _ E hro R4 hq2 fun v H4 ρ4 vval hh4 tk4 hq4 R5 x4 hv => wpAny_bind (wpAny_standAt (wpAny_pure ?_)))))
  refine wpAny_bind (wpAny_holding (wpAny_pure (wpAny_pure (wpAny_pure ?_))))
  cases hv1
  cases hv3
  rename_i t1 _ t3
  obtain ⟨od, hod, rfl, _⟩ := R5.rel.extra ⟨s.heap.objs.size, fun o => o = emptyDict⟩ (List.mem_append_right _ (List.mem_cons_self ..))
  dsimp only at hod
  have hd0 : hh4.DictOf (strKind prog w) s.heap.objs.size [] := by
    obtain ⟨o', es', ep', q1, q2⟩ := Heap.DictOf.new (knd := strKind prog w) s.heap
    have q3 : (s.heap.push emptyDict).get? s.heap.objs.size = some o' := q1
    rw [e1] at q3; cases q3
    exact ⟨_, es', ep', hod, q2⟩
  refine ⟨[(nm a, uval), (nm b, vval)], ⟨strKind_is prog w _ _, rfl, strKind_is prog w _ _, rfl, trivial⟩, hd0, fun h' hd hs => ?_⟩
  obtain ⟨R6, x6⟩ := R5.endX (h' := h') hs.extBut (fun o h v q => by subst h; cases q)
  have hperm : (ρ4 ++ (frameX env slots ++ ⟨s.heap.objs.size, fun o => o = emptyDict⟩ :: X).map XE.a).Perm (s.heap.objs.size :: (ρ4 ++ (frameX env slots ++ X).map XE.a)) := by
    rw [List.map_append, List.map_append, List.map_cons, ← List.append_assoc, ← List.append_assoc]
    exact List.perm_middle
  have nd := List.nodup_cons.mp (hperm.nodup_iff.mp R5.rel.nodup)
  have x7 : Ext h' ρ4 h' (ρ4 ++ [s.heap.objs.size]) := ⟨TupKeep.refl _, [_], rfl⟩
  have xu := ((x3.trans x4).trans x6).trans x7
  have kv : KvL h' (ρ4 ++ [s.heap.objs.size]) (fput b v [(a, u)]) (merged [] [(nm a, uval), (nm b, vval)]) :=
    KvL.put (kvs := [(nm a, uval)]) hb ((hv.ext x6).ext x7) (.cons ha (hu.ext xu) .nil) (by simp)
  obtain ⟨R7, x7'⟩ := R6.adopt (o := .dict (fput b v [(a, u)])) nd.1 n0 ⟨_, hd, kv⟩
  exact hp _ _ _ _ h' _ hq4 R7 (((((x₀.trans x1).trans x2).trans x3).trans x4).trans (x6.trans x7')) (.obj (by rw [R6.rel.len]; exact getElem?_append_new _ _))
noncomputable def onlyCell (slots : Slots) (i : Nat) : Bool := (List.range slots.length).all fun j => match slots[j]? with | some (_, .cell) => j == i | _ => true
theorem onlyCell_of {i j : Nat} {x : Str} (h : onlyCell slots i = true) (hj : slots[j]? = some (x, .cell)) : j = i := by
  have := List.all_eq_true.mp h j (List.mem_range.mpr (List.getElem?_eq_some_iff.mp hj).1)
  rw [hj] at this
  simpa using this
theorem TJ.cellF {x : Str} {pos : Pos} {i : Nat} (F : FE env slots) (h : SlotAt slots i x .cell) (hone : onlyCell slots i = true) : TJ prog w h₀ n env slots (PySem.assign (.Name x pos) env) (tLoc i) := fun A v val L H X ρ s Q Q' E hro R hv hq hp => by
  rw [PySem.assign_Name]
  refine wpAny_bind (wpAny_standAt (wpAny_bindName ?_))
  obtain ⟨m, hm, hsl⟩ := id R.fr
  obtain ⟨c, cv, hc, hcell, _⟩ := hsl i x .cell h.get
  refine wpAny_storeName_cell F.kind (F.kindOf h) hc hcell fun h' hc' hs => ?_
  have hin := mem_frameX_cell (env := env) h.get hc
  obtain ⟨Y₁, Y₂, hY⟩ := List.append_of_mem hin
  obtain ⟨oc', hoc', hdc'⟩ := hc'
  have R1 := R.rel.updX (X₁ := Y₁) (p := ⟨c, fun _ => True⟩) (p' := ⟨c, fun _ => True⟩) (X₂ := Y₂ ++ X) (by rw [hY, List.append_assoc]; rfl) rfl hs ⟨oc', hoc', trivial, fun _ _ _ e => by rw [hdc'] at e; cases e⟩
  have x' : Ext s.heap ρ h' ρ := ⟨R1.2, [], (List.append_nil ρ).symm⟩
  have hrel : Rel prog w h₀ h' ρ H (frameX env slots ++ X) := by
    have z := R1.1
    rw [hY, List.append_assoc]; exact z
  have nd := (List.nodup_append.mp R.rel.nodup).2.1
  have hcl : c ≠ env.locals := fun e => by
    have n3 : (env.locals :: (slots.filterMap (ownCell env) ++ X).map XE.a).Nodup := by simpa [frameX] using nd
    have hm1 : (⟨c, fun _ => True⟩ : XE) ∈ slots.filterMap (ownCell env) := List.mem_filterMap.mpr ⟨(x, NameKind.cell), List.mem_of_getElem? h.get, by unfold ownCell; dsimp only; rw [hc]; rfl⟩
    have hm2 : c ∈ (slots.filterMap (ownCell env) ++ X).map XE.a := List.mem_map_of_mem (f := XE.a) (List.mem_append_left X hm1)
    exact (List.nodup_cons.mp n3).1 (e ▸ hm2)
  refine hp _ _ _ h' _ hq ⟨hrel, m, hm.sameBut hs (Ne.symm hcl), fun j y k hj => ?_⟩ x'
  have z := hsl j y k hj
  unfold SlotIs at z ⊢
  split
  · intro u hu
    by_cases hij : i = j
    · subst hij
      rw [h.get] at hj; cases hj
    · rw [lget_set_ne hij] at hu
      obtain ⟨val', a, b⟩ := z u hu
      exact ⟨val', a, b.ext x'⟩
  · have hij : j = i := onlyCell_of hone hj
    subst hij
    rw [h.get] at hj
    cases hj
    refine ⟨c, some val, hc, ⟨oc', hoc', hdc'⟩, fun u hu => ?_⟩
    by_cases hlt : j < L.length
    · rw [lget_set_self hlt] at hu
      cases hu
      exact ⟨val, rfl, hv.ext x'⟩
    · exfalso
      unfold lget at hu
      rw [List.getElem?_eq_none (by rw [List.length_set]; lia)] at hu
      cases hu
  · intro u hu
    by_cases hij : i = j
    · subst hij
      rw [h.get] at hj; cases hj
    · rw [lget_set_ne hij] at hu
      obtain ⟨cc, val', a, b, d⟩ := z u hu
      exact ⟨cc, val', a, b.ext x', d⟩
  · trivial
theorem Rel.withX {h : Heap} {ρ : List Addr} {H : List O} {X : List XE} (R : Rel prog w h₀ h ρ H X) {p : XE} {o : Obj} (hn : p.a ∉ ρ ++ X.map XE.a) (h0 : h₀.get? p.a = none) (ho : h.get? p.a = some o) (hP : p.P o) (hnt : NonTup o) : Rel prog w h₀ h ρ H (p :: X) := by
  have hperm : (ρ ++ (p :: X).map XE.a).Perm (p.a :: (ρ ++ X.map XE.a)) := List.perm_middle
  refine ⟨R.keep, R.len, R.objs, fun b hb => ?_, hperm.nodup_iff.mpr (List.nodup_cons.mpr ⟨hn, R.nodup⟩), fun q hq => ?_⟩
  · rcases List.mem_cons.mp (hperm.mem_iff.mp hb) with rfl | hb
    · exact h0
    · exact R.fresh b hb
  · rcases List.mem_cons.mp hq with rfl | hq
    · exact ⟨o, ho, hP, hnt⟩
    · exact R.extra q hq
theorem IsL.one {h : Heap} {ρ : List Addr} {args : List V} {vals : List Value} (hv : IsL h ρ args vals) (hl : args.length = 1) : ∃ av val, args = [av] ∧ vals = [val] ∧ Is h ρ av val := by
  cases hv with
  | nil => exact Nat.noConfusion hl
  | cons a r => cases r with
    | nil => exact ⟨_, _, rfl, rfl, a⟩
    | cons _ _ => exact Nat.noConfusion (Nat.succ.inj hl)
theorem SFc.ofDef1C {f : Addr} {o : Obj} {fd : FuncData} {body : List Stmt} {x : Str} {names : Slots} {g : PS} (codes : List Nat) (ho : h₀.get? f = some o) (hdata : o.data = .func fd) (hlim : h₀.NoLimit) (hcd : h₀.CodeRec fd.code fd.qualname) (hbody : fd.body = .stmts body)
    (hnames : fd.scope.names = (x, .cell) :: names) (hglob : fd.globals = mainGlobals) (hblt : fd.builtins = builtinsNs) (hclo : fd.closure = [])
    (hbind : ∀ v : Value, bindArgs fd ⟨[v], []⟩ = pure [(x, v)])
    (hcell : (names.all fun x => x.2 == NameKind.globalImplicit) = true)
    (he : ((x, NameKind.cell) :: names).map (fun p => enc p.1) = codes) (hd : nodupB (enc "__debug__" :: codes) = true)
    (hco : fd.scope.isCoroutine = false) (hgen : fd.scope.isGenerator = false) (hk : fd.scope.kind = .function)
    (hS : ∀ (env : Env) (c : Addr), FE env ((x, .cell) :: names) → env.cells.lookup x = some c → SS prog w h₀ n env ((x, .cell) :: names) body g) : SFc prog w h₀ (n + 1) (.ref f) (defSem [x] ((x, .cell) :: names) g) :=
  fun A args vals H X ρ s Q Q' hro R hv hq hp => by
  replace hq := beq_i hq
  obtain ⟨hlen, hq⟩ := hq
  have hvl := hv.length
  have hg' : ∀ p ∈ names, p.2 = NameKind.globalImplicit := fun p hp => by simpa using List.all_eq_true.mp hcell p hp
  have hrl : (((x, NameKind.cell) :: names).map fun p => (p.1, relab p.2)) = (x, NameKind.cell) :: names := by
    rw [List.map_cons]
    congr 1
    conv => rhs; rw [← List.map_id names]
    refine List.map_congr_left fun p hp => ?_
    obtain ⟨y, k⟩ := p
    have : k = .globalImplicit := hg' _ hp
    subst this; rfl
  obtain ⟨av, val, rfl, rfl, hav⟩ := hv.one hlen
  have hcf : ∀ (l : Slots) (k : Nat) (acc : List (Str × Addr)), (∀ p ∈ l, p.2 = NameKind.globalImplicit) → cellsFrom k l acc = acc := by
    intro l
    induction l with
    | nil => intro k acc _; rfl
    | cons p r ih =>
      intro k acc hl
      obtain ⟨y, kk⟩ := p
      have : kk = .globalImplicit := hl (y, kk) (List.mem_cons_self ..)
      subst this
      show cellsFrom k r acc = acc
      exact ih k acc fun p hp => hl p (List.mem_cons_of_mem _ hp)
  have hcs : ∀ k, cellsFrom k fd.scope.names [] = [(x, k)] := fun k => by
    rw [hnames]
    show cellsFrom (k + 1) names [(x, k)] = _
    exact hcf names _ _ hg'
  have F : FE (callEnvC fd s.heap.objs.size f) ((x, .cell) :: names) := FE.of codes (by rw [hrl]; exact hnames) hk hglob hblt he hd
  have hkx : (callEnvC fd s.heap.objs.size f).kindOf x = some .cell := F.kindOf .head
  have hlk : fd.scope.names.lookup x = some .cell := hkx
  refine codeAny_call_cells (by have := hro.depth; lia) (R.keep _ _ ho) hdata (hlim.keeps R.keep) (hcd.keeps R.keep) hbody (hbind val) hclo (fun y hy => ?_) (fun s₁ hI => ?_) hco hgen hk
  · rcases List.mem_cons.mp hy with rfl | hy
    · exact .inr ⟨hlk, by rw [hcs]; simp⟩
    · cases hy
  obtain ⟨⟨⟨h₁, tk₁, rfl⟩, hns, hkp, _⟩, hcells, _, habove⟩ := hI
  generalize hEnv : callEnvC fd s.heap.objs.size f = env at *
  have hloc : env.locals = s.heap.objs.size := by rw [← hEnv]; rfl
  have hcl : env.cells = [(x, s.heap.objs.size + 1)] := by rw [← hEnv]; exact hcs _
  have hlook : env.cells.lookup x = some (s.heap.objs.size + 1) := by rw [hcl]; simp
  have hce := hcells x _ hlook
  have hbc : bindC env.kindOf [(x, val)] (fun _ => none) x = some val := by
    show (if env.kindOf x = some NameKind.local then (fun _ => none) else (fun y => if y = x then some val else none : Str → Option Value)) x = _
    rw [hkx]
    simp
  rw [hbc] at hce
  obtain ⟨oc, hoc, hdc⟩ := hce
  obtain ⟨oL, esL, epL, hoL, hdL, _⟩ := id hns
  dsimp only at hns hoc hoL hkp
  have hX : frameX env ((x, .cell) :: names) = [⟨s.heap.objs.size, fun _ => True⟩, ⟨s.heap.objs.size + 1, fun _ => True⟩] := by
    unfold frameX
    rw [List.filterMap_cons]
    have : ownCell env (x, .cell) = some ⟨s.heap.objs.size + 1, fun _ => True⟩ := by unfold ownCell; dsimp only; rw [hlook]; rfl
    rw [this, hloc]
    dsimp only
    congr 2
    rw [List.filterMap_eq_nil_iff]
    rintro ⟨y, k⟩ hy
    have : k = .globalImplicit := hg' _ hy
    subst this; rfl
  have n1 := R.notIn (get_size_none s.heap)
  have n2 := R.notIn (a := s.heap.objs.size + 1) (by
    cases q : s.heap.get? (s.heap.objs.size + 1) with
    | none => rfl
    | some o => exact absurd (Heap.lt_size q) (Nat.not_lt.mpr (Nat.le_succ _)))
  obtain ⟨R0, x0⟩ := R.growE hkp
  have hntc : NonTup oc := fun _ _ _ e => by rw [hdc] at e; cases e
  have hntL : NonTup oL := fun _ _ _ e => by rw [hdL] at e; cases e
  have R1 := R0.withX (p := ⟨s.heap.objs.size + 1, fun _ => True⟩) n2.1 n2.2 hoc trivial hntc
  have R2 := R1.withX (p := ⟨s.heap.objs.size, fun _ => True⟩) (fun hm => by
    have hperm : (ρ ++ ((⟨s.heap.objs.size + 1, fun _ => True⟩ : XE) :: X).map XE.a).Perm ((s.heap.objs.size + 1) :: (ρ ++ X.map XE.a)) := List.perm_middle
    rcases List.mem_cons.mp (hperm.mem_iff.mp hm) with z | z
    · exact absurd z (Nat.ne_of_lt (Nat.lt_succ_self _))
    · exact n1.1 z) n1.2 (by rw [← hloc]; exact hoL) trivial hntL
  have RF : RelF prog w h₀ env ((x, .cell) :: names) h₁ ρ (initL ((x, NameKind.cell) :: names).length [av]) H X := by
    refine ⟨by rw [hX]; exact R2, _, hns, fun i y k hi => ?_⟩
    cases i with
    | zero =>
      cases hi
      refine ⟨_, _, hlook, ⟨oc, hoc, hdc⟩, fun v hvv => ⟨val, rfl, ?_⟩⟩
      have := lget_initL hvv
      cases this
      exact hav.ext x0
    | succ i =>
      rw [List.getElem?_cons_succ] at hi
      have : k = .globalImplicit := hg' _ (List.mem_of_getElem? hi)
      subst this
      trivial
  refine hS env _ F hlook _ _ H X ρ { s with heap := h₁, toks := tk₁ } _ _ _ _ (hro.deeper _) RF hq (fun L' H' ρ' h' tk' q R' x' => ?_) fun v L' H' ρ' val h' tk' q R' x' hval => ?_
  · exact hp _ _ _ _ h' tk' q (Rel.drops R'.rel) (x0.trans x') .none
  · exact hp _ _ _ _ h' tk' q (Rel.drops R'.rel) (x0.trans x') hval
end
section
variable {prog : Program} {w : World} {h₀ : Heap} {n : Nat} {env : Env} {slots : Slots}
theorem clos0 {scope : Scope} (h : scope.names.all (fun p => !(p.2 == NameKind.free)) = true) : closureFor scope env = pure [] := by
  have : ∀ (l : Slots) (acc : List (Str × Addr)), l.all (fun p => !(p.2 == NameKind.free)) = true → (forIn l acc fun x r => do
      let mut cs := r
      let (name, kind) := x
      if (kind == NameKind.free) = true then do
          let a ← cellOf env name
          pure (ForInStep.yield ((name, a) :: cs))
        else pure (ForInStep.yield cs) : Sem (List (Str × Addr))) = pure acc := by
    intro l
    induction l with
    | nil => intro acc _; rfl
    | cons p r ih =>
      intro acc hl
      rw [List.all_cons, Bool.and_eq_true] at hl
      obtain ⟨x, k⟩ := p
      have hk : (k == NameKind.free) = false := by simpa using hl.1
      rw [List.forIn_cons]
      simp only [hk, Bool.false_eq_true, if_false, pure_bind]
      exact ih acc hl.2
  have z := this scope.names [] h
  unfold closureFor
  simp only [z, bind_pure]
theorem clos3 {scope : Scope} {x : Str} {c : Addr} {p0 p1 : Str × NameKind} (hn : scope.names = [p0, p1, (x, .free)]) (h0 : (p0.2 == NameKind.free) = false) (h1 : (p1.2 == NameKind.free) = false) (hc : env.cells.lookup x = some c) : closureFor scope env = pure [(x, c)] := by
  obtain ⟨a0, b0⟩ := p0
  obtain ⟨a1, b1⟩ := p1
  unfold closureFor
  rw [hn]
  have e0 : ¬ b0 = NameKind.free := by simpa using h0
  have e1 : ¬ b1 = NameKind.free := by simpa using h1
  simp [e0, e1, cellOf, hc]
theorem clos4 {scope : Scope} {x : Str} {c : Addr} {p0 p1 p2 : Str × NameKind} (hn : scope.names = [p0, p1, p2, (x, .free)]) (h0 : (p0.2 == NameKind.free) = false) (h1 : (p1.2 == NameKind.free) = false) (h2 : (p2.2 == NameKind.free) = false) (hc : env.cells.lookup x = some c) : closureFor scope env = pure [(x, c)] := by
  obtain ⟨a0, b0⟩ := p0
  obtain ⟨a1, b1⟩ := p1
  obtain ⟨a2, b2⟩ := p2
  unfold closureFor
  rw [hn]
  have e0 : ¬ b0 = NameKind.free := by simpa using h0
  have e1 : ¬ b1 = NameKind.free := by simpa using h1
  have e2 : ¬ b2 = NameKind.free := by simpa using h2
  simp [e0, e1, e2, cellOf, hc]
theorem freeOne_of {names : Slots} {x : Str} (h : names.filter (fun p => p.2 == NameKind.free) = [(x, NameKind.free)]) : ∀ p ∈ names, p.2 = NameKind.free → p.1 = x := fun p hp e => by
  have : p ∈ names.filter (fun p => p.2 == NameKind.free) := List.mem_filter.mpr ⟨hp, by rw [e]; rfl⟩
  rw [h] at this
  rcases List.mem_cons.mp this with rfl | h'
  · rfl
  · cases h'
noncomputable def okKind : NameKind → Bool
  | .local => true
  | .free => true
  | .globalImplicit => true
  | _ => false
noncomputable def srcK (i : Nat) : NameKind → Option Nat
  | .free => some i
  | _ => none
noncomputable def srcOf (i : Nat) (names : Slots) : List (Option Nat) := names.map fun p => srcK i p.2
theorem SE.compC {elt target iter : Expr} {scope : Scope} {pos : Pos} {c : Addr} {x : Str} {i : Nat} {inames : Slots} {f : PI} {t : PT} {g : PE} (codes : List Nat) (F : FE env slots) (hx : SlotAt slots i x .cell) (hcx : env.cells.lookup x = some c) (hnm : scope.names = inames) (hi : SIt prog w h₀ n env slots iter f)
    (hclos : closureFor scope env = pure [(x, c)]) (hkind : scope.kind = .function) (hok : inames.all (fun p => okKind p.2) = true) (hfree : ∀ p ∈ inames, p.2 = .free → p.1 = x)
    (he : inames.map (fun p => enc p.1) = codes) (hd : nodupB (enc "__debug__" :: codes) = true)
    (ht : ∀ ienv : Env, FE ienv inames → TJ prog w h₀ n ienv inames (PySem.assign target ienv) t) (hg : ∀ ienv : Env, FE ienv inames → SE prog w h₀ n ienv inames elt g)
    (hs : ∀ x, foldedSetIterable iter env x = pure x) (hlt : ∀ it v, letOwnedTupleGo target it v = pure ()) :
    SE prog w h₀ n env slots (.ListComp elt [⟨target, iter, [], 0⟩] scope pos) (pComp (srcOf i inames) f t g) := by
  have hcellk := F.kindOf hx
  have hrl : (relabel scope env).names = inames.map fun p => (p.1, relab p.2) := by
    show (scope.names.map fun (n, k) => if (k == NameKind.free && env.scope.kind == ScopeKind.function && env.kindOf n == some NameKind.cell) then (n, NameKind.cell) else (n, k)) = _
    rw [hnm]
    refine List.map_congr_left fun p hp => ?_
    obtain ⟨y, k⟩ := p
    have h1 := List.all_eq_true.mp hok (y, k) hp
    have h2 := hfree (y, k) hp
    cases k <;> first | rfl | (exact absurd h1 (by decide)) | skip
    have : y = x := h2 rfl
    subst this
    simp only [F.kind, hcellk, relab]
    rfl
  have FI : ∀ C, FE (compEnvC scope [(x, c)] C env) inames := fun C => F.comp hkind codes hrl he hd
  have nd := (FI 0).nodup
  refine SE.listComp (srcOf i inames) hi hclos hkind (fun y hy => ?_) (fun y hy hl => ?_) (fun j y k hj => ?_) (fun C => ht _ (FI C)) (fun C => hg _ (FI C)) hs hlt
  · rw [hnm] at hy
    have := List.all_eq_true.mp hok y hy
    intro e
    rw [e] at this; cases this
  · rw [hnm] at hy ⊢
    obtain ⟨j, hj, rfl⟩ := List.mem_iff_getElem.mp hy
    refine lookup_of_nodup (i := j) nd ?_
    rw [List.getElem?_eq_getElem hj, ← hl]
  · have h1 := List.all_eq_true.mp hok (y, k) (List.mem_of_getElem? hj)
    have h2 := hfree (y, k) (List.mem_of_getElem? hj)
    have h3 : (srcOf i inames)[j]? = some (srcK i k) := by
      unfold srcOf
      rw [List.getElem?_map, hj]; rfl
    cases k <;> first | (cases (show false = true from h1)) | skip
    · exact .inl ⟨rfl, h3⟩
    · have : y = x := h2 rfl
      subst this
      refine .inr (.inl ⟨rfl, i, h3, hx.get, ?_⟩)
      rw [hcx]; simp
    · exact .inr (.inr rfl)
theorem SE.compN {elt target iter : Expr} {scope : Scope} {pos : Pos} {inames : Slots} {f : PI} {t : PT} {g : PE} (codes : List Nat) (F : FE env slots) (hnm : scope.names = inames) (hi : SIt prog w h₀ n env slots iter f)
    (hkind : scope.kind = .function) (hok : inames.all (fun p => okKind p.2 && !(p.2 == NameKind.free)) = true)
    (he : inames.map (fun p => enc p.1) = codes) (hd : nodupB (enc "__debug__" :: codes) = true)
    (ht : ∀ ienv : Env, FE ienv inames → TJ prog w h₀ n ienv inames (PySem.assign target ienv) t) (hg : ∀ ienv : Env, FE ienv inames → SE prog w h₀ n ienv inames elt g)
    (hs : ∀ x, foldedSetIterable iter env x = pure x) (hlt : ∀ it v, letOwnedTupleGo target it v = pure ()) :
    SE prog w h₀ n env slots (.ListComp elt [⟨target, iter, [], 0⟩] scope pos) (pComp (srcOf 0 inames) f t g) := by
  have hok' : ∀ p ∈ inames, okKind p.2 = true ∧ p.2 ≠ .free := fun p hp => by
    have := List.all_eq_true.mp hok p hp
    simpa using this
  have hrl : (relabel scope env).names = inames.map fun p => (p.1, relab p.2) := by
    show (scope.names.map fun (n, k) => if (k == NameKind.free && env.scope.kind == ScopeKind.function && env.kindOf n == some NameKind.cell) then (n, NameKind.cell) else (n, k)) = _
    rw [hnm]
    refine List.map_congr_left fun p hp => ?_
    obtain ⟨y, k⟩ := p
    have h1 := hok' (y, k) hp
    cases k <;> first | rfl | exact absurd rfl h1.2
  have FI : ∀ C, FE (compEnvC scope [] C env) inames := fun C => F.comp hkind codes hrl he hd
  have nd := (FI 0).nodup
  refine SE.listComp (cl := []) (srcOf 0 inames) hi (clos0 (by
    rw [hnm, List.all_eq_true]
    intro p hp
    have := (hok' p hp).2
    simpa using this)) hkind (fun y hy => ?_) (fun y hy hl => ?_) (fun j y k hj => ?_) (fun C => ht _ (FI C)) (fun C => hg _ (FI C)) hs hlt
  · rw [hnm] at hy
    have := (hok' y hy).1
    intro e
    rw [e] at this; cases this
  · rw [hnm] at hy ⊢
    obtain ⟨j, hj, rfl⟩ := List.mem_iff_getElem.mp hy
    refine lookup_of_nodup (i := j) nd ?_
    rw [List.getElem?_eq_getElem hj, ← hl]
  · have h1 := hok' (y, k) (List.mem_of_getElem? hj)
    have h3 : (srcOf 0 inames)[j]? = some (srcK 0 k) := by
      unfold srcOf
      rw [List.getElem?_map, hj]; rfl
    cases k <;> first | (cases (show false = true from h1.1)) | (exact absurd rfl h1.2) | skip
    · exact .inl ⟨rfl, h3⟩
    · exact .inr (.inr rfl)
end
section
variable (prog : Program) (w : World) (h₀ : Heap) (n : Nat) (env : Env) (slots : Slots)
structure WE (e : Expr) (f : PE) : Prop where h : SE prog w h₀ n env slots e f
structure WL (es : List Expr) (f : PL) : Prop where
  h : ∀ pos, SL prog w h₀ n env slots pos es f
  pl : es.any isStarE = false
structure WT (e : Expr) (f : PB) : Prop where h : ST prog w h₀ n env slots e f
structure WA (es : List Expr) (op : BoolOp) (f : PB) : Prop where h : SA prog w h₀ n env slots es op f
structure WX (st : Stmt) (f : PS) : Prop where h : SX prog w h₀ n env slots st f
structure WS (b : List Stmt) (f : PS) : Prop where h : SS prog w h₀ n env slots b f
structure WJ (t : Expr) (f : PT) : Prop where h : TJ prog w h₀ n env slots (PySem.assign t env) f
structure WJs (k : Nat) (ts : List Expr) (f : PTs) : Prop where
  h : TsJ prog w h₀ n env slots ((assignEach ts env).map (·.2)) f
  st : (assignEach ts env).findIdx? (·.1) = none
  len : (assignEach ts env).length = k
structure WI (e : Expr) (f : PI) : Prop where h : SIt prog w h₀ n env slots e f
structure WF (f : Value) (g : PF) : Prop where h : SFv prog w h₀ n f g
end
noncomputable def noSet (e : Expr) : Bool := !Nat.beq e.ctorIdx 7
theorem marks_noSet {op : CmpOp} {e : Expr} (h : noSet e = true) : behindInMarks op e = false := by
  cases e <;> first | exact rfl | exact Bool.noConfusion h
noncomputable def noSlice (e : Expr) : Bool := !Nat.beq e.ctorIdx 26
theorem sub_noSlice {e : Expr} (h : noSlice e = true) (a b : Value) : subscripted e false a b = operate [a, b] (getItem a b) := by
  cases e <;> first | exact rfl | exact Bool.noConfusion h
noncomputable def plainT (e : Expr) : Bool := !(Nat.beq e.ctorIdx 3 || Nat.beq e.ctorIdx 0 || Nat.beq e.ctorIdx 5 || Nat.beq e.ctorIdx 15)
theorem true_plain {e : Expr} {env : Env} (h : plainT e = true) : isTrue e env (eval e env) = (do let v ← eval e env; standAt e.pos; holding [v] (truthy v)) := by
  cases e <;> first | exact rfl | exact Bool.noConfusion h
theorem star_cons {e : Expr} {es : List Expr} {env : Env} (h : isStarE e = false) : starEach (e :: es) env = (false, eval e env) :: starEach es env := by
  cases e <;> first | exact rfl | exact Bool.noConfusion h
theorem star_none {pos : Pos} {env : Env} : ∀ {es : List Expr}, es.any isStarE = false → (backTo pos (starEach es env)).any (·.1) = false
  | [], _ => rfl
  | e :: es, h => by
    rw [List.any_cons, Bool.or_eq_false_iff] at h
    rw [star_cons h.1]
    have := star_none (pos := pos) (env := env) h.2
    unfold backTo at this ⊢
    rw [List.map_cons, List.any_cons, this]; rfl
theorem asg_cons {e : Expr} {es : List Expr} {env : Env} (h : isStarE e = false) : assignEach (e :: es) env = (false, PySem.assign e env) :: assignEach es env := by
  cases e <;> first | exact rfl | exact Bool.noConfusion h
theorem set_noSet {e : Expr} {env : Env} (h : noSet e = true) (x : Value) : foldedSetIterable e env x = pure x := by
  cases e <;> first | exact rfl | exact Bool.noConfusion h
noncomputable def noComp (e : Expr) : Bool := !(Nat.beq e.ctorIdx 8 || Nat.beq e.ctorIdx 9 || Nat.beq e.ctorIdx 10)
noncomputable def noTup (e : Expr) : Bool := !(Nat.beq e.ctorIdx 24 || Nat.beq e.ctorIdx 25)
theorem swaps_no {t value : Expr} {l : Nat} {env : Env} (h : (noComp value || !isNameE t) = true) : swapsWithSole [t] value l env = pure false := by
  cases value <;> first | exact rfl | skip
  all_goals cases t <;> first | exact rfl | exact Bool.noConfusion h
theorem stores_no {t value : Expr} {env : Env} (h : (noTup t || !Nat.beq value.ctorIdx 25) = true) : swappedStores [t] value env = pure none := by
  cases t <;> first | exact rfl | skip
  all_goals (cases value <;> first | exact rfl | exact Bool.noConfusion h)
theorem stores_long {ts vs : List Expr} {x y : Nat} {p q : Pos} {env : Env} (h : (ts.length == 2 || ts.length == 3) = false) : swappedStores [.Tuple ts x p] (.Tuple vs y q) env = pure none := by
  unfold swappedStores
  dsimp only
  rw [h]; rfl
section
variable {prog : Program} {w : World} {h₀ : Heap} {n : Nat} {env : Env} {slots : Slots}
theorem WE.int (i : Int) (k : Nat) (pos : Pos) : WE prog w h₀ n env slots (.Constant (.int i) k pos) (pV (.int i)) := ⟨SE.int i k pos⟩
theorem WE.bool (b : Bool) (k : Nat) (pos : Pos) : WE prog w h₀ n env slots (.Constant (.bool b) k pos) (pV (.bool b)) := ⟨SE.bool b k pos⟩
theorem WE.str {x : Str} {kk : Nat} {pos : Pos} {c : Nat} (g : IsNm x c) : WE prog w h₀ n env slots (.Constant (.str x) kk pos) (pV (.str c)) := ⟨SE.strF g⟩
theorem WE.loc {x : Str} {pos : Pos} {i : Nat} (F : FE env slots) (h : SlotAt slots i x .local) : WE prog w h₀ n env slots (.Name x pos) (pLoc i) := ⟨SE.locF F h⟩
theorem WE.cell {x : Str} {pos : Pos} {i : Nat} (F : FE env slots) (h : SlotAt slots i x .cell) : WE prog w h₀ n env slots (.Name x pos) (pLoc i) := ⟨SE.cellF F h⟩
theorem WE.free {x : Str} {pos : Pos} {i : Nat} (F : FE env slots) (h : SlotAt slots i x .free) : WE prog w h₀ n env slots (.Name x pos) (pLoc i) := ⟨SE.freeF F h⟩
theorem WE.glob {x : Str} {pos : Pos} {i : Nat} {v : V} (F : FE env slots) (g : GlobIs h₀ x v) (h : SlotAt slots i x .globalImplicit) : WE prog w h₀ n env slots (.Name x pos) (pV v) := ⟨SE.globF F g h⟩
theorem WE.blt {x : Str} {pos : Pos} {i : Nat} {val : Value} (F : FE env slots) (g : BuiltIs h₀ x val) (h : SlotAt slots i x .globalImplicit) : WE prog w h₀ n env slots (.Name x pos) (pV (.raw val)) := ⟨SE.builtinF F g h⟩
theorem WE.bin {op : Operator} {l r : Expr} {pos : Pos} {f g : PE} (hl : WE prog w h₀ n env slots l f) (hr : WE prog w h₀ n env slots r g) : WE prog w h₀ n env slots (.BinOp l op r pos) (pBin op f g) := ⟨SE.bin hl.h hr.h⟩
theorem WE.binX {op : Operator} {l r : Expr} {pos : Pos} {f g : PE} (hl : WE prog w h₀ n env slots l f) (hr : WE prog w h₀ n env slots r g) : WE prog w h₀ n env slots (.BinOp l op r pos) (pBinX op f g) := ⟨SE.binX hl.h hr.h⟩
theorem WE.neg {e : Expr} {pos : Pos} {f : PE} (he : WE prog w h₀ n env slots e f) : WE prog w h₀ n env slots (.UnaryOp .USub e pos) (pNeg f) := ⟨SE.neg he.h⟩
theorem WE.attr {x y : Str} {C : Addr} {k : Nat} {np pos : Pos} {f : PE} (g : AttrG prog w h₀ x C k) (he : WE prog w h₀ n env slots (.Name y np) f) : WE prog w h₀ n env slots (.Attribute (.Name y np) x pos) (pAttr C k f) := ⟨SE.attrF g he.h rfl⟩
theorem WE.sub {value slice : Expr} {pos : Pos} {f g : PE} (hv : WE prog w h₀ n env slots value f) (hi : WE prog w h₀ n env slots slice g) (hs : noSlice slice = true) : WE prog w h₀ n env slots (.Subscript value slice pos) (pSub f g) := ⟨SE.sub hv.h hi.h (sub_noSlice hs)⟩
theorem WE.subL {value slice : Expr} {pos : Pos} {a : Addr} {xs : List Int} {g : PE} (hv : WE prog w h₀ n env slots value (pV (.raw (.ref a)))) (ht : TabList h₀ a xs) (hlen : xs.length < 2 ^ 62) (hi : WE prog w h₀ n env slots slice g) (hs : noSlice slice = true) : WE prog w h₀ n env slots (.Subscript value slice pos) (pSubL xs g) := ⟨SE.subL hv.h ht hlen hi.h (sub_noSlice hs)⟩
theorem WE.subD {value slice : Expr} {pos : Pos} {a : Addr} {kvs : List (Nat × Int)} {g : PE} (hv : WE prog w h₀ n env slots value (pV (.raw (.ref a)))) (ht : TabDict prog w h₀ a kvs) (hi : WE prog w h₀ n env slots slice g) (hs : noSlice slice = true) : WE prog w h₀ n env slots (.Subscript value slice pos) (pSubD kvs g) := ⟨SE.subD hv.h ht hi.h (sub_noSlice hs)⟩
theorem WE.sliceTop {x : Str} {np p pos : Pos} {kk : Nat} {cpos : Pos} {l : Addr} {vals : List Value} {xs : List Int} {f : PE} (k : Nat) (hl : h₀.IsList l vals.toArray) (hi : IntsAre vals xs) (hlen : vals.length ≤ 1048576) (hv : WE prog w h₀ n env slots (.Name x np) f) : WE prog w h₀ n env slots (.Subscript (.Name x np) (.Slice none (some (.Constant (.int k) kk cpos)) none p) pos) (pSliceTop l xs k f) := ⟨SE.sliceTop k hl hi hlen hv.h (fun _ _ => rfl)⟩
theorem WL.nil : WL prog w h₀ n env slots [] plNil := ⟨fun pos => SL.nil pos, rfl⟩
theorem WL.cons {e : Expr} {es : List Expr} {f : PE} {g : PL} (he : WE prog w h₀ n env slots e f) (hes : WL prog w h₀ n env slots es g) (hs : isStarE e = false) : WL prog w h₀ n env slots (e :: es) (plCons f g) := ⟨fun pos => SL.cons he.h (hes.h pos) (star_cons hs), by rw [List.any_cons, hs, hes.pl]; rfl⟩
theorem WE.call {x : Str} {np pos : Pos} {args : List Expr} {f : Value} {g : PL} {sem : PF} (hf : WE prog w h₀ n env slots (.Name x np) (pV (.raw f))) (hk : KeepOk prog w h₀ f) (hS : WF prog w h₀ n f sem) (ha : WL prog w h₀ n env slots args g) : WE prog w h₀ n env slots (.Call (.Name x np) args [] pos) (pCall sem g) := ⟨SE.call hf.h hk hS.h (ha.h pos) (star_none ha.pl)⟩
theorem WE.callB {x : Str} {np pos : Pos} {args : List Expr} {id : String} {g : PL} {sem : PF} (hf : WE prog w h₀ n env slots (.Name x np) (pV (.raw (.builtin id)))) (hS : WF prog w h₀ n (.builtin id) sem) (ha : WL prog w h₀ n env slots args g) : WE prog w h₀ n env slots (.Call (.Name x np) args [] pos) (pCall sem g) := ⟨SE.callB hf.h hS.h (ha.h pos) (star_none ha.pl)⟩
theorem WE.callT {x : Str} {np pos : Pos} {args : List Expr} {T : String} {g : PL} {sem : PF} (hf : WE prog w h₀ n env slots (.Name x np) (pV (.raw (.type T)))) (hS : WF prog w h₀ n (.type T) sem) (ha : WL prog w h₀ n env slots args g) : WE prog w h₀ n env slots (.Call (.Name x np) args [] pos) (pCall sem g) := ⟨SE.callT hf.h hS.h (ha.h pos) (star_none ha.pl)⟩
theorem WE.call2 {x : Str} {np pos : Pos} {args : List Expr} {i : Nat} {g : PL} {a b : Addr} {sa sb : PF} (hf : WE prog w h₀ n env slots (.Name x np) (pLoc i)) (ka : KeepOk prog w h₀ (.ref a)) (kb : KeepOk prog w h₀ (.ref b)) (hA : WF prog w h₀ n (.ref a) sa) (hB : WF prog w h₀ n (.ref b) sb) (ha : WL prog w h₀ n env slots args g) :
    WE prog w h₀ n env slots (.Call (.Name x np) args [] pos) (pCallV i [(a, sa), (b, sb)] g) := ⟨SE.callV hf.h (fun p hp => by
      rcases List.mem_cons.mp hp with rfl | hp
      · exact ka
      · rcases List.mem_cons.mp hp with rfl | hp
        · exact kb
        · cases hp) (fun p hp => by
      rcases List.mem_cons.mp hp with rfl | hp
      · exact hA.h
      · rcases List.mem_cons.mp hp with rfl | hp
        · exact hB.h
        · cases hp) (ha.h pos) (star_none ha.pl)⟩
theorem WE.tup {elts : List Expr} {x1 : Nat} {pos : Pos} {g : PL} (hg : WL prog w h₀ n env slots elts g) : WE prog w h₀ n env slots (.Tuple elts x1 pos) (pTup g) := ⟨SE.tup (hg.h pos)⟩
theorem WE.list {elts : List Expr} {pos : Pos} {g : PL} (hg : WL prog w h₀ n env slots elts g) : WE prog w h₀ n env slots (.List elts pos) (pList g) := ⟨SE.list (hg.h pos)⟩
theorem WE.and2 {x y : Expr} {pos : Pos} {f g : PE} (hx : WE prog w h₀ n env slots x f) (hy : WE prog w h₀ n env slots y g) : WE prog w h₀ n env slots (.BoolOp .And [x, y] pos) (pAnd2 f g) := ⟨SE.and2 hx.h hy.h⟩
theorem WE.cmp {op : CmpOp} {l r : Expr} {pos : Pos} {f g : PE} (hl : WE prog w h₀ n env slots l f) (hr : WE prog w h₀ n env slots r g) (hm : noSet r = true) : WE prog w h₀ n env slots (.Compare l [op] [r] pos) (pCmp op f g) := ⟨SE.cmp hl.h hr.h (marks_noSet hm)⟩
theorem WE.ifExp {c a b : Expr} {pos : Pos} {fc : PB} {f g : PE} (hc : WT prog w h₀ n env slots c fc) (ha : WE prog w h₀ n env slots a f) (hb : WE prog w h₀ n env slots b g) : WE prog w h₀ n env slots (.IfExp c a b pos) (pIf fc f g) := ⟨SE.ifExp hc.h ha.h hb.h⟩
noncomputable def IsI (f : PE) (i : Int) : Prop := ∀ L H (Q : V → List O → Prop), Q (.int i) H → f L H Q
theorem IsI.v (i : Int) : IsI (pV (.int i)) i := fun _ _ _ h => h
theorem IsI.neg {f : PE} {i : Int} (h : IsI f i) : IsI (pNeg f) (-i) := fun L H Q q => h L H _ q
theorem IsI.sub {f g : PE} {i j : Int} (h : IsI f i) (h' : IsI g j) : IsI (pBin .Sub f g) (i - j) := fun L H Q q => h L H _ (h' L H _ q)
theorem WE.ifInt {c a b : Expr} {pos : Pos} {fc : PB} {i j : Int} {f g : PE} (hc : WT prog w h₀ n env slots c fc) (ha : WE prog w h₀ n env slots a f) (hb : WE prog w h₀ n env slots b g) (hf : IsI f i) (hg : IsI g j) : WE prog w h₀ n env slots (.IfExp c a b pos) (pIfI fc i j) := ⟨SE.ifInt hc.h ha.h hb.h hf hg⟩
theorem WE.append {o elt : Expr} {apos pos : Pos} {f g : PE} (ho : WE prog w h₀ n env slots o f) (he : WE prog w h₀ n env slots elt g) (hbase : ∀ wh, attributeBase o "append" env wh = wh) (hline : (apos.endLine == pos.line) = true) (hst : isStarE elt = false) : WE prog w h₀ n env slots (.Call (.Attribute o "append" apos) [elt] [] pos) (pAppend f g) := ⟨SE.append ho.h he.h (hbase _) hline (by rw [star_cons hst]; rfl)⟩
theorem WE.pop0 {o elt : Expr} {apos pos : Pos} {f g : PE} (ho : WE prog w h₀ n env slots o f) (he : WE prog w h₀ n env slots elt g) (hbase : ∀ wh, attributeBase o "pop" env wh = wh) (hline : (apos.endLine == pos.line) = true) (hst : isStarE elt = false) : WE prog w h₀ n env slots (.Call (.Attribute o "pop" apos) [elt] [] pos) (pPop0 f g) := ⟨SE.pop0 ho.h he.h (hbase _) hline (by rw [star_cons hst]; rfl)⟩
theorem base_attr {e : Expr} {x y : Str} {p : Pos} (wh : Sem Value) : attributeBase (.Attribute e x p) y env wh = wh := rfl
theorem WE.dict2 {x y : Str} {kx ky : Nat} {px py pos : Pos} {e₁ e₂ : Expr} {a b : Nat} {f g : PE} (ha : IsNm x a) (hb : IsNm y b) (h1 : WE prog w h₀ n env slots e₁ f) (h2 : WE prog w h₀ n env slots e₂ g) : WE prog w h₀ n env slots (.Dict [some (.Constant (.str x) kx px), some (.Constant (.str y) ky py)] [e₁, e₂] pos) (pDict2 a b f g) := ⟨SE.dict2 ha hb h1.h h2.h⟩
theorem name_lt {x : Str} {p : Pos} (it v : Value) : letOwnedTupleGo (.Name x p) it v = pure () := rfl
theorem WE.compC {elt iter : Expr} {ty : Str} {tp : Pos} {scope : Scope} {pos : Pos} {c : Addr} {x : Str} {i : Nat} {inames : Slots} {f : PI} {t : PT} {g : PE} (codes : List Nat) (F : FE env slots) (hx : SlotAt slots i x .cell) (hcx : env.cells.lookup x = some c) (hnm : scope.names = inames) (hi : WI prog w h₀ n env slots iter f)
    (hclos : closureFor scope env = pure [(x, c)]) (hkind : scope.kind = .function) (hok : inames.all (fun p => okKind p.2) = true) (hfree : ∀ p ∈ inames, p.2 = .free → p.1 = x)
    (he : inames.map (fun p => enc p.1) = codes) (hd : nodupB (enc "__debug__" :: codes) = true)
    (ht : ∀ ienv : Env, FE ienv inames → WJ prog w h₀ n ienv inames (.Name ty tp) t) (hg : ∀ ienv : Env, FE ienv inames → WE prog w h₀ n ienv inames elt g) (hs : noSet iter = true) :
    WE prog w h₀ n env slots (.ListComp elt [⟨.Name ty tp, iter, [], 0⟩] scope pos) (pComp (srcOf i inames) f t g) :=
  ⟨SE.compC codes F hx hcx hnm hi.h hclos hkind hok hfree he hd (fun e Fe => (ht e Fe).h) (fun e Fe => (hg e Fe).h) (set_noSet hs) name_lt⟩
theorem WE.compN {elt iter : Expr} {ty : Str} {tp : Pos} {scope : Scope} {pos : Pos} {inames : Slots} {f : PI} {t : PT} {g : PE} (codes : List Nat) (F : FE env slots) (hnm : scope.names = inames) (hi : WI prog w h₀ n env slots iter f)
    (hkind : scope.kind = .function) (hok : inames.all (fun p => okKind p.2 && !(p.2 == NameKind.free)) = true)
    (he : inames.map (fun p => enc p.1) = codes) (hd : nodupB (enc "__debug__" :: codes) = true)
    (ht : ∀ ienv : Env, FE ienv inames → WJ prog w h₀ n ienv inames (.Name ty tp) t) (hg : ∀ ienv : Env, FE ienv inames → WE prog w h₀ n ienv inames elt g) (hs : noSet iter = true) :
    WE prog w h₀ n env slots (.ListComp elt [⟨.Name ty tp, iter, [], 0⟩] scope pos) (pComp (srcOf 0 inames) f t g) :=
  ⟨SE.compN codes F hnm hi.h hkind hok he hd (fun e Fe => (ht e Fe).h) (fun e Fe => (hg e Fe).h) (set_noSet hs) name_lt⟩
theorem WT.val {e : Expr} {f : PE} (he : WE prog w h₀ n env slots e f) (hp : plainT e = true) : WT prog w h₀ n env slots e (bVal f) := ⟨ST.val he.h (true_plain hp)⟩
theorem WT.cmp {op : CmpOp} {l r : Expr} {pos : Pos} {f g : PE} (hl : WE prog w h₀ n env slots l f) (hr : WE prog w h₀ n env slots r g) (hm : noSet r = true) : WT prog w h₀ n env slots (.Compare l [op] [r] pos) (bCmp op f g) := ⟨ST.cmp hl.h hr.h (marks_noSet hm)⟩
theorem WT.not {e : Expr} {pos : Pos} {f : PB} (he : WT prog w h₀ n env slots e f) : WT prog w h₀ n env slots (.UnaryOp .Not e pos) (bNot f) := ⟨ST.not he.h⟩
theorem WT.boolOp {op : BoolOp} {es : List Expr} {pos : Pos} {f : PB} (he : WA prog w h₀ n env slots es op f) : WT prog w h₀ n env slots (.BoolOp op es pos) f := ⟨ST.boolOp he.h⟩
theorem WT.neSame {l r : Expr} {pos : Pos} {f g : PE} (hl : WE prog w h₀ n env slots l f) (hr : WE prog w h₀ n env slots r g) (hm : noSet r = true) : WT prog w h₀ n env slots (.Compare l [.NotEq] [r] pos) (bNeSame f g) := ⟨ST.neSame hl.h hr.h (marks_noSet hm)⟩
theorem WT.in_ {l r : Expr} {pos : Pos} {f g : PE} (hl : WE prog w h₀ n env slots l f) (hr : WE prog w h₀ n env slots r g) (hm : noSet r = true) : WT prog w h₀ n env slots (.Compare l [.In] [r] pos) (bIn f g) := ⟨ST.in_ hl.h hr.h (marks_noSet hm)⟩
theorem WT.chain {l r₁ r₂ : Expr} {op₁ op₂ : CmpOp} {pos : Pos} {f g k : PE} (hl : WE prog w h₀ n env slots l f) (hr₁ : WE prog w h₀ n env slots r₁ g) (hr₂ : WE prog w h₀ n env slots r₂ k) (hm : noSet r₂ = true) : WT prog w h₀ n env slots (.Compare l [op₁, op₂] [r₁, r₂] pos) (bChain op₁ op₂ f g k) := ⟨ST.chain hl.h hr₁.h hr₂.h (marks_noSet hm)⟩
theorem WA.andNil : WA prog w h₀ n env slots [] .And bAndNil := ⟨SA.andNil⟩
theorem WA.orNil : WA prog w h₀ n env slots [] .Or bOrNil := ⟨SA.orNil⟩
theorem WA.and {e : Expr} {es : List Expr} {f g : PB} (he : WT prog w h₀ n env slots e f) (hes : WA prog w h₀ n env slots es .And g) : WA prog w h₀ n env slots (e :: es) .And (bAnd f g) := ⟨SA.and he.h hes.h⟩
theorem WA.or {e : Expr} {es : List Expr} {f g : PB} (he : WT prog w h₀ n env slots e f) (hes : WA prog w h₀ n env slots es .Or g) : WA prog w h₀ n env slots (e :: es) .Or (bOr f g) := ⟨SA.or he.h hes.h⟩
theorem WJ.name {x : Str} {pos : Pos} {i : Nat} (F : FE env slots) (h : SlotAt slots i x .local) : WJ prog w h₀ n env slots (.Name x pos) (tLoc i) := ⟨TJ.nameF F h⟩
theorem WJ.cell {x : Str} {pos : Pos} {i : Nat} (F : FE env slots) (h : SlotAt slots i x .cell) (ho : onlyCell slots i = true) : WJ prog w h₀ n env slots (.Name x pos) (tLoc i) := ⟨TJ.cellF F h ho⟩
theorem WJ.attr {x : Str} {C : Addr} {k : Nat} {o : Expr} {pos : Pos} {f : PE} (g : AttrG prog w h₀ x C k) (ho : WE prog w h₀ n env slots o f) : WJ prog w h₀ n env slots (.Attribute o x pos) (tAttr C k f) := ⟨TJ.attrF g ho.h⟩
theorem WJ.sub {o i : Expr} {pos : Pos} {f g : PE} (ho : WE prog w h₀ n env slots o f) (hi : WE prog w h₀ n env slots i g) : WJ prog w h₀ n env slots (.Subscript o i pos) (tSub f g) := ⟨TJ.sub ho.h hi.h⟩
theorem WJs.nil : WJs prog w h₀ n env slots 0 [] tsNil := ⟨TsJ.nil, rfl, rfl⟩
theorem WJs.cons {k : Nat} {t : Expr} {ts : List Expr} {f : PT} {g : PTs} (ht : WJ prog w h₀ n env slots t f) (hts : WJs prog w h₀ n env slots k ts g) (hs : isStarE t = false) : WJs prog w h₀ n env slots (k + 1) (t :: ts) (tsCons f g) := by
  refine ⟨?_, ?_, ?_⟩
  · rw [asg_cons hs]; exact TsJ.cons ht.h hts.h
  · rw [asg_cons hs, List.findIdx?_cons, hts.st]; rfl
  · rw [asg_cons hs, List.length_cons, hts.len]
theorem WJ.tup {k : Nat} {elts : List Expr} {x1 : Nat} {pos : Pos} {f : PTs} (hf : WJs prog w h₀ n env slots k elts f) : WJ prog w h₀ n env slots (.Tuple elts x1 pos) (tTup k f) := ⟨by have := TJ.tup (x1 := x1) (pos := pos) hf.st hf.h; rw [hf.len] at this; exact this⟩
theorem WJ.tupL {k : Nat} {elts : List Expr} {x1 : Nat} {pos : Pos} {f : PTs} (hf : WJs prog w h₀ n env slots k elts f) : WJ prog w h₀ n env slots (.Tuple elts x1 pos) (tTupL k f) := ⟨by have := TJ.tupL (x1 := x1) (pos := pos) hf.st hf.h; rw [hf.len] at this; exact this⟩
noncomputable def okAsg (t value : Expr) : Bool := !(isStarE t) && (noComp value || !isNameE t) && (noTup t || !Nat.beq value.ctorIdx 25)
theorem asg_one {t : Expr} (h : isStarE t = false) : (assignEach [t] env).map (·.2) = [PySem.assign t env] := by rw [asg_cons h]; rfl
theorem WX.assign {t value : Expr} {pos : Pos} {f : PE} {g : PT} (hv : WE prog w h₀ n env slots value f) (ht : WJ prog w h₀ n env slots t g) (hok : okAsg t value = true) : WX prog w h₀ n env slots (.Assign [t] value pos) (sAssign f g) := by
  unfold okAsg at hok
  rw [Bool.and_eq_true, Bool.and_eq_true] at hok
  obtain ⟨⟨h1, h2⟩, h3⟩ := hok
  exact ⟨SX.assign hv.h ht.h (asg_one (by simpa using h1)) (swaps_no h2) (stores_no h3)⟩
theorem WX.assignT {ts vs : List Expr} {x y : Nat} {p q pos : Pos} {f : PE} {g : PT} (F : FE env slots) (hv : WE prog w h₀ n env slots (.Tuple vs y q) f) (ht : WJ prog w h₀ n env slots (.Tuple ts x p) g) (h : (ts.any isNameE) = false) (hne : ts.isEmpty = false) : WX prog w h₀ n env slots (.Assign [.Tuple ts x p] (.Tuple vs y q) pos) (sAssign f g) :=
  ⟨SX.assign hv.h ht.h rfl rfl (swapped_none F.block h hne)⟩
theorem WX.assignL {ts vs : List Expr} {x y : Nat} {p q pos : Pos} {f : PE} {g : PT} (hv : WE prog w h₀ n env slots (.Tuple vs y q) f) (ht : WJ prog w h₀ n env slots (.Tuple ts x p) g) (h : (ts.length == 2 || ts.length == 3) = false) : WX prog w h₀ n env slots (.Assign [.Tuple ts x p] (.Tuple vs y q) pos) (sAssign f g) :=
  ⟨SX.assign hv.h ht.h rfl rfl (stores_long h)⟩
theorem WX.swap2 {a b : Str} {pa pb : Pos} {vs : List Expr} {x y : Nat} {p q pos : Pos} {i j : Nat} {f : PE} (F : FE env slots) (ha : SlotAt slots i a .local) (hb : SlotAt slots j b .local) (hij : Nat.beq i j = false) (hp : (pb.line == pa.line) = true) (hl : vs.length = 2)
    (hst : (vs.any isStarE) = false) (hf : vs.all (foldedForSure 8) = false) (hc : vs.all (constantsAlone 8) = false) (hv : WE prog w h₀ n env slots (.Tuple vs y q) f) :
    WX prog w h₀ n env slots (.Assign [.Tuple [.Name a pa, .Name b pb] x p] (.Tuple vs y q) pos) (sSwap 2 f (tsCons (tLoc j) (tsCons (tLoc i) tsNil))) := ⟨SX.swap2 F ha hb (Nat.ne_of_beq_eq_false hij) hp hl hst hf hc hv.h⟩
theorem WX.swap3 {a b c : Str} {pa pb pc : Pos} {vs : List Expr} {x y : Nat} {p q pos : Pos} {i j k : Nat} {f : PE} (F : FE env slots) (ha : SlotAt slots i a .local) (hb : SlotAt slots j b .local) (hcl : SlotAt slots k c .local) (hij : Nat.beq i j = false) (hik : Nat.beq i k = false) (hjk : Nat.beq j k = false)
    (hp : (pb.line == pa.line) = true) (hp' : (pc.line == pa.line) = true) (hl : vs.length = 3)
    (hst : (vs.any isStarE) = false) (hf : vs.all (foldedForSure 8) = false) (hc : vs.all (constantsAlone 8) = false) (hv : WE prog w h₀ n env slots (.Tuple vs y q) f) :
    WX prog w h₀ n env slots (.Assign [.Tuple [.Name a pa, .Name b pb, .Name c pc] x p] (.Tuple vs y q) pos) (sSwap 3 f (tsCons (tLoc k) (tsCons (tLoc j) (tsCons (tLoc i) tsNil)))) :=
  ⟨SX.swap3 F ha hb hcl (Nat.ne_of_beq_eq_false hij) (Nat.ne_of_beq_eq_false hik) (Nat.ne_of_beq_eq_false hjk) hp hp' hl hst hf hc hv.h⟩
theorem WX.augName {x : Str} {pos' pos : Pos} {op : Operator} {value : Expr} {f : PE} {i : Nat} (F : FE env slots) (h : SlotAt slots i x .local) (hv : WE prog w h₀ n env slots value f) : WX prog w h₀ n env slots (.AugAssign (.Name x pos') op value pos) (sAugName i op f) := ⟨SX.augNameF F h hv.h⟩
theorem WX.augAttr {x : Str} {C : Addr} {k : Nat} {o value : Expr} {tpos pos : Pos} {op : Operator} {g f : PE} (G : AttrG prog w h₀ x C k) (ho : WE prog w h₀ n env slots o g) (hv : WE prog w h₀ n env slots value f) : WX prog w h₀ n env slots (.AugAssign (.Attribute o x tpos) op value pos) (sAugAttr C k op g f) := ⟨SX.augAttrF G ho.h hv.h⟩
theorem WX.ret {e : Expr} {pos : Pos} {f : PE} (he : WE prog w h₀ n env slots e f) : WX prog w h₀ n env slots (.Return (some e) pos) (sRet f) := ⟨SX.ret he.h⟩
theorem WX.retN {pos : Pos} : WX prog w h₀ n env slots (.Return none pos) sRetN := ⟨SX.retN⟩
theorem expr_no {e : Expr} {l : Nat} (h : noComp e = true) : swapsWith e none l env = pure false := by
  cases e <;> first | exact rfl | exact Bool.noConfusion h
theorem WX.expr {e : Expr} {pos : Pos} {f : PE} (F : FE env slots) (he : WE prog w h₀ n env slots e f) (hs : noComp e = true) : WX prog w h₀ n env slots (.Expr e pos) (sExpr f) := ⟨SX.exprF F he.h (expr_no hs)⟩
theorem WX.if_ {test : Expr} {body orelse : List Stmt} {pos : Pos} {c : PB} {f g : PS} (hc : WT prog w h₀ n env slots test c) (hf : WS prog w h₀ n env slots body f) (hg : WS prog w h₀ n env slots orelse g) : WX prog w h₀ n env slots (.If test body orelse pos) (sIf c f g) := ⟨SX.if_ hc.h hf.h hg.h⟩
theorem WX.for_ {target iter : Expr} {body : List Stmt} {pos : Pos} {f : PI} {t : PT} {g : PS} (hi : WI prog w h₀ n env slots iter f) (ht : WJ prog w h₀ n env slots target t) (hg : WS prog w h₀ n env slots body g) (hs : noSet iter = true) : WX prog w h₀ n env slots (.For target iter body [] pos) (sFor f t g) := ⟨SX.for_ hi.h ht.h hg.h (set_noSet hs)⟩
theorem WX.forEnum {elts : List Expr} {x1 : Nat} {tp : Pos} {x : Str} {np cp : Pos} {e : Expr} {body : List Stmt} {pos : Pos} {f : PE} {t : PT} {g : PS} (hf : WE prog w h₀ n env slots (.Name x np) (pV (.raw (.type "enumerate")))) (he : WE prog w h₀ n env slots e f)
    (hst : isStarE e = false) (ht : WJ prog w h₀ n env slots (.Tuple elts x1 tp) t) (hg : WS prog w h₀ n env slots body g) : WX prog w h₀ n env slots (.For (.Tuple elts x1 tp) (.Call (.Name x np) [e] [] cp) body [] pos) (sForEnum f t g) := ⟨SX.forEnum hf.h he.h (by rw [star_cons hst]; rfl) ht.h hg.h (set_noSet rfl)⟩
theorem WS.nil : WS prog w h₀ n env slots [] sNil := ⟨SS.nil⟩
theorem WS.cons {st : Stmt} {rest : List Stmt} {f g : PS} (hst : WX prog w h₀ n env slots st f) (hrest : WS prog w h₀ n env slots rest g) : WS prog w h₀ n env slots (st :: rest) (sCons f g) := ⟨SS.cons hst.h hrest.h⟩
theorem WS.trunc {b : List Stmt} {g : PS} (h : WS prog w h₀ n env slots b g) : WS prog w h₀ n env slots b (truncS g) := ⟨SS.trunc h.h⟩
theorem WI.list {e : Expr} {f : PE} (he : WE prog w h₀ n env slots e f) : WI prog w h₀ n env slots e (pItList f) := ⟨SIt.list he.h⟩
theorem WI.tup {e : Expr} {f : PE} (he : WE prog w h₀ n env slots e f) : WI prog w h₀ n env slots e (pItTup f) := ⟨SIt.tup he.h⟩
theorem WI.range {x : Str} {np pos : Pos} {e : Expr} (m : Nat) (hm : m ≤ 1000) (hf : WE prog w h₀ n env slots (.Name x np) (pV (.raw (.type "range")))) (he : WE prog w h₀ n env slots e (pV (.int (m : Int)))) (hst : isStarE e = false) : WI prog w h₀ n env slots (.Call (.Name x np) [e] [] pos) (pItRange m) := ⟨SIt.range (g := pV (.int m)) m hm hf.h he.h (by rw [star_cons hst]; rfl)⟩
theorem WF.level {f : Value} {g : PF} {m : Nat} (h : WF prog w h₀ n f g) (hm : Nat.ble n m = true) : WF prog w h₀ m f g := ⟨h.h.level (Nat.le_of_ble_eq_true hm)⟩
theorem WF.trunc {f : Value} {g : PF} (h : WF prog w h₀ n f g) : WF prog w h₀ n f (truncF g) := ⟨h.h.trunc⟩
theorem WF.len : WF prog w h₀ n (.builtin "len") lenF := ⟨SFv.len⟩
theorem WF.abs : WF prog w h₀ n (.builtin "abs") absF := ⟨SFv.abs⟩
theorem WF.sum : WF prog w h₀ n (.builtin "sum") sumF := ⟨SFv.sum⟩
theorem WF.int : WF prog w h₀ n (.type "int") intF := ⟨SFv.int⟩
theorem WF.list : WF prog w h₀ n (.type "list") listF := ⟨SFv.list⟩
theorem WFc.ofDef {f : Addr} {o : Obj} {fd : FuncData} {body : List Stmt} {params : List Str} {names : Slots} {g : PS} (codes : List Nat) (ho : h₀.get? f = some o) (hdata : o.data = .func fd) (hlim : h₀.NoLimit) (hcd : h₀.CodeRec fd.code fd.qualname) (hbody : fd.body = .stmts body)
    (hnames : fd.scope.names = names) (hglob : fd.globals = mainGlobals) (hblt : fd.builtins = builtinsNs)
    (hbind : ∀ vals : List Value, vals.length = params.length → bindArgs fd ⟨vals, []⟩ = pure (params.zip vals))
    (hcell : (names.all fun x => x.2 != NameKind.cell && x.2 != NameKind.free) = true) (hpar : names.take params.length = params.map fun x => (x, NameKind.local))
    (he : names.map (fun p => enc p.1) = codes) (hd : nodupB (enc "__debug__" :: codes) = true)
    (hco : fd.scope.isCoroutine = false) (hgen : fd.scope.isGenerator = false) (hk : fd.scope.kind = .function)
    (hS : ∀ env, FE env names → WS prog w h₀ n env names body g) : SFc prog w h₀ (n + 1) (.ref f) (defSem params names g) :=
  SFc.ofDefF codes ho hdata hlim hcd hbody hnames hglob hblt hbind hcell hpar he hd hco hgen hk fun env F => (hS env F).h
theorem WFc.ofDef1C {f : Addr} {o : Obj} {fd : FuncData} {body : List Stmt} {x : Str} {names : Slots} {g : PS} (codes : List Nat) (ho : h₀.get? f = some o) (hdata : o.data = .func fd) (hlim : h₀.NoLimit) (hcd : h₀.CodeRec fd.code fd.qualname) (hbody : fd.body = .stmts body)
    (hnames : fd.scope.names = (x, .cell) :: names) (hglob : fd.globals = mainGlobals) (hblt : fd.builtins = builtinsNs) (hclo : fd.closure = [])
    (hbind : ∀ v : Value, bindArgs fd ⟨[v], []⟩ = pure [(x, v)])
    (hcell : (names.all fun x => x.2 == NameKind.globalImplicit) = true)
    (he : ((x, NameKind.cell) :: names).map (fun p => enc p.1) = codes) (hd : nodupB (enc "__debug__" :: codes) = true)
    (hco : fd.scope.isCoroutine = false) (hgen : fd.scope.isGenerator = false) (hk : fd.scope.kind = .function)
    (hS : ∀ (env : Env) (c : Addr), FE env ((x, .cell) :: names) → env.cells.lookup x = some c → WS prog w h₀ n env ((x, .cell) :: names) body g) : SFc prog w h₀ (n + 1) (.ref f) (defSem [x] ((x, .cell) :: names) g) :=
  SFc.ofDef1C codes ho hdata hlim hcd hbody hnames hglob hblt hclo hbind hcell he hd hco hgen hk fun env c F hc => (hS env c F hc).h
end
inductive WeakO : O → O → Prop
  | refl (o : O) : WeakO o o
  | appList (vs : List V) : WeakO (.app vs) (.list vs)
  | appNums (xs : List Int) : WeakO (.app (xs.map .int)) (.nums xs)
  | listNums (xs : List Int) : WeakO (.list (xs.map .int)) (.nums xs)
inductive WeakL : List O → List O → Prop
  | refl (H : List O) : WeakL H H
  | cons {o o' : O} {H H' : List O} : WeakO o o' → WeakL H H' → WeakL (o :: H) (o' :: H')
section
variable {prog : Program} {w : World} {h₀ h : Heap} {n : Nat} {env : Env} {slots : Slots} {ρ : List Addr} {H H' : List O} {X : List XE} {L : List (Option V)}
theorem WeakO.sound {o o' : O} {a : Addr} (k : WeakO o o') (r : OIs prog w h ρ a o) : OIs prog w h ρ a o' := by
  cases k with
  | refl => exact r
  | appList vs => obtain ⟨vals, nn, ho, i⟩ := r; exact ⟨vals, listOf_isList ho, i⟩
  | appNums xs => obtain ⟨vals, nn, ho, i⟩ := r; exact ⟨vals, listOf_isList ho, i.toInts⟩
  | listNums xs => obtain ⟨vals, ho, i⟩ := r; exact ⟨vals, ho, i.toInts⟩
theorem WeakL.length (k : WeakL H H') : H'.length = H.length := by
  induction k with
  | refl => rfl
  | cons _ _ ih => rw [List.length_cons, List.length_cons, ih]
theorem WeakL.get (k : WeakL H H') : ∀ {j : Nat} {o' : O}, H'[j]? = some o' → ∃ o, H[j]? = some o ∧ WeakO o o' := by
  induction k with
  | refl => intro j o' e; exact ⟨o', e, .refl _⟩
  | cons a _ ih =>
    intro j o' e
    cases j with
    | zero => rw [List.getElem?_cons_zero] at e; cases e; exact ⟨_, rfl, a⟩
    | succ j => rw [List.getElem?_cons_succ] at e; obtain ⟨o, e', r⟩ := ih e; exact ⟨o, by rw [List.getElem?_cons_succ]; exact e', r⟩
theorem Rel.weak (R : Rel prog w h₀ h ρ H X) (k : WeakL H H') : Rel prog w h₀ h ρ H' X where
  keep := R.keep
  len := k.length.trans R.len
  objs j o a e e' := by
    obtain ⟨o₁, e₁, q⟩ := k.get e
    exact q.sound (R.objs j o₁ a e₁ e')
  fresh := R.fresh
  nodup := R.nodup
  extra := R.extra
theorem RelF.weak (R : RelF prog w h₀ env slots h ρ L H X) (k : WeakL H H') : RelF prog w h₀ env slots h ρ L H' X := ⟨R.rel.weak k, R.fr⟩
noncomputable def weakS (f : PS) : PS := fun L H Qn Qr => ∃ H', WeakL H H' ∧ f L H' Qn Qr
theorem SX.weak {st : Stmt} {f : PS} (hf : SX prog w h₀ n env slots st f) : SX prog w h₀ n env slots st (weakS f) := fun A L H X ρ s Qn Qr Q' E hro R hq hn hr => by
  obtain ⟨H', k, hq⟩ := hq
  exact hf A L H' X ρ s Qn Qr Q' E hro (R.weak k) hq hn hr
theorem SX.trunc {st : Stmt} {g : PS} (h : SX prog w h₀ n env slots st g) : SX prog w h₀ n env slots st (truncS g) := fun A L H X ρ s Qn Qr Q' E hro R hq hn hr => by
  refine h A L H X ρ s _ _ Q' E hro R hq (fun L' H' ρ' h' tk' q R' x => ?_) hr
  obtain ⟨c1, c2, q⟩ := q
  obtain ⟨tk, t, rfl⟩ := x
  exact hn L' _ ρ h' tk' q ⟨R'.rel.cut R.rel.len.symm c2, R'.fr.cut R.rel.len.symm c1⟩ ⟨tk, [], (List.append_nil ρ).symm⟩
theorem WX.weak {st : Stmt} {f : PS} (h : WX prog w h₀ n env slots st f) : WX prog w h₀ n env slots st (weakS f) := ⟨h.h.weak⟩
theorem WX.trunc {st : Stmt} {f : PS} (h : WX prog w h₀ n env slots st f) : WX prog w h₀ n env slots st (truncS f) := ⟨h.h.trunc⟩
noncomputable def boxF (g : PF) : PF := fun args H Q => Box (g args H Q)
noncomputable def initN : Nat → List V → List (Option V)
  | 0, _ => []
  | n + 1, [] => none :: initN n []
  | n + 1, v :: vs => some v :: initN n vs
noncomputable def defN (np ns : Nat) (g : PS) : PF := fun args H Q => guardB (Nat.beq args.length np) (g (initN ns args) H (fun _ H' => Q .none H') Q)
theorem initN_eq : ∀ {k : Nat} {args : List V}, args.length ≤ k → initN k args = initL k args
  | 0, [], _ => rfl
  | n + 1, [], _ => by
    show none :: initN n [] = none :: initL n []
    rw [initN_eq (Nat.zero_le n)]
  | n + 1, v :: vs, h => by
    show some v :: initN n vs = _
    rw [initN_eq (Nat.le_of_succ_le_succ h)]
    unfold initL
    rw [List.length_cons, Nat.add_sub_add_right]; rfl
theorem defN_i {params : List Str} {slots : Slots} {g : PS} {args : List V} {H : List O} {Q : V → List O → Prop} (hle : Nat.ble params.length slots.length = true) (h : defN params.length slots.length g args H Q) : defSem params slots g args H Q := by
  unfold defN at h
  unfold defSem
  cases e : Nat.beq args.length params.length with
  | false => rw [e] at h; exact h.elim
  | true =>
    rw [e] at h
    rw [initN_eq (by rw [Nat.eq_of_beq_eq_true e]; exact Nat.le_of_ble_eq_true hle)] at h
    exact h
theorem SFc.box {f : Value} {g : PF} (h : SFc prog w h₀ n f g) : SFc prog w h₀ n f (boxF g) := fun A args vals H X ρ s Q R' hr R ha hs hk => h A args vals H X ρ s Q R' hr R ha hs.out hk
theorem SFv.box {f : Value} {g : PF} (h : SFv prog w h₀ n f g) : SFv prog w h₀ n f (boxF g) := fun A args vals H X ρ s Q Q' E hr R ha hs hk => h A args vals H X ρ s Q Q' E hr R ha hs.out hk
theorem SFc.boxN {params : List Str} {slots : Slots} {g : PS} {f : Value} {np ns : Nat} (h : SFc prog w h₀ n f (defSem params slots g)) (hp : params.length = np) (hs : slots.length = ns) (hle : Nat.ble np ns = true) : SFc prog w h₀ n f (boxF (defN np ns g)) := by
  subst hp hs
  exact fun A args vals H X ρ s Q R' hr R ha hq hk => h A args vals H X ρ s Q R' hr R ha (defN_i hle hq.out) hk
end
section
variable {prog : Program} {w : World} {h₀ : Heap} {n : Nat}
theorem SFc.ofDefLC {f : Addr} {o : Obj} {fd : FuncData} {body : List Stmt} {x y : Str} {names : Slots} {g : PS} (codes : List Nat) (ho : h₀.get? f = some o) (hdata : o.data = .func fd) (hlim : h₀.NoLimit) (hcd : h₀.CodeRec fd.code fd.qualname) (hbody : fd.body = .stmts body)
    (hnames : fd.scope.names = (x, .local) :: (y, .cell) :: names) (hglob : fd.globals = mainGlobals) (hblt : fd.builtins = builtinsNs) (hclo : fd.closure = [])
    (hbind : ∀ v : Value, bindArgs fd ⟨[v], []⟩ = pure [(x, v)])
    (hcell : (names.all fun x => x.2 == NameKind.globalImplicit || x.2 == NameKind.local) = true)
    (he : ((x, NameKind.local) :: (y, NameKind.cell) :: names).map (fun p => enc p.1) = codes) (hd : nodupB (enc "__debug__" :: codes) = true)
    (hco : fd.scope.isCoroutine = false) (hgen : fd.scope.isGenerator = false) (hk : fd.scope.kind = .function)
    (hS : ∀ (env : Env) (c : Addr), FE env ((x, .local) :: (y, .cell) :: names) → env.cells.lookup y = some c → SS prog w h₀ n env ((x, .local) :: (y, .cell) :: names) body g) : SFc prog w h₀ (n + 1) (.ref f) (defSem [x] ((x, .local) :: (y, .cell) :: names) g) :=
  fun A args vals H X ρ s Q Q' hro R hv hq hp => by
  replace hq := beq_i hq
  obtain ⟨hlen, hq⟩ := hq
  have hvl := hv.length
  have hg' : ∀ p ∈ names, p.2 = NameKind.globalImplicit ∨ p.2 = NameKind.local := fun p hp => by
    have := List.all_eq_true.mp hcell p hp
    simpa using this
  have hrl : (((x, NameKind.local) :: (y, NameKind.cell) :: names).map fun p => (p.1, relab p.2)) = (x, NameKind.local) :: (y, NameKind.cell) :: names := by
    rw [List.map_cons, List.map_cons]
    congr 2
    conv => rhs; rw [← List.map_id names]
    refine List.map_congr_left fun p hp => ?_
    obtain ⟨z, k⟩ := p
    rcases hg' _ hp with h | h
    · have : k = .globalImplicit := h
      subst this; rfl
    · have : k = .local := h
      subst this; rfl
  obtain ⟨av, val, rfl, rfl, hav⟩ := hv.one hlen
  have hcf : ∀ (l : Slots) (k : Nat) (acc : List (Str × Addr)), (∀ p ∈ l, p.2 = NameKind.globalImplicit ∨ p.2 = NameKind.local) → cellsFrom k l acc = acc := by
    intro l
    induction l with
    | nil => intro k acc _; rfl
    | cons p r ih =>
      intro k acc hl
      obtain ⟨z, kk⟩ := p
      rcases hl (z, kk) (List.mem_cons_self ..) with h | h
      · have : kk = .globalImplicit := h
        subst this
        show cellsFrom k r acc = acc
        exact ih k acc fun p hp => hl p (List.mem_cons_of_mem _ hp)
      · have : kk = .local := h
        subst this
        show cellsFrom k r acc = acc
        exact ih k acc fun p hp => hl p (List.mem_cons_of_mem _ hp)
  have hcs : ∀ k, cellsFrom k fd.scope.names [] = [(y, k)] := fun k => by
    rw [hnames]
    show cellsFrom (k + 1) names [(y, k)] = _
    exact hcf names _ _ hg'
  have F : FE (callEnvC fd s.heap.objs.size f) ((x, .local) :: (y, .cell) :: names) := FE.of codes (by rw [hrl]; exact hnames) hk hglob hblt he hd
  have hkx : (callEnvC fd s.heap.objs.size f).kindOf x = some .local := F.kindOf .head
  have hlk : fd.scope.names.lookup x = some .local := hkx
  refine codeAny_call_cells (by have := hro.depth; lia) (R.keep _ _ ho) hdata (hlim.keeps R.keep) (hcd.keeps R.keep) hbody (hbind val) hclo (fun z hz => ?_) (fun s₁ hI => ?_) hco hgen hk
  · rcases List.mem_cons.mp hz with rfl | hz
    · exact .inl hlk
    · cases hz
  obtain ⟨⟨⟨h₁, tk₁, rfl⟩, hns, hkp, _⟩, hcells, _, habove⟩ := hI
  generalize hEnv : callEnvC fd s.heap.objs.size f = env at *
  have hloc : env.locals = s.heap.objs.size := by rw [← hEnv]; rfl
  have hcl : env.cells = [(y, s.heap.objs.size + 1)] := by rw [← hEnv]; exact hcs _
  have hlook : env.cells.lookup y = some (s.heap.objs.size + 1) := by rw [hcl]; simp
  have hce := hcells y _ hlook
  have hbl : bindL env.kindOf [(x, val)] (fun _ => none) x = some val := by
    show (if env.kindOf x = some NameKind.local then (fun z => if z = x then some val else none) else (fun _ => none : Str → Option Value)) x = _
    rw [hkx]
    simp
  obtain ⟨oc, hoc, hdc⟩ := hce
  obtain ⟨oL, esL, epL, hoL, hdL, _⟩ := id hns
  dsimp only at hns hoc hoL hkp
  have hX : frameX env ((x, .local) :: (y, .cell) :: names) = [⟨s.heap.objs.size, fun _ => True⟩, ⟨s.heap.objs.size + 1, fun _ => True⟩] := by
    unfold frameX
    rw [List.filterMap_cons]
    have e1 : ownCell env (x, .local) = none := rfl
    rw [e1]
    dsimp only
    rw [List.filterMap_cons]
    have : ownCell env (y, .cell) = some ⟨s.heap.objs.size + 1, fun _ => True⟩ := by unfold ownCell; dsimp only; rw [hlook]; rfl
    rw [this, hloc]
    dsimp only
    congr 2
    rw [List.filterMap_eq_nil_iff]
    rintro ⟨z, k⟩ hz
    rcases hg' _ hz with h | h
    · have : k = .globalImplicit := h
      subst this; rfl
    · have : k = .local := h
      subst this; rfl
  have n1 := R.notIn (get_size_none s.heap)
  have n2 := R.notIn (a := s.heap.objs.size + 1) (by
    cases q : s.heap.get? (s.heap.objs.size + 1) with
    | none => rfl
    | some o => exact absurd (Heap.lt_size q) (Nat.not_lt.mpr (Nat.le_succ _)))
  obtain ⟨R0, x0⟩ := R.growE hkp
  have hntc : NonTup oc := fun _ _ _ e => by rw [hdc] at e; cases e
  have hntL : NonTup oL := fun _ _ _ e => by rw [hdL] at e; cases e
  have R1 := R0.withX (p := ⟨s.heap.objs.size + 1, fun _ => True⟩) n2.1 n2.2 hoc trivial hntc
  have R2 := R1.withX (p := ⟨s.heap.objs.size, fun _ => True⟩) (fun hm => by
    have hperm : (ρ ++ ((⟨s.heap.objs.size + 1, fun _ => True⟩ : XE) :: X).map XE.a).Perm ((s.heap.objs.size + 1) :: (ρ ++ X.map XE.a)) := List.perm_middle
    rcases List.mem_cons.mp (hperm.mem_iff.mp hm) with z | z
    · exact absurd z (Nat.ne_of_lt (Nat.lt_succ_self _))
    · exact n1.1 z) n1.2 (by rw [← hloc]; exact hoL) trivial hntL
  have RF : RelF prog w h₀ env ((x, .local) :: (y, .cell) :: names) h₁ ρ (initL ((x, NameKind.local) :: (y, NameKind.cell) :: names).length [av]) H X := by
    refine ⟨by rw [hX]; exact R2, _, hns, fun i z k hi => ?_⟩
    match i, hi with
    | 0, hi =>
      cases hi
      intro v hvv
      refine ⟨val, hbl, ?_⟩
      have := lget_initL hvv
      cases this
      exact hav.ext x0
    | 1, hi =>
      cases hi
      refine ⟨_, _, hlook, ⟨oc, hoc, hdc⟩, fun v hvv => ?_⟩
      have := lget_initL hvv
      cases this
    | i + 2, hi =>
      rw [List.getElem?_cons_succ, List.getElem?_cons_succ] at hi
      rcases hg' _ (List.mem_of_getElem? hi) with h | h
      · have : k = .globalImplicit := h
        subst this
        trivial
      · have : k = .local := h
        subst this
        intro v hvv
        have := lget_initL hvv
        cases this
  refine hS env _ F hlook _ _ H X ρ { s with heap := h₁, toks := tk₁ } _ _ _ _ (hro.deeper _) RF hq (fun L' H' ρ' h' tk' q R' x' => ?_) fun v L' H' ρ' val h' tk' q R' x' hval => ?_
  · exact hp _ _ _ _ h' tk' q (Rel.drops R'.rel) (x0.trans x') .none
  · exact hp _ _ _ _ h' tk' q (Rel.drops R'.rel) (x0.trans x') hval
theorem Rel.start (h : Heap) : Rel prog w h h [] [] [] where
  keep _ _ e := e
  len := rfl
  objs k o a e _ := by simp at e
  fresh a ha := by cases ha
  nodup := List.nodup_nil
  extra p hp := by cases hp
end
theorem xor_half (x y : Int) : Builtin.bitXor x y / 2 = Builtin.bitXor (x / 2) (y / 2) := by
  have h := kbt_halves x y
  rw [bitXor_and, bitXor_and, h]
  split at * <;> rename_i q <;> lia
theorem xor_low (x y : Int) : Builtin.bitXor x y % 2 = (x + y) % 2 := by
  rw [bitXor_and]; lia
theorem xor_bit (k : Nat) : ∀ x y : Int, Builtin.bitXor x y / 2 ^ k % 2 = (x / 2 ^ k + y / 2 ^ k) % 2 := by
  induction k with
  | zero => intro x y; simpa using xor_low x y
  | succ k ih =>
    intro x y
    have e : ∀ z : Int, z / 2 ^ (k + 1) = z / 2 / 2 ^ k := fun z => by
      rw [Int.pow_succ, Int.mul_comm, Int.ediv_ediv]; simp
    rw [e, e x, e y, xor_half, ih]
theorem fdiv_pos (x : Int) {n : Int} (h : 0 ≤ n) : x.fdiv n = x / n := Int.fdiv_eq_ediv_of_nonneg x h
theorem fmod_pos (x : Int) {n : Int} (h : 0 ≤ n) : x.fmod n = x % n := Int.fmod_eq_emod_of_nonneg x h
noncomputable def Byte (x : Int) : Prop := 0 ≤ x ∧ x < 256
noncomputable def Word (x : Int) : Prop := 0 ≤ x ∧ x < 65536
noncomputable def told (v : Int) : Int := v / 128 * 128 + (if v = 0 then 64 else 0) + Builtin.bitAnd v 40
noncomputable def par (v : Int) : Int := if (v % 2 + v / 2 % 2 + v / 4 % 2 + v / 8 % 2 + v / 16 % 2 + v / 32 % 2 + v / 64 % 2 + v / 128 % 2) % 2 = 0 then 4 else 0
theorem byte_all {P : Int → Prop} (h : ∀ n : Fin 256, P (n.val : Int)) {v : Int} (hv : Byte v) : P v := by
  have := h ⟨v.toNat, by have := hv.2; have := hv.1; lia⟩
  rwa [show ((v.toNat : Nat) : Int) = v by have := hv.1; lia] at this
theorem szyx_eq {v : Int} (hv : Byte v) : Builtin.bitOr (Builtin.bitAnd v (Builtin.bitOr 128 40)) (cond (v == 0) 64 0) = told v :=
  byte_all (P := fun v => Builtin.bitOr (Builtin.bitAnd v (Builtin.bitOr 128 40)) (cond (v == 0) 64 0) = told v) (by decide +kernel) hv
noncomputable def parX (v : Int) : Int :=
  let a := Builtin.bitXor v (v.fdiv 16)
  let b := Builtin.bitXor a (a.fdiv 4)
  let c := Builtin.bitXor b (b.fdiv 2)
  cond (Builtin.bitAnd c 1 != 0) 0 4
theorem parX_eq {v : Int} (hv : Byte v) : parX v = par v := byte_all (P := fun v => parX v = par v) (by decide +kernel) hv
theorem flags8 {r : Int} (hr : Byte r) (h p c : Bool) : Builtin.bitOr (Builtin.bitOr (Builtin.bitOr (Builtin.bitOr (told r) (cond h 16 0)) (cond p 4 0)) 2) (cond c 1 0) = told r + (cond h 16 0) + (cond p 4 0) + 2 + (cond c 1 0) :=
  byte_all (P := fun r => ∀ h p c : Bool, Builtin.bitOr (Builtin.bitOr (Builtin.bitOr (Builtin.bitOr (told r) (cond h 16 0)) (cond p 4 0)) 2) (cond c 1 0) = told r + (cond h 16 0) + (cond p 4 0) + 2 + (cond c 1 0)) (by decide +kernel) hr h p c
theorem flagsP {r : Int} (hr : Byte r) (p c : Bool) : Builtin.bitOr (Builtin.bitOr (told r) (cond p 4 0)) (cond c 1 0) = told r + (cond p 4 0) + (cond c 1 0) :=
  byte_all (P := fun r => ∀ p c : Bool, Builtin.bitOr (Builtin.bitOr (told r) (cond p 4 0)) (cond c 1 0) = told r + (cond p 4 0) + (cond c 1 0)) (by decide +kernel) hr p c
theorem flagsW {r : Int} (hr : Byte r) (z h p n c : Bool) : Builtin.bitOr (Builtin.bitOr (Builtin.bitOr (Builtin.bitOr (Builtin.bitOr (Builtin.bitAnd r 128) (cond z 64 0)) (Builtin.bitOr (Builtin.bitAnd r 40) (cond h 16 0))) (cond p 4 0)) (cond n 2 0)) (cond c 1 0) = r / 128 * 128 + (cond z 64 0) + Builtin.bitAnd r 40 + (cond h 16 0) + (cond p 4 0) + (cond n 2 0) + (cond c 1 0) :=
  byte_all (P := fun r => ∀ z h p n c : Bool, Builtin.bitOr (Builtin.bitOr (Builtin.bitOr (Builtin.bitOr (Builtin.bitOr (Builtin.bitAnd r 128) (cond z 64 0)) (Builtin.bitOr (Builtin.bitAnd r 40) (cond h 16 0))) (cond p 4 0)) (cond n 2 0)) (cond c 1 0) = r / 128 * 128 + (cond z 64 0) + Builtin.bitAnd r 40 + (cond h 16 0) + (cond p 4 0) + (cond n 2 0) + (cond c 1 0)) (by decide +kernel) hr z h p n c
theorem flagsM {f : Int} (hf : Byte f) (y x p : Bool) : Builtin.bitOr (Builtin.bitOr (Builtin.bitOr (Builtin.bitAnd f (Builtin.bitOr (Builtin.bitOr 128 64) 1)) (cond y 32 0)) (cond x 8 0)) (cond p 4 0) = Builtin.bitAnd f 193 + (cond y 32 0) + (cond x 8 0) + (cond p 4 0) :=
  byte_all (P := fun f => ∀ y x p : Bool, Builtin.bitOr (Builtin.bitOr (Builtin.bitOr (Builtin.bitAnd f (Builtin.bitOr (Builtin.bitOr 128 64) 1)) (cond y 32 0)) (cond x 8 0)) (cond p 4 0) = Builtin.bitAnd f 193 + (cond y 32 0) + (cond x 8 0) + (cond p 4 0)) (by decide +kernel) hf y x p
theorem flagsS {r : Int} (hr : Byte r) (h p c y x q d : Bool) : Builtin.bitOr (Builtin.bitOr (Builtin.bitOr (Builtin.bitOr (Builtin.bitOr (Builtin.bitAnd (told r + (cond h 16 0) + (cond p 4 0) + 2 + (cond c 1 0)) (Builtin.bitOr (Builtin.bitOr 128 64) 16)) (cond y 32 0)) (cond x 8 0)) (cond q 4 0)) 2) (cond d 1 0)
    = r / 128 * 128 + (if r = 0 then 64 else 0) + (cond h 16 0) + 2 + (cond d 1 0) + (cond y 32 0) + (cond x 8 0) + (cond q 4 0) := by
  have h1 : Builtin.bitAnd (told r + (cond h 16 0) + (cond p 4 0) + 2 + (cond c 1 0)) (Builtin.bitOr (Builtin.bitOr 128 64) 16) = cond (decide (128 ≤ r)) 128 0 + cond (decide (r = 0)) 64 0 + cond h 16 0 :=
    byte_all (P := fun r => ∀ h p c : Bool, Builtin.bitAnd (told r + (cond h 16 0) + (cond p 4 0) + 2 + (cond c 1 0)) (Builtin.bitOr (Builtin.bitOr 128 64) 16) = cond (decide (128 ≤ r)) 128 0 + cond (decide (r = 0)) 64 0 + cond h 16 0) (by decide +kernel) hr h p c
  rw [h1]
  have h2 : ∀ s z h y x q d : Bool, Builtin.bitOr (Builtin.bitOr (Builtin.bitOr (Builtin.bitOr (Builtin.bitOr (cond s 128 0 + cond z 64 0 + cond h 16 0) (cond y 32 0)) (cond x 8 0)) (cond q 4 0)) 2) (cond d 1 0) = cond s 128 0 + cond z 64 0 + (cond h 16 0) + 2 + (cond d 1 0) + (cond y 32 0) + (cond x 8 0) + (cond q 4 0) := by decide +kernel
  rw [h2]
  have e1 : (cond (decide (128 ≤ r)) 128 0 : Int) = r / 128 * 128 := by
    have := hr.1; have := hr.2
    cases e : decide (128 ≤ r)
    · have := of_decide_eq_false e; show 0 = _; lia
    · have := of_decide_eq_true e; show 128 = _; lia
  have e2 : (cond (decide (r = 0)) 64 0 : Int) = if r = 0 then 64 else 0 := by
    by_cases e : r = 0 <;> simp [e]
  rw [e1, e2]
theorem flagsQ {r : Int} (hr : Byte r) (k p n : Bool) : Builtin.bitOr (Builtin.bitOr (Builtin.bitOr (told r) (cond k (Builtin.bitOr 16 1) 0)) (cond p 4 0)) (cond n 2 0) = told r + (cond k 17 0) + (cond p 4 0) + (cond n 2 0) :=
  byte_all (P := fun r => ∀ k p n : Bool, Builtin.bitOr (Builtin.bitOr (Builtin.bitOr (told r) (cond k (Builtin.bitOr 16 1) 0)) (cond p 4 0)) (cond n 2 0) = told r + (cond k 17 0) + (cond p 4 0) + (cond n 2 0)) (by decide +kernel) hr k p n
theorem par_cond (v : Int) : ∃ p : Bool, par v = cond p 4 0 := by
  unfold par
  split
  · exact ⟨true, rfl⟩
  · exact ⟨false, rfl⟩
theorem bit_cond (x : Int) (k : Nat) : Builtin.bitAnd x (2 ^ k) = cond (decide (x / 2 ^ k % 2 = 1)) (2 ^ k) 0 := by
  rw [kbt_bit]
  rcases Int.emod_two_eq (x / 2 ^ k) with e | e <;> rw [e] <;> simp
theorem and2_pos {x y : Int} (k : Nat) : Builtin.bitAnd (Builtin.bitAnd x y) (2 ^ k) = cond (decide (x / 2 ^ k % 2 = 1) && decide (y / 2 ^ k % 2 = 1)) (2 ^ k) 0 := by
  have hand : ∀ (k : Nat) (x y : Int), Builtin.bitAnd x y / 2 ^ k % 2 = (x / 2 ^ k % 2) * (y / 2 ^ k % 2) := by
    intro k
    induction k with
    | zero =>
      intro x y
      have h := kbt_halves x y
      simp only [Int.pow_zero, Int.ediv_one]
      rw [h]
      rcases Int.emod_two_eq x with e | e <;> rcases Int.emod_two_eq y with e' | e' <;> rw [e, e'] <;> simp <;> omega
    | succ k ih =>
      intro x y
      have e : ∀ z : Int, z / 2 ^ (k + 1) = z / 2 / 2 ^ k := fun z => by
        rw [Int.pow_succ, Int.mul_comm, Int.ediv_ediv]; simp
      have h := kbt_halves x y
      have h2 : Builtin.bitAnd x y / 2 = Builtin.bitAnd (x / 2) (y / 2) := by
        rw [h]; split <;> lia
      rw [e, e x, e y, h2, ih]
  rw [bit_cond, hand]
  rcases Int.emod_two_eq (x / 2 ^ k) with e | e <;> rcases Int.emod_two_eq (y / 2 ^ k) with e' | e' <;> rw [e, e'] <;> simp
noncomputable def kv_ED_ROOMS : List (Nat × Int) := [(39, 0), (40, 1), (41, 2), (42, 3), (43, 4), (44, 5), (45, 7)]
noncomputable def kv_ED_PAIRS : List (Nat × Int) := [(47, 0), (48, 1), (49, 2), (50, 3)]
noncomputable def ps_Cpu_init : PS := (sCons (sAssign (pBinX .Mult (pList (plCons (pV (.int 0)) plNil)) (pV (.int 8))) (tAttr 31 0 (pLoc 0))) (sCons (sAssign (pBinX .Mult (pList (plCons (pV (.int 0)) plNil)) (pV (.int 8))) (tAttr 31 1 (pLoc 0))) (sCons (sAssign (pV (.int 0)) (tAttr 31 2 (pLoc 0))) (sCons (sAssign (pV (.int 0)) (tAttr 31 3 (pLoc 0))) (sCons (sAssign (pV (.int 0)) (tAttr 31 4 (pLoc 0))) (sCons (sAssign (pV (.int 0)) (tAttr 31 5 (pLoc 0))) (sCons (sAssign (pV (.int 0)) (tAttr 31 6 (pLoc 0))) (sCons (sAssign (pV (.int 0)) (tAttr 31 7 (pLoc 0))) (sCons (sAssign (pV (.int 0)) (tAttr 31 8 (pLoc 0))) (sCons (sAssign (pV (.int 0)) (tAttr 31 9 (pLoc 0))) (sCons (sAssign (pV (.int 0)) (tAttr 31 10 (pLoc 0))) (sCons (sAssign (pV (.bool false)) (tAttr 31 11 (pLoc 0))) (sCons (sAssign (pV (.bool false)) (tAttr 31 12 (pLoc 0))) (sCons (sAssign (pV (.int 0)) (tAttr 31 13 (pLoc 0))) sNil))))))))))))))
@[irreducible] noncomputable def fn_Cpu_init : PF := boxF (defN 1 1 ps_Cpu_init)
@[irreducible] noncomputable def nw_Cpu : PF := boxF (newF 31 fn_Cpu_init)
noncomputable def ps_Ports_init : PS := (sCons (sAssign (pLoc 1) (tAttr 52 14 (pLoc 0))) (sCons (sAssign (pV (.int 0)) (tAttr 52 15 (pLoc 0))) (sCons (sAssign (pList plNil) (tAttr 52 16 (pLoc 0))) sNil)))
@[irreducible] noncomputable def fn_Ports_init : PF := boxF (defN 2 2 ps_Ports_init)
@[irreducible] noncomputable def nw_Ports : PF := boxF (newF 52 fn_Ports_init)
noncomputable def ps_cpu_row : PS := (sCons (sAssign (pBinX .Add (pBinX .Add (pAttr 31 0 (pLoc 0)) (pAttr 31 1 (pLoc 0))) (pList (plCons (pAttr 31 2 (pLoc 0)) (plCons (pAttr 31 3 (pLoc 0)) (plCons (pAttr 31 4 (pLoc 0)) (plCons (pAttr 31 5 (pLoc 0)) (plCons (pAttr 31 6 (pLoc 0)) (plCons (pAttr 31 7 (pLoc 0)) (plCons (pAttr 31 8 (pLoc 0)) (plCons (pAttr 31 9 (pLoc 0)) (plCons (pAttr 31 10 (pLoc 0)) plNil))))))))))) (tLoc 1)) (sCons (sRet (pBinX .Add (pLoc 1) (pList (plCons (pIfI (bVal (pAttr 31 11 (pLoc 0))) 1 0) (plCons (pIfI (bVal (pAttr 31 12 (pLoc 0))) 1 0) (plCons (pAttr 31 13 (pLoc 0)) plNil)))))) sNil))
@[irreducible] noncomputable def fn_cpu_row : PF := boxF (defN 1 2 ps_cpu_row)
noncomputable def ps_pair : PS := (sCons (sRet (pIf (bCmp .Eq (pLoc 1) (pV (.int 3))) (pAttr 31 4 (pLoc 0)) (pBin .BitOr (pBin .LShift (pSub (pAttr 31 0 (pLoc 0)) (pBin .Mult (pV (.int 2)) (pLoc 1))) (pV (.int 8))) (pSub (pAttr 31 0 (pLoc 0)) (pBin .Add (pBin .Mult (pV (.int 2)) (pLoc 1)) (pV (.int 1))))))) sNil)
@[irreducible] noncomputable def fn_pair : PF := boxF (defN 2 2 ps_pair)
noncomputable def ps_set_pair : PS := (sCons (sIf (bCmp .Eq (pLoc 1) (pV (.int 3))) (sCons (sAssign (pBin .BitAnd (pLoc 2) (pV (.int 65535))) (tAttr 31 4 (pLoc 0))) sNil) (sCons (sAssign (pBin .BitAnd (pBin .RShift (pLoc 2) (pV (.int 8))) (pV (.int 255))) (tSub (pAttr 31 0 (pLoc 0)) (pBin .Mult (pV (.int 2)) (pLoc 1)))) (sCons (sAssign (pBin .BitAnd (pLoc 2) (pV (.int 255))) (tSub (pAttr 31 0 (pLoc 0)) (pBin .Add (pBin .Mult (pV (.int 2)) (pLoc 1)) (pV (.int 1))))) sNil))) sNil)
@[irreducible] noncomputable def fn_set_pair : PF := boxF (defN 3 3 ps_set_pair)
noncomputable def ps_peek : PS := (sCons (sRet (pSub (pLoc 0) (pBin .Mod (pLoc 1) (pCall lenF (plCons (pLoc 0) plNil))))) sNil)
@[irreducible] noncomputable def fn_peek : PF := boxF (defN 2 3 ps_peek)
noncomputable def ps_poke : PS := (sCons (sAssign (pBin .BitAnd (pLoc 2) (pV (.int 255))) (tSub (pLoc 0) (pBin .Mod (pLoc 1) (pCall lenF (plCons (pLoc 0) plNil))))) sNil)
@[irreducible] noncomputable def fn_poke : PF := boxF (defN 3 4 ps_poke)
noncomputable def ps_peek16 : PS := (sCons (sRet (pBin .BitOr (pCall fn_peek (plCons (pLoc 0) (plCons (pLoc 1) plNil))) (pBin .LShift (pCall fn_peek (plCons (pLoc 0) (plCons (pBin .BitAnd (pBin .Add (pLoc 1) (pV (.int 1))) (pV (.int 65535))) plNil))) (pV (.int 8))))) sNil)
@[irreducible] noncomputable def fn_peek16 : PF := boxF (defN 2 3 ps_peek16)
noncomputable def ps_poke16 : PS := (sCons (sExpr (pCall fn_poke (plCons (pLoc 0) (plCons (pLoc 1) (plCons (pBin .BitAnd (pLoc 2) (pV (.int 255))) plNil))))) (sCons (sExpr (pCall fn_poke (plCons (pLoc 0) (plCons (pBin .BitAnd (pBin .Add (pLoc 1) (pV (.int 1))) (pV (.int 65535))) (plCons (pBin .BitAnd (pBin .RShift (pLoc 2) (pV (.int 8))) (pV (.int 255))) plNil))))) sNil))
@[irreducible] noncomputable def fn_poke16 : PF := boxF (defN 3 4 ps_poke16)
noncomputable def ps_fetch : PS := (sCons (sAssign (pCall fn_peek (plCons (pLoc 1) (plCons (pAttr 31 5 (pLoc 0)) plNil))) (tLoc 2)) (sCons (sAssign (pBin .BitAnd (pBin .Add (pAttr 31 5 (pLoc 0)) (pV (.int 1))) (pV (.int 65535))) (tAttr 31 5 (pLoc 0))) (sCons (sRet (pLoc 2)) sNil)))
@[irreducible] noncomputable def fn_fetch : PF := boxF (defN 2 4 ps_fetch)
noncomputable def ps_fetch16 : PS := (sCons (sAssign (pCall fn_fetch (plCons (pLoc 0) (plCons (pLoc 1) plNil))) (tLoc 2)) (sCons (sRet (pBin .BitOr (pLoc 2) (pBin .LShift (pCall fn_fetch (plCons (pLoc 0) (plCons (pLoc 1) plNil))) (pV (.int 8))))) sNil))
@[irreducible] noncomputable def fn_fetch16 : PF := boxF (defN 2 4 ps_fetch16)
noncomputable def ps_pop : PS := (sCons (sAssign (pCall fn_peek16 (plCons (pLoc 1) (plCons (pAttr 31 4 (pLoc 0)) plNil))) (tLoc 2)) (sCons (sAssign (pBin .BitAnd (pBin .Add (pAttr 31 4 (pLoc 0)) (pV (.int 2))) (pV (.int 65535))) (tAttr 31 4 (pLoc 0))) (sCons (sRet (pLoc 2)) sNil)))
@[irreducible] noncomputable def fn_pop : PF := boxF (defN 2 4 ps_pop)
noncomputable def ps_port_in : PS := (sCons (sIf (bCmp .Eq (pCall lenF (plCons (pAttr 52 14 (pLoc 0)) plNil)) (pV (.int 0))) (sCons (sRet (pV (.int 255))) sNil) sNil) (sCons (sAssign (pSub (pAttr 52 14 (pLoc 0)) (pBin .Mod (pAttr 52 15 (pLoc 0)) (pCall lenF (plCons (pAttr 52 14 (pLoc 0)) plNil)))) (tLoc 2)) (sCons (sAugAttr 52 15 .Add (pLoc 0) (pV (.int 1))) (sCons (sRet (pBin .BitAnd (pLoc 2) (pV (.int 255)))) sNil))))
@[irreducible] noncomputable def fn_port_in : PF := boxF (defN 2 4 ps_port_in)
noncomputable def ps_port_out : PS := (sCons (sExpr (pAppend (pAttr 52 16 (pLoc 0)) (pTup (plCons (pBin .BitAnd (pLoc 1) (pV (.int 255))) (plCons (pBin .BitAnd (pLoc 2) (pV (.int 255))) plNil))))) sNil)
@[irreducible] noncomputable def fn_port_out : PF := boxF (defN 3 3 ps_port_out)
noncomputable def ps_parity : PS := (sCons (sAugName 0 .BitXor (pBin .RShift (pLoc 0) (pV (.int 4)))) (sCons (sAugName 0 .BitXor (pBin .RShift (pLoc 0) (pV (.int 2)))) (sCons (sAugName 0 .BitXor (pBin .RShift (pLoc 0) (pV (.int 1)))) (sCons (sRet (pIfI (bVal (pBin .BitAnd (pLoc 0) (pV (.int 1)))) 0 4)) sNil))))
@[irreducible] noncomputable def fn_parity : PF := boxF (defN 1 2 ps_parity)
noncomputable def ps_szyx : PS := (sCons (sRet (pBin .BitOr (pBin .BitAnd (pLoc 0) (pBin .BitOr (pV (.int 128)) (pV (.int 40)))) (pIfI (bCmp .Eq (pLoc 0) (pV (.int 0))) 64 0))) sNil)
@[irreducible] noncomputable def fn_szyx : PF := boxF (defN 1 4 ps_szyx)
noncomputable def ps_sub8 : PS := (sCons (sAssign (pBin .Sub (pBin .Sub (pLoc 0) (pLoc 1)) (pLoc 2)) (tLoc 3)) (sCons (sAssign (pBin .BitAnd (pLoc 3) (pV (.int 255))) (tLoc 4)) (sCons (sAssign (pBin .BitAnd (pBin .BitAnd (pBin .BitXor (pLoc 0) (pLoc 1)) (pBin .BitXor (pLoc 0) (pLoc 4))) (pV (.int 128))) (tLoc 5)) (sCons (sRet (pTup (plCons (pLoc 4) (plCons (pBin .BitOr (pBin .BitOr (pBin .BitOr (pBin .BitOr (pCall fn_szyx (plCons (pLoc 4) plNil)) (pBin .BitAnd (pBin .BitXor (pBin .BitXor (pLoc 0) (pLoc 1)) (pLoc 4)) (pV (.int 16)))) (pIfI (bVal (pLoc 5)) 4 0)) (pV (.int 2))) (pIfI (bCmp .Lt (pLoc 3) (pV (.int 0))) 1 0)) plNil)))) sNil))))
@[irreducible] noncomputable def fn_sub8 : PF := boxF (defN 3 12 ps_sub8)
noncomputable def ps_neg : PS := (sCons (sRet (pCall fn_sub8 (plCons (pV (.int 0)) (plCons (pLoc 0) (plCons (pV (.int 0)) plNil))))) sNil)
@[irreducible] noncomputable def fn_neg : PF := boxF (defN 1 2 ps_neg)
noncomputable def ps_high_flags : PS := (sCons (sRet (pBin .BitOr (pBin .BitAnd (pBin .RShift (pLoc 2) (pV (.int 8))) (pV (.int 40))) (pBin .BitAnd (pBin .RShift (pBin .BitXor (pBin .BitXor (pLoc 0) (pLoc 1)) (pLoc 2)) (pV (.int 8))) (pV (.int 16))))) sNil)
@[irreducible] noncomputable def fn_high_flags : PF := boxF (defN 3 5 ps_high_flags)
noncomputable def ps_word_flags : PS := (sCons (sRet (pBin .BitOr (pBin .BitAnd (pBin .RShift (pLoc 0) (pV (.int 8))) (pV (.int 128))) (pIfI (bCmp .Eq (pLoc 0) (pV (.int 0))) 64 0))) sNil)
@[irreducible] noncomputable def fn_word_flags : PF := boxF (defN 1 3 ps_word_flags)
noncomputable def ps_adc16 : PS := (sCons (sAssign (pBin .Add (pBin .Add (pLoc 0) (pLoc 1)) (pLoc 2)) (tLoc 3)) (sCons (sAssign (pBin .BitAnd (pLoc 3) (pV (.int 65535))) (tLoc 4)) (sCons (sAssign (pBin .BitAnd (pBin .BitAnd (pBin .BitXor (pLoc 0) (pLoc 4)) (pBin .BitXor (pLoc 1) (pLoc 4))) (pV (.int 32768))) (tLoc 5)) (sCons (sRet (pTup (plCons (pLoc 4) (plCons (pBin .BitOr (pBin .BitOr (pBin .BitOr (pCall fn_word_flags (plCons (pLoc 4) plNil)) (pCall fn_high_flags (plCons (pLoc 0) (plCons (pLoc 1) (plCons (pLoc 4) plNil))))) (pIfI (bVal (pLoc 5)) 4 0)) (pBin .RShift (pLoc 3) (pV (.int 16)))) plNil)))) sNil))))
@[irreducible] noncomputable def fn_adc16 : PF := boxF (defN 3 9 ps_adc16)
noncomputable def ps_sbc16 : PS := (sCons (sAssign (pBin .Sub (pBin .Sub (pLoc 0) (pLoc 1)) (pLoc 2)) (tLoc 3)) (sCons (sAssign (pBin .BitAnd (pLoc 3) (pV (.int 65535))) (tLoc 4)) (sCons (sAssign (pBin .BitAnd (pBin .BitAnd (pBin .BitXor (pLoc 0) (pLoc 1)) (pBin .BitXor (pLoc 0) (pLoc 4))) (pV (.int 32768))) (tLoc 5)) (sCons (sRet (pTup (plCons (pLoc 4) (plCons (pBin .BitOr (pBin .BitOr (pBin .BitOr (pBin .BitOr (pCall fn_word_flags (plCons (pLoc 4) plNil)) (pCall fn_high_flags (plCons (pLoc 0) (plCons (pLoc 1) (plCons (pLoc 4) plNil))))) (pIfI (bVal (pLoc 5)) 4 0)) (pV (.int 2))) (pIfI (bCmp .Lt (pLoc 3) (pV (.int 0))) 1 0)) plNil)))) sNil))))
@[irreducible] noncomputable def fn_sbc16 : PF := boxF (defN 3 11 ps_sbc16)
noncomputable def ps_rrd : PS := (sCons (sAssign (pBin .BitOr (pBin .BitAnd (pLoc 0) (pV (.int 240))) (pBin .BitAnd (pLoc 1) (pV (.int 15)))) (tLoc 3)) (sCons (sRet (pTup (plCons (pLoc 3) (plCons (pBin .BitOr (pBin .LShift (pBin .BitAnd (pLoc 0) (pV (.int 15))) (pV (.int 4))) (pBin .RShift (pLoc 1) (pV (.int 4)))) (plCons (pBin .BitOr (pBin .BitOr (pCall fn_szyx (plCons (pLoc 3) plNil)) (pCall fn_parity (plCons (pLoc 3) plNil))) (pBin .BitAnd (pLoc 2) (pV (.int 1)))) plNil))))) sNil))
@[irreducible] noncomputable def fn_rrd : PF := boxF (defN 3 7 ps_rrd)
noncomputable def ps_rld : PS := (sCons (sAssign (pBin .BitOr (pBin .BitAnd (pLoc 0) (pV (.int 240))) (pBin .RShift (pLoc 1) (pV (.int 4)))) (tLoc 3)) (sCons (sRet (pTup (plCons (pLoc 3) (plCons (pBin .BitOr (pBin .LShift (pBin .BitAnd (pLoc 1) (pV (.int 15))) (pV (.int 4))) (pBin .BitAnd (pLoc 0) (pV (.int 15)))) (plCons (pBin .BitOr (pBin .BitOr (pCall fn_szyx (plCons (pLoc 3) plNil)) (pCall fn_parity (plCons (pLoc 3) plNil))) (pBin .BitAnd (pLoc 2) (pV (.int 1)))) plNil))))) sNil))
@[irreducible] noncomputable def fn_rld : PF := boxF (defN 3 7 ps_rld)
noncomputable def ps_load_flags : PS := (sCons (sRet (pBin .BitOr (pBin .BitOr (pCall fn_szyx (plCons (pLoc 0) plNil)) (pIfI (bVal (pLoc 1)) 4 0)) (pBin .BitAnd (pLoc 2) (pV (.int 1))))) sNil)
@[irreducible] noncomputable def fn_load_flags : PF := boxF (defN 3 6 ps_load_flags)
noncomputable def ps_in_flags : PS := (sCons (sRet (pBin .BitOr (pBin .BitOr (pCall fn_szyx (plCons (pLoc 0) plNil)) (pCall fn_parity (plCons (pLoc 0) plNil))) (pBin .BitAnd (pLoc 1) (pV (.int 1))))) sNil)
@[irreducible] noncomputable def fn_in_flags : PF := boxF (defN 2 5 ps_in_flags)
noncomputable def ps_move_flags : PS := (sCons (sAssign (pBin .Add (pLoc 0) (pLoc 1)) (tLoc 4)) (sCons (sRet (pBin .BitOr (pBin .BitOr (pBin .BitOr (pBin .BitAnd (pLoc 3) (pBin .BitOr (pBin .BitOr (pV (.int 128)) (pV (.int 64))) (pV (.int 1)))) (pIfI (bVal (pBin .BitAnd (pLoc 4) (pV (.int 2)))) 32 0)) (pBin .BitAnd (pLoc 4) (pV (.int 8)))) (pIfI (bVal (pLoc 2)) 4 0))) sNil))
@[irreducible] noncomputable def fn_move_flags : PF := boxF (defN 4 11 ps_move_flags)
noncomputable def ps_seek_flags : PS := (sCons (sAssign (pCall fn_sub8 (plCons (pLoc 0) (plCons (pLoc 1) (plCons (pV (.int 0)) plNil)))) (tTup 2 (tsCons (tLoc 4) (tsCons (tLoc 5) tsNil)))) (sCons (sAssign (pBin .Sub (pLoc 4) (pIfI (bVal (pBin .BitAnd (pLoc 5) (pV (.int 16)))) 1 0)) (tLoc 6)) (sCons (sRet (pBin .BitOr (pBin .BitOr (pBin .BitOr (pBin .BitOr (pBin .BitOr (pBin .BitAnd (pLoc 5) (pBin .BitOr (pBin .BitOr (pV (.int 128)) (pV (.int 64))) (pV (.int 16)))) (pIfI (bVal (pBin .BitAnd (pLoc 6) (pV (.int 2)))) 32 0)) (pBin .BitAnd (pLoc 6) (pV (.int 8)))) (pIfI (bVal (pLoc 2)) 4 0)) (pV (.int 2))) (pBin .BitAnd (pLoc 3) (pV (.int 1))))) sNil)))
@[irreducible] noncomputable def fn_seek_flags : PF := boxF (defN 4 16 ps_seek_flags)
noncomputable def ps_port_flags : PS := (sCons (sAssign (pBin .Add (pLoc 0) (pLoc 1)) (tLoc 3)) (sCons (sAssign (pIf (bCmp .Gt (pLoc 3) (pV (.int 255))) (pBin .BitOr (pV (.int 16)) (pV (.int 1))) (pV (.int 0))) (tLoc 4)) (sCons (sRet (pBin .BitOr (pBin .BitOr (pBin .BitOr (pCall fn_szyx (plCons (pLoc 2) plNil)) (pLoc 4)) (pCall fn_parity (plCons (pBin .BitXor (pBin .BitAnd (pLoc 3) (pV (.int 7))) (pLoc 2)) plNil))) (pIfI (bVal (pBin .BitAnd (pLoc 0) (pV (.int 128)))) 2 0))) sNil)))
@[irreducible] noncomputable def fn_port_flags : PF := boxF (defN 3 10 ps_port_flags)
noncomputable def ps_port_plans : PS := (sCons (sForEnum (pList (plCons (pV (.str 39)) (plCons (pV (.str 40)) (plCons (pV (.str 41)) (plCons (pV (.str 42)) (plCons (pV (.str 43)) (plCons (pV (.str 44)) (plCons (pV (.str 46)) (plCons (pV (.str 45)) plNil))))))))) (tTup 2 (tsCons (tLoc 1) (tsCons (tLoc 2) tsNil))) (sCons (sAssign (pTup (plCons (pV (.str 19)) (plCons (pTup (plCons (pLoc 2) plNil)) (plCons (pV (.int 12)) plNil)))) (tSub (pLoc 0) (pBin .Add (pV (.int 64)) (pBin .Mult (pV (.int 8)) (pLoc 1))))) (sCons (sAssign (pTup (plCons (pV (.str 20)) (plCons (pTup (plCons (pLoc 2) plNil)) (plCons (pV (.int 12)) plNil)))) (tSub (pLoc 0) (pBin .Add (pV (.int 65)) (pBin .Mult (pV (.int 8)) (pLoc 1))))) sNil))) sNil)
@[irreducible] noncomputable def fn_port_plans : PF := boxF (defN 1 4 ps_port_plans)
noncomputable def ps_pair_plans : PS := (sCons (sForEnum (pList (plCons (pV (.str 47)) (plCons (pV (.str 48)) (plCons (pV (.str 49)) (plCons (pV (.str 50)) plNil))))) (tTup 2 (tsCons (tLoc 1) (tsCons (tLoc 2) tsNil))) (sCons (sAssign (pTup (plCons (pV (.str 21)) (plCons (pTup (plCons (pLoc 2) plNil)) (plCons (pV (.int 15)) plNil)))) (tSub (pLoc 0) (pBin .Add (pV (.int 66)) (pBin .Mult (pV (.int 16)) (pLoc 1))))) (sCons (sAssign (pTup (plCons (pV (.str 22)) (plCons (pTup (plCons (pLoc 2) plNil)) (plCons (pV (.int 15)) plNil)))) (tSub (pLoc 0) (pBin .Add (pV (.int 74)) (pBin .Mult (pV (.int 16)) (pLoc 1))))) (sCons (sAssign (pTup (plCons (pV (.str 23)) (plCons (pTup (plCons (pLoc 2) plNil)) (plCons (pV (.int 20)) plNil)))) (tSub (pLoc 0) (pBin .Add (pV (.int 67)) (pBin .Mult (pV (.int 16)) (pLoc 1))))) (sCons (sAssign (pTup (plCons (pV (.str 24)) (plCons (pTup (plCons (pLoc 2) plNil)) (plCons (pV (.int 20)) plNil)))) (tSub (pLoc 0) (pBin .Add (pV (.int 75)) (pBin .Mult (pV (.int 16)) (pLoc 1))))) sNil))))) sNil)
@[irreducible] noncomputable def fn_pair_plans : PF := boxF (defN 1 4 ps_pair_plans)
noncomputable def ps_plain_plans : PS := (sCons (sForEnum (pList (plCons (pV (.int 0)) (plCons (pV (.int 0)) (plCons (pV (.int 1)) (plCons (pV (.int 2)) (plCons (pV (.int 0)) (plCons (pV (.int 0)) (plCons (pV (.int 1)) (plCons (pV (.int 2)) plNil))))))))) (tTup 2 (tsCons (tLoc 1) (tsCons (tLoc 2) tsNil))) (sCons (sAssign (pTup (plCons (pV (.str 25)) (plCons (pTup plNil) (plCons (pV (.int 8)) plNil)))) (tSub (pLoc 0) (pBin .Add (pV (.int 68)) (pBin .Mult (pV (.int 8)) (pLoc 1))))) (sCons (sAssign (pTup (plCons (pIf (bCmp .Eq (pLoc 1) (pV (.int 1))) (pV (.str 26)) (pV (.str 27))) (plCons (pTup plNil) (plCons (pV (.int 14)) plNil)))) (tSub (pLoc 0) (pBin .Add (pV (.int 69)) (pBin .Mult (pV (.int 8)) (pLoc 1))))) (sCons (sAssign (pTup (plCons (pV (.str 28)) (plCons (pTup (plCons (pLoc 2) plNil)) (plCons (pV (.int 8)) plNil)))) (tSub (pLoc 0) (pBin .Add (pV (.int 70)) (pBin .Mult (pV (.int 8)) (pLoc 1))))) sNil)))) (sCons (sForEnum (pList (plCons (pTup (plCons (pV (.str 29)) (plCons (pV (.int 9)) plNil))) (plCons (pTup (plCons (pV (.str 30)) (plCons (pV (.int 9)) plNil))) (plCons (pTup (plCons (pV (.str 31)) (plCons (pV (.int 9)) plNil))) (plCons (pTup (plCons (pV (.str 32)) (plCons (pV (.int 9)) plNil))) (plCons (pTup (plCons (pV (.str 33)) (plCons (pV (.int 18)) plNil))) (plCons (pTup (plCons (pV (.str 34)) (plCons (pV (.int 18)) plNil))) plNil))))))) (tTup 2 (tsCons (tLoc 1) (tsCons (tLoc 3) tsNil))) (sCons (sAssign (pTup (plCons (pSub (pLoc 3) (pV (.int 0))) (plCons (pTup plNil) (plCons (pSub (pLoc 3) (pV (.int 1))) plNil)))) (tSub (pLoc 0) (pBin .Add (pV (.int 71)) (pBin .Mult (pV (.int 8)) (pLoc 1))))) sNil)) sNil))
@[irreducible] noncomputable def fn_plain_plans : PF := boxF (defN 1 5 ps_plain_plans)
noncomputable def ps_block_plans : PS := (sCons (sFor (pItTup (pTup (plCons (pTup (plCons (pV (.int 160)) (plCons (pV (.int 1)) (plCons (pV (.bool false)) plNil)))) (plCons (pTup (plCons (pV (.int 168)) (plCons (pNeg (pV (.int 1))) (plCons (pV (.bool false)) plNil)))) (plCons (pTup (plCons (pV (.int 176)) (plCons (pV (.int 1)) (plCons (pV (.bool true)) plNil)))) (plCons (pTup (plCons (pV (.int 184)) (plCons (pNeg (pV (.int 1))) (plCons (pV (.bool true)) plNil)))) plNil)))))) (tTup 3 (tsCons (tLoc 1) (tsCons (tLoc 2) (tsCons (tLoc 3) tsNil)))) (sCons (sForEnum (pList (plCons (pV (.str 35)) (plCons (pV (.str 36)) (plCons (pV (.str 37)) (plCons (pV (.str 38)) plNil))))) (tTup 2 (tsCons (tLoc 4) (tsCons (tLoc 5) tsNil))) (sCons (sAssign (pTup (plCons (pLoc 5) (plCons (pTup (plCons (pLoc 2) (plCons (pLoc 3) plNil))) (plCons (pV (.int 16)) plNil)))) (tSub (pLoc 0) (pBin .Add (pLoc 1) (pLoc 4)))) sNil)) sNil)) sNil)
@[irreducible] noncomputable def fn_block_plans : PF := boxF (defN 1 7 ps_block_plans)
noncomputable def ps_ed_plans : PS := (sCons (sAssign (pBinX .Mult (pList (plCons (pV (.tup [.str 18, .tup [], .int 8])) plNil)) (pV (.int 256))) (tLoc 0)) (sCons (sExpr (pCall fn_port_plans (plCons (pLoc 0) plNil))) (sCons (sExpr (pCall fn_pair_plans (plCons (pLoc 0) plNil))) (sCons (sExpr (pCall fn_plain_plans (plCons (pLoc 0) plNil))) (sCons (sExpr (pCall fn_block_plans (plCons (pLoc 0) plNil))) (sCons (sRet (pLoc 0)) sNil))))))
@[irreducible] noncomputable def fn_ed_plans : PF := boxF (defN 0 6 ps_ed_plans)
noncomputable def ps_step_pair : PS := (sCons (sAssign (pCall fn_pair (plCons (pLoc 0) (plCons (pSubD kv_ED_PAIRS (pLoc 1)) plNil))) (tLoc 3)) (sCons (sExpr (pCall fn_set_pair (plCons (pLoc 0) (plCons (pSubD kv_ED_PAIRS (pLoc 1)) (plCons (pBin .BitAnd (pBin .Add (pLoc 3) (pLoc 2)) (pV (.int 65535))) plNil))))) (sCons (sRet (pLoc 3)) sNil)))
@[irreducible] noncomputable def fn_step_pair : PF := boxF (defN 3 7 ps_step_pair)
noncomputable def ps_step_count : PS := (sCons (sAssign (pBin .BitAnd (pBin .Sub (pSub (pAttr 31 0 (pLoc 0)) (pV (.int 0))) (pV (.int 1))) (pV (.int 255))) (tSub (pAttr 31 0 (pLoc 0)) (pV (.int 0)))) (sCons (sRet (pSub (pAttr 31 0 (pLoc 0)) (pV (.int 0)))) sNil))
@[irreducible] noncomputable def fn_step_count : PF := boxF (defN 1 2 ps_step_count)
noncomputable def ps_move_round : PS := (sCons (sAssign (pCall fn_peek (plCons (pLoc 1) (plCons (pCall fn_step_pair (plCons (pLoc 0) (plCons (pV (.str 49)) (plCons (pLoc 2) plNil)))) plNil))) (tLoc 3)) (sCons (sExpr (pCall fn_poke (plCons (pLoc 1) (plCons (pCall fn_step_pair (plCons (pLoc 0) (plCons (pV (.str 48)) (plCons (pLoc 2) plNil)))) (plCons (pLoc 3) plNil))))) (sCons (sExpr (pCall fn_step_pair (plCons (pLoc 0) (plCons (pV (.str 47)) (plCons (pNeg (pV (.int 1))) plNil))))) (sCons (sAssign (pCall fn_pair (plCons (pLoc 0) (plCons (pSubD kv_ED_PAIRS (pV (.str 47))) plNil))) (tLoc 4)) (sCons (sAssign (pCall fn_move_flags (plCons (pSub (pAttr 31 0 (pLoc 0)) (pV (.int 7))) (plCons (pLoc 3) (plCons (pLoc 4) (plCons (pSub (pAttr 31 0 (pLoc 0)) (pV (.int 6))) plNil))))) (tSub (pAttr 31 0 (pLoc 0)) (pV (.int 6)))) (sCons (sRet (pCmp .Gt (pLoc 4) (pV (.int 0)))) sNil))))))
@[irreducible] noncomputable def fn_move_round : PF := boxF (defN 3 13 ps_move_round)
noncomputable def ps_seek_round : PS := (sCons (sAssign (pCall fn_peek (plCons (pLoc 1) (plCons (pCall fn_step_pair (plCons (pLoc 0) (plCons (pV (.str 49)) (plCons (pLoc 2) plNil)))) plNil))) (tLoc 3)) (sCons (sExpr (pCall fn_step_pair (plCons (pLoc 0) (plCons (pV (.str 47)) (plCons (pNeg (pV (.int 1))) plNil))))) (sCons (sAssign (pCall fn_pair (plCons (pLoc 0) (plCons (pSubD kv_ED_PAIRS (pV (.str 47))) plNil))) (tLoc 4)) (sCons (sAssign (pCall fn_seek_flags (plCons (pSub (pAttr 31 0 (pLoc 0)) (pV (.int 7))) (plCons (pLoc 3) (plCons (pLoc 4) (plCons (pSub (pAttr 31 0 (pLoc 0)) (pV (.int 6))) plNil))))) (tSub (pAttr 31 0 (pLoc 0)) (pV (.int 6)))) (sCons (sRet (pAnd2 (pCmp .Gt (pLoc 4) (pV (.int 0))) (pCmp .Eq (pBin .BitAnd (pSub (pAttr 31 0 (pLoc 0)) (pV (.int 6))) (pV (.int 64))) (pV (.int 0))))) sNil)))))
@[irreducible] noncomputable def fn_seek_round : PF := boxF (defN 3 13 ps_seek_round)
noncomputable def ps_take_round : PS := (sCons (sAssign (pSub (pAttr 31 0 (pLoc 0)) (pV (.int 1))) (tLoc 4)) (sCons (sAssign (pCall fn_port_in (plCons (pLoc 2) (plCons (pLoc 4) plNil))) (tLoc 5)) (sCons (sExpr (pCall fn_poke (plCons (pLoc 1) (plCons (pCall fn_step_pair (plCons (pLoc 0) (plCons (pV (.str 49)) (plCons (pLoc 3) plNil)))) (plCons (pLoc 5) plNil))))) (sCons (sAssign (pCall fn_step_count (plCons (pLoc 0) plNil)) (tLoc 6)) (sCons (sAssign (pCall fn_port_flags (plCons (pLoc 5) (plCons (pBin .BitAnd (pBin .Add (pLoc 4) (pLoc 3)) (pV (.int 255))) (plCons (pLoc 6) plNil)))) (tSub (pAttr 31 0 (pLoc 0)) (pV (.int 6)))) (sCons (sRet (pCmp .Gt (pLoc 6) (pV (.int 0)))) sNil))))))
@[irreducible] noncomputable def fn_take_round : PF := boxF (defN 4 14 ps_take_round)
noncomputable def ps_send_round : PS := (sCons (sAssign (pCall fn_peek (plCons (pLoc 1) (plCons (pCall fn_step_pair (plCons (pLoc 0) (plCons (pV (.str 49)) (plCons (pLoc 3) plNil)))) plNil))) (tLoc 4)) (sCons (sAssign (pCall fn_step_count (plCons (pLoc 0) plNil)) (tLoc 5)) (sCons (sExpr (pCall fn_port_out (plCons (pLoc 2) (plCons (pSub (pAttr 31 0 (pLoc 0)) (pV (.int 1))) (plCons (pLoc 4) plNil))))) (sCons (sAssign (pCall fn_port_flags (plCons (pLoc 4) (plCons (pSub (pAttr 31 0 (pLoc 0)) (pV (.int 5))) (plCons (pLoc 5) plNil)))) (tSub (pAttr 31 0 (pLoc 0)) (pV (.int 6)))) (sCons (sRet (pCmp .Gt (pLoc 5) (pV (.int 0)))) sNil)))))
@[irreducible] noncomputable def fn_send_round : PF := boxF (defN 4 14 ps_send_round)
noncomputable def ps_do_block_plan : PS := (sCons (sIf (bCmp .Eq (pLoc 0) (pV (.str 35))) (sCons (sAssign (pCall fn_move_round (plCons (pLoc 3) (plCons (pLoc 4) (plCons (pLoc 1) plNil)))) (tLoc 6)) sNil) (sCons (sIf (bCmp .Eq (pLoc 0) (pV (.str 36))) (sCons (sAssign (pCall fn_seek_round (plCons (pLoc 3) (plCons (pLoc 4) (plCons (pLoc 1) plNil)))) (tLoc 6)) sNil) (sCons (sIf (bCmp .Eq (pLoc 0) (pV (.str 37))) (sCons (sAssign (pCall fn_take_round (plCons (pLoc 3) (plCons (pLoc 4) (plCons (pLoc 5) (plCons (pLoc 1) plNil))))) (tLoc 6)) sNil) (sCons (sAssign (pCall fn_send_round (plCons (pLoc 3) (plCons (pLoc 4) (plCons (pLoc 5) (plCons (pLoc 1) plNil))))) (tLoc 6)) sNil)) sNil)) sNil)) (sCons (sIf (bOr (bNot (bVal (pLoc 2))) (bOr (bNot (bVal (pLoc 6))) bOrNil)) (sCons (sRet (pV (.int 16))) sNil) sNil) (sCons (sAssign (pBin .BitAnd (pBin .Sub (pAttr 31 5 (pLoc 3)) (pV (.int 2))) (pV (.int 65535))) (tAttr 31 5 (pLoc 3))) (sCons (sRet (pBin .Add (pV (.int 16)) (pV (.int 5)))) sNil))))
@[irreducible] noncomputable def fn_do_block_plan : PF := boxF (defN 6 12 ps_do_block_plan)
noncomputable def ps_do_port_plan : PS := (sCons (sIf (bCmp .Eq (pLoc 0) (pV (.str 20))) (sCons (sExpr (pCall fn_port_out (plCons (pLoc 3) (plCons (pSub (pAttr 31 0 (pLoc 2)) (pV (.int 1))) (plCons (pIf (bCmp .Eq (pLoc 1) (pV (.str 46))) (pV (.int 0)) (pSub (pAttr 31 0 (pLoc 2)) (pSubD kv_ED_ROOMS (pLoc 1)))) plNil))))) (sCons sRetN sNil)) sNil) (sCons (sAssign (pCall fn_port_in (plCons (pLoc 3) (plCons (pSub (pAttr 31 0 (pLoc 2)) (pV (.int 1))) plNil))) (tLoc 4)) (sCons (sAssign (pCall fn_in_flags (plCons (pLoc 4) (plCons (pSub (pAttr 31 0 (pLoc 2)) (pV (.int 6))) plNil))) (tSub (pAttr 31 0 (pLoc 2)) (pV (.int 6)))) (sCons (sIf (bCmp .NotEq (pLoc 1) (pV (.str 46))) (sCons (sAssign (pLoc 4) (tSub (pAttr 31 0 (pLoc 2)) (pSubD kv_ED_ROOMS (pLoc 1)))) sNil) sNil) sNil))))
@[irreducible] noncomputable def fn_do_port_plan : PF := boxF (defN 4 11 ps_do_port_plan)
noncomputable def ps_do_pair_plan : PS := (sCons (sIf (bCmp .Eq (pLoc 0) (pV (.str 23))) (sCons (sExpr (pCall fn_poke16 (plCons (pLoc 3) (plCons (pCall fn_fetch16 (plCons (pLoc 2) (plCons (pLoc 3) plNil))) (plCons (pCall fn_pair (plCons (pLoc 2) (plCons (pSubD kv_ED_PAIRS (pLoc 1)) plNil))) plNil))))) sNil) (sCons (sIf (bCmp .Eq (pLoc 0) (pV (.str 24))) (sCons (sExpr (pCall fn_set_pair (plCons (pLoc 2) (plCons (pSubD kv_ED_PAIRS (pLoc 1)) (plCons (pCall fn_peek16 (plCons (pLoc 3) (plCons (pCall fn_fetch16 (plCons (pLoc 2) (plCons (pLoc 3) plNil))) plNil))) plNil))))) sNil) (sCons (sSwap 3 (pTup (plCons (pCall fn_pair (plCons (pLoc 2) (plCons (pSubD kv_ED_PAIRS (pV (.str 49))) plNil))) (plCons (pCall fn_pair (plCons (pLoc 2) (plCons (pSubD kv_ED_PAIRS (pLoc 1)) plNil))) (plCons (pBin .BitAnd (pSub (pAttr 31 0 (pLoc 2)) (pV (.int 6))) (pV (.int 1))) plNil)))) (tsCons (tLoc 6) (tsCons (tLoc 5) (tsCons (tLoc 4) tsNil)))) (sCons (sAssign (pIf (bCmp .Eq (pLoc 0) (pV (.str 21))) (pCall fn_sbc16 (plCons (pLoc 4) (plCons (pLoc 5) (plCons (pLoc 6) plNil)))) (pCall fn_adc16 (plCons (pLoc 4) (plCons (pLoc 5) (plCons (pLoc 6) plNil))))) (tTup 2 (tsCons (tLoc 7) (tsCons (tSub (pAttr 31 0 (pLoc 2)) (pV (.int 6))) tsNil)))) (sCons (sExpr (pCall fn_set_pair (plCons (pLoc 2) (plCons (pSubD kv_ED_PAIRS (pV (.str 49))) (plCons (pLoc 7) plNil))))) sNil)))) sNil)) sNil)
@[irreducible] noncomputable def fn_do_pair_plan : PF := boxF (defN 4 18 ps_do_pair_plan)
noncomputable def ps_do_halves_plan : PS := (sCons (sSwap 2 (pTup (plCons (pCall fn_pair (plCons (pLoc 1) (plCons (pSubD kv_ED_PAIRS (pV (.str 49))) plNil))) (plCons (pSub (pAttr 31 0 (pLoc 1)) (pV (.int 7))) plNil))) (tsCons (tLoc 4) (tsCons (tLoc 3) tsNil))) (sCons (sAssign (pIf (bCmp .Eq (pLoc 0) (pV (.str 33))) (pCall fn_rrd (plCons (pLoc 4) (plCons (pCall fn_peek (plCons (pLoc 2) (plCons (pLoc 3) plNil))) (plCons (pSub (pAttr 31 0 (pLoc 1)) (pV (.int 6))) plNil)))) (pCall fn_rld (plCons (pLoc 4) (plCons (pCall fn_peek (plCons (pLoc 2) (plCons (pLoc 3) plNil))) (plCons (pSub (pAttr 31 0 (pLoc 1)) (pV (.int 6))) plNil))))) (tLoc 5)) (sCons (sAssign (pLoc 5) (tTup 3 (tsCons (tSub (pAttr 31 0 (pLoc 1)) (pV (.int 7))) (tsCons (tLoc 6) (tsCons (tSub (pAttr 31 0 (pLoc 1)) (pV (.int 6))) tsNil))))) (sCons (sExpr (pCall fn_poke (plCons (pLoc 2) (plCons (pLoc 3) (plCons (pLoc 6) plNil))))) sNil))))
@[irreducible] noncomputable def fn_do_halves_plan : PF := boxF (defN 3 15 ps_do_halves_plan)
noncomputable def ps_do_special_plan : PS := (sCons (sIf (bCmp .Eq (pLoc 0) (pV (.str 29))) (sCons (sAssign (pSub (pAttr 31 0 (pLoc 1)) (pV (.int 7))) (tAttr 31 6 (pLoc 1))) sNil) (sCons (sIf (bCmp .Eq (pLoc 0) (pV (.str 30))) (sCons (sAssign (pSub (pAttr 31 0 (pLoc 1)) (pV (.int 7))) (tAttr 31 7 (pLoc 1))) sNil) (sCons (sAssign (pIf (bCmp .Eq (pLoc 0) (pV (.str 31))) (pAttr 31 6 (pLoc 1)) (pAttr 31 7 (pLoc 1))) (tSub (pAttr 31 0 (pLoc 1)) (pV (.int 7)))) (sCons (sAssign (pCall fn_load_flags (plCons (pSub (pAttr 31 0 (pLoc 1)) (pV (.int 7))) (plCons (pAttr 31 9 (pLoc 1)) (plCons (pSub (pAttr 31 0 (pLoc 1)) (pV (.int 6))) plNil)))) (tSub (pAttr 31 0 (pLoc 1)) (pV (.int 6)))) sNil))) sNil)) sNil)
@[irreducible] noncomputable def fn_do_special_plan : PF := boxF (defN 2 5 ps_do_special_plan)
noncomputable def ps_do_ed_plan : PS := (sCons (sAssign (pLoc 0) (tTup 3 (tsCons (tLoc 4) (tsCons (tLoc 5) (tsCons (tLoc 6) tsNil))))) (sCons (sIf (bIn (pLoc 4) (pTup (plCons (pV (.str 35)) (plCons (pV (.str 36)) (plCons (pV (.str 37)) (plCons (pV (.str 38)) plNil)))))) (sCons (sRet (pCall fn_do_block_plan (plCons (pLoc 4) (plCons (pSub (pLoc 5) (pV (.int 0))) (plCons (pSub (pLoc 5) (pV (.int 1))) (plCons (pLoc 1) (plCons (pLoc 2) (plCons (pLoc 3) plNil)))))))) sNil) sNil) (sCons (sIf (bIn (pLoc 4) (pTup (plCons (pV (.str 19)) (plCons (pV (.str 20)) plNil)))) (sCons (sExpr (pCall fn_do_port_plan (plCons (pLoc 4) (plCons (pSub (pLoc 5) (pV (.int 0))) (plCons (pLoc 1) (plCons (pLoc 3) plNil)))))) sNil) (sCons (sIf (bIn (pLoc 4) (pTup (plCons (pV (.str 21)) (plCons (pV (.str 22)) (plCons (pV (.str 23)) (plCons (pV (.str 24)) plNil)))))) (sCons (sExpr (pCall fn_do_pair_plan (plCons (pLoc 4) (plCons (pSub (pLoc 5) (pV (.int 0))) (plCons (pLoc 1) (plCons (pLoc 2) plNil)))))) sNil) (sCons (sIf (bIn (pLoc 4) (pTup (plCons (pV (.str 33)) (plCons (pV (.str 34)) plNil)))) (sCons (sExpr (pCall fn_do_halves_plan (plCons (pLoc 4) (plCons (pLoc 1) (plCons (pLoc 2) plNil))))) sNil) (sCons (sIf (bCmp .Eq (pLoc 4) (pV (.str 25))) (sCons (sAssign (pCall fn_neg (plCons (pSub (pAttr 31 0 (pLoc 1)) (pV (.int 7))) plNil)) (tTup 2 (tsCons (tSub (pAttr 31 0 (pLoc 1)) (pV (.int 7))) (tsCons (tSub (pAttr 31 0 (pLoc 1)) (pV (.int 6))) tsNil)))) sNil) (sCons (sIf (bCmp .Eq (pLoc 4) (pV (.str 28))) (sCons (sAssign (pSub (pLoc 5) (pV (.int 0))) (tAttr 31 10 (pLoc 1))) sNil) (sCons (sIf (bIn (pLoc 4) (pTup (plCons (pV (.str 27)) (plCons (pV (.str 26)) plNil)))) (sCons (sAssign (pCall fn_pop (plCons (pLoc 1) (plCons (pLoc 2) plNil))) (tAttr 31 5 (pLoc 1))) (sCons (sAssign (pAttr 31 9 (pLoc 1)) (tAttr 31 8 (pLoc 1))) sNil)) (sCons (sIf (bCmp .NotEq (pLoc 4) (pV (.str 18))) (sCons (sExpr (pCall fn_do_special_plan (plCons (pLoc 4) (plCons (pLoc 1) plNil)))) sNil) sNil) sNil)) sNil)) sNil)) sNil)) sNil)) sNil)) (sCons (sRet (pLoc 6)) sNil))))
@[irreducible] noncomputable def fn_do_ed_plan : PF := boxF (defN 4 16 ps_do_ed_plan)
noncomputable def ps_come_in : PS := (sCons (sAssign (pCall fn_port_in (plCons (pLoc 1) (plCons (pSub (pAttr 31 0 (pLoc 0)) (pV (.int 1))) plNil))) (tLoc 3)) (sCons (sAssign (pCall fn_in_flags (plCons (pLoc 3) (plCons (pSub (pAttr 31 0 (pLoc 0)) (pV (.int 6))) plNil))) (tSub (pAttr 31 0 (pLoc 0)) (pV (.int 6)))) (sCons (sIf (bCmp .NotEq (pLoc 2) (pV (.int 6))) (sCons (sAssign (pLoc 3) (tSub (pAttr 31 0 (pLoc 0)) (pLoc 2))) sNil) sNil) sNil)))
@[irreducible] noncomputable def fn_come_in : PF := boxF (defN 3 9 ps_come_in)
noncomputable def ps_add_words : PS := (sCons (sAssign (pIf (bCmp .Eq (pBin .BitAnd (pLoc 1) (pV (.int 1))) (pV (.int 1))) (pV (.raw (.ref 189))) (pV (.raw (.ref 196)))) (tLoc 2)) (sCons (sAssign (pCallV 2 [(189, fn_adc16), (196, fn_sbc16)] (plCons (pCall fn_pair (plCons (pLoc 0) (plCons (pV (.int 2)) plNil))) (plCons (pCall fn_pair (plCons (pLoc 0) (plCons (pBin .RShift (pLoc 1) (pV (.int 1))) plNil))) (plCons (pBin .BitAnd (pSub (pAttr 31 0 (pLoc 0)) (pV (.int 6))) (pV (.int 1))) plNil)))) (tTup 2 (tsCons (tLoc 3) (tsCons (tSub (pAttr 31 0 (pLoc 0)) (pV (.int 6))) tsNil)))) (sCons (sExpr (pCall fn_set_pair (plCons (pLoc 0) (plCons (pV (.int 2)) (plCons (pLoc 3) plNil))))) sNil)))
@[irreducible] noncomputable def fn_add_words : PF := boxF (defN 2 11 ps_add_words)
noncomputable def ps_load_words : PS := (sCons (sAssign (pCall fn_fetch16 (plCons (pLoc 0) (plCons (pLoc 1) plNil))) (tLoc 3)) (sCons (sIf (bCmp .Eq (pBin .BitAnd (pLoc 2) (pV (.int 1))) (pV (.int 1))) (sCons (sExpr (pCall fn_set_pair (plCons (pLoc 0) (plCons (pBin .RShift (pLoc 2) (pV (.int 1))) (plCons (pCall fn_peek16 (plCons (pLoc 1) (plCons (pLoc 3) plNil))) plNil))))) sNil) (sCons (sExpr (pCall fn_poke16 (plCons (pLoc 1) (plCons (pLoc 3) (plCons (pCall fn_pair (plCons (pLoc 0) (plCons (pBin .RShift (pLoc 2) (pV (.int 1))) plNil))) plNil))))) sNil)) sNil))
@[irreducible] noncomputable def fn_load_words : PF := boxF (defN 3 9 ps_load_words)
noncomputable def ps_do_special : PS := (sCons (sIf (bCmp .Gt (pLoc 2) (pV (.int 5))) (sCons (sRet (pV (.int 8))) sNil) sNil) (sCons (sIf (bCmp .Gt (pLoc 2) (pV (.int 3))) (sCons (sSwap 2 (pTup (plCons (pIf (bCmp .Eq (pLoc 2) (pV (.int 4))) (pV (.raw (.ref 203))) (pV (.raw (.ref 210)))) (plCons (pCall fn_pair (plCons (pLoc 0) (plCons (pV (.int 2)) plNil))) plNil))) (tsCons (tLoc 4) (tsCons (tLoc 3) tsNil))) (sCons (sAssign (pCallV 3 [(203, fn_rrd), (210, fn_rld)] (plCons (pSub (pAttr 31 0 (pLoc 0)) (pV (.int 7))) (plCons (pCall fn_peek (plCons (pLoc 1) (plCons (pLoc 4) plNil))) (plCons (pSub (pAttr 31 0 (pLoc 0)) (pV (.int 6))) plNil)))) (tTup 3 (tsCons (tSub (pAttr 31 0 (pLoc 0)) (pV (.int 7))) (tsCons (tLoc 5) (tsCons (tSub (pAttr 31 0 (pLoc 0)) (pV (.int 6))) tsNil))))) (sCons (sExpr (pCall fn_poke (plCons (pLoc 1) (plCons (pLoc 4) (plCons (pLoc 5) plNil))))) (sCons (sRet (pV (.int 18))) sNil)))) sNil) (sCons (sIf (bCmp .Eq (pLoc 2) (pV (.int 0))) (sCons (sAssign (pSub (pAttr 31 0 (pLoc 0)) (pV (.int 7))) (tAttr 31 6 (pLoc 0))) sNil) (sCons (sIf (bCmp .Eq (pLoc 2) (pV (.int 1))) (sCons (sAssign (pSub (pAttr 31 0 (pLoc 0)) (pV (.int 7))) (tAttr 31 7 (pLoc 0))) sNil) (sCons (sAssign (pIf (bCmp .Eq (pLoc 2) (pV (.int 2))) (pAttr 31 6 (pLoc 0)) (pAttr 31 7 (pLoc 0))) (tSub (pAttr 31 0 (pLoc 0)) (pV (.int 7)))) (sCons (sAssign (pCall fn_load_flags (plCons (pSub (pAttr 31 0 (pLoc 0)) (pV (.int 7))) (plCons (pAttr 31 9 (pLoc 0)) (plCons (pSub (pAttr 31 0 (pLoc 0)) (pV (.int 6))) plNil)))) (tSub (pAttr 31 0 (pLoc 0)) (pV (.int 6)))) sNil))) sNil)) (sCons (sRet (pSubL [12, 12, 15, 20, 8, 14, 8, 9] (pV (.int 7)))) sNil))))
@[irreducible] noncomputable def fn_do_special : PF := boxF (defN 3 17 ps_do_special)
noncomputable def ps_lead : PS := (sCons (sExpr (pCall fn_set_pair (plCons (pLoc 0) (plCons (pLoc 1) (plCons (pBin .BitAnd (pBin .Add (pCall fn_pair (plCons (pLoc 0) (plCons (pLoc 1) plNil))) (pLoc 2)) (pV (.int 65535))) plNil))))) (sCons (sRet (pCall fn_pair (plCons (pLoc 0) (plCons (pLoc 1) plNil)))) sNil))
@[irreducible] noncomputable def fn_lead : PF := boxF (defN 3 5 ps_lead)
noncomputable def ps_move_one : PS := (sCons (sAssign (pCall fn_peek (plCons (pLoc 1) (plCons (pCall fn_pair (plCons (pLoc 0) (plCons (pV (.int 2)) plNil))) plNil))) (tLoc 3)) (sCons (sExpr (pCall fn_poke (plCons (pLoc 1) (plCons (pCall fn_pair (plCons (pLoc 0) (plCons (pV (.int 1)) plNil))) (plCons (pLoc 3) plNil))))) (sCons (sExpr (pCall fn_lead (plCons (pLoc 0) (plCons (pV (.int 2)) (plCons (pLoc 2) plNil))))) (sCons (sExpr (pCall fn_lead (plCons (pLoc 0) (plCons (pV (.int 1)) (plCons (pLoc 2) plNil))))) (sCons (sAssign (pCall fn_lead (plCons (pLoc 0) (plCons (pV (.int 0)) (plCons (pNeg (pV (.int 1))) plNil)))) (tLoc 4)) (sCons (sAssign (pCall fn_move_flags (plCons (pSub (pAttr 31 0 (pLoc 0)) (pV (.int 7))) (plCons (pLoc 3) (plCons (pLoc 4) (plCons (pSub (pAttr 31 0 (pLoc 0)) (pV (.int 6))) plNil))))) (tSub (pAttr 31 0 (pLoc 0)) (pV (.int 6)))) (sCons (sRet (pCmp .NotEq (pLoc 4) (pV (.int 0)))) sNil)))))))
@[irreducible] noncomputable def fn_move_one : PF := boxF (defN 3 15 ps_move_one)
noncomputable def ps_seek_one : PS := (sCons (sAssign (pCall fn_peek (plCons (pLoc 1) (plCons (pCall fn_pair (plCons (pLoc 0) (plCons (pV (.int 2)) plNil))) plNil))) (tLoc 3)) (sCons (sExpr (pCall fn_lead (plCons (pLoc 0) (plCons (pV (.int 2)) (plCons (pLoc 2) plNil))))) (sCons (sAssign (pCall fn_lead (plCons (pLoc 0) (plCons (pV (.int 0)) (plCons (pNeg (pV (.int 1))) plNil)))) (tLoc 4)) (sCons (sAssign (pCall fn_seek_flags (plCons (pSub (pAttr 31 0 (pLoc 0)) (pV (.int 7))) (plCons (pLoc 3) (plCons (pLoc 4) (plCons (pSub (pAttr 31 0 (pLoc 0)) (pV (.int 6))) plNil))))) (tSub (pAttr 31 0 (pLoc 0)) (pV (.int 6)))) (sCons (sRet (pAnd2 (pCmp .NotEq (pLoc 4) (pV (.int 0))) (pCmp .Eq (pBin .BitAnd (pSub (pAttr 31 0 (pLoc 0)) (pV (.int 6))) (pV (.int 64))) (pV (.int 0))))) sNil)))))
@[irreducible] noncomputable def fn_seek_one : PF := boxF (defN 3 14 ps_seek_one)
noncomputable def ps_take_one : PS := (sCons (sAssign (pCall fn_port_in (plCons (pLoc 2) (plCons (pSub (pAttr 31 0 (pLoc 0)) (pV (.int 1))) plNil))) (tLoc 4)) (sCons (sExpr (pCall fn_poke (plCons (pLoc 1) (plCons (pCall fn_pair (plCons (pLoc 0) (plCons (pV (.int 2)) plNil))) (plCons (pLoc 4) plNil))))) (sCons (sExpr (pCall fn_lead (plCons (pLoc 0) (plCons (pV (.int 2)) (plCons (pLoc 3) plNil))))) (sCons (sAssign (pBin .BitAnd (pBin .Sub (pSub (pAttr 31 0 (pLoc 0)) (pV (.int 0))) (pV (.int 1))) (pV (.int 255))) (tSub (pAttr 31 0 (pLoc 0)) (pV (.int 0)))) (sCons (sAssign (pCall fn_port_flags (plCons (pLoc 4) (plCons (pBin .BitAnd (pBin .Add (pSub (pAttr 31 0 (pLoc 0)) (pV (.int 1))) (pLoc 3)) (pV (.int 255))) (plCons (pSub (pAttr 31 0 (pLoc 0)) (pV (.int 0))) plNil)))) (tSub (pAttr 31 0 (pLoc 0)) (pV (.int 6)))) (sCons (sRet (pCmp .NotEq (pSub (pAttr 31 0 (pLoc 0)) (pV (.int 0))) (pV (.int 0)))) sNil))))))
@[irreducible] noncomputable def fn_take_one : PF := boxF (defN 4 14 ps_take_one)
noncomputable def ps_send_one : PS := (sCons (sAssign (pCall fn_peek (plCons (pLoc 1) (plCons (pCall fn_pair (plCons (pLoc 0) (plCons (pV (.int 2)) plNil))) plNil))) (tLoc 4)) (sCons (sExpr (pCall fn_lead (plCons (pLoc 0) (plCons (pV (.int 2)) (plCons (pLoc 3) plNil))))) (sCons (sAssign (pBin .BitAnd (pBin .Sub (pSub (pAttr 31 0 (pLoc 0)) (pV (.int 0))) (pV (.int 1))) (pV (.int 255))) (tSub (pAttr 31 0 (pLoc 0)) (pV (.int 0)))) (sCons (sExpr (pCall fn_port_out (plCons (pLoc 2) (plCons (pSub (pAttr 31 0 (pLoc 0)) (pV (.int 1))) (plCons (pLoc 4) plNil))))) (sCons (sAssign (pCall fn_port_flags (plCons (pLoc 4) (plCons (pBin .BitAnd (pCall fn_pair (plCons (pLoc 0) (plCons (pV (.int 2)) plNil))) (pV (.int 255))) (plCons (pSub (pAttr 31 0 (pLoc 0)) (pV (.int 0))) plNil)))) (tSub (pAttr 31 0 (pLoc 0)) (pV (.int 6)))) (sCons (sRet (pCmp .NotEq (pSub (pAttr 31 0 (pLoc 0)) (pV (.int 0))) (pV (.int 0)))) sNil))))))
@[irreducible] noncomputable def fn_send_one : PF := boxF (defN 4 14 ps_send_one)
noncomputable def ps_do_block : PS := (sCons (sAssign (pIfI (bCmp .Eq (pBin .BitAnd (pLoc 3) (pV (.int 1))) (pV (.int 0))) 1 (-1)) (tLoc 5)) (sCons (sIf (bCmp .Eq (pLoc 4) (pV (.int 0))) (sCons (sAssign (pCall fn_move_one (plCons (pLoc 0) (plCons (pLoc 1) (plCons (pLoc 5) plNil)))) (tLoc 6)) sNil) (sCons (sIf (bCmp .Eq (pLoc 4) (pV (.int 1))) (sCons (sAssign (pCall fn_seek_one (plCons (pLoc 0) (plCons (pLoc 1) (plCons (pLoc 5) plNil)))) (tLoc 6)) sNil) (sCons (sIf (bCmp .Eq (pLoc 4) (pV (.int 2))) (sCons (sAssign (pCall fn_take_one (plCons (pLoc 0) (plCons (pLoc 1) (plCons (pLoc 2) (plCons (pLoc 5) plNil))))) (tLoc 6)) sNil) (sCons (sAssign (pCall fn_send_one (plCons (pLoc 0) (plCons (pLoc 1) (plCons (pLoc 2) (plCons (pLoc 5) plNil))))) (tLoc 6)) sNil)) sNil)) sNil)) (sCons (sIf (bOr (bCmp .Lt (pLoc 3) (pV (.int 6))) (bOr (bNot (bVal (pLoc 6))) bOrNil)) (sCons (sRet (pV (.int 16))) sNil) sNil) (sCons (sAssign (pBin .BitAnd (pBin .Sub (pAttr 31 5 (pLoc 0)) (pV (.int 2))) (pV (.int 65535))) (tAttr 31 5 (pLoc 0))) (sCons (sRet (pV (.int 21))) sNil)))))
@[irreducible] noncomputable def fn_do_block : PF := boxF (defN 5 13 ps_do_block)
noncomputable def ps_do_ed : PS := (sCons (sSwap 3 (pTup (plCons (pBin .RShift (pLoc 3) (pV (.int 6))) (plCons (pBin .BitAnd (pBin .RShift (pLoc 3) (pV (.int 3))) (pV (.int 7))) (plCons (pBin .BitAnd (pLoc 3) (pV (.int 7))) plNil)))) (tsCons (tLoc 6) (tsCons (tLoc 5) (tsCons (tLoc 4) tsNil)))) (sCons (sIf (bAnd (bCmp .Eq (pLoc 4) (pV (.int 2))) (bAnd (bCmp .Gt (pLoc 5) (pV (.int 3))) (bAnd (bCmp .Lt (pLoc 6) (pV (.int 4))) bAndNil))) (sCons (sRet (pCall fn_do_block (plCons (pLoc 0) (plCons (pLoc 1) (plCons (pLoc 2) (plCons (pLoc 5) (plCons (pLoc 6) plNil))))))) sNil) sNil) (sCons (sIf (bCmp .NotEq (pLoc 4) (pV (.int 1))) (sCons (sRet (pV (.int 8))) sNil) sNil) (sCons (sIf (bCmp .Eq (pLoc 6) (pV (.int 0))) (sCons (sExpr (pCall fn_come_in (plCons (pLoc 0) (plCons (pLoc 2) (plCons (pLoc 5) plNil))))) sNil) (sCons (sIf (bCmp .Eq (pLoc 6) (pV (.int 1))) (sCons (sExpr (pCall fn_port_out (plCons (pLoc 2) (plCons (pSub (pAttr 31 0 (pLoc 0)) (pV (.int 1))) (plCons (pIf (bCmp .Eq (pLoc 5) (pV (.int 6))) (pV (.int 0)) (pSub (pAttr 31 0 (pLoc 0)) (pLoc 5))) plNil))))) sNil) (sCons (sIf (bCmp .Eq (pLoc 6) (pV (.int 2))) (sCons (sExpr (pCall fn_add_words (plCons (pLoc 0) (plCons (pLoc 5) plNil)))) sNil) (sCons (sIf (bCmp .Eq (pLoc 6) (pV (.int 3))) (sCons (sExpr (pCall fn_load_words (plCons (pLoc 0) (plCons (pLoc 1) (plCons (pLoc 5) plNil))))) sNil) (sCons (sIf (bCmp .Eq (pLoc 6) (pV (.int 4))) (sCons (sAssign (pCall fn_neg (plCons (pSub (pAttr 31 0 (pLoc 0)) (pV (.int 7))) plNil)) (tTup 2 (tsCons (tSub (pAttr 31 0 (pLoc 0)) (pV (.int 7))) (tsCons (tSub (pAttr 31 0 (pLoc 0)) (pV (.int 6))) tsNil)))) sNil) (sCons (sIf (bCmp .Eq (pLoc 6) (pV (.int 5))) (sCons (sAssign (pCall fn_pop (plCons (pLoc 0) (plCons (pLoc 1) plNil))) (tAttr 31 5 (pLoc 0))) (sCons (sAssign (pAttr 31 9 (pLoc 0)) (tAttr 31 8 (pLoc 0))) sNil)) (sCons (sIf (bCmp .Eq (pLoc 6) (pV (.int 6))) (sCons (sAssign (pSubL [0, 0, 1, 2, 0, 0, 1, 2] (pLoc 5)) (tAttr 31 10 (pLoc 0))) sNil) (sCons (sRet (pCall fn_do_special (plCons (pLoc 0) (plCons (pLoc 1) (plCons (pLoc 5) plNil))))) sNil)) sNil)) sNil)) sNil)) sNil)) sNil)) sNil)) (sCons (sRet (pSubL [12, 12, 15, 20, 8, 14, 8, 9] (pLoc 6))) sNil)))))
@[irreducible] noncomputable def fn_do_ed : PF := boxF (defN 4 22 ps_do_ed)
noncomputable def ps__law_take : PS := (sCons (sIf (bCmp .Gt (pCall lenF (plCons (pSub (pLoc 0) (pV (.int 0))) plNil)) (pV (.int 0))) (sCons (sRet (pBin .Mod (pPop0 (pSub (pLoc 0) (pV (.int 0))) (pV (.int 0))) (pLoc 1))) sNil) sNil) (sCons (sAssign (pBin .Mod (pBin .Add (pBin .Mult (pSub (pLoc 0) (pV (.int 1))) (pV (.int 4099))) (pV (.int 12301))) (pV (.int 1000003))) (tSub (pLoc 0) (pV (.int 1)))) (sCons (sRet (pBin .Mod (pBin .FloorDiv (pSub (pLoc 0) (pV (.int 1))) (pV (.int 16))) (pLoc 1))) sNil)))
@[irreducible] noncomputable def fn__law_take : PF := boxF (defN 2 3 ps__law_take)
noncomputable def nl__law_box : Slots := [(Str.ofString "script", .local), (Str.ofString "number", .local), (Str.ofString "box", .local), (Str.ofString "abs", .globalImplicit), (Str.ofString "int", .globalImplicit)]
noncomputable def ps__law_box (l : Addr) (xs : List Int) : PS := (sCons (sAssign (pList (plCons (pComp (srcOf 0 [(Str.ofString ".0", .local), (Str.ofString "number", .local), (Str.ofString "abs", .globalImplicit), (Str.ofString "int", .globalImplicit)]) (pItList (pSliceTop l xs 24 (pLoc 0))) (tLoc 1) (pCall absF (plCons (pCall intF (plCons (pLoc 1) plNil)) plNil))) (plCons (pV (.int 19)) plNil))) (tLoc 2)) (sCons (weakS (sFor (pItList (pSliceTop l xs 24 (pLoc 0))) (tLoc 1) (sCons (sAssign (pBin .Mod (pBin .Add (pBin .Mult (pSub (pLoc 2) (pV (.int 1))) (pV (.int 37))) (pCall absF (plCons (pCall intF (plCons (pLoc 1) plNil)) plNil))) (pV (.int 1000003))) (tSub (pLoc 2) (pV (.int 1)))) sNil))) (sCons (sRet (pLoc 2)) sNil)))
@[irreducible] noncomputable def fn__law_box (l : Addr) (xs : List Int) : PF := boxF (defN 1 5 (ps__law_box l xs))
noncomputable def nl__law_parity : Slots := [(Str.ofString "v", .cell), (Str.ofString "sum", .globalImplicit), (Str.ofString "range", .globalImplicit)]
noncomputable def ps__law_parity : PS := (sCons (sRet (pIfI (bCmp .Eq (pBin .Mod (pCall sumF (plCons (pComp (srcOf 0 [(Str.ofString ".0", .local), (Str.ofString "at", .local), (Str.ofString "v", .free)]) (pItRange 8) (tLoc 1) (pBin .BitAnd (pBin .RShift (pLoc 2) (pLoc 1)) (pV (.int 1)))) plNil)) (pV (.int 2))) (pV (.int 0))) 4 0)) sNil)
@[irreducible] noncomputable def fn__law_parity : PF := boxF (defN 1 3 ps__law_parity)
noncomputable def ps__law_told : PS := (sCons (sRet (pBin .Add (pBin .Add (pBin .Mult (pBin .FloorDiv (pLoc 0) (pV (.int 128))) (pV (.int 128))) (pIfI (bCmp .Eq (pLoc 0) (pV (.int 0))) 64 0)) (pBin .BitAnd (pLoc 0) (pV (.int 40))))) sNil)
@[irreducible] noncomputable def fn__law_told : PF := boxF (defN 1 1 ps__law_told)
noncomputable def ps__law_signed : PS := (sCons (sRet (pIf (bCmp .Gt (pLoc 0) (pV (.int 32767))) (pBin .Sub (pLoc 0) (pV (.int 65536))) (pLoc 0))) sNil)
@[irreducible] noncomputable def fn__law_signed : PF := boxF (defN 1 1 ps__law_signed)
noncomputable def ps__law_pair : PS := (sCons (sRet (pIf (bCmp .Eq (pLoc 1) (pV (.int 3))) (pSub (pLoc 0) (pV (.str 4))) (pBin .Add (pBin .Mult (pSub (pSub (pLoc 0) (pV (.str 0))) (pBin .Mult (pV (.int 2)) (pLoc 1))) (pV (.int 256))) (pSub (pSub (pLoc 0) (pV (.str 0))) (pBin .Add (pBin .Mult (pV (.int 2)) (pLoc 1)) (pV (.int 1))))))) sNil)
@[irreducible] noncomputable def fn__law_pair : PF := boxF (defN 2 2 ps__law_pair)
noncomputable def ps__law_set : PS := (sCons (sIf (bCmp .Eq (pLoc 1) (pV (.int 3))) (sCons (sAssign (pBin .Mod (pLoc 2) (pV (.int 65536))) (tSub (pLoc 0) (pV (.str 4)))) sNil) (sCons (sAssign (pTup (plCons (pBin .Mod (pBin .FloorDiv (pLoc 2) (pV (.int 256))) (pV (.int 256))) (plCons (pBin .Mod (pLoc 2) (pV (.int 256))) plNil))) (tTup 2 (tsCons (tSub (pSub (pLoc 0) (pV (.str 0))) (pBin .Mult (pV (.int 2)) (pLoc 1))) (tsCons (tSub (pSub (pLoc 0) (pV (.str 0))) (pBin .Add (pBin .Mult (pV (.int 2)) (pLoc 1)) (pV (.int 1)))) tsNil)))) sNil)) sNil)
@[irreducible] noncomputable def fn__law_set : PF := boxF (defN 3 3 ps__law_set)
noncomputable def ps__law_word : PS := (sCons (sRet (pBin .Add (pSub (pSub (pLoc 0) (pV (.str 17))) (pBin .Mod (pLoc 1) (pV (.int 64)))) (pBin .Mult (pV (.int 256)) (pSub (pSub (pLoc 0) (pV (.str 17))) (pBin .Mod (pBin .Add (pLoc 1) (pV (.int 1))) (pV (.int 64))))))) sNil)
@[irreducible] noncomputable def fn__law_word : PF := boxF (defN 2 2 ps__law_word)
noncomputable def ps__law_in : PS := (sCons (sAssign (pBin .Add (pSub (pLoc 0) (pV (.str 15))) (pV (.int 1))) (tSub (pLoc 0) (pV (.str 15)))) (sCons (sRet (pSub (pSub (pLoc 0) (pV (.str 14))) (pBin .Mod (pBin .Sub (pSub (pLoc 0) (pV (.str 15))) (pV (.int 1))) (pCall lenF (plCons (pSub (pLoc 0) (pV (.str 14))) plNil))))) sNil))
@[irreducible] noncomputable def fn__law_in : PF := boxF (defN 1 2 ps__law_in)
noncomputable def ps__law_sum : PS := (sCons (sSwap 3 (pTup (plCons (pCall fn__law_pair (plCons (pLoc 0) (plCons (pV (.int 2)) plNil))) (plCons (pCall fn__law_pair (plCons (pLoc 0) (plCons (pLoc 1) plNil))) (plCons (pBin .Mod (pSub (pSub (pLoc 0) (pV (.str 0))) (pV (.int 6))) (pV (.int 2))) plNil)))) (tsCons (tLoc 5) (tsCons (tLoc 4) (tsCons (tLoc 3) tsNil)))) (sCons (sAssign (pIfI (bVal (pLoc 2)) 1 (-1)) (tLoc 6)) (sCons (sSwap 2 (pTup (plCons (pBin .Add (pLoc 3) (pBin .Mult (pLoc 6) (pBin .Add (pLoc 4) (pLoc 5)))) (plCons (pBin .Add (pBin .Mod (pLoc 3) (pV (.int 4096))) (pBin .Mult (pLoc 6) (pBin .Add (pBin .Mod (pLoc 4) (pV (.int 4096))) (pLoc 5)))) plNil))) (tsCons (tLoc 8) (tsCons (tLoc 7) tsNil))) (sCons (sSwap 2 (pTup (plCons (pBin .Mod (pLoc 7) (pV (.int 65536))) (plCons (pBin .Add (pCall fn__law_signed (plCons (pLoc 3) plNil)) (pBin .Mult (pLoc 6) (pBin .Add (pCall fn__law_signed (plCons (pLoc 4) plNil)) (pLoc 5)))) plNil))) (tsCons (tLoc 10) (tsCons (tLoc 9) tsNil))) (sCons (sAssign (pBin .Add (pBin .Add (pBin .Add (pBin .Mult (pBin .FloorDiv (pLoc 9) (pV (.int 32768))) (pV (.int 128))) (pIfI (bCmp .Eq (pLoc 9) (pV (.int 0))) 64 0)) (pBin .BitAnd (pBin .FloorDiv (pLoc 9) (pV (.int 256))) (pV (.int 40)))) (pIfI (bVal (pLoc 2)) 0 2)) (tLoc 11)) (sCons (sAssign (pBin .Add (pBin .Add (pLoc 11) (pIfI (bNot (bChain .LtE .Lt (pV (.int 0)) (pLoc 8) (pV (.int 4096)))) 16 0)) (pIfI (bNot (bChain .LtE .Lt (pBin .Sub (pV (.int 0)) (pV (.int 32768))) (pLoc 10) (pV (.int 32768)))) 4 0)) (tLoc 11)) (sCons (sAssign (pBin .Add (pLoc 11) (pIfI (bCmp .NotEq (pLoc 7) (pLoc 9)) 1 0)) (tSub (pSub (pLoc 0) (pV (.str 0))) (pV (.int 6)))) (sCons (sExpr (pCall fn__law_set (plCons (pLoc 0) (plCons (pV (.int 2)) (plCons (pLoc 9) plNil))))) sNil))))))))
@[irreducible] noncomputable def fn__law_sum : PF := boxF (defN 3 15 ps__law_sum)
noncomputable def ps__law_block : PS := (sCons (sSwap 3 (pTup (plCons (pSub (pLoc 0) (pV (.str 0))) (plCons (pIfI (bCmp .Eq (pBin .Mod (pLoc 1) (pV (.int 2))) (pV (.int 0))) 1 (-1)) (plCons (pCall fn__law_pair (plCons (pLoc 0) (plCons (pV (.int 2)) plNil))) plNil)))) (tsCons (tLoc 5) (tsCons (tLoc 4) (tsCons (tLoc 3) tsNil)))) (sCons (sSwap 3 (pTup (plCons (pSub (pSub (pLoc 0) (pV (.str 17))) (pBin .Mod (pLoc 5) (pV (.int 64)))) (plCons (pSub (pLoc 3) (pV (.int 6))) (plCons (pSub (pLoc 3) (pV (.int 7))) plNil)))) (tsCons (tLoc 8) (tsCons (tLoc 7) (tsCons (tLoc 6) tsNil)))) (sCons (sIf (bCmp .Eq (pLoc 2) (pV (.int 2))) (sCons (sAssign (pCall fn__law_in (plCons (pLoc 0) plNil)) (tLoc 6)) (sCons (sAssign (pLoc 6) (tSub (pSub (pLoc 0) (pV (.str 17))) (pBin .Mod (pLoc 5) (pV (.int 64))))) sNil)) sNil) (sCons (sExpr (pCall fn__law_set (plCons (pLoc 0) (plCons (pV (.int 2)) (plCons (pBin .Add (pLoc 5) (pLoc 4)) plNil))))) (sCons (sIf (bCmp .Lt (pLoc 2) (pV (.int 2))) (sCons (sExpr (pCall fn__law_set (plCons (pLoc 0) (plCons (pV (.int 0)) (plCons (pBin .Sub (pCall fn__law_pair (plCons (pLoc 0) (plCons (pV (.int 0)) plNil))) (pV (.int 1))) plNil))))) (sCons (sSwap 2 (pTup (plCons (pCall fn__law_pair (plCons (pLoc 0) (plCons (pV (.int 0)) plNil))) (plCons (pV (.bool false)) plNil))) (tsCons (tLoc 10) (tsCons (tLoc 9) tsNil))) (sCons (sIf (bCmp .Eq (pLoc 2) (pV (.int 0))) (sCons (sAssign (pLoc 6) (tSub (pSub (pLoc 0) (pV (.str 17))) (pBin .Mod (pCall fn__law_pair (plCons (pLoc 0) (plCons (pV (.int 1)) plNil))) (pV (.int 64))))) (sCons (sExpr (pCall fn__law_set (plCons (pLoc 0) (plCons (pV (.int 1)) (plCons (pBin .Add (pCall fn__law_pair (plCons (pLoc 0) (plCons (pV (.int 1)) plNil))) (pLoc 4)) plNil))))) (sCons (sAssign (pBin .Add (pLoc 8) (pLoc 6)) (tLoc 11)) (sCons (sAssign (pBin .BitAnd (pLoc 7) (pV (.int 193))) (tSub (pLoc 3) (pV (.int 6)))) sNil)))) (sCons (sSwap 2 (pTup (plCons (pBin .Mod (pBin .Sub (pLoc 8) (pLoc 6)) (pV (.int 256))) (plCons (pIfI (bCmp .Lt (pBin .Mod (pLoc 8) (pV (.int 16))) (pBin .Mod (pLoc 6) (pV (.int 16)))) 16 0) plNil))) (tsCons (tLoc 13) (tsCons (tLoc 12) tsNil))) (sCons (sSwap 2 (pTup (plCons (pBin .Sub (pLoc 12) (pBin .FloorDiv (pLoc 13) (pV (.int 16)))) (plCons (pCmp .Eq (pLoc 12) (pV (.int 0))) plNil))) (tsCons (tLoc 10) (tsCons (tLoc 11) tsNil))) (sCons (sAssign (pBin .Add (pBin .Add (pBin .Add (pBin .Add (pBin .BitAnd (pLoc 12) (pV (.int 128))) (pIfI (bCmp .Eq (pLoc 12) (pV (.int 0))) 64 0)) (pLoc 13)) (pV (.int 2))) (pBin .Mod (pLoc 7) (pV (.int 2)))) (tSub (pLoc 3) (pV (.int 6)))) sNil)))) (sCons (sAssign (pBin .Add (pBin .Add (pBin .Add (pSub (pLoc 3) (pV (.int 6))) (pBin .Mult (pBin .Mod (pBin .FloorDiv (pLoc 11) (pV (.int 2))) (pV (.int 2))) (pV (.int 32)))) (pBin .Mult (pBin .Mod (pBin .FloorDiv (pLoc 11) (pV (.int 8))) (pV (.int 2))) (pV (.int 8)))) (pIfI (bCmp .Gt (pLoc 9) (pV (.int 0))) 4 0)) (tSub (pLoc 3) (pV (.int 6)))) sNil)))) (sCons (sAssign (pBin .Mod (pBin .Sub (pSub (pLoc 3) (pV (.int 0))) (pV (.int 1))) (pV (.int 256))) (tSub (pLoc 3) (pV (.int 0)))) (sCons (sSwap 2 (pTup (plCons (pSub (pLoc 3) (pV (.int 0))) (plCons (pV (.bool false)) plNil))) (tsCons (tLoc 10) (tsCons (tLoc 9) tsNil))) (sCons (sIf (bCmp .Eq (pLoc 2) (pV (.int 3))) (sCons (sExpr (pAppend (pSub (pLoc 0) (pV (.str 16))) (pTup (plCons (pSub (pLoc 3) (pV (.int 1))) (plCons (pLoc 6) plNil))))) sNil) sNil) (sCons (sAssign (pBin .Add (pLoc 6) (pIf (bCmp .Eq (pLoc 2) (pV (.int 2))) (pBin .Mod (pBin .Add (pSub (pLoc 3) (pV (.int 1))) (pLoc 4)) (pV (.int 256))) (pSub (pLoc 3) (pV (.int 5))))) (tLoc 14)) (sCons (sAssign (pBin .Add (pBin .Add (pBin .Add (pCall fn__law_told (plCons (pLoc 9) plNil)) (pIfI (bCmp .Gt (pLoc 14) (pV (.int 255))) 17 0)) (pCall (truncF fn__law_parity) (plCons (pBin .BitXor (pBin .Mod (pLoc 14) (pV (.int 8))) (pLoc 9)) plNil))) (pBin .Mult (pBin .FloorDiv (pLoc 6) (pV (.int 128))) (pV (.int 2)))) (tSub (pLoc 3) (pV (.int 6)))) sNil)))))) (sCons (sIf (bOr (bCmp .Lt (pLoc 1) (pV (.int 6))) (bOr (bCmp .Eq (pLoc 9) (pV (.int 0))) (bOr (bVal (pLoc 10)) bOrNil))) (sCons (sRet (pV (.int 16))) sNil) sNil) (sCons (sAssign (pBin .Mod (pBin .Sub (pSub (pLoc 0) (pV (.str 5))) (pV (.int 2))) (pV (.int 65536))) (tSub (pLoc 0) (pV (.str 5)))) (sCons (sRet (pV (.int 21))) sNil))))))))
@[irreducible] noncomputable def fn__law_block : PF := boxF (defN 3 20 ps__law_block)
noncomputable def ps__law_special : PS := (sCons (sAssign (pSub (pLoc 0) (pV (.str 0))) (tLoc 2)) (sCons (sSwap 3 (pTup (plCons (pBin .Mod (pCall fn__law_pair (plCons (pLoc 0) (plCons (pV (.int 2)) plNil))) (pV (.int 64))) (plCons (pSub (pLoc 2) (pV (.int 7))) (plCons (pBin .Mod (pSub (pLoc 2) (pV (.int 6))) (pV (.int 2))) plNil)))) (tsCons (tLoc 5) (tsCons (tLoc 4) (tsCons (tLoc 3) tsNil)))) (sCons (sIf (bCmp .Gt (pLoc 1) (pV (.int 5))) (sCons (sRet (pV (.int 8))) sNil) sNil) (sCons (sIf (bCmp .Lt (pLoc 1) (pV (.int 2))) (sCons (sAssign (pLoc 4) (tSub (pLoc 0) (pSub (pList (plCons (pV (.str 6)) (plCons (pV (.str 7)) plNil))) (pLoc 1)))) sNil) (sCons (sIf (bCmp .Lt (pLoc 1) (pV (.int 4))) (sCons (sAssign (pSub (pLoc 0) (pSub (pList (plCons (pV (.str 6)) (plCons (pV (.str 7)) plNil))) (pBin .Sub (pLoc 1) (pV (.int 2))))) (tSub (pLoc 2) (pV (.int 7)))) (sCons (sAssign (pBin .Add (pBin .Add (pCall fn__law_told (plCons (pSub (pLoc 2) (pV (.int 7))) plNil)) (pBin .Mult (pV (.int 4)) (pSub (pLoc 0) (pV (.str 9))))) (pLoc 5)) (tSub (pLoc 2) (pV (.int 6)))) sNil)) (sCons (sAssign (pSub (pSub (pLoc 0) (pV (.str 17))) (pLoc 3)) (tLoc 6)) (sCons (sAssign (pBin .Add (pBin .Mult (pBin .FloorDiv (pLoc 4) (pV (.int 16))) (pV (.int 16))) (pIf (bCmp .Eq (pLoc 1) (pV (.int 4))) (pBin .Mod (pLoc 6) (pV (.int 16))) (pBin .FloorDiv (pLoc 6) (pV (.int 16))))) (tSub (pLoc 2) (pV (.int 7)))) (sCons (sAssign (pIf (bCmp .Eq (pLoc 1) (pV (.int 4))) (pBin .Add (pBin .Mult (pBin .Mod (pLoc 4) (pV (.int 16))) (pV (.int 16))) (pBin .FloorDiv (pLoc 6) (pV (.int 16)))) (pBin .Add (pBin .Mult (pBin .Mod (pLoc 6) (pV (.int 16))) (pV (.int 16))) (pBin .Mod (pLoc 4) (pV (.int 16))))) (tSub (pSub (pLoc 0) (pV (.str 17))) (pLoc 3))) (sCons (sAssign (pBin .Add (pBin .Add (pCall fn__law_told (plCons (pSub (pLoc 2) (pV (.int 7))) plNil)) (pCall (truncF fn__law_parity) (plCons (pSub (pLoc 2) (pV (.int 7))) plNil))) (pLoc 5)) (tSub (pLoc 2) (pV (.int 6)))) sNil))))) sNil)) (sCons (sRet (pIfI (bCmp .Gt (pLoc 1) (pV (.int 3))) 18 9)) sNil)))))
@[irreducible] noncomputable def fn__law_special : PF := boxF (defN 2 10 ps__law_special)
noncomputable def ps__law_due : PS := (sCons (sAssign (pTup (plCons (pBin .FloorDiv (pLoc 1) (pV (.int 64))) (plCons (pBin .Mod (pBin .FloorDiv (pLoc 1) (pV (.int 8))) (pV (.int 8))) (plCons (pBin .Mod (pLoc 1) (pV (.int 8))) (plCons (pSub (pLoc 0) (pV (.str 0))) plNil))))) (tTup 4 (tsCons (tLoc 2) (tsCons (tLoc 3) (tsCons (tLoc 4) (tsCons (tLoc 5) tsNil)))))) (sCons (sIf (bAnd (bCmp .Eq (pLoc 2) (pV (.int 2))) (bAnd (bCmp .Gt (pLoc 3) (pV (.int 3))) (bAnd (bCmp .Lt (pLoc 4) (pV (.int 4))) bAndNil))) (sCons (sRet (pCall fn__law_block (plCons (pLoc 0) (plCons (pLoc 3) (plCons (pLoc 4) plNil))))) sNil) sNil) (sCons (sIf (bCmp .NotEq (pLoc 2) (pV (.int 1))) (sCons (sRet (pV (.int 8))) sNil) sNil) (sCons (sIf (bCmp .Eq (pLoc 4) (pV (.int 0))) (sCons (sAssign (pCall fn__law_in (plCons (pLoc 0) plNil)) (tLoc 6)) (sCons (sAssign (pBin .Add (pBin .Add (pCall fn__law_told (plCons (pLoc 6) plNil)) (pCall (truncF fn__law_parity) (plCons (pLoc 6) plNil))) (pBin .Mod (pSub (pLoc 5) (pV (.int 6))) (pV (.int 2)))) (tSub (pLoc 5) (pV (.int 6)))) (sCons (sIf (bCmp .NotEq (pLoc 3) (pV (.int 6))) (sCons (sAssign (pLoc 6) (tSub (pLoc 5) (pLoc 3))) sNil) sNil) sNil))) (sCons (sIf (bCmp .Eq (pLoc 4) (pV (.int 1))) (sCons (sExpr (pAppend (pSub (pLoc 0) (pV (.str 16))) (pTup (plCons (pSub (pLoc 5) (pV (.int 1))) (plCons (pIf (bCmp .Eq (pLoc 3) (pV (.int 6))) (pV (.int 0)) (pSub (pLoc 5) (pLoc 3))) plNil))))) sNil) (sCons (sIf (bCmp .Eq (pLoc 4) (pV (.int 2))) (sCons (sExpr (pCall fn__law_sum (plCons (pLoc 0) (plCons (pBin .FloorDiv (pLoc 3) (pV (.int 2))) (plCons (pCmp .Eq (pBin .Mod (pLoc 3) (pV (.int 2))) (pV (.int 1))) plNil))))) sNil) (sCons (sIf (bCmp .Eq (pLoc 4) (pV (.int 3))) (sCons (sAssign (pCall fn__law_word (plCons (pLoc 0) (plCons (pSub (pLoc 0) (pV (.str 5))) plNil))) (tLoc 7)) (sCons (sAssign (pBin .Mod (pBin .Add (pSub (pLoc 0) (pV (.str 5))) (pV (.int 2))) (pV (.int 65536))) (tSub (pLoc 0) (pV (.str 5)))) (sCons (sIf (bCmp .Eq (pBin .Mod (pLoc 3) (pV (.int 2))) (pV (.int 1))) (sCons (sExpr (pCall fn__law_set (plCons (pLoc 0) (plCons (pBin .FloorDiv (pLoc 3) (pV (.int 2))) (plCons (pCall fn__law_word (plCons (pLoc 0) (plCons (pLoc 7) plNil))) plNil))))) sNil) (sCons (sAssign (pCall fn__law_pair (plCons (pLoc 0) (plCons (pBin .FloorDiv (pLoc 3) (pV (.int 2))) plNil))) (tLoc 6)) (sCons (sAssign (pBin .Mod (pLoc 6) (pV (.int 256))) (tSub (pSub (pLoc 0) (pV (.str 17))) (pBin .Mod (pLoc 7) (pV (.int 64))))) (sCons (sAssign (pBin .FloorDiv (pLoc 6) (pV (.int 256))) (tSub (pSub (pLoc 0) (pV (.str 17))) (pBin .Mod (pBin .Add (pLoc 7) (pV (.int 1))) (pV (.int 64))))) sNil)))) sNil))) (sCons (sIf (bCmp .Eq (pLoc 4) (pV (.int 4))) (sCons (sAssign (pSub (pLoc 5) (pV (.int 7))) (tLoc 8)) (sCons (sAssign (pBin .Mod (pBin .Sub (pV (.int 0)) (pLoc 8)) (pV (.int 256))) (tLoc 6)) (sCons (sAssign (pTup (plCons (pLoc 6) (plCons (pBin .Add (pBin .Add (pBin .Add (pBin .Add (pCall fn__law_told (plCons (pLoc 6) plNil)) (pV (.int 2))) (pIfI (bCmp .Gt (pBin .Mod (pLoc 8) (pV (.int 16))) (pV (.int 0))) 16 0)) (pIfI (bCmp .Eq (pLoc 8) (pV (.int 128))) 4 0)) (pIfI (bCmp .Gt (pLoc 8) (pV (.int 0))) 1 0)) plNil))) (tTup 2 (tsCons (tSub (pLoc 5) (pV (.int 7))) (tsCons (tSub (pLoc 5) (pV (.int 6))) tsNil)))) sNil))) (sCons (sIf (bCmp .Eq (pLoc 4) (pV (.int 5))) (sCons (sAssign (pTup (plCons (pCall fn__law_word (plCons (pLoc 0) (plCons (pSub (pLoc 0) (pV (.str 4))) plNil))) (plCons (pBin .Mod (pBin .Add (pSub (pLoc 0) (pV (.str 4))) (pV (.int 2))) (pV (.int 65536))) (plCons (pSub (pLoc 0) (pV (.str 9))) plNil)))) (tTup 3 (tsCons (tSub (pLoc 0) (pV (.str 5))) (tsCons (tSub (pLoc 0) (pV (.str 4))) (tsCons (tSub (pLoc 0) (pV (.str 8))) tsNil))))) sNil) (sCons (sIf (bCmp .Eq (pLoc 4) (pV (.int 6))) (sCons (sAssign (pSub (pList (plCons (pV (.int 0)) (plCons (pV (.int 0)) (plCons (pV (.int 1)) (plCons (pV (.int 2)) plNil))))) (pBin .Mod (pLoc 3) (pV (.int 4)))) (tSub (pLoc 0) (pV (.str 10)))) sNil) (sCons (sRet (pCall fn__law_special (plCons (pLoc 0) (plCons (pLoc 3) plNil)))) sNil)) sNil)) sNil)) sNil)) sNil)) sNil)) sNil)) (sCons (sRet (pSub (pList (plCons (pV (.int 12)) (plCons (pV (.int 12)) (plCons (pV (.int 15)) (plCons (pV (.int 20)) (plCons (pV (.int 8)) (plCons (pV (.int 14)) (plCons (pV (.int 8)) plNil)))))))) (pLoc 4))) sNil)))))
@[irreducible] noncomputable def fn__law_due : PF := boxF (defN 2 18 ps__law_due)
noncomputable def ps__law_cpu : PS := (sCons (sAssign (pCall nw_Cpu plNil) (tLoc 1)) (sCons (sAssign (pTup (plCons (pCall listF (plCons (pSub (pLoc 0) (pV (.str 0))) plNil)) (plCons (pSub (pLoc 0) (pV (.str 4))) (plCons (pSub (pLoc 0) (pV (.str 5))) (plCons (pSub (pLoc 0) (pV (.str 6))) (plCons (pSub (pLoc 0) (pV (.str 7))) plNil)))))) (tTup 5 (tsCons (tAttr 31 0 (pLoc 1)) (tsCons (tAttr 31 4 (pLoc 1)) (tsCons (tAttr 31 5 (pLoc 1)) (tsCons (tAttr 31 6 (pLoc 1)) (tsCons (tAttr 31 7 (pLoc 1)) tsNil))))))) (sCons (sAssign (pTup (plCons (pSub (pLoc 0) (pV (.str 8))) (plCons (pSub (pLoc 0) (pV (.str 9))) (plCons (pSub (pLoc 0) (pV (.str 10))) plNil)))) (tTup 3 (tsCons (tAttr 31 8 (pLoc 1)) (tsCons (tAttr 31 9 (pLoc 1)) (tsCons (tAttr 31 10 (pLoc 1)) tsNil))))) (sCons (sRet (pLoc 1)) sNil))))
@[irreducible] noncomputable def fn__law_cpu : PF := boxF (defN 1 4 ps__law_cpu)
noncomputable def nl_law : Slots := [(Str.ofString "script", .local), (Str.ofString "box", .cell), (Str.ofString "code", .local), (Str.ofString "d", .local), (Str.ofString "one", .local), (Str.ofString "other", .local), (Str.ofString "here", .local), (Str.ofString "there", .local), (Str.ofString "ports", .local), (Str.ofString "more", .local), (Str.ofString "plan", .local), (Str.ofString "turn", .local), (Str.ofString "ahead", .local), (Str.ofString "states", .local), (Str.ofString "_law_box", .globalImplicit), (Str.ofString "_law_take", .globalImplicit), (Str.ofString "range", .globalImplicit), (Str.ofString "_law_cpu", .globalImplicit), (Str.ofString "list", .globalImplicit), (Str.ofString "Ports", .globalImplicit), (Str.ofString "ed_plans", .globalImplicit), (Str.ofString "_law_due", .globalImplicit), (Str.ofString "do_ed", .globalImplicit), (Str.ofString "do_ed_plan", .globalImplicit), (Str.ofString "cpu_row", .globalImplicit)]
noncomputable def ps_law (l : Addr) (xs : List Int) : PS := (sCons (sAssign (pCall (fn__law_box l xs) (plCons (pLoc 0) plNil)) (tLoc 1)) (sCons (sSwap 2 (pTup (plCons (pCall fn__law_take (plCons (pLoc 1) (plCons (pV (.int 256)) plNil))) (plCons (pDict2 15 16 (pV (.int 0)) (pList plNil)) plNil))) (tsCons (tLoc 3) (tsCons (tLoc 2) tsNil))) (sCons (sIf (bCmp .Gt (pCall fn__law_take (plCons (pLoc 1) (plCons (pV (.int 4)) plNil))) (pV (.int 0))) (sCons (sAssign (pIf (bCmp .Lt (pLoc 2) (pV (.int 160))) (pBin .Add (pV (.int 64)) (pBin .Mod (pLoc 2) (pV (.int 64)))) (pBin .Add (pBin .Add (pV (.int 160)) (pBin .Mult (pBin .Mod (pBin .FloorDiv (pLoc 2) (pV (.int 8))) (pV (.int 4))) (pV (.int 8)))) (pBin .Mod (pLoc 2) (pV (.int 4))))) (tLoc 2)) sNil) sNil) (sCons (sAssign (pTup (plCons (pComp (srcOf 1 [(Str.ofString ".0", .local), (Str.ofString "at", .local), (Str.ofString "_law_take", .globalImplicit), (Str.ofString "box", .free)]) (pItRange 8) (tLoc 1) (pCall fn__law_take (plCons (pLoc 3) (plCons (pV (.int 256)) plNil)))) (plCons (pComp (srcOf 1 [(Str.ofString ".0", .local), (Str.ofString "at", .local), (Str.ofString "_law_take", .globalImplicit), (Str.ofString "box", .free)]) (pItRange 3) (tLoc 1) (pCall fn__law_take (plCons (pLoc 3) (plCons (pV (.int 256)) plNil)))) plNil))) (tTup 2 (tsCons (tSub (pLoc 3) (pV (.str 0))) (tsCons (tSub (pLoc 3) (pV (.str 14))) tsNil)))) (sCons (sAssign (pComp (srcOf 1 [(Str.ofString ".0", .local), (Str.ofString "at", .local), (Str.ofString "_law_take", .globalImplicit), (Str.ofString "box", .free)]) (pItRange 64) (tLoc 1) (pCall fn__law_take (plCons (pLoc 3) (plCons (pV (.int 256)) plNil)))) (tSub (pLoc 3) (pV (.str 17)))) (sCons (sAssign (pComp (srcOf 1 [(Str.ofString ".0", .local), (Str.ofString "many", .local), (Str.ofString "_law_take", .globalImplicit), (Str.ofString "box", .free)]) (pItTup (pTup (plCons (pV (.int 65536)) (plCons (pV (.int 65536)) (plCons (pV (.int 256)) (plCons (pV (.int 256)) plNil)))))) (tLoc 1) (pCall fn__law_take (plCons (pLoc 3) (plCons (pLoc 1) plNil)))) (tTupL 4 (tsCons (tSub (pLoc 3) (pV (.str 4))) (tsCons (tSub (pLoc 3) (pV (.str 5))) (tsCons (tSub (pLoc 3) (pV (.str 6))) (tsCons (tSub (pLoc 3) (pV (.str 7))) tsNil)))))) (sCons (sAssign (pTup (plCons (pCall fn__law_take (plCons (pLoc 1) (plCons (pV (.int 2)) plNil))) (plCons (pCall fn__law_take (plCons (pLoc 1) (plCons (pV (.int 2)) plNil))) (plCons (pCall fn__law_take (plCons (pLoc 1) (plCons (pV (.int 3)) plNil))) plNil)))) (tTup 3 (tsCons (tSub (pLoc 3) (pV (.str 8))) (tsCons (tSub (pLoc 3) (pV (.str 9))) (tsCons (tSub (pLoc 3) (pV (.str 10))) tsNil))))) (sCons (sIf (bCmp .GtE (pLoc 2) (pV (.int 160))) (sCons (sAssign (pIf (bCmp .Lt (pBin .Mod (pLoc 2) (pV (.int 8))) (pV (.int 2))) (pTup (plCons (pV (.int 0)) (plCons (pBin .Add (pV (.int 1)) (pBin .Mod (pSub (pSub (pLoc 3) (pV (.str 0))) (pV (.int 1))) (pV (.int 9)))) plNil))) (pTup (plCons (pBin .Add (pV (.int 1)) (pBin .Mod (pSub (pSub (pLoc 3) (pV (.str 0))) (pV (.int 0))) (pV (.int 9)))) (plCons (pSub (pSub (pLoc 3) (pV (.str 0))) (pV (.int 1))) plNil)))) (tTup 2 (tsCons (tSub (pSub (pLoc 3) (pV (.str 0))) (pV (.int 0))) (tsCons (tSub (pSub (pLoc 3) (pV (.str 0))) (pV (.int 1))) tsNil)))) sNil) sNil) (sCons (weakS (sAssign (pTup (plCons (pCall fn__law_cpu (plCons (pLoc 3) plNil)) (plCons (pCall fn__law_cpu (plCons (pLoc 3) plNil)) (plCons (pCall listF (plCons (pSub (pLoc 3) (pV (.str 17))) plNil)) (plCons (pCall listF (plCons (pSub (pLoc 3) (pV (.str 17))) plNil)) plNil))))) (tTup 4 (tsCons (tLoc 4) (tsCons (tLoc 5) (tsCons (tLoc 6) (tsCons (tLoc 7) tsNil))))))) (sCons (sSwap 2 (pTup (plCons (pCall nw_Ports (plCons (pCall listF (plCons (pSub (pLoc 3) (pV (.str 14))) plNil)) plNil)) (plCons (pCall nw_Ports (plCons (pCall listF (plCons (pSub (pLoc 3) (pV (.str 14))) plNil)) plNil)) plNil))) (tsCons (tLoc 9) (tsCons (tLoc 8) tsNil))) (sCons (truncS (sAssign (pSub (pCall fn_ed_plans plNil) (pLoc 2)) (tLoc 10))) (sCons (weakS (sFor (pItRange 10) (tLoc 11) (truncS (sCons (sAssign (pSub (pLoc 3) (pV (.str 5))) (tLoc 12)) (sCons (sAssign (pCall (truncF fn__law_due) (plCons (pLoc 3) (plCons (pLoc 2) plNil))) (tLoc 13)) (sCons (sIf (bOr (bCmp .NotEq (pCall (truncF fn_do_ed) (plCons (pLoc 4) (plCons (pLoc 6) (plCons (pLoc 8) (plCons (pLoc 2) plNil))))) (pLoc 13)) (bOr (bCmp .NotEq (pCall (truncF fn_do_ed_plan) (plCons (pLoc 10) (plCons (pLoc 5) (plCons (pLoc 7) (plCons (pLoc 9) plNil))))) (pLoc 13)) bOrNil)) (sCons (sRet (pV (.bool false))) sNil) sNil) (sCons (sIf (bOr (bNeSame (pCall fn_cpu_row (plCons (pLoc 4) plNil)) (pCall fn_cpu_row (plCons (pCall fn__law_cpu (plCons (pLoc 3) plNil)) plNil))) (bOr (bNeSame (pCall fn_cpu_row (plCons (pLoc 5) plNil)) (pCall fn_cpu_row (plCons (pLoc 4) plNil))) (bOr (bNeSame (pLoc 6) (pSub (pLoc 3) (pV (.str 17)))) (bOr (bNeSame (pLoc 7) (pLoc 6)) bOrNil)))) (sCons (sRet (pV (.bool false))) sNil) sNil) (sCons (sIf (bOr (bNeSame (pTup (plCons (pAttr 52 15 (pLoc 8)) (plCons (pAttr 52 16 (pLoc 8)) plNil))) (pTup (plCons (pSub (pLoc 3) (pV (.str 15))) (plCons (pSub (pLoc 3) (pV (.str 16))) plNil)))) (bOr (bNeSame (pTup (plCons (pAttr 52 15 (pLoc 9)) (plCons (pAttr 52 16 (pLoc 9)) plNil))) (pTup (plCons (pSub (pLoc 3) (pV (.str 15))) (plCons (pSub (pLoc 3) (pV (.str 16))) plNil)))) bOrNil)) (sCons (sRet (pV (.bool false))) sNil) sNil) (sCons (sIf (bCmp .NotEq (pLoc 13) (pV (.int 21))) (sCons (sRet (pV (.bool true))) sNil) sNil) (sCons (sIf (bCmp .NotEq (pSub (pLoc 3) (pV (.str 5))) (pBin .Mod (pBin .Sub (pLoc 12) (pV (.int 2))) (pV (.int 65536)))) (sCons (sRet (pV (.bool false))) sNil) sNil) (sCons (sAssign (pTup (plCons (pLoc 12) (plCons (pLoc 12) (plCons (pLoc 12) plNil)))) (tTup 3 (tsCons (tSub (pLoc 3) (pV (.str 5))) (tsCons (tAttr 31 5 (pLoc 4)) (tsCons (tAttr 31 5 (pLoc 5)) tsNil))))) sNil))))))))))) (sCons (sRet (pV (.bool true))) sNil)))))))))))))
noncomputable abbrev pw : Program := PySem.Challenge.pw_nz0579_01
noncomputable def hS (x : String) (t : Nat) : Value := .str (Str.ofString x) t
noncomputable def hO (c : String) (d : Data) : Obj := ⟨.type c, none, d, ⟨[]⟩⟩
noncomputable def hT (l : List Value) : Obj := hO "tuple" (.seq ⟨l⟩ 0)
noncomputable def hF (l : List Value) : Obj := ⟨.none, none, .fields ⟨l⟩, ⟨[]⟩⟩
noncomputable def hE (P : Params) (x : String) (t : Nat) (v : Value) : DictEntry := ⟨PyData.keyHash P (Str.ofString x), hS x t, v⟩
noncomputable def hD (l : List DictEntry) (n : Nat) : Obj := hO "dict" (.dict ⟨l⟩ n)
noncomputable def hK (x : String) (me ns t u : Nat) : Obj := ⟨.type "type", none, .cls { name := Str.ofString x, bases := [.type "object"], mro := [.ref me, .type "object"], ns := ns, qualname := Str.ofString x }, ⟨[none, none, some (hS x t), some (hS x u), some (.builtin "object.__new__"), some (.bool true)]⟩⟩
noncomputable def hSt (k : Nat) : Stmt := match pw.main.body.drop k with | s :: _ => s | [] => .Pass ⟨0, 0, 0, 0⟩
noncomputable def hM (k : Nat) : Stmt := match hSt k with | .ClassDef _ _ _ (s :: _) _ _ _ _ _ _ _ => s | s => s
noncomputable def hC (nm ql : Str) (b t n : Nat) (ln ac : Int) (x y z : Value) : Obj := hO "code" (.fields ⟨[.str nm t, .str ql (t + 1), hS "/claim/cut.py" (t + 2), .int ln 0, .int ac 0, .int 0 0, .int 0 0, .int 3 0, .ref b, .bool true, .int 181 0, .ref (b + 1), .none, x, y, z, .int (t + 3 + n : Nat) 0, .int ln 0, hS "/claim/cut.py" (t + 4 + n)]⟩)
noncomputable def hFn (st : Stmt) (q : String) (b t : Nat) (m : Value) (vs : Bool) : List Obj := match st with
  | .FunctionDef nm args body _ _ _ sc _ _ pos =>
    let ql := Str.ofString q
    let vn := (sc.names.filter fun p => match p.2 with | .local => true | _ => false).map fun p => p.1
    let f : FuncData := { name := nm, qualname := ql, params := args, body := .stmts body, scope := sc, globals := 0, closure := [], defaults := .none, kwdefaults := .none }
    let g (c : Addr) : Obj := hO "function" (.func { f with globals := 3, pyModule := m, code := .ref c })
    match vs with
    | true => [hT [], hF [], hT (vn.zipIdx.map fun p => .str p.1 (t + 3 + p.2)), hT [], ⟨.none, none, .func f, ⟨[]⟩⟩, hC nm ql b t vn.length pos.line args.args.length (.ref (b + 2)) (.ref (b + 3)) (.ref (b + 4)), g (b + 5)]
    | false => [hT [], hF [], ⟨.none, none, .func f, ⟨[]⟩⟩, hC nm ql b t 0 pos.line args.args.length .none .none (.ref (b + 2)), g (b + 3)]
  | _ => []
noncomputable def hN (k : Nat) (q : String) (b t : Nat) (m : Value) : List Obj := hFn (hSt k) q b t m true
noncomputable def mA : Value := hS "z80.cpu" 187
noncomputable def mB : Value := hS "z80.flags" 375
noncomputable def mC : Value := hS "z80.byplan_ed" 540
noncomputable def mD : Value := hS "z80.rules_ed" 765
noncomputable def mE : Value := hS "law_nz0579_01" 920
noncomputable def hEs (P : Params) : List DictEntry := [hE P "__doc__" 166 (.none), hE P "__package__" 167 (.none), hE P "__loader__" 168 (.builtin "__main__.__loader__#opaque"), hE P "__spec__" 169 (.none), hE P "__annotations__" 170 (.ref 6), hE P "__builtins__" 171 (.ref 4), hE P "__file__" 173 (hS "/claim/cut.py" 172), hE P "__cached__" 174 (.none), hE P "REG_B" 190 (.int 0 189), hE P "REG_C" 192 (.int 1 191), hE P "REG_L" 194 (.int 5 193), hE P "REG_F" 196 (.int 6 195), hE P "REG_A" 198 (.int 7 197), hE P "Cpu" 239 (.ref 31), hE P "Ports" 270 (.ref 52), hE P "cpu_row" 278 (.ref 63), hE P "pair" 286 (.ref 70), hE P "set_pair" 295 (.ref 77), hE P "peek" 303 (.ref 84), hE P "poke" 312 (.ref 91), hE P "peek16" 320 (.ref 98), hE P "poke16" 329 (.ref 105), hE P "fetch" 338 (.ref 112), hE P "fetch16" 347 (.ref 119), hE P "pop" 356 (.ref 126), hE P "port_in" 365 (.ref 133), hE P "port_out" 374 (.ref 140), hE P "S" 378 (.int 128 377), hE P "Z" 380 (.int 64 379), hE P "Y" 382 (.int 32 381), hE P "H" 384 (.int 16 383), hE P "X" 386 (.int 8 385), hE P "PV" 388 (.int 4 387), hE P "N" 390 (.int 2 389), hE P "C" 392 (.int 1 391), hE P "YX" 394 (.int 40 393), hE P "parity" 401 (.ref 147), hE P "szyx" 408 (.ref 154), hE P "sub8" 420 (.ref 161), hE P "neg" 427 (.ref 168), hE P "high_flags" 436 (.ref 175), hE P "word_flags" 443 (.ref 182), hE P "adc16" 455 (.ref 189), hE P "sbc16" 467 (.ref 196), hE P "rrd" 477 (.ref 203), hE P "rld" 487 (.ref 210), hE P "load_flags" 496 (.ref 217), hE P "in_flags" 504 (.ref 224), hE P "move_flags" 515 (.ref 231), hE P "seek_flags" 528 (.ref 238), hE P "port_flags" 539 (.ref 245), hE P "NO_PLAN" 544 (.ref 247), hE P "ED_ROOMS" 566 (.ref 248), hE P "ED_PAIRS" 579 (.ref 249), hE P "ROUND_AGAIN" 581 (.int 5 580), hE P "port_plans" 590 (.ref 256), hE P "pair_plans" 599 (.ref 263), hE P "plain_plans" 609 (.ref 270), hE P "block_plans" 621 (.ref 277), hE P "ed_plans" 628 (.ref 284), hE P "step_pair" 638 (.ref 291), hE P "step_count" 645 (.ref 298), hE P "move_round" 656 (.ref 305), hE P "seek_round" 667 (.ref 312), hE P "take_round" 680 (.ref 319), hE P "send_round" 692 (.ref 326), hE P "do_block_plan" 705 (.ref 333), hE P "do_port_plan" 716 (.ref 340), hE P "do_pair_plan" 730 (.ref 347), hE P "do_halves_plan" 743 (.ref 354), hE P "do_special_plan" 751 (.ref 361), hE P "do_ed_plan" 764 (.ref 368), hE P "BC" 768 (.int 0 767), hE P "DE" 770 (.int 1 769), hE P "HL" 772 (.int 2 771), hE P "NOTHING" 774 (.int 6 773), hE P "STATES_OF_NONE" 776 (.int 8 775), hE P "STATES_OF_ONE_ROUND" 778 (.int 16 777), hE P "STATES_OF_GOING_ON" 780 (.int 21 779), hE P "MODES" 789 (.ref 369), hE P "STATES_BY_Z" 798 (.ref 370), hE P "do_ed" 811 (.ref 377), hE P "come_in" 821 (.ref 384), hE P "add_words" 831 (.ref 391), hE P "load_words" 841 (.ref 398), hE P "do_special" 853 (.ref 405), hE P "do_block" 866 (.ref 412), hE P "lead" 875 (.ref 419), hE P "move_one" 886 (.ref 426), hE P "seek_one" 897 (.ref 433), hE P "take_one" 908 (.ref 440), hE P "send_one" 919 (.ref 447), hE P "_law_take" 929 (.ref 454), hE P "_law_box" 935 (.ref 459), hE P "_law_parity" 941 (.ref 464), hE P "_law_told" 948 (.ref 471), hE P "_law_signed" 955 (.ref 478), hE P "_law_pair" 963 (.ref 485), hE P "_law_set" 972 (.ref 492), hE P "_law_word" 980 (.ref 499), hE P "_law_in" 987 (.ref 506), hE P "_law_sum" 1005 (.ref 513), hE P "_law_block" 1026 (.ref 520), hE P "_law_special" 1039 (.ref 527), hE P "_law_due" 1054 (.ref 534), hE P "_law_cpu" 1062 (.ref 541), hE P "law" 1068 (.ref 546)]
noncomputable def hCs : List (Int × Nat) := [(7, 20), (24, 41), (30, 62), (33, 69), (35, 76), (41, 83), (43, 90), (45, 97), (47, 104), (50, 111), (54, 118), (57, 125), (61, 132), (67, 139), (79, 146), (84, 153), (86, 160), (91, 167), (93, 174), (95, 181), (97, 188), (102, 195), (107, 202), (110, 209), (113, 216), (115, 223), (117, 230), (120, 237), (124, 244), (133, 255), (137, 262), (143, 269), (150, 276), (154, 283), (161, 290), (165, 297), (168, 304), (175, 311), (181, 318), (188, 325), (194, 332), (207, 339), (215, 346), (224, 353), (229, 360), (237, 367), (267, 376), (291, 383), (296, 390), (300, 397), (306, 404), (322, 411), (336, 418), (339, 425), (347, 432), (353, 439), (360, 446), (368, 453), (373, 458), (378, 463), (380, 470), (382, 477), (384, 484), (386, 491), (391, 498), (393, 505), (396, 512), (405, 519), (436, 526), (452, 533), (487, 540), (492, 545)]
noncomputable def hOb (P : Params) (nm : Value) (es : List DictEntry) (n : Nat) (cs : List (Int × Nat)) : List Obj :=
  [boot_o_0 P, boot_o_1 P, boot_o_2 P, hD (hE P "__name__" 165 nm :: es) n, boot_o_4 P, boot_o_5 P, boot_o_6 P, boot_o_7 P, boot_o_8 P, boot_o_9 P, boot_o_10 P] ++
  ([hT []] ++
  ([hF (cs.flatMap fun p => [.int p.1 0, .int 0 0, .ref p.2])] ++
  ([hO "code" (.fields ⟨[hS "<module>" 182, hS "<module>" 183, hS "/claim/cut.py" 184, .int 1 0, .int 0 0, .int 0 0, .int 0 0, .int 0 0, .ref 11, .bool false, .int 181 0, .ref 12, .none, .none, .none, .none, .int 185 0, .int 1 0, hS "/claim/cut.py" 186]⟩), ⟨.type "frame", none, .plain, ⟨[some (.ref 13), some (.ref 3), some (.ref 3), none, some (hS "__main__" 164), none, some (.ref 0)]⟩⟩, hT [], hO "builtin_function_or_method" (.fields ⟨[.builtin "type.__prepare__", .type "type"]⟩), hD [hE P "__module__" 206 (hS "z80.cpu" 187), hE P "__qualname__" 208 (hS "Cpu" 207), hE P "__firstlineno__" 210 (.int 7 209), hE P "__init__" 217 (.ref 28), hE P "__static_attributes__" 232 (.ref 29)] 5, hT [], hF [.int 9 0, .int 4 0, .ref 27], hO "code" (.fields ⟨[hS "Cpu" 201, hS "Cpu" 202, hS "/claim/cut.py" 203, .int 7 0, .int 0 0, .int 0 0, .int 0 0, .int 0 0, .ref 18, .bool false, .int 181 0, .ref 19, .none, .none, .none, .none, .int 204 0, .int 7 0, hS "/claim/cut.py" 205]⟩), ⟨.type "frame", none, .plain, ⟨[some (.ref 20), some (.ref 3), some (.ref 17), none, some (hS "z80.cpu" 187), none, some (.ref 0)]⟩⟩] ++
  (hFn (hM 6) "Cpu.__init__" 22 211 mA true ++
  ([hT [hS "i" 218, hS "iff1" 219, hS "iff2" 220, hS "is_halted" 221, hS "is_held" 222, hS "ix" 223, hS "iy" 224, hS "mode" 225, hS "pc" 226, hS "r" 227, hS "ref" 228, hS "s" 229, hS "sp" 230, hS "states" 231], hD [hE P "__module__" 206 (hS "z80.cpu" 187), hE P "__firstlineno__" 210 (.int 7 209), hE P "__init__" 217 (.ref 28), hE P "__static_attributes__" 232 (.ref 29), hE P "__dict__" 234 (.ref 32), hE P "__weakref__" 236 (.ref 33), hE P "__doc__" 237 (.none)] 4, hK "Cpu" 31 30 199 207, hO "getset_descriptor" (.fields ⟨[hS "__dict__" 233, .ref 31, .builtin "function.__dict__", .builtin "function.__dict__#set"]⟩), hO "getset_descriptor" (.fields ⟨[hS "__weakref__" 235, .ref 31, .builtin "ExceptionGroup.__weakref__", .none]⟩), hO "super" (.fields ⟨[.ref 31, .ref 31, .ref 31]⟩), hO "builtin_function_or_method" (.fields ⟨[.builtin "object.__init_subclass__", .ref 31]⟩), hT [], hO "builtin_function_or_method" (.fields ⟨[.builtin "type.__prepare__", .type "type"]⟩), hD [hE P "__module__" 247 (hS "z80.cpu" 187), hE P "__qualname__" 249 (hS "Ports" 248), hE P "__firstlineno__" 251 (.int 24 250), hE P "__init__" 259 (.ref 49), hE P "__static_attributes__" 263 (.ref 50)] 5, hT [], hF [.int 26 0, .int 4 0, .ref 48], hO "code" (.fields ⟨[hS "Ports" 242, hS "Ports" 243, hS "/claim/cut.py" 244, .int 24 0, .int 0 0, .int 0 0, .int 0 0, .int 0 0, .ref 39, .bool false, .int 181 0, .ref 40, .none, .none, .none, .none, .int 245 0, .int 24 0, hS "/claim/cut.py" 246]⟩), ⟨.type "frame", none, .plain, ⟨[some (.ref 41), some (.ref 3), some (.ref 38), none, some (hS "z80.cpu" 187), none, some (.ref 0)]⟩⟩] ++
  (hFn (hM 7) "Ports.__init__" 43 252 mA true ++
  ([hT [hS "at" 260, hS "ins" 261, hS "outs" 262], hD [hE P "__module__" 247 (hS "z80.cpu" 187), hE P "__firstlineno__" 251 (.int 24 250), hE P "__init__" 259 (.ref 49), hE P "__static_attributes__" 263 (.ref 50), hE P "__dict__" 265 (.ref 53), hE P "__weakref__" 267 (.ref 54), hE P "__doc__" 268 (.none)] 4, hK "Ports" 52 51 240 248, hO "getset_descriptor" (.fields ⟨[hS "__dict__" 264, .ref 52, .builtin "function.__dict__", .builtin "function.__dict__#set"]⟩), hO "getset_descriptor" (.fields ⟨[hS "__weakref__" 266, .ref 52, .builtin "ExceptionGroup.__weakref__", .none]⟩), hO "super" (.fields ⟨[.ref 52, .ref 52, .ref 52]⟩), hO "builtin_function_or_method" (.fields ⟨[.builtin "object.__init_subclass__", .ref 52]⟩)] ++
  (hN 8 "cpu_row" 57 271 mA ++
  (hN 9 "pair" 64 279 mA ++
  (hN 10 "set_pair" 71 287 mA ++
  (hN 11 "peek" 78 296 mA ++
  (hN 12 "poke" 85 304 mA ++
  (hN 13 "peek16" 92 313 mA ++
  (hN 14 "poke16" 99 321 mA ++
  (hN 15 "fetch" 106 330 mA ++
  (hN 16 "fetch16" 113 339 mA ++
  (hN 17 "pop" 120 348 mA ++
  (hN 18 "port_in" 127 357 mA ++
  (hN 19 "port_out" 134 366 mA ++
  (hN 30 "parity" 141 395 mB ++
  (hN 31 "szyx" 148 402 mB ++
  (hN 32 "sub8" 155 409 mB ++
  (hN 33 "neg" 162 421 mB ++
  (hN 34 "high_flags" 169 428 mB ++
  (hN 35 "word_flags" 176 437 mB ++
  (hN 36 "adc16" 183 444 mB ++
  (hN 37 "sbc16" 190 456 mB ++
  (hN 38 "rrd" 197 468 mB ++
  (hN 39 "rld" 204 478 mB ++
  (hN 40 "load_flags" 211 488 mB ++
  (hN 41 "in_flags" 218 497 mB ++
  (hN 42 "move_flags" 225 505 mB ++
  (hN 43 "seek_flags" 232 516 mB ++
  (hN 44 "port_flags" 239 529 mB ++
  ([hT [], hT [hS "NOP" 542, .ref 246, .int 8 543], hD [hE P "B" 545 (.int 0 546), hE P "C" 547 (.int 1 548), hE P "D" 549 (.int 2 550), hE P "E" 551 (.int 3 552), hE P "H" 553 (.int 4 554), hE P "L" 555 (.int 5 556), hE P "A" 557 (.int 7 558)] 7, hD [hE P "BC" 567 (.int 0 568), hE P "DE" 569 (.int 1 570), hE P "HL" 571 (.int 2 572), hE P "SP" 573 (.int 3 574)] 4] ++
  (hN 50 "port_plans" 250 582 mC ++
  (hN 51 "pair_plans" 257 591 mC ++
  (hN 52 "plain_plans" 264 600 mC ++
  (hN 53 "block_plans" 271 610 mC ++
  (hN 54 "ed_plans" 278 622 mC ++
  (hN 55 "step_pair" 285 629 mC ++
  (hN 56 "step_count" 292 639 mC ++
  (hN 57 "move_round" 299 646 mC ++
  (hN 58 "seek_round" 306 657 mC ++
  (hN 59 "take_round" 313 668 mC ++
  (hN 60 "send_round" 320 681 mC ++
  (hN 61 "do_block_plan" 327 693 mC ++
  (hN 62 "do_port_plan" 334 706 mC ++
  (hN 63 "do_pair_plan" 341 717 mC ++
  (hN 64 "do_halves_plan" 348 731 mC ++
  (hN 65 "do_special_plan" 355 744 mC ++
  (hN 66 "do_ed_plan" 362 752 mC ++
  ([hO "list" (.seq ⟨[.int 0 781, .int 0 782, .int 1 783, .int 2 784, .int 0 785, .int 0 786, .int 1 787, .int 2 788]⟩ 0), hO "list" (.seq ⟨[.int 12 790, .int 12 791, .int 15 792, .int 20 793, .int 8 794, .int 14 795, .int 8 796, .int 9 797]⟩ 0)] ++
  (hN 77 "do_ed" 371 799 mD ++
  (hN 78 "come_in" 378 812 mD ++
  (hN 79 "add_words" 385 822 mD ++
  (hN 80 "load_words" 392 832 mD ++
  (hN 81 "do_special" 399 842 mD ++
  (hN 82 "do_block" 406 854 mD ++
  (hN 83 "lead" 413 867 mD ++
  (hN 84 "move_one" 420 876 mD ++
  (hN 85 "seek_one" 427 887 mD ++
  (hN 86 "take_one" 434 898 mD ++
  (hN 87 "send_one" 441 909 mD ++
  (hN 89 "_law_take" 448 922 mE ++
  (hFn (hSt 90) "_law_box" 455 930 mE false ++
  (hFn (hSt 91) "_law_parity" 460 936 mE false ++
  (hN 92 "_law_told" 465 942 mE ++
  (hN 93 "_law_signed" 472 949 mE ++
  (hN 94 "_law_pair" 479 956 mE ++
  (hN 95 "_law_set" 486 964 mE ++
  (hN 96 "_law_word" 493 973 mE ++
  (hN 97 "_law_in" 500 981 mE ++
  (hN 98 "_law_sum" 507 988 mE ++
  (hN 99 "_law_block" 514 1006 mE ++
  (hN 100 "_law_special" 521 1027 mE ++
  (hN 101 "_law_due" 528 1040 mE ++
  (hN 102 "_law_cpu" 535 1055 mE ++
  (hFn (hSt 103) "law" 542 1063 mE false)))))))))))))))))))))))))))))))))))))))))))))))))))))))))))))))))))))))))))))))
-- 0:Assign:__name__ 1:Assign:REG_B 2:Assign:REG_C 3:Assign:REG_L 4:Assign:REG_F 5:Assign:REG_A 6:ClassDef:Cpu 7:ClassDef:Ports 8:FunctionDef:cpu_row 9:FunctionDef:pair 10:FunctionDef:set_pair 11:FunctionDef:peek 12:FunctionDef:poke 13:FunctionDef:peek16 14:FunctionDef:poke16 15:FunctionDef:fetch 16:FunctionDef:fetch16 17:FunctionDef:pop 18:FunctionDef:port_in 19:FunctionDef:port_out 20:Assign:__name__ 21:Assign:S 22:Assign:Z 23:Assign:Y 24:Assign:H 25:Assign:X 26:Assign:PV 27:Assign:N 28:Assign:C 29:Assign:YX 30:FunctionDef:parity 31:FunctionDef:szyx 32:FunctionDef:sub8 33:FunctionDef:neg 34:FunctionDef:high_flags 35:FunctionDef:word_flags 36:FunctionDef:adc16 37:FunctionDef:sbc16 38:FunctionDef:rrd 39:FunctionDef:rld 40:FunctionDef:load_flags 41:FunctionDef:in_flags 42:FunctionDef:move_flags 43:FunctionDef:seek_flags 44:FunctionDef:port_flags 45:Assign:__name__ 46:Assign:NO_PLAN 47:Assign:ED_ROOMS 48:Assign:ED_PAIRS 49:Assign:ROUND_AGAIN 50:FunctionDef:port_plans 51:FunctionDef:pair_plans 52:FunctionDef:plain_plans 53:FunctionDef:block_plans 54:FunctionDef:ed_plans 55:FunctionDef:step_pair 56:FunctionDef:step_count 57:FunctionDef:move_round 58:FunctionDef:seek_round 59:FunctionDef:take_round 60:FunctionDef:send_round 61:FunctionDef:do_block_plan 62:FunctionDef:do_port_plan 63:FunctionDef:do_pair_plan 64:FunctionDef:do_halves_plan 65:FunctionDef:do_special_plan 66:FunctionDef:do_ed_plan 67:Assign:__name__ 68:Assign:BC 69:Assign:DE 70:Assign:HL 71:Assign:NOTHING 72:Assign:STATES_OF_NONE 73:Assign:STATES_OF_ONE_ROUND 74:Assign:STATES_OF_GOING_ON 75:Assign:MODES 76:Assign:STATES_BY_Z 77:FunctionDef:do_ed 78:FunctionDef:come_in 79:FunctionDef:add_words 80:FunctionDef:load_words 81:FunctionDef:do_special 82:FunctionDef:do_block 83:FunctionDef:lead 84:FunctionDef:move_one 85:FunctionDef:seek_one 86:FunctionDef:take_one 87:FunctionDef:send_one 88:Assign:__name__ 89:FunctionDef:_law_take 90:FunctionDef:_law_box 91:FunctionDef:_law_parity 92:FunctionDef:_law_told 93:FunctionDef:_law_signed 94:FunctionDef:_law_pair 95:FunctionDef:_law_set 96:FunctionDef:_law_word 97:FunctionDef:_law_in 98:FunctionDef:_law_sum 99:FunctionDef:_law_block 100:FunctionDef:_law_special 101:FunctionDef:_law_due 102:FunctionDef:_law_cpu 103:FunctionDef:law
noncomputable def hLife : Life := .mk [] [] [] 0 [] [] false #[] [] 0 false false false 0 [2000, 10, 10] false 0 true [] [] 0 false
noncomputable def ev2 : List Obj → List Obj
  | a :: _ :: r => a :: ev2 r
  | l => l
noncomputable def od2 : List Obj → List Obj
  | _ :: b :: r => b :: od2 r
  | _ => []
noncomputable def bt : Nat → List Obj → BT
  | n + 1, o :: r => .node o (bt n (ev2 r)) (bt n (od2 r))
  | _, _ => .nil
noncomputable def hTr (P : Params) (n : Nat) (nm : Value) (m c : Nat) : BT := bt 12 ((hOb P nm ((hEs P).take (m - 1)) m (hCs.take c)).take n)
noncomputable def hFin (P : Params) : List Obj := hOb P mE (hEs P) 108 hCs
noncomputable def hEnv : Env := { scope := pw.main.scope, locals := mainNs, globals := mainNs, cells := [], code := .ref 13, frame := some 14 }
noncomputable abbrev hBd : List Stmt := behindTheImports pw
noncomputable abbrev hCo : Code := .body hBd hEnv
noncomputable def hL (a n : Nat) : List Stmt := (hBd.drop a).take n
noncomputable abbrev hq : Pos := ⟨0, 0, 0, 0⟩
noncomputable def hS0 (w : World) (os : OsState) : Shared := ⟨boot_heap w.params, ⟨[]⟩, boot_drawn, boot_toks, os⟩
noncomputable def hS1 (w : World) (os : OsState) : Shared := ⟨⟨⟨(hOb w.params (hS "__main__" 164) ((hEs w.params).take 8) 9 []).take 15⟩, hLife⟩, ⟨[]⟩, ⟨0, 0, 0, 0⟩, 187, os⟩
noncomputable def hS9 (w : World) (os : OsState) : Shared := ⟨⟨⟨hFin w.params⟩, hLife⟩, ⟨[]⟩, ⟨0, 0, 0, 0⟩, 1069, os⟩
theorem h_pre (w : World) (os : OsState) : topGo treeTable pw w 11 (some (.ref 6)) 12 (hS0 w os) (topStub pw) = some (hS1 w os, ⟨denote treeTable hCo, hCo, hq, [topFrame hq]⟩) := by
  rw [Fast.te15667345088766844465, Fast.te14364793385576792824, Fast.te11892475500146522536]; kernel_rfl
theorem h_blk (w : World) (os : OsState) : segRun treeTable pw w 11 (some (.ref 6)) 1 1 (hS1 w os) (blockOf hBd hEnv hCo hq [topFrame hq]) = some (.next, SharedT.abs ⟨hTr w.params 15 (hS "__main__" 164) 9 0, 15, hLife, ⟨[]⟩, ⟨0, 0, 0, 0⟩, 187, os⟩, hCo, hq) := by
  rw [Fast.te14374325043358763698, Fast.te14364793385576792824]; kernel_rfl
theorem h_p0 (w : World) (os : OsState) : segRunT treeTable pw w 11 (some (.ref 6)) 1 513 ⟨hTr w.params 15 (hS "__main__" 164) 9 0, 15, hLife, ⟨[]⟩, ⟨0, 0, 0, 0⟩, 187, os⟩ (piecesOf (hL 0 8) hEnv hCo ⟨0, 0, 0, 0⟩ [topFrame hq]) = some (.next, ⟨hTr w.params 57 mA 16 2, 57, hLife, ⟨[]⟩, ⟨0, 0, 0, 0⟩, 271, os⟩, hCo, ⟨24, 0, 29, 22⟩) := by
  rw [Fast.te10110043849684766642, Fast.te14364793385576792824]; kernel_rfl
theorem h_p1 (w : World) (os : OsState) : segRunT treeTable pw w 11 (some (.ref 6)) 1 369 ⟨hTr w.params 57 mA 16 2, 57, hLife, ⟨[]⟩, ⟨0, 0, 0, 0⟩, 271, os⟩ (piecesOf (hL 8 12) hEnv hCo ⟨24, 0, 29, 22⟩ [topFrame hq]) = some (.next, ⟨hTr w.params 141 mA 28 14, 141, hLife, ⟨[]⟩, ⟨0, 0, 0, 0⟩, 375, os⟩, hCo, ⟨67, 0, 68, 50⟩) := by
  rw [Fast.te10110043849684766642, Fast.te14364793385576792824]; kernel_rfl
theorem h_p2 (w : World) (os : OsState) : segRunT treeTable pw w 11 (some (.ref 6)) 1 149 ⟨hTr w.params 141 mA 28 14, 141, hLife, ⟨[]⟩, ⟨0, 0, 0, 0⟩, 375, os⟩ (piecesOf (hL 20 12) hEnv hCo ⟨67, 0, 68, 50⟩ [topFrame hq]) = some (.next, ⟨hTr w.params 155 mB 39 16, 155, hLife, ⟨[]⟩, ⟨0, 0, 0, 0⟩, 409, os⟩, hCo, ⟨84, 0, 85, 46⟩) := by
  rw [Fast.te10110043849684766642, Fast.te14364793385576792824]; kernel_rfl
theorem h_p3 (w : World) (os : OsState) : segRunT treeTable pw w 11 (some (.ref 6)) 1 441 ⟨hTr w.params 155 mB 39 16, 155, hLife, ⟨[]⟩, ⟨0, 0, 0, 0⟩, 409, os⟩ (piecesOf (hL 32 15) hEnv hCo ⟨84, 0, 85, 46⟩ [topFrame hq]) = some (.next, ⟨hTr w.params 248 mC 53 29, 248, hLife, ⟨[]⟩, ⟨0, 0, 0, 0⟩, 545, os⟩, hCo, ⟨129, 0, 129, 7⟩) := by
  rw [Fast.te10110043849684766642, Fast.te14364793385576792824]; kernel_rfl
theorem h_p4 (w : World) (os : OsState) : segRunT treeTable pw w 11 (some (.ref 6)) 1 186 ⟨hTr w.params 248 mC 53 29, 248, hLife, ⟨[]⟩, ⟨0, 0, 0, 0⟩, 545, os⟩ (piecesOf (hL 47 2) hEnv hCo ⟨129, 0, 129, 7⟩ [topFrame hq]) = some (.next, ⟨hTr w.params 250 mC 55 29, 250, hLife, ⟨[]⟩, ⟨0, 0, 0, 0⟩, 580, os⟩, hCo, ⟨131, 0, 131, 8⟩) :=
  byRow2 "special-get-raises" (P := fun w => ∀ os, segRunT treeTable pw w 11 (some (.ref 6)) 1 186 ⟨hTr w.params 248 mC 53 29, 248, hLife, ⟨[]⟩, ⟨0, 0, 0, 0⟩, 545, os⟩ (piecesOf (hL 47 2) hEnv hCo ⟨129, 0, 129, 7⟩ [topFrame hq]) = some (.next, ⟨hTr w.params 250 mC 55 29, 250, hLife, ⟨[]⟩, ⟨0, 0, 0, 0⟩, 580, os⟩, hCo, ⟨131, 0, 131, 8⟩)) (fun w os => by rw [Fast.te10110043849684766642, Fast.te14364793385576792824]; kernel_rfl) (fun w os => by rw [Fast.te10110043849684766642, Fast.te14364793385576792824]; kernel_rfl) w os
theorem h_p5 (w : World) (os : OsState) : segRunT treeTable pw w 11 (some (.ref 6)) 1 431 ⟨hTr w.params 250 mC 55 29, 250, hLife, ⟨[]⟩, ⟨0, 0, 0, 0⟩, 580, os⟩ (piecesOf (hL 49 14) hEnv hCo ⟨131, 0, 131, 8⟩ [topFrame hq]) = some (.next, ⟨hTr w.params 341 mC 69 42, 341, hLife, ⟨[]⟩, ⟨0, 0, 0, 0⟩, 717, os⟩, hCo, ⟨207, 0, 214, 37⟩) := by
  rw [Fast.te10110043849684766642, Fast.te14364793385576792824]; kernel_rfl
theorem h_p6 (w : World) (os : OsState) : segRunT treeTable pw w 11 (some (.ref 6)) 1 245 ⟨hTr w.params 341 mC 69 42, 341, hLife, ⟨[]⟩, ⟨0, 0, 0, 0⟩, 717, os⟩ (piecesOf (hL 63 14) hEnv hCo ⟨207, 0, 214, 37⟩ [topFrame hq]) = some (.next, ⟨hTr w.params 371 mD 82 46, 371, hLife, ⟨[]⟩, ⟨0, 0, 0, 0⟩, 799, os⟩, hCo, ⟨266, 0, 266, 11⟩) := by
  rw [Fast.te10110043849684766642, Fast.te14364793385576792824]; kernel_rfl
theorem h_p7 (w : World) (os : OsState) : segRunT treeTable pw w 11 (some (.ref 6)) 1 429 ⟨hTr w.params 371 mD 82 46, 371, hLife, ⟨[]⟩, ⟨0, 0, 0, 0⟩, 799, os⟩ (piecesOf (hL 77 14) hEnv hCo ⟨266, 0, 266, 11⟩ [topFrame hq]) = some (.next, ⟨hTr w.params 460 mE 95 59, 460, hLife, ⟨[]⟩, ⟨0, 0, 0, 0⟩, 936, os⟩, hCo, ⟨373, 0, 377, 14⟩) := by
  rw [Fast.te10110043849684766642, Fast.te14364793385576792824]; kernel_rfl
theorem h_p8 (w : World) (os : OsState) : segRunT treeTable pw w 11 (some (.ref 6)) 1 416 ⟨hTr w.params 460 mE 95 59, 460, hLife, ⟨[]⟩, ⟨0, 0, 0, 0⟩, 936, os⟩ (piecesOf (hL 91 13) hEnv hCo ⟨373, 0, 377, 14⟩ [topFrame hq]) = some (.next, ⟨hTr w.params 547 mE 108 72, 547, hLife, ⟨[]⟩, ⟨0, 0, 0, 0⟩, 1069, os⟩, hCo, ⟨492, 0, 520, 15⟩) := by
  rw [Fast.te10110043849684766642, Fast.te14364793385576792824]; kernel_rfl
theorem h_fin (w : World) (os : OsState) : topRun treeTable pw w 11 (some (.ref 6)) 2 (SharedT.abs ⟨hTr w.params 547 mE 108 72, 547, hLife, ⟨[]⟩, ⟨0, 0, 0, 0⟩, 1069, os⟩) ⟨doneF .next, hCo, ⟨492, 0, 520, 15⟩, [topFrame hq]⟩ = some (hS9 w os) := by
  rw [Fast.te14082659384304107361, Fast.te14364793385576792824]; kernel_rfl
theorem h_split : hBd = hL 0 8 ++ (hL 8 12 ++ (hL 20 12 ++ (hL 32 15 ++ (hL 47 2 ++ (hL 49 14 ++ (hL 63 14 ++ (hL 77 14 ++ (hL 91 13 ++ [])))))))) := by kernel_rfl
theorem h_rest (w : World) (os : OsState) : topRun treeTable pw w 11 (some (.ref 6)) (513 + (369 + (149 + (441 + (186 + (431 + (245 + (429 + (416 + 2))))))))) (SharedT.abs ⟨hTr w.params 15 (hS "__main__" 164) 9 0, 15, hLife, ⟨[]⟩, ⟨0, 0, 0, 0⟩, 187, os⟩) (PySem.W.restOf (hL 0 8 ++ (hL 8 12 ++ (hL 20 12 ++ (hL 32 15 ++ (hL 47 2 ++ (hL 49 14 ++ (hL 63 14 ++ (hL 77 14 ++ (hL 91 13 ++ []))))))))) hEnv hCo hq [topFrame hq]) = some (hS9 w os) :=
  piece_app (segRun_of (h_p0 w os)) (piece_app (segRun_of (h_p1 w os)) (piece_app (segRun_of (h_p2 w os)) (piece_app (segRun_of (h_p3 w os)) (piece_app (segRun_of (h_p4 w os)) (piece_app (segRun_of (h_p5 w os)) (piece_app (segRun_of (h_p6 w os)) (piece_app (segRun_of (h_p7 w os)) (piece_app (segRun_of (h_p8 w os)) (piece_nil (h_fin w os))))))))))
noncomputable def hM9 : Nat := (12 + (1 + (513 + (369 + (149 + (441 + (186 + (431 + (245 + (429 + (416 + 2)))))))))))
theorem h_run (w : World) (os : OsState) : topRun treeTable pw w 11 (some (.ref 6)) hM9 (hS0 w os) (topStub pw) = some (hS9 w os) := by
  have k := h_rest w os
  rw [← h_split] at k
  exact go_top (h_pre w os) (piece_block (h_blk w os) k)
noncomputable def hKl : List Addr := [2, 3, 27, 28, 30, 31, 48, 49, 51, 52, 62, 63, 69, 70, 76, 77, 83, 84, 90, 91, 97, 98, 104, 105, 111, 112, 118, 119, 125, 126, 132, 133, 139, 140, 146, 147, 153, 154, 160, 161, 167, 168, 174, 175, 181, 182, 188, 189, 195, 196, 202, 203, 209, 210, 216, 217, 223, 224, 230, 231, 237, 238, 244, 245, 246, 247, 248, 249, 255, 256, 262, 263, 269, 270, 276, 277, 283, 284, 290, 291, 297, 298, 304, 305, 311, 312, 318, 319, 325, 326, 332, 333, 339, 340, 346, 347, 353, 354, 360, 361, 367, 368, 369, 370, 376, 377, 383, 384, 390, 391, 397, 398, 404, 405, 411, 412, 418, 419, 425, 426, 432, 433, 439, 440, 446, 447, 453, 454, 458, 459, 463, 464, 470, 471, 477, 478, 484, 485, 491, 492, 498, 499, 505, 506, 512, 513, 519, 520, 526, 527, 533, 534, 540, 541, 545, 546]
noncomputable def hAt (l : List Obj) (a : Nat) : Obj := match l.drop a with
  | o :: _ => o
  | [] => hT []
noncomputable def hKf (P : Params) : Frag := hKl.map fun a => (a, hAt (hFin P) a)
abbrev hRo : OpenRow := PySem.Challenge.rw_nz0579_01.row
noncomputable def hV : Program := { pw with main := { pw.main with body := [hSt 103] } }
noncomputable def hLo : List Str := (pw.main.scope.names.map (·.1)).filter fun x => x != Str.ofString "law"
noncomputable def hDf : DefRec × List (Str × Expr) := match defOf hV (Str.ofString "law") with
  | some x => x
  | none => (⟨Str.ofString "law", ⟨[], [], none, [], [], none, []⟩, [], pw.main.scope, ⟨0, 0, 0, 0⟩⟩, [])
noncomputable abbrev hXt : Shared → Bool := fun s => xlAt hV [] s && recOk (RowW.records hRo.toRowW) s
theorem h_as (P : Params) : hKl = (hKf P).map (·.1) := by
  unfold hKf; rw [List.map_map]; exact (List.map_id' hKl).symm
noncomputable abbrev hHk : Hook := kHook hKf hKl h_as
theorem h_said : PySem.Challenge.rw_nz0579_01.wellSaid = true := by rw [Fast.te9446332074065402090]; kernel_rfl
theorem h_def : defOf hV hRo.name = some (hDf.1, hDf.2) := by kernel_rfl
theorem h_the : hRo.prog.theDef hRo.name = some (hDf.1.params, hDf.1.body, hDf.1.scope) := by kernel_rfl
theorem h_kw : kwWritten? hDf.1.params.kwonlyargs hDf.1.params.kw_defaults = some hDf.2 := by kernel_rfl
theorem h_ok : (chainsOk hV && opensWell hRo.prog && (frees hRo.toRowW && hRo.within.isEmpty)) = true := by decide +kernel
theorem h_size (w : World) : ((boot_heap w.params).isNs mainGlobals && (⟨[]⟩ : Array GenState).size == 0, (boot_heap w.params).objs.size, (boot_heap w.params).nsMap mainGlobals "__annotations__") = (true, 11, some (.ref 6)) := by
  kernel_rfl
theorem h_open (w : World) : (fencedOpening treeTable pw w 6466).map (fun s => (s.heap, s.gens, s.drawn, s.toks)) = some (boot_heap w.params, ⟨[]⟩, boot_drawn, boot_toks) :=
  boot_open (by kernel_rfl) (by kernel_rfl) (fun s => by kernel_rfl) w
theorem h_lookA (w : World) (os : OsState) : (staticsOk (importedModules pw.main.body) (boot_heap w.params) (hS9 w os).heap && namesBound pw (hS9 w os).heap && gensDone (hS9 w os) && laidKept (boot_heap w.params) (hS9 w os).heap) = true := by
  rw [Fast.te5923862056798008813]; kernel_rfl
theorem h_lookB (w : World) (os : OsState) : openSeen hV hLo (importedModules pw.main.body) hXt true (hS9 w os) = openGood hV hLo := by
  rw [Fast.te4187177175401517315, Fast.te5923862056798008813]; kernel_rfl
theorem h_lookC (w : World) (os : OsState) : hHk.obs (hS9 w os) = hHk.val w := by kernel_rfl
noncomputable def hH (P : Params) : Heap := ⟨⟨hFin P⟩, hLife⟩
theorem h_looks (w : World) : (fun os : OsState => ((staticsOk (importedModules pw.main.body) (boot_heap w.params) (hH w.params) && namesBound pw (hH w.params) && gensDone ⟨hH w.params, ⟨[]⟩, ⟨0, 0, 0, 0⟩, 1069, os⟩ && laidKept (boot_heap w.params) (hH w.params)),
    openSeen hV hLo (importedModules pw.main.body) hXt true ⟨hH w.params, ⟨[]⟩, ⟨0, 0, 0, 0⟩, 1069, os⟩, hHk.obs ⟨hH w.params, ⟨[]⟩, ⟨0, 0, 0, 0⟩, 1069, os⟩)) = fun _ => (true, openGood hV hLo, hHk.val w) :=
  funext fun os => congr (congrArg Prod.mk (h_lookA w os)) (congr (congrArg Prod.mk (h_lookB w os)) (h_lookC w os))
theorem h_le : Nat.ble hM9 6466 = true := by kernel_rfl
theorem h_left : LeftO pw hV hLo hXt hHk.obs hHk.val 6466 true :=
  LeftO.of_pieces (H₀ := boot_heap) (H₁ := hH) (gs₀ := ⟨[]⟩) (gs₁ := ⟨[]⟩) (d₀ := boot_drawn) (d₁ := ⟨0, 0, 0, 0⟩) (k₀ := boot_toks) (k₁ := 1069) (m₀ := 11) (ann := some (.ref 6)) (M := hM9) h_open h_size h_run h_le h_looks
theorem h_bare : hRo.prog.bare := ⟨rfl, rfl, rfl, rfl, rfl, by decide +kernel⟩
theorem h_wit : hRo.toRowW.promised := by w_witness2
theorem hd (walk : WalkO hV hLo (XL hV []) hHk.says hRo.toRowW hDf.1 hDf.2 fun f vs => PySem.call f vs) : PySem.Challenge.rw_nz0579_01.Holds := by
  refine holds_law h_said fun said => ?_
  exact PySem.W.holds_open (r := hRo) (q := hV) (loose := hLo) (Xt := hXt) (XP := XL hV []) (Yf := hHk.obs) (Ya := hHk.val) (YP := hHk.says) (N := 6466) h_left hHk.of hHk.keeps (fun s e => xl_of s (Bool.and_eq_true_iff.mp e).1) XL.keeps h_def h_the h_kw (fun s e => recFacts_of (Bool.and_eq_true_iff.mp e).2) rfl said h_ok h_bare h_wit walk
inductive GE where
  | val (v : V)
  | blt (v : Value)
  | bfn (id : String) (sem : PF)
  | tfn (id : String) (sem : PF)
  | lst (a : Addr) (xs : List Int)
  | dct (a : Addr) (kvs : List (Nat × Int))
  | fn (a : Addr) (lv : Nat) (sem : PF)
structure Ent (α : Type) where
  k : Nat
  x : Str
  e : α
noncomputable def look {α : Type} : List (Ent α) → Str → Option α
  | [], _ => none
  | e :: r, x => cond (Nat.beq (enc x) e.k) (cond (Fast.sEq e.x x) (some e.e) none) (look r x)
theorem look_i {α : Type} {P : Str → α → Prop} : ∀ {l : List (Ent α)} {x : Str} {a : α}, (∀ e ∈ l, P e.x e.e) → look l x = some a → P x a
  | e :: r, x, a, hl, h => by
    unfold look at h
    cases c1 : Nat.beq (enc x) e.k with
    | false => rw [c1] at h; exact look_i (fun e he => hl e (.tail _ he)) h
    | true =>
      rw [c1] at h
      cases c2 : Fast.sEq e.x x with
      | false => rw [c2] at h; cases h
      | true =>
        rw [c2] at h
        have z := hl e (.head _)
        rw [Fast.sEq_iff.mp c2] at z
        cases h
        exact z
noncomputable def slotAt : Slots → Str → Option (Nat × NameKind)
  | [], _ => none
  | (y, k) :: r, x => cond (Fast.sEq y x) (some (0, k)) (match slotAt r x with | some (i, k) => some (i + 1, k) | none => none)
theorem slotAt_i : ∀ {l : Slots} {x : Str} {i : Nat} {k : NameKind}, slotAt l x = some (i, k) → SlotAt l i x k
  | (y, k') :: r, x, i, k, h => by
    unfold slotAt at h
    cases c : Fast.sEq y x with
    | true => rw [c] at h; cases h; rw [Fast.sEq_iff.mp c]; exact .head
    | false =>
      rw [c] at h
      cases q : slotAt r x with
      | none => rw [q] at h; cases h
      | some p => obtain ⟨j, k''⟩ := p; rw [q] at h; cases h; exact .tail (slotAt_i q)
noncomputable def OkO {α : Type} (P : α → Prop) : Option α → Prop
  | none => True
  | some a => P a
theorem OkO.get {α : Type} {P : α → Prop} {o : Option α} {a : α} (h : OkO P o) (e : o = some a) : P a := by rw [e] at h; exact h
noncomputable def o1 {α β : Type} (f : α → β) : Option α → Option β
  | some a => some (f a)
  | none => none
noncomputable def o2 {α β γ : Type} (f : α → β → γ) : Option α → Option β → Option γ
  | some a, some b => some (f a b)
  | _, _ => none
theorem OkO.m1 {α β : Type} {P : α → Prop} {Q : β → Prop} {f : α → β} {x : Option α} (h : OkO P x) (k : ∀ a, P a → Q (f a)) : OkO Q (o1 f x) := by
  cases x with
  | none => trivial
  | some a => exact k a h
theorem OkO.m2 {α β γ : Type} {P : α → Prop} {P' : β → Prop} {Q : γ → Prop} {f : α → β → γ} {x : Option α} {y : Option β} (h : OkO P x) (h' : OkO P' y) (k : ∀ a b, P a → P' b → Q (f a b)) : OkO Q (o2 f x y) := by
  cases x with
  | none => trivial
  | some a =>
    cases y with
    | none => trivial
    | some b => exact k a b h h'
theorem OkO.cnd {α : Type} {P : α → Prop} {b : Bool} {x : Option α} (h : b = true → OkO P x) : OkO P (cond b x none) := by
  cases b with
  | false => trivial
  | true => exact h rfl
theorem OkO.cnd0 {α : Type} {P : α → Prop} {b : Bool} {x : Option α} (h : b = false → OkO P x) : OkO P (cond b none x) := by
  cases b with
  | false => exact h rfl
  | true => trivial
theorem OkO.cnd2 {α : Type} {P : α → Prop} {b : Bool} {x y : Option α} (h : b = true → OkO P x) (h' : b = false → OkO P y) : OkO P (cond b x y) := by
  cases b with
  | false => exact h' rfl
  | true => exact h rfl
noncomputable def ob {α β : Type} (x : Option α) (f : α → Option β) : Option β := match x with
  | some a => f a
  | none => none
theorem OkO.mb {α β : Type} {P : α → Prop} {Q : β → Prop} {x : Option α} {f : α → Option β} (h : OkO P x) (k : ∀ a, P a → OkO Q (f a)) : OkO Q (ob x f) := by
  cases x with
  | none => trivial
  | some a => exact k a h
noncomputable def one {α : Type} : List α → Option α
  | [a] => some a
  | _ => none
theorem one_i {α : Type} : ∀ l : List α, OkO (fun a => l = [a]) (one l)
  | [] => trivial
  | [_] => rfl
  | _ :: _ :: _ => trivial
noncomputable def two {α : Type} : List α → Option (α × α)
  | [a, b] => some (a, b)
  | _ => none
theorem two_i {α : Type} : ∀ l : List α, OkO (fun p => l = [p.1, p.2]) (two l)
  | [] => trivial
  | [_] => trivial
  | [_, _] => rfl
  | _ :: _ :: _ :: _ => trivial
theorem OkO.mono {α : Type} {P P' : α → Prop} {x : Option α} (h : OkO P x) (k : ∀ a, P a → P' a) : OkO P' x := by
  cases x with
  | none => trivial
  | some a => exact k a h
noncomputable def nameOf : Expr → Option (Str × Pos)
  | .Name x p => some (x, p)
  | _ => none
theorem nameOf_i (e : Expr) : OkO (fun p => e = .Name p.1 p.2) (nameOf e) := by cases e <;> first | exact trivial | exact rfl
noncomputable def tupOf : Expr → Option (List Expr × Nat × Pos)
  | .Tuple es k p => some (es, k, p)
  | _ => none
theorem tupOf_i (e : Expr) : OkO (fun p => e = .Tuple p.1 p.2.1 p.2.2) (tupOf e) := by cases e <;> first | exact trivial | exact rfl
noncomputable def attrOf : Expr → Option (Expr × Str × Pos)
  | .Attribute v x p => some (v, x, p)
  | _ => none
theorem attrOf_i (e : Expr) : OkO (fun p => e = .Attribute p.1 p.2.1 p.2.2) (attrOf e) := by cases e <;> first | exact trivial | exact rfl
noncomputable def subOf : Expr → Option (Expr × Expr × Pos)
  | .Subscript v s p => some (v, s, p)
  | _ => none
theorem subOf_i (e : Expr) : OkO (fun p => e = .Subscript p.1 p.2.1 p.2.2) (subOf e) := by cases e <;> first | exact trivial | exact rfl
noncomputable def callOf : Expr → Option (Expr × List Expr × List Keyword × Pos)
  | .Call f a k p => some (f, a, k, p)
  | _ => none
theorem callOf_i (e : Expr) : OkO (fun p => e = .Call p.1 p.2.1 p.2.2.1 p.2.2.2) (callOf e) := by cases e <;> first | exact trivial | exact rfl
noncomputable def alt {α : Type} (x y : Option α) : Option α := match x with
  | some a => some a
  | none => y
theorem OkO.alt {α : Type} {P : α → Prop} {x y : Option α} (h : OkO P x) (h' : OkO P y) : OkO P (alt x y) := by
  cases x with
  | none => exact h'
  | some a => exact h
structure Tabs where
  g : List (Ent GE)
  a : List (Ent (Addr × Nat))
  s : List (Ent Nat)
  l : List (Ent GE)
  c : List (Ent GE)
  lx : Bool
  n : Nat
  sl : Slots
section
variable (prog : Program) (w : World) (h₀ : Heap)
noncomputable def GOk (x : Str) : GE → Prop
  | .val v => GlobIs h₀ x v
  | .blt v => BuiltIs h₀ x v
  | .bfn id sem => BuiltIs h₀ x (.builtin id) ∧ ∀ n, WF prog w h₀ n (.builtin id) sem
  | .tfn id sem => BuiltIs h₀ x (.type id) ∧ ∀ n, WF prog w h₀ n (.type id) sem
  | .lst a xs => GlobIs h₀ x (.raw (.ref a)) ∧ TabList h₀ a xs
  | .dct a kvs => GlobIs h₀ x (.raw (.ref a)) ∧ TabDict prog w h₀ a kvs
  | .fn a lv sem => GlobIs h₀ x (.raw (.ref a)) ∧ KeepOk prog w h₀ (.ref a) ∧ WF prog w h₀ lv (.ref a) sem
structure TOk (T : Tabs) : Prop where
  g : ∀ e ∈ T.g, GOk prog w h₀ e.x e.e
  l : ∀ e ∈ T.l, GOk prog w h₀ e.x e.e
  c : ∀ e ∈ T.c, GOk prog w h₀ e.x e.e
  a : ∀ e ∈ T.a, AttrG prog w h₀ e.x e.e.1 e.e.2
  s : ∀ e ∈ T.s, IsNm e.x e.e
end
noncomputable def locOf (T : Tabs) (x : Str) : Option Nat := ob (slotAt T.sl x) fun p => match p.2 with
  | .local => some p.1
  | _ => none
noncomputable def topOf (T : Tabs) (x : Str) : Option Nat := ob (slotAt T.sl x) fun p => match p.2 with
  | .globalImplicit => some p.1
  | _ => none
noncomputable def gl (T : Tabs) (x : Str) : Option GE := ob (topOf T x) fun _ => alt (look T.l x) (look T.g x)
noncomputable def gV : GE → V
  | .val v => v
  | .blt v => .raw v
  | .bfn id _ => .raw (.builtin id)
  | .tfn id _ => .raw (.type id)
  | .lst a _ => .raw (.ref a)
  | .dct a _ => .raw (.ref a)
  | .fn a _ _ => .raw (.ref a)
noncomputable def cN (T : Tabs) (x : Str) : Option PE := alt (o1 pLoc (locOf T x)) (o1 (fun e => pV (gV e)) (gl T x))
structure R where
  e : Expr → Option PE
  t : Expr → Option PB
noncomputable def cL (r : R) : List Expr → Option PL
  | [] => some plNil
  | e :: es => cond (isStarE e) none (o2 plCons (r.e e) (cL r es))
noncomputable def isAM : Operator → Bool
  | .Add => true
  | .Mult => true
  | _ => false
noncomputable def isBase (e : Expr) : Bool := Nat.beq e.ctorIdx 20 || Nat.beq e.ctorIdx 21
noncomputable def valI : GE → Option Int
  | .val (.int i) => some i
  | _ => none
noncomputable def cI (T : Tabs) : Nat → Expr → Option (PE × Int)
  | 0, _ => none
  | k + 1, e => match e with
    | .Constant (.int i) _ _ => some (pV (.int i), i)
    | .Name x _ => ob (gl T x) fun g => o1 (fun i => (pV (.int i), i)) (valI g)
    | .UnaryOp .USub a _ => o1 (fun p => (pNeg p.1, -p.2)) (cI T k a)
    | .BinOp a .Sub b _ => o2 (fun p p' => (pBin .Sub p.1 p'.1, p.2 - p'.2)) (cI T k a) (cI T k b)
    | _ => none
noncomputable def cTab (T : Tabs) (r : R) (s : Expr) : GE → Option PE
  | .lst _ xs => cond (Nat.blt xs.length 1000) (o1 (pSubL xs) (r.e s)) none
  | .dct _ kvs => o1 (pSubD kvs) (r.e s)
  | _ => none
noncomputable def cF (T : Tabs) (r : R) (args : List Expr) : GE → Option PE
  | .fn a lv sem => cond (Nat.ble lv T.n) (o1 (pCall sem) (cL r args)) none
  | .bfn _ sem => o1 (pCall sem) (cL r args)
  | .tfn _ sem => o1 (pCall sem) (cL r args)
  | _ => none
noncomputable def fnOf (n : Nat) : GE → Option (Addr × PF)
  | .fn a lv sem => cond (Nat.ble lv n) (some (a, sem)) none
  | _ => none
noncomputable def cC2 (T : Tabs) (r : R) (args : List Expr) (i : Nat) : Option PE := ob (two T.c) fun p => o2 (fun (fs : (Addr × PF) × (Addr × PF)) g => pCallV i [(fs.1.1, fs.1.2), (fs.2.1, fs.2.2)] g) (o2 Prod.mk (fnOf T.n p.1.e) (fnOf T.n p.2.e)) (cL r args)
noncomputable def cM (r : R) (o : Expr) (m : Str) (ap pos : Pos) (a : Expr) : Option PE :=
  cond (isBase o && (ap.endLine == pos.line) && !isStarE a) (cond (Fast.sEq m (Str.ofString "append")) (o2 pAppend (r.e o) (r.e a)) (cond (Fast.sEq m (Str.ofString "pop")) (o2 pPop0 (r.e o) (r.e a)) none)) none
noncomputable def cCall (T : Tabs) (r : R) (f : Expr) (args : List Expr) (pos : Pos) : Option PE :=
  alt (ob (nameOf f) fun x => alt (ob (locOf T x.1) (cC2 T r args)) (ob (gl T x.1) (cF T r args))) (ob (attrOf f) fun p => ob (one args) (cM r p.1 p.2.1 p.2.2 pos))
noncomputable def cC (T : Tabs) : Const → Option PE
  | .int i => some (pV (.int i))
  | .bool b => some (pV (.bool b))
  | .str x => o1 (fun k => pV (.str k)) (look T.s x)
  | _ => none
noncomputable def cU (r : R) (a : Expr) : UnaryOp → Option PE
  | .USub => o1 pNeg (r.e a)
  | _ => none
noncomputable def isAnd : BoolOp → Bool
  | .And => true
  | .Or => false
noncomputable def noKw : List Keyword → Bool
  | [] => true
  | _ => false
noncomputable def cIf (T : Tabs) (r : R) (c a b : Expr) : Option PE :=
  alt (ob (cI T 9 a) fun p => ob (cI T 9 b) fun p' => o1 (fun c => pIfI c p.2 p'.2) (r.t c)) (o2 (fun c p => pIf c p.1 p.2) (r.t c) (o2 Prod.mk (r.e a) (r.e b)))
noncomputable def stepE (T : Tabs) (r : R) : Expr → Option PE
  | .Constant c _ _ => cC T c
  | .Name x _ => cN T x
  | .BinOp a op b _ => cond (T.lx && isAM op) (o2 (pBinX op) (r.e a) (r.e b)) (o2 (pBin op) (r.e a) (r.e b))
  | .UnaryOp op a _ => cU r a op
  | .Attribute v x _ => ob (nameOf v) fun _ => o2 (fun c f => pAttr c.1 c.2 f) (look T.a x) (r.e v)
  | .Subscript v s _ => cond (noSlice s) (alt (ob (nameOf v) fun x => ob (gl T x.1) (cTab T r s)) (o2 pSub (r.e v) (r.e s))) none
  | .Call f args kws pos => cond (noKw kws) (cCall T r f args pos) none
  | .Tuple es _ _ => o1 pTup (cL r es)
  | .List es _ => o1 pList (cL r es)
  | .IfExp c a b _ => cIf T r c a b
  | .Compare a ops cs _ => ob (one ops) fun op => ob (one cs) fun b => cond (noSet b) (o2 (pCmp op) (r.e a) (r.e b)) none
  | .BoolOp op vs _ => cond (isAnd op) (ob (two vs) fun p => o2 pAnd2 (r.e p.1) (r.e p.2)) none
  | _ => none
noncomputable def cA (r : R) : BoolOp → List Expr → Option PB
  | .And, [] => some bAndNil
  | .Or, [] => some bOrNil
  | .And, e :: es => o2 bAnd (r.t e) (cA r .And es)
  | .Or, e :: es => o2 bOr (r.t e) (cA r .Or es)
noncomputable def isIn : CmpOp → Bool
  | .In => true
  | _ => false
noncomputable def cUT (r : R) (a : Expr) : UnaryOp → Option PB
  | .Not => o1 bNot (r.t a)
  | _ => none
noncomputable def cCm (r : R) (a : Expr) (ops : List CmpOp) (cs : List Expr) : Option PB :=
  alt (ob (one ops) fun op => ob (one cs) fun b => cond (noSet b) (cond (isIn op) (o2 bIn (r.e a) (r.e b)) (o2 (bCmp op) (r.e a) (r.e b))) none)
    (ob (two ops) fun o => ob (two cs) fun p => cond (noSet p.2) (o2 (fun f p => bChain o.1 o.2 f p.1 p.2) (r.e a) (o2 Prod.mk (r.e p.1) (r.e p.2))) none)
noncomputable def cTv (r : R) (e : Expr) : Option PB := cond (plainT e) (o1 bVal (r.e e)) none
noncomputable def stepT (r : R) : Expr → Option PB
  | .Compare a ops cs _ => cCm r a ops cs
  | .UnaryOp op a _ => cUT r a op
  | .BoolOp op vs _ => cA r op vs
  | .Name x p => cTv r (.Name x p)
  | .Call f a k p => cTv r (.Call f a k p)
  | .BinOp a op b p => cTv r (.BinOp a op b p)
  | .Attribute v x p => cTv r (.Attribute v x p)
  | .Subscript v s p => cTv r (.Subscript v s p)
  | _ => none
noncomputable def cR (T : Tabs) : Nat → R
  | 0 => ⟨fun _ => none, fun _ => none⟩
  | k + 1 => ⟨stepE T (cR T k), stepT (cR T k)⟩
noncomputable def cT (r : R) (T : Tabs) (t : Expr) : Option PT :=
  alt (ob (nameOf t) fun x => o1 tLoc (locOf T x.1))
    (alt (ob (attrOf t) fun p => o2 (fun c f => tAttr c.1 c.2 f) (look T.a p.2.1) (r.e p.1)) (ob (subOf t) fun p => o2 tSub (r.e p.1) (r.e p.2.1)))
noncomputable def cTs (r : R) (T : Tabs) : List Expr → Option PTs
  | [] => some tsNil
  | t :: ts => cond (isStarE t) none (o2 tsCons (cT r T t) (cTs r T ts))
noncomputable def cTu (r : R) (T : Tabs) (t : Expr) : Option PT := ob (tupOf t) fun p => o1 (tTup p.1.length) (cTs r T p.1)
noncomputable def cTt (r : R) (T : Tabs) (t : Expr) : Option PT := alt (cTu r T t) (cT r T t)
noncomputable def cIt (r : R) (e : Expr) : Option PI := alt (ob (tupOf e) fun _ => o1 pItTup (r.e e)) (o1 pItList (r.e e))
noncomputable def locs (T : Tabs) : List Expr → Option (List (Nat × Nat))
  | [] => some []
  | e :: r => ob (nameOf e) fun x => o2 (fun i l => (i, x.2.line) :: l) (locOf T x.1) (locs T r)
noncomputable def isEn : GE → Bool
  | .blt (.type s) => s == "enumerate"
  | _ => false
noncomputable def enumOf (T : Tabs) (e : Expr) : Option Expr := ob (callOf e) fun p => cond (noKw p.2.2.1) (ob (nameOf p.1) fun x => ob (gl T x.1) fun g => cond (isEn g) (ob (one p.2.1) fun a => cond (isStarE a) none (some a)) none) none
noncomputable def swapOk (vs : List Expr) : Bool := !(vs.any isStarE) && !(vs.all (foldedForSure 8)) && !(vs.all (constantsAlone 8))
noncomputable def thr {α : Type} : List α → Option (α × α × α)
  | [a, b, c] => some (a, b, c)
  | _ => none
theorem thr_i {α : Type} : ∀ l : List α, OkO (fun p => l = [p.1, p.2.1, p.2.2]) (thr l)
  | [] => trivial
  | [_] => trivial
  | [_, _] => trivial
  | [_, _, _] => rfl
  | _ :: _ :: _ :: _ :: _ => trivial
noncomputable def cSw2 (T : Tabs) (r : R) (ts vs : List Expr) (v : Expr) : Option PS := ob (two ts) fun p => ob (nameOf p.1) fun x => ob (nameOf p.2) fun y => ob (locOf T x.1) fun i => ob (locOf T y.1) fun j =>
  cond (!(Nat.beq i j) && (y.2.line == x.2.line) && Nat.beq vs.length 2 && swapOk vs) (o1 (fun f => sSwap 2 f (tsCons (tLoc j) (tsCons (tLoc i) tsNil))) (r.e v)) none
noncomputable def cSw3 (T : Tabs) (r : R) (ts vs : List Expr) (v : Expr) : Option PS := ob (thr ts) fun p => ob (nameOf p.1) fun x => ob (nameOf p.2.1) fun y => ob (nameOf p.2.2) fun z => ob (locOf T x.1) fun i => ob (locOf T y.1) fun j => ob (locOf T z.1) fun k =>
  cond ((!(Nat.beq i j) && !(Nat.beq i k) && !(Nat.beq j k)) && ((y.2.line == x.2.line) && (z.2.line == x.2.line)) && Nat.beq vs.length 3 && swapOk vs) (o1 (fun f => sSwap 3 f (tsCons (tLoc k) (tsCons (tLoc j) (tsCons (tLoc i) tsNil)))) (r.e v)) none
noncomputable def cAsT (T : Tabs) (r : R) (ts vs : List Expr) (t v : Expr) : Option PS :=
  alt (cSw2 T r ts vs v) (alt (cSw3 T r ts vs v) (cond (!(ts.any isNameE) && !ts.isEmpty || !(ts.length == 2 || ts.length == 3)) (o2 sAssign (r.e v) (cTu r T t)) none))
noncomputable def cAsg (T : Tabs) (r : R) (t v : Expr) : Option PS :=
  alt (ob (tupOf t) fun p => ob (tupOf v) fun p' => cAsT T r p.1 p'.1 t v) (cond (okAsg t v) (o2 sAssign (r.e v) (cTt r T t)) none)
structure Q where
  x : Stmt → Option PS
noncomputable def cS (q : Q) : List Stmt → Option PS
  | [] => some sNil
  | s :: r => o2 sCons (q.x s) (cS q r)
noncomputable def cAug (T : Tabs) (r : R) (t : Expr) (op : Operator) (v : Expr) : Option PS :=
  alt (ob (nameOf t) fun x => ob (locOf T x.1) fun i => o1 (sAugName i op) (r.e v)) (ob (attrOf t) fun p => o2 (fun c (p : PE × PE) => sAugAttr c.1 c.2 op p.1 p.2) (look T.a p.2.1) (o2 Prod.mk (r.e p.1) (r.e v)))
noncomputable def cFor (T : Tabs) (r : R) (q : Q) (t it : Expr) (body : List Stmt) : Option PS :=
  alt (ob (enumOf T it) fun e => o2 (fun f p => sForEnum f p.1 p.2) (r.e e) (o2 Prod.mk (cTu r T t) (cS q body)))
    (cond (noSet it) (o2 (fun f p => sFor f p.1 p.2) (cIt r it) (o2 Prod.mk (cTt r T t) (cS q body))) none)
noncomputable def cRet (r : R) : Option Expr → Option PS
  | some e => o1 sRet (r.e e)
  | none => some sRetN
noncomputable def stepX (T : Tabs) (r : R) (q : Q) : Stmt → Option PS
  | .Assign ts v _ => ob (one ts) fun t => cAsg T r t v
  | .AugAssign t op v _ => cAug T r t op v
  | .Return v _ => cRet r v
  | .Expr e _ => cond (noComp e) (o1 sExpr (r.e e)) none
  | .If c a b _ => o2 (fun c p => sIf c p.1 p.2) (r.t c) (o2 Prod.mk (cS q a) (cS q b))
  | .For t it body orelse _ => cond orelse.isEmpty (cFor T r q t it body) none
  | _ => none
noncomputable def cX (T : Tabs) (r : R) : Nat → Q
  | 0 => ⟨fun _ => none⟩
  | k + 1 => ⟨stepX T r (cX T r k)⟩
noncomputable def comp (T : Tabs) (b : List Stmt) : Option PS := cS (cX T (cR T 16) 8) b
theorem OkO.rfl {α : Type} (x : Option α) : OkO (fun a => x = some a) x := by
  cases x with
  | none => trivial
  | some a => exact Eq.refl _
section
variable {prog : Program} {w : World} {h₀ : Heap} {env : Env} {T : Tabs} {r : R} {q : Q}
theorem loc_i {x : Str} : OkO (fun i => SlotAt T.sl i x .local) (locOf T x) := by
  refine OkO.mb (OkO.rfl _) fun p h => ?_
  obtain ⟨i, k⟩ := p
  cases k <;> first | exact slotAt_i h | trivial
theorem top_i {x : Str} : OkO (fun i => SlotAt T.sl i x .globalImplicit) (topOf T x) := by
  refine OkO.mb (OkO.rfl _) fun p h => ?_
  obtain ⟨i, k⟩ := p
  cases k <;> first | exact slotAt_i h | trivial
theorem look_ok {α : Type} {P : Str → α → Prop} {l : List (Ent α)} {x : Str} (h : ∀ e ∈ l, P e.x e.e) : OkO (P x) (look l x) := OkO.mono (OkO.rfl _) fun _ e => look_i h e
theorem gl_i (K : TOk prog w h₀ T) {x : Str} : OkO (fun e => GOk prog w h₀ x e ∧ ∃ i, SlotAt T.sl i x .globalImplicit) (gl T x) :=
  OkO.mb top_i fun i S => OkO.mono (OkO.alt (look_ok K.l) (look_ok K.g)) fun _ G => ⟨G, i, S⟩
theorem gN_i (F : FE env T.sl) {x : Str} {e : GE} {pos : Pos} (h : GOk prog w h₀ x e ∧ ∃ i, SlotAt T.sl i x .globalImplicit) : WE prog w h₀ T.n env T.sl (.Name x pos) (pV (gV e)) := by
  obtain ⟨G, i, S⟩ := h
  cases e with
  | val v => exact WE.glob F G S
  | blt v => exact WE.blt F G S
  | bfn id _ => exact WE.blt F G.1 S
  | tfn id _ => exact WE.blt F G.1 S
  | lst a _ => exact WE.glob F G.1 S
  | dct a _ => exact WE.glob F G.1 S
  | fn a _ _ => exact WE.glob F G.1 S
theorem cN_i (F : FE env T.sl) (K : TOk prog w h₀ T) {x : Str} {pos : Pos} : OkO (WE prog w h₀ T.n env T.sl (.Name x pos)) (cN T x) :=
  OkO.alt (OkO.m1 loc_i fun _ S => WE.loc F S) (OkO.m1 (gl_i K) fun _ h => gN_i F h)
structure RS (prog : Program) (w : World) (h₀ : Heap) (env : Env) (T : Tabs) (r : R) : Prop where
  e : ∀ x, OkO (WE prog w h₀ T.n env T.sl x) (r.e x)
  t : ∀ x, OkO (WT prog w h₀ T.n env T.sl x) (r.t x)
theorem cL_i (S : RS prog w h₀ env T r) : ∀ es, OkO (WL prog w h₀ T.n env T.sl es) (cL r es)
  | [] => WL.nil
  | e :: es => OkO.cnd0 fun h => OkO.m2 (S.e e) (cL_i S es) fun _ _ a b => WL.cons a b h
theorem pairE (S : RS prog w h₀ env T r) (a b : Expr) : OkO (fun p : PE × PE => WE prog w h₀ T.n env T.sl a p.1 ∧ WE prog w h₀ T.n env T.sl b p.2) (o2 Prod.mk (r.e a) (r.e b)) := OkO.m2 (S.e a) (S.e b) fun _ _ h h' => ⟨h, h'⟩
theorem at_i (K : TOk prog w h₀ T) {x : Str} : OkO (fun c : Addr × Nat => AttrG prog w h₀ x c.1 c.2) (look T.a x) := look_ok (P := fun (x : Str) (c : Addr × Nat) => AttrG prog w h₀ x c.1 c.2) K.a
theorem valI_i (F : FE env T.sl) {x : Str} {e : GE} {pos : Pos} (h : GOk prog w h₀ x e ∧ ∃ i, SlotAt T.sl i x .globalImplicit) : OkO (fun i => WE prog w h₀ T.n env T.sl (.Name x pos) (pV (.int i))) (valI e) := by
  cases e with
  | val v => cases v <;> first | exact gN_i F h | trivial
  | _ => trivial
theorem cI_i (F : FE env T.sl) (K : TOk prog w h₀ T) : ∀ (k : Nat) (e : Expr), OkO (fun p => WE prog w h₀ T.n env T.sl e p.1 ∧ IsI p.1 p.2) (cI T k e)
  | 0, _ => trivial
  | k + 1, e => by
    cases e
    case Constant c _ _ => cases c <;> first | exact ⟨WE.int _ _ _, IsI.v _⟩ | trivial
    case Name => exact OkO.mb (gl_i K) fun _ h => OkO.m1 (valI_i F h) fun _ h => ⟨h, IsI.v _⟩
    case UnaryOp op a _ => cases op <;> first | exact OkO.m1 (cI_i F K k _) fun _ h => ⟨WE.neg h.1, IsI.neg h.2⟩ | trivial
    case BinOp a op b _ => cases op <;> first | exact OkO.m2 (cI_i F K k _) (cI_i F K k _) fun _ _ h h' => ⟨WE.bin h.1 h'.1, IsI.sub h.2 h'.2⟩ | trivial
    all_goals trivial
theorem cTab_i (F : FE env T.sl) (S : RS prog w h₀ env T r) {x : Str} {np pos : Pos} {s : Expr} {e : GE} (c : noSlice s = true) (h : GOk prog w h₀ x e ∧ ∃ i, SlotAt T.sl i x .globalImplicit) : OkO (WE prog w h₀ T.n env T.sl (.Subscript (.Name x np) s pos)) (cTab T r s e) := by
  cases e with
  | lst a xs => exact OkO.cnd fun d => OkO.m1 (S.e _) fun _ k => WE.subL (gN_i F h) h.1.2 (Nat.lt_trans (by rw [Nat.blt_eq] at d; exact d) (by decide)) k c
  | dct a kvs => exact OkO.m1 (S.e _) fun _ k => WE.subD (gN_i F h) h.1.2 k c
  | _ => trivial
theorem cF_i (F : FE env T.sl) (S : RS prog w h₀ env T r) {x : Str} {np pos : Pos} {args : List Expr} {e : GE} (h : GOk prog w h₀ x e ∧ ∃ i, SlotAt T.sl i x .globalImplicit) : OkO (WE prog w h₀ T.n env T.sl (.Call (.Name x np) args [] pos)) (cF T r args e) := by
  cases e with
  | fn a lv sem => exact OkO.cnd fun c => OkO.m1 (cL_i S args) fun g hg => WE.call (gN_i F h) h.1.2.1 (h.1.2.2.level c) hg
  | bfn _ _ => exact OkO.m1 (cL_i S args) fun g hg => WE.callB (gN_i F h) (h.1.2 _) hg
  | tfn _ _ => exact OkO.m1 (cL_i S args) fun g hg => WE.callT (gN_i F h) (h.1.2 _) hg
  | _ => trivial
theorem fnOf_i {x : Str} {e : GE} (h : GOk prog w h₀ x e) : OkO (fun p => KeepOk prog w h₀ (.ref p.1) ∧ WF prog w h₀ T.n (.ref p.1) p.2) (fnOf T.n e) := by
  cases e with
  | fn a lv sem => exact OkO.cnd fun c => ⟨h.2.1, h.2.2.level c⟩
  | _ => trivial
theorem pairF {x y : Str} {e e' : GE} (h : GOk prog w h₀ x e) (h' : GOk prog w h₀ y e') : OkO (fun z : (Addr × PF) × (Addr × PF) => (KeepOk prog w h₀ (.ref z.1.1) ∧ WF prog w h₀ T.n (.ref z.1.1) z.1.2) ∧ KeepOk prog w h₀ (.ref z.2.1) ∧ WF prog w h₀ T.n (.ref z.2.1) z.2.2) (o2 Prod.mk (fnOf T.n e) (fnOf T.n e')) := OkO.m2 (fnOf_i h) (fnOf_i h') fun _ _ a b => ⟨a, b⟩
theorem cC2_i (F : FE env T.sl) (K : TOk prog w h₀ T) (S : RS prog w h₀ env T r) {x : Str} {np pos : Pos} {args : List Expr} {i : Nat} (h : SlotAt T.sl i x .local) : OkO (WE prog w h₀ T.n env T.sl (.Call (.Name x np) args [] pos)) (cC2 T r args i) :=
  OkO.mb (two_i _) fun p hl => OkO.m2 (pairF (K.c p.1 (by rw [hl]; exact .head _)) (K.c p.2 (by rw [hl]; exact .tail _ (.head _)))) (cL_i S args) fun _ _ z g => WE.call2 (WE.loc F h) z.1.1 z.2.1 z.1.2 z.2.2 g
theorem base_i {o : Expr} (c : isBase o = true) (y : Str) (wh : Sem Value) : attributeBase o y env wh = wh := by
  cases o <;> first | exact Eq.refl _ | exact Bool.noConfusion c
theorem cM_i (S : RS prog w h₀ env T r) {o a : Expr} {m : Str} {ap pos : Pos} : OkO (WE prog w h₀ T.n env T.sl (.Call (.Attribute o m ap) [a] [] pos)) (cM r o m ap pos a) :=
  OkO.cnd fun c => by
    obtain ⟨c, c3⟩ := Bool.and_eq_true_iff.mp c
    obtain ⟨c1, c2⟩ := Bool.and_eq_true_iff.mp c
    refine OkO.cnd2 (fun e => ?_) fun _ => OkO.cnd fun e => ?_
    · cases Fast.sEq_iff.mp e
      exact OkO.m2 (S.e _) (S.e _) fun _ _ h h' => WE.append h h' (base_i c1 _) c2 (Bool.not_eq_true' _ ▸ c3)
    · cases Fast.sEq_iff.mp e
      exact OkO.m2 (S.e _) (S.e _) fun _ _ h h' => WE.pop0 h h' (base_i c1 _) c2 (Bool.not_eq_true' _ ▸ c3)
theorem cCall_i (F : FE env T.sl) (K : TOk prog w h₀ T) (S : RS prog w h₀ env T r) {f : Expr} {args : List Expr} {pos : Pos} : OkO (WE prog w h₀ T.n env T.sl (.Call f args [] pos)) (cCall T r f args pos) :=
  OkO.alt (OkO.mb (nameOf_i f) fun x e => e ▸ OkO.alt (OkO.mb loc_i fun _ h => cC2_i F K S h) (OkO.mb (gl_i K) fun _ h => cF_i F S h))
    (OkO.mb (attrOf_i f) fun p e => e ▸ OkO.mb (one_i args) fun a e' => e' ▸ cM_i S)
theorem stepE_i (F : FE env T.sl) (K : TOk prog w h₀ T) (S : RS prog w h₀ env T r) (x : Expr) : OkO (WE prog w h₀ T.n env T.sl x) (stepE T r x) := by
  cases x
  case Constant c _ _ =>
    cases c
    case int => exact WE.int _ _ _
    case bool => exact WE.bool _ _ _
    case str => exact OkO.m1 (look_ok K.s) fun _ h => WE.str h
    all_goals trivial
  case Name => exact cN_i F K
  case BinOp => exact OkO.cnd2 (fun _ => OkO.m2 (S.e _) (S.e _) fun _ _ => WE.binX) fun _ => OkO.m2 (S.e _) (S.e _) fun _ _ => WE.bin
  case UnaryOp op a _ => cases op <;> first | exact OkO.m1 (S.e _) fun _ => WE.neg | trivial
  case Attribute v x _ => exact OkO.mb (nameOf_i v) fun _ e => OkO.m2 (at_i K) (S.e _) fun _ _ g h => by subst e; exact WE.attr g h
  case Subscript v s _ => exact OkO.cnd fun c => OkO.alt (OkO.mb (nameOf_i v) fun _ e => OkO.mb (gl_i K) fun _ h => by subst e; exact cTab_i F S c h) (OkO.m2 (S.e _) (S.e _) fun _ _ h h' => WE.sub h h' c)
  case Call f args kws pos =>
    cases kws with
    | nil => exact cCall_i F K S
    | cons => trivial
  case Tuple => exact OkO.m1 (cL_i S _) fun _ => WE.tup
  case List => exact OkO.m1 (cL_i S _) fun _ => WE.list
  case IfExp => exact OkO.alt (OkO.mb (cI_i F K _ _) fun _ k => OkO.mb (cI_i F K _ _) fun _ k' => OkO.m1 (S.t _) fun _ h => WE.ifInt h k.1 k'.1 k.2 k'.2) (OkO.m2 (S.t _) (pairE S _ _) fun _ _ h h' => WE.ifExp h h'.1 h'.2)
  case Compare => exact OkO.mb (one_i _) fun _ e => OkO.mb (one_i _) fun _ e' => by subst e; subst e'; exact OkO.cnd fun c => OkO.m2 (S.e _) (S.e _) fun _ _ h h' => WE.cmp h h' c
  case BoolOp op vs _ => cases op <;> first | exact OkO.mb (two_i _) fun _ e => by subst e; exact OkO.m2 (S.e _) (S.e _) fun _ _ => WE.and2 | trivial
  all_goals trivial
theorem cA_i (S : RS prog w h₀ env T r) : ∀ (op : BoolOp) (es : List Expr), OkO (WA prog w h₀ T.n env T.sl es op) (cA r op es)
  | .And, [] => WA.andNil
  | .Or, [] => WA.orNil
  | .And, e :: es => OkO.m2 (S.t e) (cA_i S .And es) fun _ _ => WA.and
  | .Or, e :: es => OkO.m2 (S.t e) (cA_i S .Or es) fun _ _ => WA.or
theorem isIn_i {op : CmpOp} (c : isIn op = true) : op = .In := by
  cases op <;> first | exact Eq.refl _ | exact Bool.noConfusion c
theorem cTv_i (S : RS prog w h₀ env T r) (x : Expr) : OkO (WT prog w h₀ T.n env T.sl x) (cTv r x) := OkO.cnd fun c => OkO.m1 (S.e _) fun _ h => WT.val h c
theorem cCm_i (S : RS prog w h₀ env T r) {a : Expr} {ops : List CmpOp} {cs : List Expr} {pos : Pos} : OkO (WT prog w h₀ T.n env T.sl (.Compare a ops cs pos)) (cCm r a ops cs) :=
  OkO.alt (OkO.mb (one_i _) fun _ e => OkO.mb (one_i _) fun _ e' => by
      subst e; subst e'
      exact OkO.cnd fun c => OkO.cnd2 (fun d => isIn_i d ▸ OkO.m2 (S.e _) (S.e _) fun _ _ h h' => WT.in_ h h' c) fun _ => OkO.m2 (S.e _) (S.e _) fun _ _ h h' => WT.cmp h h' c)
    (OkO.mb (two_i _) fun _ e => OkO.mb (two_i _) fun _ e' => by
      subst e; subst e'
      exact OkO.cnd fun c => OkO.m2 (S.e _) (pairE S _ _) fun _ _ h h' => WT.chain h h'.1 h'.2 c)
theorem stepT_i (S : RS prog w h₀ env T r) (x : Expr) : OkO (WT prog w h₀ T.n env T.sl x) (stepT r x) := by
  cases x
  case Compare => exact cCm_i S
  case UnaryOp op a _ => cases op <;> first | exact OkO.m1 (S.t _) fun _ => WT.not | trivial
  case BoolOp => exact OkO.mono (cA_i S _ _) fun _ h => WT.boolOp h
  case Name => exact cTv_i S _
  case Call => exact cTv_i S _
  case BinOp => exact cTv_i S _
  case Attribute => exact cTv_i S _
  case Subscript => exact cTv_i S _
  all_goals trivial
theorem cR_i (F : FE env T.sl) (K : TOk prog w h₀ T) : ∀ k, RS prog w h₀ env T (cR T k)
  | 0 => ⟨fun _ => trivial, fun _ => trivial⟩
  | k + 1 => ⟨stepE_i F K (cR_i F K k), stepT_i (cR_i F K k)⟩
theorem cT_i (F : FE env T.sl) (K : TOk prog w h₀ T) (S : RS prog w h₀ env T r) (t : Expr) : OkO (WJ prog w h₀ T.n env T.sl t) (cT r T t) :=
  OkO.alt (OkO.mb (nameOf_i t) fun _ e => e ▸ OkO.m1 loc_i fun _ h => WJ.name F h)
    (OkO.alt (OkO.mb (attrOf_i t) fun _ e => e ▸ OkO.m2 (at_i K) (S.e _) fun _ _ g h => WJ.attr g h) (OkO.mb (subOf_i t) fun _ e => e ▸ OkO.m2 (S.e _) (S.e _) fun _ _ h h' => WJ.sub h h'))
theorem cTs_i (F : FE env T.sl) (K : TOk prog w h₀ T) (S : RS prog w h₀ env T r) : ∀ ts, OkO (WJs prog w h₀ T.n env T.sl ts.length ts) (cTs r T ts)
  | [] => WJs.nil
  | t :: ts => OkO.cnd0 fun h => OkO.m2 (cT_i F K S t) (cTs_i F K S ts) fun _ _ a b => WJs.cons a b h
theorem cTu_i (F : FE env T.sl) (K : TOk prog w h₀ T) (S : RS prog w h₀ env T r) (t : Expr) : OkO (WJ prog w h₀ T.n env T.sl t) (cTu r T t) := OkO.mb (tupOf_i t) fun _ e => e ▸ OkO.m1 (cTs_i F K S _) fun _ => WJ.tup
theorem cTt_i (F : FE env T.sl) (K : TOk prog w h₀ T) (S : RS prog w h₀ env T r) (t : Expr) : OkO (WJ prog w h₀ T.n env T.sl t) (cTt r T t) := OkO.alt (cTu_i F K S t) (cT_i F K S t)
theorem cIt_i (S : RS prog w h₀ env T r) (e : Expr) : OkO (WI prog w h₀ T.n env T.sl e) (cIt r e) := OkO.alt (OkO.mb (tupOf_i e) fun _ _ => OkO.m1 (S.e _) fun _ => WI.tup) (OkO.m1 (S.e _) fun _ => WI.list)
theorem isEn_i {g : GE} (h : isEn g = true) : g = .blt (.type "enumerate") := by
  cases g with
  | blt v =>
    cases v with
    | type s => rw [eq_of_beq (show (s == "enumerate") = true from h)]
    | _ => exact Bool.noConfusion h
  | _ => exact Bool.noConfusion h
theorem enum_i (F : FE env T.sl) (K : TOk prog w h₀ T) (e : Expr) : OkO (fun a => ∃ x np cp, e = .Call (.Name x np) [a] [] cp ∧ isStarE a = false ∧ WE prog w h₀ T.n env T.sl (.Name x np) (pV (.raw (.type "enumerate")))) (enumOf T e) :=
  OkO.mb (callOf_i e) fun p e1 => OkO.cnd fun k => OkO.mb (nameOf_i p.1) fun x e2 => OkO.mb (gl_i K) fun g h => OkO.cnd fun c => OkO.mb (one_i _) fun a e3 => OkO.cnd0 fun s => by
    have e4 : p.2.2.1 = [] := by
      cases hk : p.2.2.1 with
      | nil => exact Eq.refl _
      | cons => rw [hk] at k; exact Bool.noConfusion k
    rw [e2, e3, e4] at e1
    cases isEn_i c
    exact ⟨x.1, x.2, p.2.2.2, e1, s, gN_i F h⟩
theorem ne_i {i j : Nat} (h : (!(Nat.beq i j)) = true) : Nat.beq i j = false := by
  cases e : Nat.beq i j with
  | false => exact Eq.refl _
  | true => rw [e] at h; exact Bool.noConfusion h
theorem nt_i {b : Bool} (h : (!b) = true) : b = false := by
  cases b with
  | false => exact Eq.refl _
  | true => exact Bool.noConfusion h
theorem sw_i {vs : List Expr} (h : swapOk vs = true) : (vs.any isStarE) = false ∧ vs.all (foldedForSure 8) = false ∧ vs.all (constantsAlone 8) = false := by
  obtain ⟨h, c⟩ := Bool.and_eq_true_iff.mp h
  obtain ⟨a, b⟩ := Bool.and_eq_true_iff.mp h
  exact ⟨nt_i a, nt_i b, nt_i c⟩
theorem cSw2_i (F : FE env T.sl) (S : RS prog w h₀ env T r) {ts vs : List Expr} {x y : Nat} {p q pos : Pos} : OkO (WX prog w h₀ T.n env T.sl (.Assign [.Tuple ts x p] (.Tuple vs y q) pos)) (cSw2 T r ts vs (.Tuple vs y q)) :=
  OkO.mb (two_i ts) fun _ e => OkO.mb (nameOf_i _) fun _ e1 => OkO.mb (nameOf_i _) fun _ e2 => OkO.mb loc_i fun _ h1 => OkO.mb loc_i fun _ h2 => OkO.cnd fun c => OkO.m1 (S.e _) fun _ hv => by
    obtain ⟨c, c4⟩ := Bool.and_eq_true_iff.mp c
    obtain ⟨c, c3⟩ := Bool.and_eq_true_iff.mp c
    obtain ⟨c1, c2⟩ := Bool.and_eq_true_iff.mp c
    rw [e1, e2] at e
    subst e
    exact WX.swap2 F h1 h2 (ne_i c1) c2 (Nat.eq_of_beq_eq_true c3) (sw_i c4).1 (sw_i c4).2.1 (sw_i c4).2.2 hv
theorem cSw3_i (F : FE env T.sl) (S : RS prog w h₀ env T r) {ts vs : List Expr} {x y : Nat} {p q pos : Pos} : OkO (WX prog w h₀ T.n env T.sl (.Assign [.Tuple ts x p] (.Tuple vs y q) pos)) (cSw3 T r ts vs (.Tuple vs y q)) :=
  OkO.mb (thr_i ts) fun _ e => OkO.mb (nameOf_i _) fun _ e1 => OkO.mb (nameOf_i _) fun _ e2 => OkO.mb (nameOf_i _) fun _ e3 => OkO.mb loc_i fun _ h1 => OkO.mb loc_i fun _ h2 => OkO.mb loc_i fun _ h3 => OkO.cnd fun c => OkO.m1 (S.e _) fun _ hv => by
    obtain ⟨c, c4⟩ := Bool.and_eq_true_iff.mp c
    obtain ⟨c, c3⟩ := Bool.and_eq_true_iff.mp c
    obtain ⟨c1, c2⟩ := Bool.and_eq_true_iff.mp c
    obtain ⟨d, d3⟩ := Bool.and_eq_true_iff.mp c1
    obtain ⟨d1, d2⟩ := Bool.and_eq_true_iff.mp d
    obtain ⟨l1, l2⟩ := Bool.and_eq_true_iff.mp c2
    rw [e1, e2, e3] at e
    subst e
    exact WX.swap3 F h1 h2 h3 (ne_i d1) (ne_i d2) (ne_i d3) l1 l2 (Nat.eq_of_beq_eq_true c3) (sw_i c4).1 (sw_i c4).2.1 (sw_i c4).2.2 hv
theorem cAsT_i (F : FE env T.sl) (K : TOk prog w h₀ T) (S : RS prog w h₀ env T r) {ts vs : List Expr} {x y : Nat} {p q pos : Pos} : OkO (WX prog w h₀ T.n env T.sl (.Assign [.Tuple ts x p] (.Tuple vs y q) pos)) (cAsT T r ts vs (.Tuple ts x p) (.Tuple vs y q)) :=
  OkO.alt (cSw2_i F S) (OkO.alt (cSw3_i F S) (OkO.cnd fun c => OkO.m2 (S.e _) (cTu_i F K S _) fun _ _ hv ht => by
    rcases Bool.or_eq_true_iff.mp c with c | c
    · obtain ⟨c1, c2⟩ := Bool.and_eq_true_iff.mp c
      exact WX.assignT F hv ht (nt_i c1) (nt_i c2)
    · exact WX.assignL hv ht (nt_i c)))
theorem cAsg_i (F : FE env T.sl) (K : TOk prog w h₀ T) (S : RS prog w h₀ env T r) {t v : Expr} {pos : Pos} : OkO (WX prog w h₀ T.n env T.sl (.Assign [t] v pos)) (cAsg T r t v) :=
  OkO.alt (OkO.mb (tupOf_i t) fun _ e => OkO.mb (tupOf_i v) fun _ e' => by rw [e, e']; exact cAsT_i F K S) (OkO.cnd fun c => OkO.m2 (S.e _) (cTt_i F K S _) fun _ _ hv ht => WX.assign hv ht c)
noncomputable def QS (prog : Program) (w : World) (h₀ : Heap) (env : Env) (T : Tabs) (q : Q) : Prop := ∀ s, OkO (WX prog w h₀ T.n env T.sl s) (q.x s)
theorem cS_i (S : QS prog w h₀ env T q) : ∀ b, OkO (WS prog w h₀ T.n env T.sl b) (cS q b)
  | [] => WS.nil
  | s :: b => OkO.m2 (S s) (cS_i S b) fun _ _ => WS.cons
theorem cAug_i (F : FE env T.sl) (K : TOk prog w h₀ T) (S : RS prog w h₀ env T r) {t v : Expr} {op : Operator} {pos : Pos} : OkO (WX prog w h₀ T.n env T.sl (.AugAssign t op v pos)) (cAug T r t op v) :=
  OkO.alt (OkO.mb (nameOf_i t) fun _ e => OkO.mb loc_i fun _ h => e ▸ OkO.m1 (S.e _) fun _ hv => WX.augName F h hv)
    (OkO.mb (attrOf_i t) fun _ e => e ▸ OkO.m2 (at_i K) (pairE S _ _) fun _ _ g h => WX.augAttr g h.1 h.2)
theorem pairS (Z : QS prog w h₀ env T q) (a b : List Stmt) : OkO (fun p : PS × PS => WS prog w h₀ T.n env T.sl a p.1 ∧ WS prog w h₀ T.n env T.sl b p.2) (o2 Prod.mk (cS q a) (cS q b)) := OkO.m2 (cS_i Z a) (cS_i Z b) fun _ _ h h' => ⟨h, h'⟩
theorem pairT (F : FE env T.sl) (K : TOk prog w h₀ T) (S : RS prog w h₀ env T r) (Z : QS prog w h₀ env T q) (t : Expr) (b : List Stmt) : OkO (fun p : PT × PS => WJ prog w h₀ T.n env T.sl t p.1 ∧ WS prog w h₀ T.n env T.sl b p.2) (o2 Prod.mk (cTt r T t) (cS q b)) := OkO.m2 (cTt_i F K S t) (cS_i Z b) fun _ _ h h' => ⟨h, h'⟩
theorem cTu_j (F : FE env T.sl) (K : TOk prog w h₀ T) (S : RS prog w h₀ env T r) (t : Expr) : OkO (fun f => (∃ es k p, t = .Tuple es k p) ∧ WJ prog w h₀ T.n env T.sl t f) (cTu r T t) := OkO.mb (tupOf_i t) fun p e => OkO.m1 (cTs_i F K S _) fun _ h => ⟨⟨_, _, _, e⟩, e ▸ WJ.tup h⟩
theorem pairU (F : FE env T.sl) (K : TOk prog w h₀ T) (S : RS prog w h₀ env T r) (Z : QS prog w h₀ env T q) (t : Expr) (b : List Stmt) : OkO (fun p : PT × PS => ((∃ es k p, t = .Tuple es k p) ∧ WJ prog w h₀ T.n env T.sl t p.1) ∧ WS prog w h₀ T.n env T.sl b p.2) (o2 Prod.mk (cTu r T t) (cS q b)) := OkO.m2 (cTu_j F K S t) (cS_i Z b) fun _ _ h h' => ⟨h, h'⟩
theorem cFor_i (F : FE env T.sl) (K : TOk prog w h₀ T) (S : RS prog w h₀ env T r) (Z : QS prog w h₀ env T q) {t it : Expr} {body : List Stmt} {pos : Pos} : OkO (WX prog w h₀ T.n env T.sl (.For t it body [] pos)) (cFor T r q t it body) :=
  OkO.alt (OkO.mb (enum_i F K it) fun a h => OkO.m2 (S.e _) (pairU F K S Z t body) fun _ _ he hp => by
      obtain ⟨x, np, cp, rfl, hs, hn⟩ := h
      obtain ⟨⟨⟨_, _, _, rfl⟩, ht⟩, hb⟩ := hp
      exact WX.forEnum hn he hs ht hb)
    (OkO.cnd fun c => OkO.m2 (cIt_i S _) (pairT F K S Z t body) fun _ _ hi hp => WX.for_ hi hp.1 hp.2 c)
theorem stepX_i (F : FE env T.sl) (K : TOk prog w h₀ T) (S : RS prog w h₀ env T r) (Z : QS prog w h₀ env T q) : QS prog w h₀ env T ⟨stepX T r q⟩ := fun s => by
  cases s
  case Assign => exact OkO.mb (one_i _) fun _ e => e ▸ cAsg_i F K S
  case AugAssign => exact cAug_i F K S
  case Return v _ =>
    cases v with
    | none => exact WX.retN
    | some e => exact OkO.m1 (S.e _) fun _ => WX.ret
  case Expr => exact OkO.cnd fun c => OkO.m1 (S.e _) fun _ h => WX.expr F h c
  case If => exact OkO.m2 (S.t _) (pairS Z _ _) fun _ _ h h' => WX.if_ h h'.1 h'.2
  case For t it body orelse _ =>
    cases orelse with
    | nil => exact cFor_i F K S Z
    | cons => trivial
  all_goals trivial
theorem cX_i (F : FE env T.sl) (K : TOk prog w h₀ T) (S : RS prog w h₀ env T r) : ∀ k, QS prog w h₀ env T (cX T r k)
  | 0 => fun _ => trivial
  | k + 1 => stepX_i F K S (cX_i F K S k)
theorem comp_i (F : FE env T.sl) (K : TOk prog w h₀ T) {b : List Stmt} {f : PS} (h : comp T b = some f) : WS prog w h₀ T.n env T.sl b f := (cS_i (cX_i F K (cR_i F K _) _) b).get h
end
noncomputable abbrev KK (w : World) : Frag := hKf w.params
noncomputable abbrev PR : Program := PySem.Challenge.rw_nz0579_01.row.prog
structure Base (w : World) (h₀ : Heap) : Prop where
  K : (KK w).In h₀
  lim : h₀.NoLimit
  g : ∃ mg, h₀.Ns mainGlobals mg
  b : ∃ mb, h₀.Ns builtinsNs mb ∧ ∀ x : Str, x ≠ "__name__" → mb x = bootBuiltins x
inductive GV where
  | int (i : Int)
  | ref (a : Addr)
  | none
noncomputable def isSN : Option (Option Value) → Bool
  | some none => true
  | _ => false
theorem isSN_of {r : Option (Option Value)} (h : isSN r = true) : r = some none := by
  rcases r with _ | _ | _ <;> first | rfl | exact Bool.noConfusion h
noncomputable def isIV (i : Int) : Value → Bool
  | .int j _ => decide (j = i)
  | _ => false
noncomputable def isI : Option Value → Int → Bool
  | some v, i => isIV i v
  | none, _ => false
theorem isI_of {r : Option Value} {i : Int} (h : isI r i = true) : ∃ t, r = some (.int i t) := by
  rcases r with _ | v
  · exact Bool.noConfusion h
  · cases v <;> first | exact Bool.noConfusion h | exact ⟨_, by rw [of_decide_eq_true h]⟩
noncomputable def isRV (a : Addr) : Value → Bool
  | .ref b => Nat.beq b a
  | _ => false
noncomputable def gvOk : Option (Option Value) → GV → Bool
  | some o, .int i => isI o i
  | some (some v), .ref a => isRV a v
  | r, .none => isSN r
  | _, _ => false
theorem gvOk_int {r : Option (Option Value)} {i : Int} (h : gvOk r (.int i) = true) : ∃ t, r = some (some (.int i t)) := by
  rcases r with _ | o
  · exact Bool.noConfusion h
  · obtain ⟨t, e⟩ := isI_of (r := o) h
    exact ⟨t, by rw [e]⟩
theorem gvOk_ref {r : Option (Option Value)} {a : Addr} (h : gvOk r (.ref a) = true) : r = some (some (.ref a)) := by
  rcases r with _ | _ | v
  · exact Bool.noConfusion h
  · exact Bool.noConfusion h
  · cases v <;> first | exact Bool.noConfusion h | exact by rw [Nat.eq_of_beq_eq_true h]
theorem gvOk_none {r : Option (Option Value)} (h : gvOk r .none = true) : r = some none := by
  rcases r with _ | _ | v
  · exact Bool.noConfusion h
  · rfl
  · exact Bool.noConfusion h
noncomputable def chkL : List (Str × GV) := [(Str.ofString "PV", .int 4), (Str.ofString "S", .int 128), (Str.ofString "YX", .int 40), (Str.ofString "Z", .int 64), (Str.ofString "H", .int 16), (Str.ofString "N", .int 2), (Str.ofString "C", .int 1), (Str.ofString "Y", .int 32), (Str.ofString "X", .int 8), (Str.ofString "REG_B", .int 0), (Str.ofString "REG_F", .int 6), (Str.ofString "REG_A", .int 7), (Str.ofString "REG_C", .int 1), (Str.ofString "REG_L", .int 5), (Str.ofString "ROUND_AGAIN", .int 5), (Str.ofString "NOTHING", .int 6), (Str.ofString "STATES_OF_NONE", .int 8), (Str.ofString "HL", .int 2), (Str.ofString "STATES_OF_GOING_ON", .int 21), (Str.ofString "STATES_OF_ONE_ROUND", .int 16), (Str.ofString "BC", .int 0), (Str.ofString "DE", .int 1), (Str.ofString "len", .none), (Str.ofString "enumerate", .none), (Str.ofString "int", .none), (Str.ofString "abs", .none), (Str.ofString "range", .none), (Str.ofString "sum", .none), (Str.ofString "list", .none), (Str.ofString "cpu_row", .ref 63), (Str.ofString "pair", .ref 70), (Str.ofString "set_pair", .ref 77), (Str.ofString "peek", .ref 84), (Str.ofString "poke", .ref 91), (Str.ofString "peek16", .ref 98), (Str.ofString "poke16", .ref 105), (Str.ofString "fetch", .ref 112), (Str.ofString "fetch16", .ref 119), (Str.ofString "pop", .ref 126), (Str.ofString "port_in", .ref 133), (Str.ofString "port_out", .ref 140), (Str.ofString "parity", .ref 147), (Str.ofString "szyx", .ref 154), (Str.ofString "sub8", .ref 161), (Str.ofString "neg", .ref 168), (Str.ofString "high_flags", .ref 175), (Str.ofString "word_flags", .ref 182), (Str.ofString "adc16", .ref 189), (Str.ofString "sbc16", .ref 196), (Str.ofString "rrd", .ref 203), (Str.ofString "rld", .ref 210), (Str.ofString "load_flags", .ref 217), (Str.ofString "in_flags", .ref 224), (Str.ofString "move_flags", .ref 231), (Str.ofString "seek_flags", .ref 238), (Str.ofString "port_flags", .ref 245), (Str.ofString "port_plans", .ref 256), (Str.ofString "pair_plans", .ref 263), (Str.ofString "plain_plans", .ref 270), (Str.ofString "block_plans", .ref 277), (Str.ofString "ed_plans", .ref 284), (Str.ofString "step_pair", .ref 291), (Str.ofString "step_count", .ref 298), (Str.ofString "move_round", .ref 305), (Str.ofString "seek_round", .ref 312), (Str.ofString "take_round", .ref 319), (Str.ofString "send_round", .ref 326), (Str.ofString "do_block_plan", .ref 333), (Str.ofString "do_port_plan", .ref 340), (Str.ofString "do_pair_plan", .ref 347), (Str.ofString "do_halves_plan", .ref 354), (Str.ofString "do_special_plan", .ref 361), (Str.ofString "do_ed_plan", .ref 368), (Str.ofString "do_ed", .ref 377), (Str.ofString "come_in", .ref 384), (Str.ofString "add_words", .ref 391), (Str.ofString "load_words", .ref 398), (Str.ofString "do_special", .ref 405), (Str.ofString "do_block", .ref 412), (Str.ofString "lead", .ref 419), (Str.ofString "move_one", .ref 426), (Str.ofString "seek_one", .ref 433), (Str.ofString "take_one", .ref 440), (Str.ofString "send_one", .ref 447), (Str.ofString "_law_take", .ref 454), (Str.ofString "_law_box", .ref 459), (Str.ofString "_law_parity", .ref 464), (Str.ofString "_law_told", .ref 471), (Str.ofString "_law_signed", .ref 478), (Str.ofString "_law_pair", .ref 485), (Str.ofString "_law_set", .ref 492), (Str.ofString "_law_word", .ref 499), (Str.ofString "_law_in", .ref 506), (Str.ofString "_law_sum", .ref 513), (Str.ofString "_law_block", .ref 520), (Str.ofString "_law_special", .ref 527), (Str.ofString "_law_due", .ref 534), (Str.ofString "_law_cpu", .ref 541), (Str.ofString "law", .ref 546), (Str.ofString "Cpu", .ref 31), (Str.ofString "Ports", .ref 52), (Str.ofString "MODES", .ref 369), (Str.ofString "STATES_BY_Z", .ref 370), (Str.ofString "ED_ROOMS", .ref 248), (Str.ofString "ED_PAIRS", .ref 249), (Str.ofString "NO_PLAN", .ref 247)]
theorem chk_all (w : World) : (chkL.all fun p => gvOk (nsIn (KK w) mainGlobals p.1) p.2) = true := by kernel_rfl
section
variable {w : World} {h₀ : Heap}
theorem chk_at (w : World) {i : Nat} {x : Str} {v : GV} (e : chkL[i]? = some (x, v)) : gvOk (nsIn (KK w) mainGlobals x) v = true := List.all_eq_true.mp (chk_all w) (x, v) (List.mem_of_getElem? e)
theorem Base.gInt (B : Base w h₀) {x : Str} {i : Int} (j : Nat) (e : chkL[j]? = some (x, .int i)) : GlobIs h₀ x (.int i) := by
  obtain ⟨mg, hg⟩ := B.g
  obtain ⟨t, q⟩ := gvOk_int (chk_at w e)
  exact ⟨mg, _, hg, mg_of B.K hg q, fun _ _ _ => .int _ _⟩
theorem Base.gRef (B : Base w h₀) {x : Str} {a : Addr} (j : Nat) (e : chkL[j]? = some (x, .ref a)) : GlobIs h₀ x (.raw (.ref a)) := by
  obtain ⟨mg, hg⟩ := B.g
  exact ⟨mg, _, hg, mg_of B.K hg (gvOk_ref (chk_at w e)), fun _ _ _ => .raw _⟩
theorem Base.gBlt (B : Base w h₀) {x : Str} {v : Value} (j : Nat) (e : chkL[j]? = some (x, .none)) (hv : bootBuiltins x = some v) (hn : x ≠ "__name__") : BuiltIs h₀ x v := by
  obtain ⟨mg, hg⟩ := B.g
  obtain ⟨mb, hb, hbb⟩ := B.b
  exact ⟨mg, mb, hg, mg_none_of B.K hg (gvOk_none (chk_at w e)), hb, (hbb x hn).trans hv⟩
theorem g_len (B : Base w h₀) : BuiltIs h₀ (Str.ofString "len") (.builtin "len") := B.gBlt 22 rfl (by kernel_rfl) (by decide +kernel)
theorem g_enumerate (B : Base w h₀) : BuiltIs h₀ (Str.ofString "enumerate") (.type "enumerate") := B.gBlt 23 rfl (by kernel_rfl) (by decide +kernel)
theorem g_int (B : Base w h₀) : BuiltIs h₀ (Str.ofString "int") (.type "int") := B.gBlt 24 rfl (by kernel_rfl) (by decide +kernel)
theorem g_abs (B : Base w h₀) : BuiltIs h₀ (Str.ofString "abs") (.builtin "abs") := B.gBlt 25 rfl (by kernel_rfl) (by decide +kernel)
theorem g_range (B : Base w h₀) : BuiltIs h₀ (Str.ofString "range") (.type "range") := B.gBlt 26 rfl (by kernel_rfl) (by decide +kernel)
theorem g_sum (B : Base w h₀) : BuiltIs h₀ (Str.ofString "sum") (.builtin "sum") := B.gBlt 27 rfl (by kernel_rfl) (by decide +kernel)
theorem g_list (B : Base w h₀) : BuiltIs h₀ (Str.ofString "list") (.type "list") := B.gBlt 28 rfl (by kernel_rfl) (by decide +kernel)
theorem IsTuple_keep {h : Heap} {a : Addr} {xs : Array Value} (x : h₀.IsTuple a xs) (k : ∀ b o, h₀.get? b = some o → h.get? b = some o) : h.IsTuple a xs := by
  obtain ⟨o, a, b⟩ := x; exact ⟨o, k _ _ a, b⟩
theorem g_NO_PLAN (B : Base w h₀) : GlobIs h₀ (Str.ofString "NO_PLAN") (.tup [.str 18, .tup [], .int 8]) := by
  obtain ⟨mg, hg⟩ := B.g
  have t0 : h₀.IsTuple 246 ([] : List Value).toArray := ⟨_, B.K 246 (hT []) (by kernel_rfl), rfl, 0, rfl⟩
  have t1 : h₀.IsTuple 247 [Value.str (Str.ofString "NOP") 542, Value.ref 246, Value.int 8 543].toArray := ⟨_, B.K 247 (hT [hS "NOP" 542, .ref 246, .int 8 543]) (by kernel_rfl), rfl, 0, rfl⟩
  exact ⟨mg, .ref 247, hg, mg_of B.K hg (gvOk_ref (chk_at w (i := 105) rfl)), fun h ρ hk => .tup (vals := [Value.str (Str.ofString "NOP") 542, Value.ref 246, Value.int 8 543]) (IsTuple_keep t1 hk) (.cons (.str (k := 18) (by decide) _) (.cons (.tup (vals := []) (IsTuple_keep t0 hk) .nil) (.cons (.int _ _) .nil)))⟩
noncomputable def fnL : List Addr := [63, 70, 77, 84, 91, 98, 105, 112, 119, 126, 133, 140, 147, 154, 161, 168, 175, 182, 189, 196, 203, 210, 217, 224, 231, 238, 245, 256, 263, 270, 277, 284, 291, 298, 305, 312, 319, 326, 333, 340, 347, 354, 361, 368, 377, 384, 391, 398, 405, 412, 419, 426, 433, 440, 447, 454, 459, 464, 471, 478, 485, 492, 499, 506, 513, 520, 527, 534, 541, 546, 31, 52]
theorem keep_all (w : World) : (fnL.all fun a => keepIn (KK w) (.ref a)) = true := by kernel_rfl
theorem Base.keep (B : Base w h₀) {a : Addr} (j : Nat) (e : fnL[j]? = some a) : KeepOk PR w h₀ (.ref a) := keepOk_of B.K (List.all_eq_true.mp (keep_all w) a (List.mem_of_getElem? e))
noncomputable def isOV : Value → Bool
  | .builtin s => s == "object.__setattr__"
  | _ => false
noncomputable def isOSA : Option (Option Value) → Bool
  | some (some v) => isOV v
  | _ => false
theorem isOSA_of {r : Option (Option Value)} (h : isOSA r = true) : r = some (some (.builtin "object.__setattr__")) := by
  rcases r with _ | _ | v
  · exact Bool.noConfusion h
  · exact Bool.noConfusion h
  · cases v <;> first | exact Bool.noConfusion h | exact by rw [eq_of_beq (show (_ == "object.__setattr__") = true from h)]
noncomputable def atOk (K : Frag) (p : Addr × Nat) : Bool := plainGet K p.1 (nm p.2) && (hasDictIn K p.1 && (isSN (findIn K (.ref p.1) (nm p.2)) && (isOSA (findIn K (.ref p.1) "__setattr__") && (plainOver K p.1 && (match takerIn K p.1 (nm p.2) with | some none => true | _ => false)))))
noncomputable def aT : List (Ent (Addr × Nat)) := [⟨408418665129331, Str.ofString "states", (31, 13)⟩, ⟨101739320203111524, Str.ofString "is_held", (31, 12)⟩, ⟨6667588088813938042212, Str.ofString "is_halted", (31, 11)⟩, ⟨6130984037, Str.ofString "mode", (31, 10)⟩, ⟨6063285810, Str.ofString "iff2", (31, 9)⟩, ⟨6063285809, Str.ofString "iff1", (31, 8)⟩, ⟨24274278, Str.ofString "ref", (31, 7)⟩, ⟨361, Str.ofString "i", (31, 6)⟩, ⟨94307, Str.ofString "pc", (31, 5)⟩, ⟨95088, Str.ofString "sp", (31, 4)⟩, ⟨92537, Str.ofString "iy", (31, 3)⟩, ⟨92536, Str.ofString "ix", (31, 2)⟩, ⟨371, Str.ofString "s", (31, 1)⟩, ⟨370, Str.ofString "r", (31, 0)⟩, ⟨6164935795, Str.ofString "outs", (52, 16)⟩, ⟨90484, Str.ofString "at", (52, 15)⟩, ⟨23686771, Str.ofString "ins", (52, 14)⟩]
noncomputable def aOk (K : Frag) (e : Ent (Addr × Nat)) : Bool := atOk K e.e && (Nat.blt e.e.2 nN && Fast.sEq e.x (nm e.e.2))
theorem at_all (w : World) : (aT.all (aOk (KK w))) = true := by kernel_rfl
theorem aT_ok (B : Base w h₀) : ∀ e ∈ aT, AttrG PR w h₀ e.x e.e.1 e.e.2 := fun e he => by
  have z := List.all_eq_true.mp (at_all w) e he
  obtain ⟨z, z8, z9⟩ : _ ∧ _ ∧ _ := by simpa only [aOk, Bool.and_eq_true] using z
  obtain ⟨z1, z2, z3, z4, z5, z6⟩ : _ ∧ _ ∧ _ ∧ _ ∧ _ ∧ _ := by simpa only [atOk, Bool.and_eq_true] using z
  have z7 : takerIn (KK w) e.e.1 (nm e.e.2) = some none := by
    split at z6
    · assumption
    · cases z6
  exact ⟨by rw [Nat.blt_eq] at z8; exact z8, Fast.sEq_iff.mp z9, attrGet_of B.K z1 z2 (isSN_of z3) rfl, attrSet_of B.K (isOSA_of z4) z5 z7 z2⟩
theorem Base.attr (B : Base w h₀) {x : Str} {C : Addr} {k : Nat} (j : Nat) {c : Nat} (e : aT[j]? = some ⟨c, x, (C, k)⟩) : AttrG PR w h₀ x C k := aT_ok B ⟨c, x, (C, k)⟩ (List.mem_of_getElem? e)
noncomputable def sT : List (Ent Nat) := [⟨370, Str.ofString "r", 0⟩, ⟨371, Str.ofString "s", 1⟩, ⟨92536, Str.ofString "ix", 2⟩, ⟨92537, Str.ofString "iy", 3⟩, ⟨95088, Str.ofString "sp", 4⟩, ⟨94307, Str.ofString "pc", 5⟩, ⟨361, Str.ofString "i", 6⟩, ⟨24274278, Str.ofString "ref", 7⟩, ⟨6063285809, Str.ofString "iff1", 8⟩, ⟨6063285810, Str.ofString "iff2", 9⟩, ⟨6130984037, Str.ofString "mode", 10⟩, ⟨6667588088813938042212, Str.ofString "is_halted", 11⟩, ⟨101739320203111524, Str.ofString "is_held", 12⟩, ⟨408418665129331, Str.ofString "states", 13⟩, ⟨23686771, Str.ofString "ins", 14⟩, ⟨90484, Str.ofString "at", 15⟩, ⟨6164935795, Str.ofString "outs", 16⟩, ⟨365, Str.ofString "m", 17⟩, ⟨21909328, Str.ofString "NOP", 18⟩, ⟨84302, Str.ofString "IN", 19⟩, ⟨21976404, Str.ofString "OUT", 20⟩, ⟨22233667, Str.ofString "SBC", 21⟩, ⟨21054531, Str.ofString "ADC", 22⟩, ⟨1457408397893, Str.ofString "STORE", 23⟩, ⟨5575229764, Str.ofString "LOAD", 24⟩, ⟨21906759, Str.ofString "NEG", 25⟩, ⟨5675242569, Str.ofString "RETI", 26⟩, ⟨5675242574, Str.ofString "RETN", 27⟩, ⟨84301, Str.ofString "IM", 28⟩, ⟨5709439049, Str.ofString "TO I", 29⟩, ⟨5709439058, Str.ofString "TO R", 30⟩, ⟨358794308427849, Str.ofString "FROM I", 31⟩, ⟨358794308427858, Str.ofString "FROM R", 32⟩, ⟨22172228, Str.ofString "RRD", 33⟩, ⟨22170692, Str.ofString "RLD", 34⟩, ⟨5592012357, Str.ofString "MOVE", 35⟩, ⟨5692015947, Str.ofString "SEEK", 36⟩, ⟨5708532549, Str.ofString "TAKE", 37⟩, ⟨5692018244, Str.ofString "SEND", 38⟩, ⟨322, Str.ofString "B", 39⟩, ⟨323, Str.ofString "C", 40⟩, ⟨324, Str.ofString "D", 41⟩, ⟨325, Str.ofString "E", 42⟩, ⟨328, Str.ofString "H", 43⟩, ⟨332, Str.ofString "L", 44⟩, ⟨321, Str.ofString "A", 45⟩, ⟨1, Str.ofString "", 46⟩, ⟨82499, Str.ofString "BC", 47⟩, ⟨83013, Str.ofString "DE", 48⟩, ⟨84044, Str.ofString "HL", 49⟩, ⟨86864, Str.ofString "SP", 50⟩]
theorem sT_all : (sT.all fun e => Nat.blt e.e nN && Fast.sEq e.x (nm e.e)) = true := by kernel_rfl
theorem sT_ok : ∀ e ∈ sT, IsNm e.x e.e := fun e he => by
  obtain ⟨a, b⟩ := Bool.and_eq_true_iff.mp (List.all_eq_true.mp sT_all e he)
  exact ⟨by rw [Nat.blt_eq] at a; exact a, Fast.sEq_iff.mp b⟩
theorem tl_MODES (B : Base w h₀) : TabList h₀ 369 [0, 0, 1, 2, 0, 0, 1, 2] := ⟨[.int 0 781, .int 0 782, .int 1 783, .int 2 784, .int 0 785, .int 0 786, .int 1 787, .int 2 788], ⟨_, B.K 369 (hO "list" (.seq ⟨[.int 0 781, .int 0 782, .int 1 783, .int 2 784, .int 0 785, .int 0 786, .int 1 787, .int 2 788]⟩ 0)) (by kernel_rfl), rfl, 0, rfl⟩, .cons _ _ (.cons _ _ (.cons _ _ (.cons _ _ (.cons _ _ (.cons _ _ (.cons _ _ (.cons _ _ (.nil))))))))⟩
theorem tl_STATES_BY_Z (B : Base w h₀) : TabList h₀ 370 [12, 12, 15, 20, 8, 14, 8, 9] := ⟨[.int 12 790, .int 12 791, .int 15 792, .int 20 793, .int 8 794, .int 14 795, .int 8 796, .int 9 797], ⟨_, B.K 370 (hO "list" (.seq ⟨[.int 12 790, .int 12 791, .int 15 792, .int 20 793, .int 8 794, .int 14 795, .int 8 796, .int 9 797]⟩ 0)) (by kernel_rfl), rfl, 0, rfl⟩, .cons _ _ (.cons _ _ (.cons _ _ (.cons _ _ (.cons _ _ (.cons _ _ (.cons _ _ (.cons _ _ (.nil))))))))⟩
theorem iget_mem : ∀ {l : List (Nat × Int)} {x : Nat} {i : Int}, iget x l = some i → (x, i) ∈ l
  | (y, j) :: r, x, i, h => by
    unfold iget at h
    cases e : Nat.beq y x with
    | true => rw [e] at h; cases h; rw [← Nat.eq_of_beq_eq_true e]; exact .head _
    | false => rw [e] at h; exact .tail _ (iget_mem h)
theorem td_of (B : Base w h₀) {a : Addr} {kvs : List (Nat × Int)} {es : Array DictEntry} {n : Nat} (hl : (KK w).lookup a = some ⟨.type "dict", none, .dict es n, #[]⟩) (hk : KeysLit w.params es.toList) (hc : (kvs.all fun p => isI (findBy Value.isStrOf es (nm p.1)) p.2) = true) : TabDict PR w h₀ a kvs := fun x i e => by
  have hm := mapOf_K (prog := PR) B.K hl hk
  obtain ⟨t, z⟩ := isI_of (List.all_eq_true.mp hc (x, i) (iget_mem e))
  exact ⟨_, t, hm, z⟩
theorem td_ED_ROOMS (B : Base w h₀) : TabDict PR w h₀ 248 kv_ED_ROOMS := td_of B (es := ⟨[hE w.params "B" 545 (.int 0 546), hE w.params "C" 547 (.int 1 548), hE w.params "D" 549 (.int 2 550), hE w.params "E" 551 (.int 3 552), hE w.params "H" 553 (.int 4 554), hE w.params "L" 555 (.int 5 556), hE w.params "A" 557 (.int 7 558)]⟩) (n := 7) (by kernel_rfl) ⟨⟨_, _, rfl, rfl⟩, ⟨⟨_, _, rfl, rfl⟩, ⟨⟨_, _, rfl, rfl⟩, ⟨⟨_, _, rfl, rfl⟩, ⟨⟨_, _, rfl, rfl⟩, ⟨⟨_, _, rfl, rfl⟩, ⟨⟨_, _, rfl, rfl⟩, trivial⟩⟩⟩⟩⟩⟩⟩ (by kernel_rfl)
theorem td_ED_PAIRS (B : Base w h₀) : TabDict PR w h₀ 249 kv_ED_PAIRS := td_of B (es := ⟨[hE w.params "BC" 567 (.int 0 568), hE w.params "DE" 569 (.int 1 570), hE w.params "HL" 571 (.int 2 572), hE w.params "SP" 573 (.int 3 574)]⟩) (n := 4) (by kernel_rfl) ⟨⟨_, _, rfl, rfl⟩, ⟨⟨_, _, rfl, rfl⟩, ⟨⟨_, _, rfl, rfl⟩, ⟨⟨_, _, rfl, rfl⟩, trivial⟩⟩⟩⟩ (by kernel_rfl)
noncomputable def gT : List (Ent GE) := [⟨86102, Str.ofString "PV", .val (.int 4)⟩, ⟨339, Str.ofString "S", .val (.int 128)⟩, ⟨88408, Str.ofString "YX", .val (.int 40)⟩, ⟨346, Str.ofString "Z", .val (.int 64)⟩, ⟨328, Str.ofString "H", .val (.int 16)⟩, ⟨334, Str.ofString "N", .val (.int 2)⟩, ⟨323, Str.ofString "C", .val (.int 1)⟩, ⟨345, Str.ofString "Y", .val (.int 32)⟩, ⟨344, Str.ofString "X", .val (.int 8)⟩, ⟨1452861251394, Str.ofString "REG_B", .val (.int 0)⟩, ⟨1452861251398, Str.ofString "REG_F", .val (.int 6)⟩, ⟨1452861251393, Str.ofString "REG_A", .val (.int 7)⟩, ⟨1452861251395, Str.ofString "REG_C", .val (.int 1)⟩, ⟨1452861251404, Str.ofString "REG_L", .val (.int 5)⟩, ⟨408991567594874995682134350, Str.ofString "ROUND_AGAIN", .val (.int 5)⟩, ⟨94099865629969991, Str.ofString "NOTHING", .val (.int 6)⟩, ⟨6882412239691902947995748989357637, Str.ofString "STATES_OF_NONE", .val (.int 8)⟩, ⟨84044, Str.ofString "HL", .val (.int 2)⟩, ⟨29559735487066836277647730151907486991339342, Str.ofString "STATES_OF_GOING_ON", .val (.int 21)⟩, ⟨7567292284689110087077819066389104504188784196, Str.ofString "STATES_OF_ONE_ROUND", .val (.int 16)⟩, ⟨82499, Str.ofString "BC", .val (.int 0)⟩, ⟨83013, Str.ofString "DE", .val (.int 1)⟩, ⟨94099913009021262, Str.ofString "NO_PLAN", .val (.tup [.str 18, .tup [], .int 8])⟩, ⟨23881070, Str.ofString "len", .bfn "len" lenF⟩, ⟨6593447022513235260517, Str.ofString "enumerate", .blt (.type "enumerate")⟩, ⟨23686772, Str.ofString "int", .tfn "int" intF⟩, ⟨23159411, Str.ofString "abs", .bfn "abs" absF⟩, ⟨1590772524901, Str.ofString "range", .blt (.type "range")⟩, ⟨24343917, Str.ofString "sum", .bfn "sum" sumF⟩, ⟨6113817460, Str.ofString "list", .tfn "list" listF⟩, ⟨1431553983827, Str.ofString "MODES", .lst 369 [0, 0, 1, 2, 0, 0, 1, 2]⟩, ⟨410223736744636472723332954, Str.ofString "STATES_BY_Z", .lst 370 [12, 12, 15, 20, 8, 14, 8, 9]⟩, ⟨23437963167865458003, Str.ofString "ED_ROOMS", .dct 248 kv_ED_ROOMS⟩, ⟨23437963159040250451, Str.ofString "ED_PAIRS", .dct 249 kv_ED_PAIRS⟩]
noncomputable def AllG (w : World) (h₀ : Heap) : List (Ent GE) → Prop
  | [] => True
  | e :: r => GOk PR w h₀ e.x e.e ∧ AllG w h₀ r
theorem AllG.mem {l : List (Ent GE)} (h : AllG w h₀ l) : ∀ e ∈ l, GOk PR w h₀ e.x e.e := by
  induction l with
  | nil => exact fun e he => nomatch he
  | cons a r ih =>
    intro e he
    rcases List.mem_cons.mp he with rfl | m
    · exact h.1
    · exact ih h.2 e m
theorem gT_ok (B : Base w h₀) : AllG w h₀ gT := ⟨B.gInt 0 rfl, B.gInt 1 rfl, B.gInt 2 rfl, B.gInt 3 rfl, B.gInt 4 rfl, B.gInt 5 rfl, B.gInt 6 rfl, B.gInt 7 rfl, B.gInt 8 rfl, B.gInt 9 rfl, B.gInt 10 rfl, B.gInt 11 rfl, B.gInt 12 rfl, B.gInt 13 rfl, B.gInt 14 rfl, B.gInt 15 rfl, B.gInt 16 rfl, B.gInt 17 rfl, B.gInt 18 rfl, B.gInt 19 rfl, B.gInt 20 rfl, B.gInt 21 rfl, g_NO_PLAN B, ⟨g_len B, fun _ => WF.len⟩, g_enumerate B, ⟨g_int B, fun _ => WF.int⟩, ⟨g_abs B, fun _ => WF.abs⟩, g_range B, ⟨g_sum B, fun _ => WF.sum⟩, ⟨g_list B, fun _ => WF.list⟩, ⟨B.gRef 101 rfl, tl_MODES B⟩, ⟨B.gRef 102 rfl, tl_STATES_BY_Z B⟩, ⟨B.gRef 103 rfl, td_ED_ROOMS B⟩, ⟨B.gRef 104 rfl, td_ED_PAIRS B⟩, trivial⟩
noncomputable def bodyOf : Stmt → List Stmt
  | .FunctionDef _ _ b _ _ _ _ _ _ _ => b
  | _ => []
noncomputable def argOf : Stmt → Arguments
  | .FunctionDef _ a _ _ _ _ _ _ _ _ => a
  | _ => ⟨[], [], none, [], [], none, []⟩
noncomputable def scOf : Stmt → Scope
  | .FunctionDef _ _ _ _ _ _ s _ _ _ => s
  | _ => pw.main.scope
noncomputable def nmOf : Stmt → Str
  | .FunctionDef n _ _ _ _ _ _ _ _ _ => n
  | _ => Str.ofString ""
noncomputable def fData (st : Stmt) (q : Str) (m : Value) (c : Addr) : FuncData := { name := nmOf st, qualname := q, params := argOf st, body := .stmts (bodyOf st), scope := scOf st, globals := 3, closure := [], defaults := .none, kwdefaults := .none, pyModule := m, code := .ref c }
noncomputable def pars (st : Stmt) : List Str := (argOf st).args.map fun a => a.arg
noncomputable def fChk (st : Stmt) : Bool := ((scOf st).names.all fun x => x.2 != NameKind.cell && x.2 != NameKind.free) && nodupB (enc "__debug__" :: (scOf st).names.map fun p => enc p.1)
noncomputable def mkT (st : Stmt) (n : Nat) (lx : Bool) (l c : List (Ent GE)) : Tabs := ⟨gT, aT, sT, l, c, lx, n, (scOf st).names⟩
theorem mkT_ok (B : Base w h₀) {st : Stmt} {n : Nat} {lx : Bool} {l c : List (Ent GE)} (hl : AllG w h₀ l) (hc : AllG w h₀ c) : TOk PR w h₀ (mkT st n lx l c) := ⟨(gT_ok B).mem, hl.mem, hc.mem, aT_ok B, sT_ok⟩
theorem mkS (B : Base w h₀) (st : Stmt) (q : Str) (m : Value) (a c : Addr) (n np ns : Nat) (lx : Bool) (l ch : List (Ent GE)) (hl : AllG w h₀ l) (hch : AllG w h₀ ch) {ps : PS}
    (hK : (KK w).lookup a = some (hO "function" (.func (fData st q m c)))) (hcd : codeIn (KK w) (.ref c) q = true) (hb : ∀ vals : List Value, vals.length = np → bindArgs (fData st q m c) ⟨vals, []⟩ = pure ((pars st).zip vals))
    (hch' : fChk st = true) (hp : (scOf st).names.take (pars st).length = (pars st).map fun x => (x, NameKind.local)) (h1 : (pars st).length = np) (h2 : (scOf st).names.length = ns) (hle : Nat.ble np ns = true)
    (hco : (scOf st).isCoroutine = false) (hgen : (scOf st).isGenerator = false) (hk : (scOf st).kind = .function) (hcomp : comp (mkT st n lx l ch) (bodyOf st) = some ps) : SFc PR w h₀ (n + 1) (.ref a) (boxF (defN np ns ps)) := by
  obtain ⟨f1, f2⟩ := Bool.and_eq_true_iff.mp hch'
  exact SFc.boxN (params := pars st) (slots := (scOf st).names) (WFc.ofDef (names := (scOf st).names) _ (B.K a _ hK) rfl B.lim (codeRec_of B.K hcd) rfl rfl rfl rfl (by rw [h1]; exact hb) f1 hp rfl f2 hco hgen hk fun env F => comp_i (T := mkT st n lx l ch) F (mkT_ok B hl hch) hcomp) h1 h2 hle
theorem mkE (B : Base w h₀) {x : Str} {a : Addr} {lv : Nat} {sem : PF} (j i : Nat) (hj : chkL[j]? = some (x, .ref a)) (hi : fnL[i]? = some a) (h : WF PR w h₀ lv (.ref a) sem) : GOk PR w h₀ x (.fn a lv sem) := ⟨B.gRef j hj, B.keep i hi, h⟩
theorem ar0 {P : List Value → Prop} (h : P []) : ∀ vals : List Value, vals.length = 0 → P vals := fun vals e => by
  cases vals with
  | nil => exact h
  | cons => cases e
theorem arS {P : List Value → Prop} {n : Nat} (h : ∀ a, ∀ vals : List Value, vals.length = n → P (a :: vals)) : ∀ vals : List Value, vals.length = n + 1 → P vals := fun vals e => by
  cases vals with
  | nil => cases e
  | cons a r => exact h a r (Nat.succ.inj e)
end
section
variable {w : World} {h₀ : Heap}
theorem sk_Cpu_init (B : Base w h₀) : SFc PR w h₀ 1 (.ref 28) fn_Cpu_init := by
  unfold fn_Cpu_init
  exact mkS B (hM 6) (Str.ofString "Cpu.__init__") mA 28 27 0 1 1 true [] [] trivial trivial (by kernel_rfl) (by kernel_rfl) (arS fun _ => ar0 (by kernel_rfl)) (by kernel_rfl) (by kernel_rfl) (by kernel_rfl) (by kernel_rfl) rfl (by kernel_rfl) (by kernel_rfl) (by kernel_rfl) (by kernel_rfl)
theorem sw_Cpu (B : Base w h₀) : WF PR w h₀ 2 (.ref 31) nw_Cpu := ⟨by unfold nw_Cpu; exact (SFv.new B.K (by kernel_rfl) (fI := 28) (by kernel_rfl) (by kernel_rfl) (sk_Cpu_init B)).box⟩
noncomputable def e_Cpu : Ent GE := ⟨21196917, Str.ofString "Cpu", .fn 31 2 nw_Cpu⟩
theorem t_Cpu (B : Base w h₀) : GOk PR w h₀ (Str.ofString "Cpu") (.fn 31 2 nw_Cpu) := mkE B 99 70 rfl rfl (sw_Cpu B)
theorem sk_Ports_init (B : Base w h₀) : SFc PR w h₀ 1 (.ref 49) fn_Ports_init := by
  unfold fn_Ports_init
  exact mkS B (hM 7) (Str.ofString "Ports.__init__") mA 49 48 0 2 2 false [] [] trivial trivial (by kernel_rfl) (by kernel_rfl) (arS fun _ => arS fun _ => ar0 (by kernel_rfl)) (by kernel_rfl) (by kernel_rfl) (by kernel_rfl) (by kernel_rfl) rfl (by kernel_rfl) (by kernel_rfl) (by kernel_rfl) (by kernel_rfl)
theorem sw_Ports (B : Base w h₀) : WF PR w h₀ 2 (.ref 52) nw_Ports := ⟨by unfold nw_Ports; exact (SFv.new B.K (by kernel_rfl) (fI := 49) (by kernel_rfl) (by kernel_rfl) (sk_Ports_init B)).box⟩
noncomputable def e_Ports : Ent GE := ⟨1444978783347, Str.ofString "Ports", .fn 52 2 nw_Ports⟩
theorem t_Ports (B : Base w h₀) : GOk PR w h₀ (Str.ofString "Ports") (.fn 52 2 nw_Ports) := mkE B 100 71 rfl rfl (sw_Ports B)
theorem sk_cpu_row (B : Base w h₀) : SFc PR w h₀ 1 (.ref 63) fn_cpu_row := by
  unfold fn_cpu_row
  exact mkS B (hSt 8) (Str.ofString "cpu_row") mA 63 62 0 1 2 true [] [] trivial trivial (by kernel_rfl) (by kernel_rfl) (arS fun _ => ar0 (by kernel_rfl)) (by kernel_rfl) (by kernel_rfl) (by kernel_rfl) (by kernel_rfl) rfl (by kernel_rfl) (by kernel_rfl) (by kernel_rfl) (by kernel_rfl)
noncomputable def e_cpu_row : Ent GE := ⟨100047266147102583, Str.ofString "cpu_row", .fn 63 1 fn_cpu_row⟩
theorem t_cpu_row (B : Base w h₀) : GOk PR w h₀ (Str.ofString "cpu_row") (.fn 63 1 fn_cpu_row) := mkE B 29 0 rfl rfl ⟨(sk_cpu_row B).v⟩
theorem sk_pair (B : Base w h₀) : SFc PR w h₀ 1 (.ref 70) fn_pair := by
  unfold fn_pair
  exact mkS B (hSt 9) (Str.ofString "pair") mA 70 69 0 2 2 false [] [] trivial trivial (by kernel_rfl) (by kernel_rfl) (arS fun _ => arS fun _ => ar0 (by kernel_rfl)) (by kernel_rfl) (by kernel_rfl) (by kernel_rfl) (by kernel_rfl) rfl (by kernel_rfl) (by kernel_rfl) (by kernel_rfl) (by kernel_rfl)
noncomputable def e_pair : Ent GE := ⟨6180399474, Str.ofString "pair", .fn 70 1 fn_pair⟩
theorem t_pair (B : Base w h₀) : GOk PR w h₀ (Str.ofString "pair") (.fn 70 1 fn_pair) := mkE B 30 1 rfl rfl ⟨(sk_pair B).v⟩
theorem sk_set_pair (B : Base w h₀) : SFc PR w h₀ 1 (.ref 77) fn_set_pair := by
  unfold fn_set_pair
  exact mkS B (hSt 10) (Str.ofString "set_pair") mA 77 76 0 3 3 false [] [] trivial trivial (by kernel_rfl) (by kernel_rfl) (arS fun _ => arS fun _ => arS fun _ => ar0 (by kernel_rfl)) (by kernel_rfl) (by kernel_rfl) (by kernel_rfl) (by kernel_rfl) rfl (by kernel_rfl) (by kernel_rfl) (by kernel_rfl) (by kernel_rfl)
noncomputable def e_set_pair : Ent GE := ⟨26761924313975187826, Str.ofString "set_pair", .fn 77 1 fn_set_pair⟩
theorem t_set_pair (B : Base w h₀) : GOk PR w h₀ (Str.ofString "set_pair") (.fn 77 1 fn_set_pair) := mkE B 31 2 rfl rfl ⟨(sk_set_pair B).v⟩
theorem sk_peek (B : Base w h₀) : SFc PR w h₀ 1 (.ref 84) fn_peek := by
  unfold fn_peek
  exact mkS B (hSt 11) (Str.ofString "peek") mA 84 83 0 2 3 false [] [] trivial trivial (by kernel_rfl) (by kernel_rfl) (arS fun _ => arS fun _ => ar0 (by kernel_rfl)) (by kernel_rfl) (by kernel_rfl) (by kernel_rfl) (by kernel_rfl) rfl (by kernel_rfl) (by kernel_rfl) (by kernel_rfl) (by kernel_rfl)
noncomputable def e_peek : Ent GE := ⟨6180660587, Str.ofString "peek", .fn 84 1 fn_peek⟩
theorem t_peek (B : Base w h₀) : GOk PR w h₀ (Str.ofString "peek") (.fn 84 1 fn_peek) := mkE B 32 3 rfl rfl ⟨(sk_peek B).v⟩
theorem sk_poke (B : Base w h₀) : SFc PR w h₀ 1 (.ref 91) fn_poke := by
  unfold fn_poke
  exact mkS B (hSt 12) (Str.ofString "poke") mA 91 90 0 3 4 false [] [] trivial trivial (by kernel_rfl) (by kernel_rfl) (arS fun _ => arS fun _ => arS fun _ => ar0 (by kernel_rfl)) (by kernel_rfl) (by kernel_rfl) (by kernel_rfl) (by kernel_rfl) rfl (by kernel_rfl) (by kernel_rfl) (by kernel_rfl) (by kernel_rfl)
noncomputable def e_poke : Ent GE := ⟨6181317477, Str.ofString "poke", .fn 91 1 fn_poke⟩
theorem t_poke (B : Base w h₀) : GOk PR w h₀ (Str.ofString "poke") (.fn 91 1 fn_poke) := mkE B 33 4 rfl rfl ⟨(sk_poke B).v⟩
theorem sk_port_in (B : Base w h₀) : SFc PR w h₀ 1 (.ref 133) fn_port_in := by
  unfold fn_port_in
  exact mkS B (hSt 18) (Str.ofString "port_in") mA 133 132 0 2 4 false [] [] trivial trivial (by kernel_rfl) (by kernel_rfl) (arS fun _ => arS fun _ => ar0 (by kernel_rfl)) (by kernel_rfl) (by kernel_rfl) (by kernel_rfl) (by kernel_rfl) rfl (by kernel_rfl) (by kernel_rfl) (by kernel_rfl) (by kernel_rfl)
noncomputable def e_port_in : Ent GE := ⟨103705328798886254, Str.ofString "port_in", .fn 133 1 fn_port_in⟩
theorem t_port_in (B : Base w h₀) : GOk PR w h₀ (Str.ofString "port_in") (.fn 133 1 fn_port_in) := mkE B 39 10 rfl rfl ⟨(sk_port_in B).v⟩
theorem sk_port_out (B : Base w h₀) : SFc PR w h₀ 1 (.ref 140) fn_port_out := by
  unfold fn_port_out
  exact mkS B (hSt 19) (Str.ofString "port_out") mA 140 139 0 3 3 false [] [] trivial trivial (by kernel_rfl) (by kernel_rfl) (arS fun _ => arS fun _ => arS fun _ => ar0 (by kernel_rfl)) (by kernel_rfl) (by kernel_rfl) (by kernel_rfl) (by kernel_rfl) rfl (by kernel_rfl) (by kernel_rfl) (by kernel_rfl) (by kernel_rfl)
noncomputable def e_port_out : Ent GE := ⟨26548564172515276148, Str.ofString "port_out", .fn 140 1 fn_port_out⟩
theorem t_port_out (B : Base w h₀) : GOk PR w h₀ (Str.ofString "port_out") (.fn 140 1 fn_port_out) := mkE B 40 11 rfl rfl ⟨(sk_port_out B).v⟩
theorem sk_parity (B : Base w h₀) : SFc PR w h₀ 1 (.ref 147) fn_parity := by
  unfold fn_parity
  exact mkS B (hSt 30) (Str.ofString "parity") mB 147 146 0 1 2 false [] [] trivial trivial (by kernel_rfl) (by kernel_rfl) (arS fun _ => ar0 (by kernel_rfl)) (by kernel_rfl) (by kernel_rfl) (by kernel_rfl) (by kernel_rfl) rfl (by kernel_rfl) (by kernel_rfl) (by kernel_rfl) (by kernel_rfl)
noncomputable def e_parity : Ent GE := ⟨405038810363001, Str.ofString "parity", .fn 147 1 fn_parity⟩
theorem t_parity (B : Base w h₀) : GOk PR w h₀ (Str.ofString "parity") (.fn 147 1 fn_parity) := mkE B 41 12 rfl rfl ⟨(sk_parity B).v⟩
theorem sk_szyx (B : Base w h₀) : SFc PR w h₀ 1 (.ref 154) fn_szyx := by
  unfold fn_szyx
  exact mkS B (hSt 31) (Str.ofString "szyx") mB 154 153 0 1 4 false [] [] trivial trivial (by kernel_rfl) (by kernel_rfl) (arS fun _ => ar0 (by kernel_rfl)) (by kernel_rfl) (by kernel_rfl) (by kernel_rfl) (by kernel_rfl) rfl (by kernel_rfl) (by kernel_rfl) (by kernel_rfl) (by kernel_rfl)
noncomputable def e_szyx : Ent GE := ⟨6232373624, Str.ofString "szyx", .fn 154 1 fn_szyx⟩
theorem t_szyx (B : Base w h₀) : GOk PR w h₀ (Str.ofString "szyx") (.fn 154 1 fn_szyx) := mkE B 42 13 rfl rfl ⟨(sk_szyx B).v⟩
theorem sk_high_flags (B : Base w h₀) : SFc PR w h₀ 1 (.ref 175) fn_high_flags := by
  unfold fn_high_flags
  exact mkS B (hSt 34) (Str.ofString "high_flags") mB 175 174 0 3 5 false [] [] trivial trivial (by kernel_rfl) (by kernel_rfl) (arS fun _ => arS fun _ => arS fun _ => ar0 (by kernel_rfl)) (by kernel_rfl) (by kernel_rfl) (by kernel_rfl) (by kernel_rfl) rfl (by kernel_rfl) (by kernel_rfl) (by kernel_rfl) (by kernel_rfl)
noncomputable def e_high_flags : Ent GE := ⟨1701996293271288773961587, Str.ofString "high_flags", .fn 175 1 fn_high_flags⟩
theorem t_high_flags (B : Base w h₀) : GOk PR w h₀ (Str.ofString "high_flags") (.fn 175 1 fn_high_flags) := mkE B 45 16 rfl rfl ⟨(sk_high_flags B).v⟩
theorem sk_word_flags (B : Base w h₀) : SFc PR w h₀ 1 (.ref 182) fn_word_flags := by
  unfold fn_word_flags
  exact mkS B (hSt 35) (Str.ofString "word_flags") mB 182 181 0 1 3 false [] [] trivial trivial (by kernel_rfl) (by kernel_rfl) (arS fun _ => ar0 (by kernel_rfl)) (by kernel_rfl) (by kernel_rfl) (by kernel_rfl) (by kernel_rfl) rfl (by kernel_rfl) (by kernel_rfl) (by kernel_rfl) (by kernel_rfl)
noncomputable def e_word_flags : Ent GE := ⟨1772943262486410219841395, Str.ofString "word_flags", .fn 182 1 fn_word_flags⟩
theorem t_word_flags (B : Base w h₀) : GOk PR w h₀ (Str.ofString "word_flags") (.fn 182 1 fn_word_flags) := mkE B 46 17 rfl rfl ⟨(sk_word_flags B).v⟩
theorem sk_move_flags (B : Base w h₀) : SFc PR w h₀ 1 (.ref 231) fn_move_flags := by
  unfold fn_move_flags
  exact mkS B (hSt 42) (Str.ofString "move_flags") mB 231 230 0 4 11 false [] [] trivial trivial (by kernel_rfl) (by kernel_rfl) (arS fun _ => arS fun _ => arS fun _ => arS fun _ => ar0 (by kernel_rfl)) (by kernel_rfl) (by kernel_rfl) (by kernel_rfl) (by kernel_rfl) rfl (by kernel_rfl) (by kernel_rfl) (by kernel_rfl) (by kernel_rfl)
noncomputable def e_move_flags : Ent GE := ⟨1725719886169564896126835, Str.ofString "move_flags", .fn 231 1 fn_move_flags⟩
theorem t_move_flags (B : Base w h₀) : GOk PR w h₀ (Str.ofString "move_flags") (.fn 231 1 fn_move_flags) := mkE B 53 24 rfl rfl ⟨(sk_move_flags B).v⟩
theorem sk_port_plans (B : Base w h₀) : SFc PR w h₀ 1 (.ref 256) fn_port_plans := by
  unfold fn_port_plans
  exact mkS B (hSt 50) (Str.ofString "port_plans") mC 256 255 0 1 4 false [] [] trivial trivial (by kernel_rfl) (by kernel_rfl) (arS fun _ => ar0 (by kernel_rfl)) (by kernel_rfl) (by kernel_rfl) (by kernel_rfl) (by kernel_rfl) rfl (by kernel_rfl) (by kernel_rfl) (by kernel_rfl) (by kernel_rfl)
noncomputable def e_port_plans : Ent GE := ⟨1739886701609965280390771, Str.ofString "port_plans", .fn 256 1 fn_port_plans⟩
theorem t_port_plans (B : Base w h₀) : GOk PR w h₀ (Str.ofString "port_plans") (.fn 256 1 fn_port_plans) := mkE B 56 27 rfl rfl ⟨(sk_port_plans B).v⟩
theorem sk_pair_plans (B : Base w h₀) : SFc PR w h₀ 1 (.ref 263) fn_pair_plans := by
  unfold fn_pair_plans
  exact mkS B (hSt 51) (Str.ofString "pair_plans") mC 263 262 0 1 4 false [] [] trivial trivial (by kernel_rfl) (by kernel_rfl) (arS fun _ => ar0 (by kernel_rfl)) (by kernel_rfl) (by kernel_rfl) (by kernel_rfl) (by kernel_rfl) rfl (by kernel_rfl) (by kernel_rfl) (by kernel_rfl) (by kernel_rfl)
noncomputable def e_pair_plans : Ent GE := ⟨1739627798111637051895411, Str.ofString "pair_plans", .fn 263 1 fn_pair_plans⟩
theorem t_pair_plans (B : Base w h₀) : GOk PR w h₀ (Str.ofString "pair_plans") (.fn 263 1 fn_pair_plans) := mkE B 57 28 rfl rfl ⟨(sk_pair_plans B).v⟩
theorem sk_plain_plans (B : Base w h₀) : SFc PR w h₀ 1 (.ref 270) fn_plain_plans := by
  unfold fn_plain_plans
  exact mkS B (hSt 52) (Str.ofString "plain_plans") mC 270 269 0 1 5 false [] [] trivial trivial (by kernel_rfl) (by kernel_rfl) (arS fun _ => ar0 (by kernel_rfl)) (by kernel_rfl) (by kernel_rfl) (by kernel_rfl) (by kernel_rfl) rfl (by kernel_rfl) (by kernel_rfl) (by kernel_rfl) (by kernel_rfl)
noncomputable def e_plain_plans : Ent GE := ⟨445396514129623165681364595, Str.ofString "plain_plans", .fn 270 1 fn_plain_plans⟩
theorem t_plain_plans (B : Base w h₀) : GOk PR w h₀ (Str.ofString "plain_plans") (.fn 270 1 fn_plain_plans) := mkE B 58 29 rfl rfl ⟨(sk_plain_plans B).v⟩
theorem sk_block_plans (B : Base w h₀) : SFc PR w h₀ 1 (.ref 277) fn_block_plans := by
  unfold fn_block_plans
  exact mkS B (hSt 53) (Str.ofString "block_plans") mC 277 276 0 1 7 false [] [] trivial trivial (by kernel_rfl) (by kernel_rfl) (arS fun _ => ar0 (by kernel_rfl)) (by kernel_rfl) (by kernel_rfl) (by kernel_rfl) (by kernel_rfl) rfl (by kernel_rfl) (by kernel_rfl) (by kernel_rfl) (by kernel_rfl)
noncomputable def e_block_plans : Ent GE := ⟨428471810476245400011501171, Str.ofString "block_plans", .fn 277 1 fn_block_plans⟩
theorem t_block_plans (B : Base w h₀) : GOk PR w h₀ (Str.ofString "block_plans") (.fn 277 1 fn_block_plans) := mkE B 59 30 rfl rfl ⟨(sk_block_plans B).v⟩
theorem sk_step_count (B : Base w h₀) : SFc PR w h₀ 1 (.ref 298) fn_step_count := by
  unfold fn_step_count
  exact mkS B (hSt 56) (Str.ofString "step_count") mC 298 297 0 1 2 false [] [] trivial trivial (by kernel_rfl) (by kernel_rfl) (arS fun _ => ar0 (by kernel_rfl)) (by kernel_rfl) (by kernel_rfl) (by kernel_rfl) (by kernel_rfl) rfl (by kernel_rfl) (by kernel_rfl) (by kernel_rfl) (by kernel_rfl)
noncomputable def e_step_count : Ent GE := ⟨1754145096904264580951668, Str.ofString "step_count", .fn 298 1 fn_step_count⟩
theorem t_step_count (B : Base w h₀) : GOk PR w h₀ (Str.ofString "step_count") (.fn 298 1 fn_step_count) := mkE B 62 33 rfl rfl ⟨(sk_step_count B).v⟩
theorem sk__law_take (B : Base w h₀) : SFc PR w h₀ 1 (.ref 454) fn__law_take := by
  unfold fn__law_take
  exact mkS B (hSt 89) (Str.ofString "_law_take") mE 454 453 0 2 3 false [] [] trivial trivial (by kernel_rfl) (by kernel_rfl) (arS fun _ => arS fun _ => ar0 (by kernel_rfl)) (by kernel_rfl) (by kernel_rfl) (by kernel_rfl) (by kernel_rfl) rfl (by kernel_rfl) (by kernel_rfl) (by kernel_rfl) (by kernel_rfl)
noncomputable def e__law_take : Ent GE := ⟨6482616824352747907941, Str.ofString "_law_take", .fn 454 1 fn__law_take⟩
theorem t__law_take (B : Base w h₀) : GOk PR w h₀ (Str.ofString "_law_take") (.fn 454 1 fn__law_take) := mkE B 84 55 rfl rfl ⟨(sk__law_take B).v⟩
theorem sk__law_parity {w : World} {h₀ : Heap} (B : Base w h₀) : SFc PR w h₀ 1 (.ref 464) fn__law_parity := by
  unfold fn__law_parity
  refine SFc.boxN (params := [Str.ofString "v"]) (slots := nl__law_parity) ?_ rfl rfl rfl
  exact WFc.ofDef1C (body := bodyOf (hSt 91)) (names := [(Str.ofString "sum", .globalImplicit), (Str.ofString "range", .globalImplicit)]) (g := ps__law_parity) [374, 24343917, 1590772524901] (B.K 464 (hO "function" (.func (fData (hSt 91) (Str.ofString "_law_parity") mE 463))) (by kernel_rfl)) rfl B.lim (codeRec_of B.K (by kernel_rfl)) (by kernel_rfl) (by kernel_rfl) (by kernel_rfl) (by kernel_rfl) (by kernel_rfl) (fun v => by kernel_rfl) (by kernel_rfl) (by kernel_rfl) (by kernel_rfl) (by kernel_rfl) (by kernel_rfl) (by kernel_rfl) fun env c F hc => by
    (conv => arg 7; whnf)
    exact (WS.cons (WX.ret (WE.ifInt (WT.cmp (WE.bin (WE.callB (WE.blt F (g_sum B) (.tail .head)) WF.sum (WL.cons (WE.compC (inames := [(Str.ofString ".0", .local), (Str.ofString "at", .local), (Str.ofString "v", .free)]) [77360, 90484, 374] F .head hc rfl (WI.range 8 (by decide) (WE.blt F (g_range B) (.tail (.tail .head))) (WE.int _ _ _) rfl) (clos3 rfl rfl rfl hc) rfl (by rfl) (freeOne_of (by kernel_rfl)) (by kernel_rfl) (by kernel_rfl) (fun ienv FI => (WJ.name FI (.tail .head))) (fun ienv FI => (WE.bin (WE.bin (WE.free FI (.tail (.tail .head))) (WE.loc FI (.tail .head))) (WE.int _ _ _))) rfl) WL.nil rfl)) (WE.int _ _ _)) (WE.int _ _ _) rfl) (WE.int _ _ _) (WE.int _ _ _) (.v _) (.v _)))
      WS.nil)
theorem sf__law_parity {w : World} {h₀ : Heap} (B : Base w h₀) : WF PR w h₀ 1 (.ref 464) fn__law_parity := ⟨(sk__law_parity B).v⟩
noncomputable def e__law_parity : Ent GE := ⟨424844776200777288966042745, Str.ofString "_law_parity", .fn 464 1 (truncF fn__law_parity)⟩
theorem t__law_parity (B : Base w h₀) : GOk PR w h₀ (Str.ofString "_law_parity") (.fn 464 1 (truncF fn__law_parity)) := mkE B 86 57 rfl rfl (WF.trunc (sf__law_parity B))
theorem sk__law_told (B : Base w h₀) : SFc PR w h₀ 1 (.ref 471) fn__law_told := by
  unfold fn__law_told
  exact mkS B (hSt 92) (Str.ofString "_law_told") mE 471 470 0 1 1 false [] [] trivial trivial (by kernel_rfl) (by kernel_rfl) (arS fun _ => ar0 (by kernel_rfl)) (by kernel_rfl) (by kernel_rfl) (by kernel_rfl) (by kernel_rfl) rfl (by kernel_rfl) (by kernel_rfl) (by kernel_rfl) (by kernel_rfl)
noncomputable def e__law_told : Ent GE := ⟨6482616824352748825700, Str.ofString "_law_told", .fn 471 1 fn__law_told⟩
theorem t__law_told (B : Base w h₀) : GOk PR w h₀ (Str.ofString "_law_told") (.fn 471 1 fn__law_told) := mkE B 87 58 rfl rfl ⟨(sk__law_told B).v⟩
theorem sk__law_signed (B : Base w h₀) : SFc PR w h₀ 1 (.ref 478) fn__law_signed := by
  unfold fn__law_signed
  exact mkS B (hSt 93) (Str.ofString "_law_signed") mE 478 477 0 1 1 false [] [] trivial trivial (by kernel_rfl) (by kernel_rfl) (arS fun _ => ar0 (by kernel_rfl)) (by kernel_rfl) (by kernel_rfl) (by kernel_rfl) (by kernel_rfl) rfl (by kernel_rfl) (by kernel_rfl) (by kernel_rfl) (by kernel_rfl)
noncomputable def e__law_signed : Ent GE := ⟨424844776200780621676438884, Str.ofString "_law_signed", .fn 478 1 fn__law_signed⟩
theorem t__law_signed (B : Base w h₀) : GOk PR w h₀ (Str.ofString "_law_signed") (.fn 478 1 fn__law_signed) := mkE B 88 59 rfl rfl ⟨(sk__law_signed B).v⟩
theorem sk__law_pair (B : Base w h₀) : SFc PR w h₀ 1 (.ref 485) fn__law_pair := by
  unfold fn__law_pair
  exact mkS B (hSt 94) (Str.ofString "_law_pair") mE 485 484 0 2 2 false [] [] trivial trivial (by kernel_rfl) (by kernel_rfl) (arS fun _ => arS fun _ => ar0 (by kernel_rfl)) (by kernel_rfl) (by kernel_rfl) (by kernel_rfl) (by kernel_rfl) rfl (by kernel_rfl) (by kernel_rfl) (by kernel_rfl) (by kernel_rfl)
noncomputable def e__law_pair : Ent GE := ⟨6482616824352680798578, Str.ofString "_law_pair", .fn 485 1 fn__law_pair⟩
theorem t__law_pair (B : Base w h₀) : GOk PR w h₀ (Str.ofString "_law_pair") (.fn 485 1 fn__law_pair) := mkE B 89 60 rfl rfl ⟨(sk__law_pair B).v⟩
theorem sk__law_set (B : Base w h₀) : SFc PR w h₀ 1 (.ref 492) fn__law_set := by
  unfold fn__law_set
  exact mkS B (hSt 95) (Str.ofString "_law_set") mE 492 491 0 3 3 false [] [] trivial trivial (by kernel_rfl) (by kernel_rfl) (arS fun _ => arS fun _ => arS fun _ => ar0 (by kernel_rfl)) (by kernel_rfl) (by kernel_rfl) (by kernel_rfl) (by kernel_rfl) rfl (by kernel_rfl) (by kernel_rfl) (by kernel_rfl) (by kernel_rfl)
noncomputable def e__law_set : Ent GE := ⟨25322721970127857012, Str.ofString "_law_set", .fn 492 1 fn__law_set⟩
theorem t__law_set (B : Base w h₀) : GOk PR w h₀ (Str.ofString "_law_set") (.fn 492 1 fn__law_set) := mkE B 90 61 rfl rfl ⟨(sk__law_set B).v⟩
theorem sk__law_word (B : Base w h₀) : SFc PR w h₀ 1 (.ref 499) fn__law_word := by
  unfold fn__law_word
  exact mkS B (hSt 96) (Str.ofString "_law_word") mE 499 498 0 2 2 false [] [] trivial trivial (by kernel_rfl) (by kernel_rfl) (arS fun _ => arS fun _ => ar0 (by kernel_rfl)) (by kernel_rfl) (by kernel_rfl) (by kernel_rfl) (by kernel_rfl) rfl (by kernel_rfl) (by kernel_rfl) (by kernel_rfl) (by kernel_rfl)
noncomputable def e__law_word : Ent GE := ⟨6482616824352799158884, Str.ofString "_law_word", .fn 499 1 fn__law_word⟩
theorem t__law_word (B : Base w h₀) : GOk PR w h₀ (Str.ofString "_law_word") (.fn 499 1 fn__law_word) := mkE B 91 62 rfl rfl ⟨(sk__law_word B).v⟩
theorem sk__law_in (B : Base w h₀) : SFc PR w h₀ 1 (.ref 506) fn__law_in := by
  unfold fn__law_in
  exact mkS B (hSt 97) (Str.ofString "_law_in") mE 506 505 0 1 2 false [] [] trivial trivial (by kernel_rfl) (by kernel_rfl) (arS fun _ => ar0 (by kernel_rfl)) (by kernel_rfl) (by kernel_rfl) (by kernel_rfl) (by kernel_rfl) rfl (by kernel_rfl) (by kernel_rfl) (by kernel_rfl) (by kernel_rfl)
noncomputable def e__law_in : Ent GE := ⟨98916882695809390, Str.ofString "_law_in", .fn 506 1 fn__law_in⟩
theorem t__law_in (B : Base w h₀) : GOk PR w h₀ (Str.ofString "_law_in") (.fn 506 1 fn__law_in) := mkE B 92 63 rfl rfl ⟨(sk__law_in B).v⟩
theorem sk_peek16 (B : Base w h₀) : SFc PR w h₀ 2 (.ref 98) fn_peek16 := by
  unfold fn_peek16
  exact mkS B (hSt 13) (Str.ofString "peek16") mA 98 97 1 2 3 false [e_peek] [] ⟨t_peek B, trivial⟩ trivial (by kernel_rfl) (by kernel_rfl) (arS fun _ => arS fun _ => ar0 (by kernel_rfl)) (by kernel_rfl) (by kernel_rfl) (by kernel_rfl) (by kernel_rfl) rfl (by kernel_rfl) (by kernel_rfl) (by kernel_rfl) (by kernel_rfl)
noncomputable def e_peek16 : Ent GE := ⟨405055772242230, Str.ofString "peek16", .fn 98 2 fn_peek16⟩
theorem t_peek16 (B : Base w h₀) : GOk PR w h₀ (Str.ofString "peek16") (.fn 98 2 fn_peek16) := mkE B 34 5 rfl rfl ⟨(sk_peek16 B).v⟩
theorem sk_poke16 (B : Base w h₀) : SFc PR w h₀ 2 (.ref 105) fn_poke16 := by
  unfold fn_poke16
  exact mkS B (hSt 14) (Str.ofString "poke16") mA 105 104 1 3 4 false [e_poke] [] ⟨t_poke B, trivial⟩ trivial (by kernel_rfl) (by kernel_rfl) (arS fun _ => arS fun _ => arS fun _ => ar0 (by kernel_rfl)) (by kernel_rfl) (by kernel_rfl) (by kernel_rfl) (by kernel_rfl) rfl (by kernel_rfl) (by kernel_rfl) (by kernel_rfl) (by kernel_rfl)
noncomputable def e_poke16 : Ent GE := ⟨405098822185270, Str.ofString "poke16", .fn 105 2 fn_poke16⟩
theorem t_poke16 (B : Base w h₀) : GOk PR w h₀ (Str.ofString "poke16") (.fn 105 2 fn_poke16) := mkE B 35 6 rfl rfl ⟨(sk_poke16 B).v⟩
theorem sk_fetch (B : Base w h₀) : SFc PR w h₀ 2 (.ref 112) fn_fetch := by
  unfold fn_fetch
  exact mkS B (hSt 15) (Str.ofString "fetch") mA 112 111 1 2 4 false [e_peek] [] ⟨t_peek B, trivial⟩ trivial (by kernel_rfl) (by kernel_rfl) (arS fun _ => arS fun _ => ar0 (by kernel_rfl)) (by kernel_rfl) (by kernel_rfl) (by kernel_rfl) (by kernel_rfl) rfl (by kernel_rfl) (by kernel_rfl) (by kernel_rfl) (by kernel_rfl)
noncomputable def e_fetch : Ent GE := ⟨1539300418408, Str.ofString "fetch", .fn 112 2 fn_fetch⟩
theorem t_fetch (B : Base w h₀) : GOk PR w h₀ (Str.ofString "fetch") (.fn 112 2 fn_fetch) := mkE B 36 7 rfl rfl ⟨(sk_fetch B).v⟩
theorem sk_sub8 (B : Base w h₀) : SFc PR w h₀ 2 (.ref 161) fn_sub8 := by
  unfold fn_sub8
  exact mkS B (hSt 32) (Str.ofString "sub8") mB 161 160 1 3 12 false [e_szyx] [] ⟨t_szyx B, trivial⟩ trivial (by kernel_rfl) (by kernel_rfl) (arS fun _ => arS fun _ => arS fun _ => ar0 (by kernel_rfl)) (by kernel_rfl) (by kernel_rfl) (by kernel_rfl) (by kernel_rfl) rfl (by kernel_rfl) (by kernel_rfl) (by kernel_rfl) (by kernel_rfl)
noncomputable def e_sub8 : Ent GE := ⟨6232039992, Str.ofString "sub8", .fn 161 2 fn_sub8⟩
theorem t_sub8 (B : Base w h₀) : GOk PR w h₀ (Str.ofString "sub8") (.fn 161 2 fn_sub8) := mkE B 43 14 rfl rfl ⟨(sk_sub8 B).v⟩
theorem sk_adc16 (B : Base w h₀) : SFc PR w h₀ 2 (.ref 189) fn_adc16 := by
  unfold fn_adc16
  exact mkS B (hSt 36) (Str.ofString "adc16") mB 189 188 1 3 9 false [e_word_flags, e_high_flags] [] ⟨t_word_flags B, t_high_flags B, trivial⟩ trivial (by kernel_rfl) (by kernel_rfl) (arS fun _ => arS fun _ => arS fun _ => ar0 (by kernel_rfl)) (by kernel_rfl) (by kernel_rfl) (by kernel_rfl) (by kernel_rfl) rfl (by kernel_rfl) (by kernel_rfl) (by kernel_rfl) (by kernel_rfl)
noncomputable def e_adc16 : Ent GE := ⟨1517807677750, Str.ofString "adc16", .fn 189 2 fn_adc16⟩
theorem t_adc16 (B : Base w h₀) : GOk PR w h₀ (Str.ofString "adc16") (.fn 189 2 fn_adc16) := mkE B 47 18 rfl rfl ⟨(sk_adc16 B).v⟩
theorem sk_sbc16 (B : Base w h₀) : SFc PR w h₀ 2 (.ref 196) fn_sbc16 := by
  unfold fn_sbc16
  exact mkS B (hSt 37) (Str.ofString "sbc16") mB 196 195 1 3 11 false [e_word_flags, e_high_flags] [] ⟨t_word_flags B, t_high_flags B, trivial⟩ trivial (by kernel_rfl) (by kernel_rfl) (arS fun _ => arS fun _ => arS fun _ => ar0 (by kernel_rfl)) (by kernel_rfl) (by kernel_rfl) (by kernel_rfl) (by kernel_rfl) rfl (by kernel_rfl) (by kernel_rfl) (by kernel_rfl) (by kernel_rfl)
noncomputable def e_sbc16 : Ent GE := ⟨1595083534646, Str.ofString "sbc16", .fn 196 2 fn_sbc16⟩
theorem t_sbc16 (B : Base w h₀) : GOk PR w h₀ (Str.ofString "sbc16") (.fn 196 2 fn_sbc16) := mkE B 48 19 rfl rfl ⟨(sk_sbc16 B).v⟩
theorem sk_rrd (B : Base w h₀) : SFc PR w h₀ 2 (.ref 203) fn_rrd := by
  unfold fn_rrd
  exact mkS B (hSt 38) (Str.ofString "rrd") mB 203 202 1 3 7 false [e_szyx, e_parity] [] ⟨t_szyx B, t_parity B, trivial⟩ trivial (by kernel_rfl) (by kernel_rfl) (arS fun _ => arS fun _ => arS fun _ => ar0 (by kernel_rfl)) (by kernel_rfl) (by kernel_rfl) (by kernel_rfl) (by kernel_rfl) rfl (by kernel_rfl) (by kernel_rfl) (by kernel_rfl) (by kernel_rfl)
noncomputable def e_rrd : Ent GE := ⟨24277604, Str.ofString "rrd", .fn 203 2 fn_rrd⟩
theorem t_rrd (B : Base w h₀) : GOk PR w h₀ (Str.ofString "rrd") (.fn 203 2 fn_rrd) := mkE B 49 20 rfl rfl ⟨(sk_rrd B).v⟩
theorem sk_rld (B : Base w h₀) : SFc PR w h₀ 2 (.ref 210) fn_rld := by
  unfold fn_rld
  exact mkS B (hSt 39) (Str.ofString "rld") mB 210 209 1 3 7 false [e_szyx, e_parity] [] ⟨t_szyx B, t_parity B, trivial⟩ trivial (by kernel_rfl) (by kernel_rfl) (arS fun _ => arS fun _ => arS fun _ => ar0 (by kernel_rfl)) (by kernel_rfl) (by kernel_rfl) (by kernel_rfl) (by kernel_rfl) rfl (by kernel_rfl) (by kernel_rfl) (by kernel_rfl) (by kernel_rfl)
noncomputable def e_rld : Ent GE := ⟨24276068, Str.ofString "rld", .fn 210 2 fn_rld⟩
theorem t_rld (B : Base w h₀) : GOk PR w h₀ (Str.ofString "rld") (.fn 210 2 fn_rld) := mkE B 50 21 rfl rfl ⟨(sk_rld B).v⟩
theorem sk_load_flags (B : Base w h₀) : SFc PR w h₀ 2 (.ref 217) fn_load_flags := by
  unfold fn_load_flags
  exact mkS B (hSt 40) (Str.ofString "load_flags") mB 217 216 1 3 6 false [e_szyx] [] ⟨t_szyx B, trivial⟩ trivial (by kernel_rfl) (by kernel_rfl) (arS fun _ => arS fun _ => arS fun _ => ar0 (by kernel_rfl)) (by kernel_rfl) (by kernel_rfl) (by kernel_rfl) (by kernel_rfl) rfl (by kernel_rfl) (by kernel_rfl) (by kernel_rfl) (by kernel_rfl)
noncomputable def e_load_flags : Ent GE := ⟨1720996006195745477715827, Str.ofString "load_flags", .fn 217 2 fn_load_flags⟩
theorem t_load_flags (B : Base w h₀) : GOk PR w h₀ (Str.ofString "load_flags") (.fn 217 2 fn_load_flags) := mkE B 51 22 rfl rfl ⟨(sk_load_flags B).v⟩
theorem sk_in_flags (B : Base w h₀) : SFc PR w h₀ 2 (.ref 224) fn_in_flags := by
  unfold fn_in_flags
  exact mkS B (hSt 41) (Str.ofString "in_flags") mB 224 223 1 2 5 false [e_szyx, e_parity] [] ⟨t_szyx B, t_parity B, trivial⟩ trivial (by kernel_rfl) (by kernel_rfl) (arS fun _ => arS fun _ => ar0 (by kernel_rfl)) (by kernel_rfl) (by kernel_rfl) (by kernel_rfl) (by kernel_rfl) rfl (by kernel_rfl) (by kernel_rfl) (by kernel_rfl) (by kernel_rfl)
noncomputable def e_in_flags : Ent GE := ⟨26043858588639782771, Str.ofString "in_flags", .fn 224 2 fn_in_flags⟩
theorem t_in_flags (B : Base w h₀) : GOk PR w h₀ (Str.ofString "in_flags") (.fn 224 2 fn_in_flags) := mkE B 52 23 rfl rfl ⟨(sk_in_flags B).v⟩
theorem sk_port_flags (B : Base w h₀) : SFc PR w h₀ 2 (.ref 245) fn_port_flags := by
  unfold fn_port_flags
  exact mkS B (hSt 44) (Str.ofString "port_flags") mB 245 244 1 3 10 false [e_szyx, e_parity] [] ⟨t_szyx B, t_parity B, trivial⟩ trivial (by kernel_rfl) (by kernel_rfl) (arS fun _ => arS fun _ => arS fun _ => ar0 (by kernel_rfl)) (by kernel_rfl) (by kernel_rfl) (by kernel_rfl) (by kernel_rfl) rfl (by kernel_rfl) (by kernel_rfl) (by kernel_rfl) (by kernel_rfl)
noncomputable def e_port_flags : Ent GE := ⟨1739886701609922330716019, Str.ofString "port_flags", .fn 245 2 fn_port_flags⟩
theorem t_port_flags (B : Base w h₀) : GOk PR w h₀ (Str.ofString "port_flags") (.fn 245 2 fn_port_flags) := mkE B 55 26 rfl rfl ⟨(sk_port_flags B).v⟩
theorem sk_ed_plans (B : Base w h₀) : SFc PR w h₀ 2 (.ref 284) fn_ed_plans := by
  unfold fn_ed_plans
  exact mkS B (hSt 54) (Str.ofString "ed_plans") mC 284 283 1 0 6 true [e_block_plans, e_plain_plans, e_pair_plans, e_port_plans] [] ⟨t_block_plans B, t_plain_plans B, t_pair_plans B, t_port_plans B, trivial⟩ trivial (by kernel_rfl) (by kernel_rfl) (ar0 (by kernel_rfl)) (by kernel_rfl) (by kernel_rfl) (by kernel_rfl) (by kernel_rfl) rfl (by kernel_rfl) (by kernel_rfl) (by kernel_rfl) (by kernel_rfl)
noncomputable def e_ed_plans : Ent GE := ⟨25752813505670639219, Str.ofString "ed_plans", .fn 284 2 fn_ed_plans⟩
theorem t_ed_plans (B : Base w h₀) : GOk PR w h₀ (Str.ofString "ed_plans") (.fn 284 2 fn_ed_plans) := mkE B 60 31 rfl rfl ⟨(sk_ed_plans B).v⟩
theorem sk_step_pair (B : Base w h₀) : SFc PR w h₀ 2 (.ref 291) fn_step_pair := by
  unfold fn_step_pair
  exact mkS B (hSt 55) (Str.ofString "step_pair") mC 291 290 1 3 7 false [e_set_pair, e_pair] [] ⟨t_set_pair B, t_pair B, trivial⟩ trivial (by kernel_rfl) (by kernel_rfl) (arS fun _ => arS fun _ => arS fun _ => ar0 (by kernel_rfl)) (by kernel_rfl) (by kernel_rfl) (by kernel_rfl) (by kernel_rfl) rfl (by kernel_rfl) (by kernel_rfl) (by kernel_rfl) (by kernel_rfl)
noncomputable def e_step_pair : Ent GE := ⟨6852129284782500702578, Str.ofString "step_pair", .fn 291 2 fn_step_pair⟩
theorem t_step_pair (B : Base w h₀) : GOk PR w h₀ (Str.ofString "step_pair") (.fn 291 2 fn_step_pair) := mkE B 61 32 rfl rfl ⟨(sk_step_pair B).v⟩
theorem sk_lead (B : Base w h₀) : SFc PR w h₀ 2 (.ref 419) fn_lead := by
  unfold fn_lead
  exact mkS B (hSt 83) (Str.ofString "lead") mD 419 418 1 3 5 false [e_pair, e_set_pair] [] ⟨t_pair B, t_set_pair B, trivial⟩ trivial (by kernel_rfl) (by kernel_rfl) (arS fun _ => arS fun _ => arS fun _ => ar0 (by kernel_rfl)) (by kernel_rfl) (by kernel_rfl) (by kernel_rfl) (by kernel_rfl) rfl (by kernel_rfl) (by kernel_rfl) (by kernel_rfl) (by kernel_rfl)
noncomputable def e_lead : Ent GE := ⟨6113550692, Str.ofString "lead", .fn 419 2 fn_lead⟩
theorem t_lead (B : Base w h₀) : GOk PR w h₀ (Str.ofString "lead") (.fn 419 2 fn_lead) := mkE B 79 50 rfl rfl ⟨(sk_lead B).v⟩
theorem sk__law_sum (B : Base w h₀) : SFc PR w h₀ 2 (.ref 513) fn__law_sum := by
  unfold fn__law_sum
  exact mkS B (hSt 98) (Str.ofString "_law_sum") mE 513 512 1 3 15 false [e__law_set, e__law_signed, e__law_pair] [] ⟨t__law_set B, t__law_signed B, t__law_pair B, trivial⟩ trivial (by kernel_rfl) (by kernel_rfl) (arS fun _ => arS fun _ => arS fun _ => ar0 (by kernel_rfl)) (by kernel_rfl) (by kernel_rfl) (by kernel_rfl) (by kernel_rfl) rfl (by kernel_rfl) (by kernel_rfl) (by kernel_rfl) (by kernel_rfl)
noncomputable def e__law_sum : Ent GE := ⟨25322721970127861101, Str.ofString "_law_sum", .fn 513 2 fn__law_sum⟩
theorem t__law_sum (B : Base w h₀) : GOk PR w h₀ (Str.ofString "_law_sum") (.fn 513 2 fn__law_sum) := mkE B 93 64 rfl rfl ⟨(sk__law_sum B).v⟩
theorem sk__law_block (B : Base w h₀) : SFc PR w h₀ 2 (.ref 520) fn__law_block := by
  unfold fn__law_block
  exact mkS B (hSt 99) (Str.ofString "_law_block") mE 520 519 1 3 20 false [e__law_pair, e__law_set, e__law_told, e__law_parity, e__law_in] [] ⟨t__law_pair B, t__law_set B, t__law_told B, t__law_parity B, t__law_in B, trivial⟩ trivial (by kernel_rfl) (by kernel_rfl) (arS fun _ => arS fun _ => arS fun _ => ar0 (by kernel_rfl)) (by kernel_rfl) (by kernel_rfl) (by kernel_rfl) (by kernel_rfl) rfl (by kernel_rfl) (by kernel_rfl) (by kernel_rfl) (by kernel_rfl)
noncomputable def e__law_block : Ent GE := ⟨1659549907034226339832683, Str.ofString "_law_block", .fn 520 2 fn__law_block⟩
theorem t__law_block (B : Base w h₀) : GOk PR w h₀ (Str.ofString "_law_block") (.fn 520 2 fn__law_block) := mkE B 94 65 rfl rfl ⟨(sk__law_block B).v⟩
theorem sk__law_special (B : Base w h₀) : SFc PR w h₀ 2 (.ref 527) fn__law_special := by
  unfold fn__law_special
  exact mkS B (hSt 100) (Str.ofString "_law_special") mE 527 526 1 2 10 false [e__law_told, e__law_parity, e__law_pair] [] ⟨t__law_told B, t__law_parity B, t__law_pair B, trivial⟩ trivial (by kernel_rfl) (by kernel_rfl) (arS fun _ => arS fun _ => ar0 (by kernel_rfl)) (by kernel_rfl) (by kernel_rfl) (by kernel_rfl) (by kernel_rfl) rfl (by kernel_rfl) (by kernel_rfl) (by kernel_rfl) (by kernel_rfl)
noncomputable def e__law_special : Ent GE := ⟨108760262707399846836975526252, Str.ofString "_law_special", .fn 527 2 fn__law_special⟩
theorem t__law_special (B : Base w h₀) : GOk PR w h₀ (Str.ofString "_law_special") (.fn 527 2 fn__law_special) := mkE B 95 66 rfl rfl ⟨(sk__law_special B).v⟩
theorem sk_fetch16 (B : Base w h₀) : SFc PR w h₀ 3 (.ref 119) fn_fetch16 := by
  unfold fn_fetch16
  exact mkS B (hSt 16) (Str.ofString "fetch16") mA 119 118 2 2 4 false [e_fetch] [] ⟨t_fetch B, trivial⟩ trivial (by kernel_rfl) (by kernel_rfl) (arS fun _ => arS fun _ => ar0 (by kernel_rfl)) (by kernel_rfl) (by kernel_rfl) (by kernel_rfl) (by kernel_rfl) rfl (by kernel_rfl) (by kernel_rfl) (by kernel_rfl) (by kernel_rfl)
noncomputable def e_fetch16 : Ent GE := ⟨100879592220799286, Str.ofString "fetch16", .fn 119 3 fn_fetch16⟩
theorem t_fetch16 (B : Base w h₀) : GOk PR w h₀ (Str.ofString "fetch16") (.fn 119 3 fn_fetch16) := mkE B 37 8 rfl rfl ⟨(sk_fetch16 B).v⟩
theorem sk_pop (B : Base w h₀) : SFc PR w h₀ 3 (.ref 126) fn_pop := by
  unfold fn_pop
  exact mkS B (hSt 17) (Str.ofString "pop") mA 126 125 2 2 4 false [e_peek16] [] ⟨t_peek16 B, trivial⟩ trivial (by kernel_rfl) (by kernel_rfl) (arS fun _ => arS fun _ => ar0 (by kernel_rfl)) (by kernel_rfl) (by kernel_rfl) (by kernel_rfl) (by kernel_rfl) rfl (by kernel_rfl) (by kernel_rfl) (by kernel_rfl) (by kernel_rfl)
noncomputable def e_pop : Ent GE := ⟨24145776, Str.ofString "pop", .fn 126 3 fn_pop⟩
theorem t_pop (B : Base w h₀) : GOk PR w h₀ (Str.ofString "pop") (.fn 126 3 fn_pop) := mkE B 38 9 rfl rfl ⟨(sk_pop B).v⟩
theorem sk_neg (B : Base w h₀) : SFc PR w h₀ 3 (.ref 168) fn_neg := by
  unfold fn_neg
  exact mkS B (hSt 33) (Str.ofString "neg") mB 168 167 2 1 2 false [e_sub8] [] ⟨t_sub8 B, trivial⟩ trivial (by kernel_rfl) (by kernel_rfl) (arS fun _ => ar0 (by kernel_rfl)) (by kernel_rfl) (by kernel_rfl) (by kernel_rfl) (by kernel_rfl) rfl (by kernel_rfl) (by kernel_rfl) (by kernel_rfl) (by kernel_rfl)
noncomputable def e_neg : Ent GE := ⟨24012135, Str.ofString "neg", .fn 168 3 fn_neg⟩
theorem t_neg (B : Base w h₀) : GOk PR w h₀ (Str.ofString "neg") (.fn 168 3 fn_neg) := mkE B 44 15 rfl rfl ⟨(sk_neg B).v⟩
theorem sk_seek_flags (B : Base w h₀) : SFc PR w h₀ 3 (.ref 238) fn_seek_flags := by
  unfold fn_seek_flags
  exact mkS B (hSt 43) (Str.ofString "seek_flags") mB 238 237 2 4 16 false [e_sub8] [] ⟨t_sub8 B, trivial⟩ trivial (by kernel_rfl) (by kernel_rfl) (arS fun _ => arS fun _ => arS fun _ => arS fun _ => ar0 (by kernel_rfl)) (by kernel_rfl) (by kernel_rfl) (by kernel_rfl) (by kernel_rfl) rfl (by kernel_rfl) (by kernel_rfl) (by kernel_rfl) (by kernel_rfl)
noncomputable def e_seek_flags : Ent GE := ⟨1753868394335796887381875, Str.ofString "seek_flags", .fn 238 3 fn_seek_flags⟩
theorem t_seek_flags (B : Base w h₀) : GOk PR w h₀ (Str.ofString "seek_flags") (.fn 238 3 fn_seek_flags) := mkE B 54 25 rfl rfl ⟨(sk_seek_flags B).v⟩
theorem sk_move_round (B : Base w h₀) : SFc PR w h₀ 3 (.ref 305) fn_move_round := by
  unfold fn_move_round
  exact mkS B (hSt 57) (Str.ofString "move_round") mC 305 304 2 3 13 false [e_move_flags, e_pair, e_step_pair, e_poke, e_peek] [] ⟨t_move_flags B, t_pair B, t_step_pair B, t_poke B, t_peek B, trivial⟩ trivial (by kernel_rfl) (by kernel_rfl) (arS fun _ => arS fun _ => arS fun _ => ar0 (by kernel_rfl)) (by kernel_rfl) (by kernel_rfl) (by kernel_rfl) (by kernel_rfl) rfl (by kernel_rfl) (by kernel_rfl) (by kernel_rfl) (by kernel_rfl)
noncomputable def e_move_round : Ent GE := ⟨1725719886169616487378532, Str.ofString "move_round", .fn 305 3 fn_move_round⟩
theorem t_move_round (B : Base w h₀) : GOk PR w h₀ (Str.ofString "move_round") (.fn 305 3 fn_move_round) := mkE B 63 34 rfl rfl ⟨(sk_move_round B).v⟩
theorem sk_take_round (B : Base w h₀) : SFc PR w h₀ 3 (.ref 319) fn_take_round := by
  unfold fn_take_round
  exact mkS B (hSt 59) (Str.ofString "take_round") mC 319 318 2 4 14 false [e_port_flags, e_step_count, e_step_pair, e_poke, e_port_in] [] ⟨t_port_flags B, t_step_count B, t_step_pair B, t_poke B, t_port_in B, trivial⟩ trivial (by kernel_rfl) (by kernel_rfl) (arS fun _ => arS fun _ => arS fun _ => arS fun _ => ar0 (by kernel_rfl)) (by kernel_rfl) (by kernel_rfl) (by kernel_rfl) (by kernel_rfl) rfl (by kernel_rfl) (by kernel_rfl) (by kernel_rfl) (by kernel_rfl)
noncomputable def e_take_round : Ent GE := ⟨1758517404499137652944484, Str.ofString "take_round", .fn 319 3 fn_take_round⟩
theorem t_take_round (B : Base w h₀) : GOk PR w h₀ (Str.ofString "take_round") (.fn 319 3 fn_take_round) := mkE B 65 36 rfl rfl ⟨(sk_take_round B).v⟩
theorem sk_send_round (B : Base w h₀) : SFc PR w h₀ 3 (.ref 326) fn_send_round := by
  unfold fn_send_round
  exact mkS B (hSt 60) (Str.ofString "send_round") mC 326 325 2 4 14 false [e_port_flags, e_port_out, e_step_count, e_step_pair, e_peek] [] ⟨t_port_flags B, t_port_out B, t_step_count B, t_step_pair B, t_peek B, trivial⟩ trivial (by kernel_rfl) (by kernel_rfl) (arS fun _ => arS fun _ => arS fun _ => arS fun _ => ar0 (by kernel_rfl)) (by kernel_rfl) (by kernel_rfl) (by kernel_rfl) (by kernel_rfl) rfl (by kernel_rfl) (by kernel_rfl) (by kernel_rfl) (by kernel_rfl)
noncomputable def e_send_round : Ent GE := ⟨1753869040883869983010404, Str.ofString "send_round", .fn 326 3 fn_send_round⟩
theorem t_send_round (B : Base w h₀) : GOk PR w h₀ (Str.ofString "send_round") (.fn 326 3 fn_send_round) := mkE B 66 37 rfl rfl ⟨(sk_send_round B).v⟩
theorem sk_do_port_plan (B : Base w h₀) : SFc PR w h₀ 3 (.ref 340) fn_do_port_plan := by
  unfold fn_do_port_plan
  exact mkS B (hSt 62) (Str.ofString "do_port_plan") mC 340 339 2 4 11 false [e_in_flags, e_port_in, e_port_out] [] ⟨t_in_flags B, t_port_in B, t_port_out B, trivial⟩ trivial (by kernel_rfl) (by kernel_rfl) (arS fun _ => arS fun _ => arS fun _ => arS fun _ => ar0 (by kernel_rfl)) (by kernel_rfl) (by kernel_rfl) (by kernel_rfl) (by kernel_rfl) rfl (by kernel_rfl) (by kernel_rfl) (by kernel_rfl) (by kernel_rfl)
noncomputable def e_do_port_plan : Ent GE := ⟨110311304961257886214991405422, Str.ofString "do_port_plan", .fn 340 3 fn_do_port_plan⟩
theorem t_do_port_plan (B : Base w h₀) : GOk PR w h₀ (Str.ofString "do_port_plan") (.fn 340 3 fn_do_port_plan) := mkE B 68 39 rfl rfl ⟨(sk_do_port_plan B).v⟩
theorem sk_do_halves_plan (B : Base w h₀) : SFc PR w h₀ 3 (.ref 354) fn_do_halves_plan := by
  unfold fn_do_halves_plan
  exact mkS B (hSt 64) (Str.ofString "do_halves_plan") mC 354 353 2 3 15 false [e_poke, e_peek, e_rrd, e_rld, e_pair] [] ⟨t_poke B, t_peek B, t_rrd B, t_rld B, t_pair B, trivial⟩ trivial (by kernel_rfl) (by kernel_rfl) (arS fun _ => arS fun _ => arS fun _ => ar0 (by kernel_rfl)) (by kernel_rfl) (by kernel_rfl) (by kernel_rfl) (by kernel_rfl) rfl (by kernel_rfl) (by kernel_rfl) (by kernel_rfl) (by kernel_rfl)
noncomputable def e_do_halves_plan : Ent GE := ⟨7229361672203366608651306945765742, Str.ofString "do_halves_plan", .fn 354 3 fn_do_halves_plan⟩
theorem t_do_halves_plan (B : Base w h₀) : GOk PR w h₀ (Str.ofString "do_halves_plan") (.fn 354 3 fn_do_halves_plan) := mkE B 70 41 rfl rfl ⟨(sk_do_halves_plan B).v⟩
theorem sk_do_special_plan (B : Base w h₀) : SFc PR w h₀ 3 (.ref 361) fn_do_special_plan := by
  unfold fn_do_special_plan
  exact mkS B (hSt 65) (Str.ofString "do_special_plan") mC 361 360 2 2 5 false [e_load_flags] [] ⟨t_load_flags B, trivial⟩ trivial (by kernel_rfl) (by kernel_rfl) (arS fun _ => arS fun _ => ar0 (by kernel_rfl)) (by kernel_rfl) (by kernel_rfl) (by kernel_rfl) (by kernel_rfl) rfl (by kernel_rfl) (by kernel_rfl) (by kernel_rfl) (by kernel_rfl)
noncomputable def e_do_special_plan : Ent GE := ⟨1850716591506497440373410330986701166, Str.ofString "do_special_plan", .fn 361 3 fn_do_special_plan⟩
theorem t_do_special_plan (B : Base w h₀) : GOk PR w h₀ (Str.ofString "do_special_plan") (.fn 361 3 fn_do_special_plan) := mkE B 71 42 rfl rfl ⟨(sk_do_special_plan B).v⟩
theorem sk_come_in (B : Base w h₀) : SFc PR w h₀ 3 (.ref 384) fn_come_in := by
  unfold fn_come_in
  exact mkS B (hSt 78) (Str.ofString "come_in") mD 384 383 2 3 9 false [e_in_flags, e_port_in] [] ⟨t_in_flags B, t_port_in B, trivial⟩ trivial (by kernel_rfl) (by kernel_rfl) (arS fun _ => arS fun _ => arS fun _ => ar0 (by kernel_rfl)) (by kernel_rfl) (by kernel_rfl) (by kernel_rfl) (by kernel_rfl) rfl (by kernel_rfl) (by kernel_rfl) (by kernel_rfl) (by kernel_rfl)
noncomputable def e_come_in : Ent GE := ⟨100046132375153006, Str.ofString "come_in", .fn 384 3 fn_come_in⟩
theorem t_come_in (B : Base w h₀) : GOk PR w h₀ (Str.ofString "come_in") (.fn 384 3 fn_come_in) := mkE B 74 45 rfl rfl ⟨(sk_come_in B).v⟩
theorem sk_add_words (B : Base w h₀) : SFc PR w h₀ 3 (.ref 391) fn_add_words := by
  unfold fn_add_words
  exact mkS B (hSt 79) (Str.ofString "add_words") mD 391 390 2 2 11 false [e_set_pair, e_pair, e_adc16, e_sbc16] [e_adc16, e_sbc16] ⟨t_set_pair B, t_pair B, t_adc16 B, t_sbc16 B, trivial⟩ ⟨t_adc16 B, t_sbc16 B, trivial⟩ (by kernel_rfl) (by kernel_rfl) (arS fun _ => arS fun _ => ar0 (by kernel_rfl)) (by kernel_rfl) (by kernel_rfl) (by kernel_rfl) (by kernel_rfl) rfl (by kernel_rfl) (by kernel_rfl) (by kernel_rfl) (by kernel_rfl)
noncomputable def e_add_words : Ent GE := ⟨6518934669887511094387, Str.ofString "add_words", .fn 391 3 fn_add_words⟩
theorem t_add_words (B : Base w h₀) : GOk PR w h₀ (Str.ofString "add_words") (.fn 391 3 fn_add_words) := mkE B 75 46 rfl rfl ⟨(sk_add_words B).v⟩
theorem sk_do_special (B : Base w h₀) : SFc PR w h₀ 3 (.ref 405) fn_do_special := by
  unfold fn_do_special
  exact mkS B (hSt 81) (Str.ofString "do_special") mD 405 404 2 3 17 false [e_load_flags, e_poke, e_peek, e_rrd, e_rld, e_pair] [e_rrd, e_rld] ⟨t_load_flags B, t_poke B, t_peek B, t_rrd B, t_rld B, t_pair B, trivial⟩ ⟨t_rrd B, t_rld B, trivial⟩ (by kernel_rfl) (by kernel_rfl) (arS fun _ => arS fun _ => arS fun _ => ar0 (by kernel_rfl)) (by kernel_rfl) (by kernel_rfl) (by kernel_rfl) (by kernel_rfl) rfl (by kernel_rfl) (by kernel_rfl) (by kernel_rfl) (by kernel_rfl)
noncomputable def e_do_special : Ent GE := ⟨1683216934458412143042924, Str.ofString "do_special", .fn 405 3 fn_do_special⟩
theorem t_do_special (B : Base w h₀) : GOk PR w h₀ (Str.ofString "do_special") (.fn 405 3 fn_do_special) := mkE B 77 48 rfl rfl ⟨(sk_do_special B).v⟩
theorem sk_move_one (B : Base w h₀) : SFc PR w h₀ 3 (.ref 426) fn_move_one := by
  unfold fn_move_one
  exact mkS B (hSt 84) (Str.ofString "move_one") mD 426 425 2 3 15 false [e_move_flags, e_lead, e_pair, e_poke, e_peek] [] ⟨t_move_flags B, t_lead B, t_pair B, t_poke B, t_peek B, trivial⟩ trivial (by kernel_rfl) (by kernel_rfl) (arS fun _ => arS fun _ => arS fun _ => ar0 (by kernel_rfl)) (by kernel_rfl) (by kernel_rfl) (by kernel_rfl) (by kernel_rfl) rfl (by kernel_rfl) (by kernel_rfl) (by kernel_rfl) (by kernel_rfl)
noncomputable def e_move_one : Ent GE := ⟨26332395724023492197, Str.ofString "move_one", .fn 426 3 fn_move_one⟩
theorem t_move_one (B : Base w h₀) : GOk PR w h₀ (Str.ofString "move_one") (.fn 426 3 fn_move_one) := mkE B 80 51 rfl rfl ⟨(sk_move_one B).v⟩
theorem sk_take_one (B : Base w h₀) : SFc PR w h₀ 3 (.ref 440) fn_take_one := by
  unfold fn_take_one
  exact mkS B (hSt 86) (Str.ofString "take_one") mD 440 439 2 4 14 false [e_port_flags, e_lead, e_pair, e_poke, e_port_in] [] ⟨t_port_flags B, t_lead B, t_pair B, t_poke B, t_port_in B, trivial⟩ trivial (by kernel_rfl) (by kernel_rfl) (arS fun _ => arS fun _ => arS fun _ => arS fun _ => ar0 (by kernel_rfl)) (by kernel_rfl) (by kernel_rfl) (by kernel_rfl) (by kernel_rfl) rfl (by kernel_rfl) (by kernel_rfl) (by kernel_rfl) (by kernel_rfl)
noncomputable def e_take_one : Ent GE := ⟨26832846137987133029, Str.ofString "take_one", .fn 440 3 fn_take_one⟩
theorem t_take_one (B : Base w h₀) : GOk PR w h₀ (Str.ofString "take_one") (.fn 440 3 fn_take_one) := mkE B 82 53 rfl rfl ⟨(sk_take_one B).v⟩
theorem sk_send_one (B : Base w h₀) : SFc PR w h₀ 3 (.ref 447) fn_send_one := by
  unfold fn_send_one
  exact mkS B (hSt 87) (Str.ofString "send_one") mD 447 446 2 4 14 false [e_pair, e_port_flags, e_port_out, e_lead, e_peek] [] ⟨t_pair B, t_port_flags B, t_port_out B, t_lead B, t_peek B, trivial⟩ trivial (by kernel_rfl) (by kernel_rfl) (arS fun _ => arS fun _ => arS fun _ => arS fun _ => ar0 (by kernel_rfl)) (by kernel_rfl) (by kernel_rfl) (by kernel_rfl) (by kernel_rfl) rfl (by kernel_rfl) (by kernel_rfl) (by kernel_rfl) (by kernel_rfl)
noncomputable def e_send_one : Ent GE := ⟨26761917738095963749, Str.ofString "send_one", .fn 447 3 fn_send_one⟩
theorem t_send_one (B : Base w h₀) : GOk PR w h₀ (Str.ofString "send_one") (.fn 447 3 fn_send_one) := mkE B 83 54 rfl rfl ⟨(sk_send_one B).v⟩
theorem sk__law_due (B : Base w h₀) : SFc PR w h₀ 3 (.ref 534) fn__law_due := by
  unfold fn__law_due
  exact mkS B (hSt 101) (Str.ofString "_law_due") mE 534 533 2 2 18 false [e__law_told, e__law_parity, e__law_in, e__law_sum, e__law_word, e__law_set, e__law_pair, e__law_special, e__law_block] [] ⟨t__law_told B, t__law_parity B, t__law_in B, t__law_sum B, t__law_word B, t__law_set B, t__law_pair B, t__law_special B, t__law_block B, trivial⟩ trivial (by kernel_rfl) (by kernel_rfl) (arS fun _ => arS fun _ => ar0 (by kernel_rfl)) (by kernel_rfl) (by kernel_rfl) (by kernel_rfl) (by kernel_rfl) rfl (by kernel_rfl) (by kernel_rfl) (by kernel_rfl) (by kernel_rfl)
noncomputable def e__law_due : Ent GE := ⟨25322721970126878053, Str.ofString "_law_due", .fn 534 3 (truncF fn__law_due)⟩
theorem t__law_due (B : Base w h₀) : GOk PR w h₀ (Str.ofString "_law_due") (.fn 534 3 (truncF fn__law_due)) := mkE B 96 67 rfl rfl (WF.trunc ⟨(sk__law_due B).v⟩)
theorem sk__law_cpu (B : Base w h₀) : SFc PR w h₀ 3 (.ref 541) fn__law_cpu := by
  unfold fn__law_cpu
  exact mkS B (hSt 102) (Str.ofString "_law_cpu") mE 541 540 2 1 4 false [e_Cpu] [] ⟨t_Cpu B, trivial⟩ trivial (by kernel_rfl) (by kernel_rfl) (arS fun _ => ar0 (by kernel_rfl)) (by kernel_rfl) (by kernel_rfl) (by kernel_rfl) (by kernel_rfl) rfl (by kernel_rfl) (by kernel_rfl) (by kernel_rfl) (by kernel_rfl)
noncomputable def e__law_cpu : Ent GE := ⟨25322721970126811253, Str.ofString "_law_cpu", .fn 541 3 fn__law_cpu⟩
theorem t__law_cpu (B : Base w h₀) : GOk PR w h₀ (Str.ofString "_law_cpu") (.fn 541 3 fn__law_cpu) := mkE B 97 68 rfl rfl ⟨(sk__law_cpu B).v⟩
theorem sk_seek_round (B : Base w h₀) : SFc PR w h₀ 4 (.ref 312) fn_seek_round := by
  unfold fn_seek_round
  exact mkS B (hSt 58) (Str.ofString "seek_round") mC 312 311 3 3 13 false [e_seek_flags, e_pair, e_step_pair, e_peek] [] ⟨t_seek_flags B, t_pair B, t_step_pair B, t_peek B, trivial⟩ trivial (by kernel_rfl) (by kernel_rfl) (arS fun _ => arS fun _ => arS fun _ => ar0 (by kernel_rfl)) (by kernel_rfl) (by kernel_rfl) (by kernel_rfl) (by kernel_rfl) rfl (by kernel_rfl) (by kernel_rfl) (by kernel_rfl) (by kernel_rfl)
noncomputable def e_seek_round : Ent GE := ⟨1753868394335848478633572, Str.ofString "seek_round", .fn 312 4 fn_seek_round⟩
theorem t_seek_round (B : Base w h₀) : GOk PR w h₀ (Str.ofString "seek_round") (.fn 312 4 fn_seek_round) := mkE B 64 35 rfl rfl ⟨(sk_seek_round B).v⟩
theorem sk_do_pair_plan (B : Base w h₀) : SFc PR w h₀ 4 (.ref 347) fn_do_pair_plan := by
  unfold fn_do_pair_plan
  exact mkS B (hSt 63) (Str.ofString "do_pair_plan") mC 347 346 3 4 18 false [e_pair, e_fetch16, e_poke16, e_peek16, e_set_pair, e_sbc16, e_adc16] [] ⟨t_pair B, t_fetch16 B, t_poke16 B, t_peek16 B, t_set_pair B, t_sbc16 B, t_adc16 B, trivial⟩ trivial (by kernel_rfl) (by kernel_rfl) (arS fun _ => arS fun _ => arS fun _ => arS fun _ => ar0 (by kernel_rfl)) (by kernel_rfl) (by kernel_rfl) (by kernel_rfl) (by kernel_rfl) rfl (by kernel_rfl) (by kernel_rfl) (by kernel_rfl) (by kernel_rfl)
noncomputable def e_do_pair_plan : Ent GE := ⟨110311304960246544424646762862, Str.ofString "do_pair_plan", .fn 347 4 fn_do_pair_plan⟩
theorem t_do_pair_plan (B : Base w h₀) : GOk PR w h₀ (Str.ofString "do_pair_plan") (.fn 347 4 fn_do_pair_plan) := mkE B 69 40 rfl rfl ⟨(sk_do_pair_plan B).v⟩
theorem sk_load_words (B : Base w h₀) : SFc PR w h₀ 4 (.ref 398) fn_load_words := by
  unfold fn_load_words
  exact mkS B (hSt 80) (Str.ofString "load_words") mD 398 397 3 3 9 false [e_peek16, e_set_pair, e_pair, e_poke16, e_fetch16] [] ⟨t_peek16 B, t_set_pair B, t_pair B, t_poke16 B, t_fetch16 B, trivial⟩ trivial (by kernel_rfl) (by kernel_rfl) (arS fun _ => arS fun _ => arS fun _ => ar0 (by kernel_rfl)) (by kernel_rfl) (by kernel_rfl) (by kernel_rfl) (by kernel_rfl) rfl (by kernel_rfl) (by kernel_rfl) (by kernel_rfl) (by kernel_rfl)
noncomputable def e_load_words : Ent GE := ⟨1720996006195818543604851, Str.ofString "load_words", .fn 398 4 fn_load_words⟩
theorem t_load_words (B : Base w h₀) : GOk PR w h₀ (Str.ofString "load_words") (.fn 398 4 fn_load_words) := mkE B 76 47 rfl rfl ⟨(sk_load_words B).v⟩
theorem sk_seek_one (B : Base w h₀) : SFc PR w h₀ 4 (.ref 433) fn_seek_one := by
  unfold fn_seek_one
  exact mkS B (hSt 85) (Str.ofString "seek_one") mD 433 432 3 3 14 false [e_seek_flags, e_lead, e_pair, e_peek] [] ⟨t_seek_flags B, t_lead B, t_pair B, t_peek B, trivial⟩ trivial (by kernel_rfl) (by kernel_rfl) (arS fun _ => arS fun _ => arS fun _ => ar0 (by kernel_rfl)) (by kernel_rfl) (by kernel_rfl) (by kernel_rfl) (by kernel_rfl) rfl (by kernel_rfl) (by kernel_rfl) (by kernel_rfl) (by kernel_rfl)
noncomputable def e_seek_one : Ent GE := ⟨26761907872556084837, Str.ofString "seek_one", .fn 433 4 fn_seek_one⟩
theorem t_seek_one (B : Base w h₀) : GOk PR w h₀ (Str.ofString "seek_one") (.fn 433 4 fn_seek_one) := mkE B 81 52 rfl rfl ⟨(sk_seek_one B).v⟩
theorem sk_do_block_plan (B : Base w h₀) : SFc PR w h₀ 5 (.ref 333) fn_do_block_plan := by
  unfold fn_do_block_plan
  exact mkS B (hSt 61) (Str.ofString "do_block_plan") mC 333 332 4 6 12 false [e_move_round, e_seek_round, e_take_round, e_send_round] [] ⟨t_move_round B, t_seek_round B, t_take_round B, t_send_round B, trivial⟩ trivial (by kernel_rfl) (by kernel_rfl) (arS fun _ => arS fun _ => arS fun _ => arS fun _ => arS fun _ => arS fun _ => ar0 (by kernel_rfl)) (by kernel_rfl) (by kernel_rfl) (by kernel_rfl) (by kernel_rfl) rfl (by kernel_rfl) (by kernel_rfl) (by kernel_rfl) (by kernel_rfl)
noncomputable def e_do_block_plan : Ent GE := ⟨28239694003913326933906113192302, Str.ofString "do_block_plan", .fn 333 5 fn_do_block_plan⟩
theorem t_do_block_plan (B : Base w h₀) : GOk PR w h₀ (Str.ofString "do_block_plan") (.fn 333 5 fn_do_block_plan) := mkE B 67 38 rfl rfl ⟨(sk_do_block_plan B).v⟩
theorem sk_do_block (B : Base w h₀) : SFc PR w h₀ 5 (.ref 412) fn_do_block := by
  unfold fn_do_block
  exact mkS B (hSt 82) (Str.ofString "do_block") mD 412 411 4 5 13 false [e_move_one, e_seek_one, e_take_one, e_send_one] [] ⟨t_move_one B, t_seek_one B, t_take_one B, t_send_one B, trivial⟩ trivial (by kernel_rfl) (by kernel_rfl) (arS fun _ => arS fun _ => arS fun _ => arS fun _ => arS fun _ => ar0 (by kernel_rfl)) (by kernel_rfl) (by kernel_rfl) (by kernel_rfl) (by kernel_rfl) rfl (by kernel_rfl) (by kernel_rfl) (by kernel_rfl) (by kernel_rfl)
noncomputable def e_do_block : Ent GE := ⟨25683852076247901035, Str.ofString "do_block", .fn 412 5 fn_do_block⟩
theorem t_do_block (B : Base w h₀) : GOk PR w h₀ (Str.ofString "do_block") (.fn 412 5 fn_do_block) := mkE B 78 49 rfl rfl ⟨(sk_do_block B).v⟩
theorem sk_do_ed_plan (B : Base w h₀) : SFc PR w h₀ 6 (.ref 368) fn_do_ed_plan := by
  unfold fn_do_ed_plan
  exact mkS B (hSt 66) (Str.ofString "do_ed_plan") mC 368 367 5 4 16 false [e_do_port_plan, e_do_pair_plan, e_do_halves_plan, e_neg, e_pop, e_do_special_plan, e_do_block_plan] [] ⟨t_do_port_plan B, t_do_pair_plan B, t_do_halves_plan B, t_neg B, t_pop B, t_do_special_plan B, t_do_block_plan B, trivial⟩ trivial (by kernel_rfl) (by kernel_rfl) (arS fun _ => arS fun _ => arS fun _ => arS fun _ => ar0 (by kernel_rfl)) (by kernel_rfl) (by kernel_rfl) (by kernel_rfl) (by kernel_rfl) rfl (by kernel_rfl) (by kernel_rfl) (by kernel_rfl) (by kernel_rfl)
noncomputable def e_do_ed_plan : Ent GE := ⟨1683216930504542778057070, Str.ofString "do_ed_plan", .fn 368 6 (truncF fn_do_ed_plan)⟩
theorem t_do_ed_plan (B : Base w h₀) : GOk PR w h₀ (Str.ofString "do_ed_plan") (.fn 368 6 (truncF fn_do_ed_plan)) := mkE B 72 43 rfl rfl (WF.trunc ⟨(sk_do_ed_plan B).v⟩)
theorem sk_do_ed (B : Base w h₀) : SFc PR w h₀ 6 (.ref 377) fn_do_ed := by
  unfold fn_do_ed
  exact mkS B (hSt 77) (Str.ofString "do_ed") mD 377 376 5 4 22 false [e_come_in, e_port_out, e_add_words, e_load_words, e_neg, e_pop, e_do_special, e_do_block] [] ⟨t_come_in B, t_port_out B, t_add_words B, t_load_words B, t_neg B, t_pop B, t_do_special B, t_do_block B, trivial⟩ trivial (by kernel_rfl) (by kernel_rfl) (arS fun _ => arS fun _ => arS fun _ => arS fun _ => ar0 (by kernel_rfl)) (by kernel_rfl) (by kernel_rfl) (by kernel_rfl) (by kernel_rfl) rfl (by kernel_rfl) (by kernel_rfl) (by kernel_rfl) (by kernel_rfl)
noncomputable def e_do_ed : Ent GE := ⟨1530876880228, Str.ofString "do_ed", .fn 377 6 (truncF fn_do_ed)⟩
theorem t_do_ed (B : Base w h₀) : GOk PR w h₀ (Str.ofString "do_ed") (.fn 377 6 (truncF fn_do_ed)) := mkE B 73 44 rfl rfl (WF.trunc ⟨(sk_do_ed B).v⟩)
end
theorem nm_0 : IsNm (Str.ofString "r") 0 := ⟨by decide, rfl⟩
theorem nm_4 : IsNm (Str.ofString "sp") 4 := ⟨by decide, rfl⟩
theorem nm_5 : IsNm (Str.ofString "pc") 5 := ⟨by decide, rfl⟩
theorem nm_6 : IsNm (Str.ofString "i") 6 := ⟨by decide, rfl⟩
theorem nm_7 : IsNm (Str.ofString "ref") 7 := ⟨by decide, rfl⟩
theorem nm_8 : IsNm (Str.ofString "iff1") 8 := ⟨by decide, rfl⟩
theorem nm_9 : IsNm (Str.ofString "iff2") 9 := ⟨by decide, rfl⟩
theorem nm_10 : IsNm (Str.ofString "mode") 10 := ⟨by decide, rfl⟩
theorem nm_14 : IsNm (Str.ofString "ins") 14 := ⟨by decide, rfl⟩
theorem nm_15 : IsNm (Str.ofString "at") 15 := ⟨by decide, rfl⟩
theorem nm_16 : IsNm (Str.ofString "outs") 16 := ⟨by decide, rfl⟩
theorem nm_17 : IsNm (Str.ofString "m") 17 := ⟨by decide, rfl⟩
theorem sk__law_box {w : World} {h₀ : Heap} (B : Base w h₀) {l : Addr} {vals : List Value} {xs : List Int} (hl : h₀.IsList l vals.toArray) (hi : IntsAre vals xs) (hlen : vals.length ≤ 1048576) : SFc PR w h₀ 1 (.ref 459) (fn__law_box l xs) := by
  unfold fn__law_box
  refine SFc.boxN (params := [Str.ofString "script"]) (slots := nl__law_box) ?_ rfl rfl rfl
  exact WFc.ofDef (body := bodyOf (hSt 90)) (names := nl__law_box) (g := (ps__law_box l xs)) [408345935179892, 402925602104690, 23228280, 23159411, 23686772] (B.K 459 (hO "function" (.func (fData (hSt 90) (Str.ofString "_law_box") mE 458))) (by kernel_rfl)) rfl B.lim (codeRec_of B.K (by kernel_rfl)) (by kernel_rfl) (by kernel_rfl) (by kernel_rfl) (by kernel_rfl) (arS fun _ => ar0 (by kernel_rfl)) (by kernel_rfl) (by kernel_rfl) (by kernel_rfl) (by kernel_rfl) (by kernel_rfl) (by kernel_rfl) (by kernel_rfl) fun env F => by
    (conv => arg 7; whnf)
    exact (WS.cons (WX.assign (WE.list (WL.cons (WE.compN (inames := [(Str.ofString ".0", .local), (Str.ofString "number", .local), (Str.ofString "abs", .globalImplicit), (Str.ofString "int", .globalImplicit)]) [77360, 402925602104690, 23159411, 23686772] F rfl (WI.list (WE.sliceTop 24 hl hi hlen (WE.loc F .head))) rfl (by rfl) (by kernel_rfl) (by kernel_rfl) (fun ienv FI => (WJ.name FI (.tail .head))) (fun ienv FI => (WE.callB (WE.blt FI (g_abs B) (.tail (.tail .head))) WF.abs (WL.cons (WE.callT (WE.blt FI (g_int B) (.tail (.tail (.tail .head)))) WF.int (WL.cons (WE.loc FI (.tail .head)) WL.nil rfl)) WL.nil rfl))) rfl) (WL.cons (WE.int _ _ _) WL.nil rfl) rfl)) (WJ.name F (.tail (.tail .head))) rfl)
      (WS.cons (WX.weak (WX.for_ (WI.list (WE.sliceTop 24 hl hi hlen (WE.loc F .head))) (WJ.name F (.tail .head)) (WS.cons (WX.assign (WE.bin (WE.bin (WE.bin (WE.sub (WE.loc F (.tail (.tail .head))) (WE.int _ _ _) rfl) (WE.int _ _ _)) (WE.callB (WE.blt F (g_abs B) (.tail (.tail (.tail .head)))) WF.abs (WL.cons (WE.callT (WE.blt F (g_int B) (.tail (.tail (.tail (.tail .head))))) WF.int (WL.cons (WE.loc F (.tail .head)) WL.nil rfl)) WL.nil rfl))) (WE.int _ _ _)) (WJ.sub (WE.loc F (.tail (.tail .head))) (WE.int _ _ _)) rfl)
      WS.nil) rfl))
      (WS.cons (WX.ret (WE.loc F (.tail (.tail .head))))
      WS.nil)))
theorem sf__law_box {w : World} {h₀ : Heap} (B : Base w h₀) {l : Addr} {vals : List Value} {xs : List Int} (hl : h₀.IsList l vals.toArray) (hi : IntsAre vals xs) (hlen : vals.length ≤ 1048576) : WF PR w h₀ 1 (.ref 459) (fn__law_box l xs) := ⟨(sk__law_box B hl hi hlen).v⟩
theorem ss_law {w : World} {h₀ : Heap} (B : Base w h₀) {l : Addr} {vals : List Value} {xs : List Int} (hl : h₀.IsList l vals.toArray) (hi : IntsAre vals xs) (hlen : vals.length ≤ 1048576) (env : Env) (c : Addr) (F : FE env nl_law) (hc : env.cells.lookup (Str.ofString "box") = some c) :
    WS PR w h₀ 6 env nl_law (bodyOf (hSt 103)) (ps_law l xs) := by
  (conv => arg 7; whnf)
  exact (WS.cons (WX.assign (WE.call (WE.glob F (B.gRef 85 rfl) (.tail (.tail (.tail (.tail (.tail (.tail (.tail (.tail (.tail (.tail (.tail (.tail (.tail (.tail .head))))))))))))))) (B.keep 56 rfl) ((sf__law_box B hl hi hlen).level rfl) (WL.cons (WE.loc F .head) WL.nil rfl)) (WJ.cell F (.tail .head) (by kernel_rfl)) rfl)
      (WS.cons (WX.swap2 F (.tail (.tail .head)) (.tail (.tail (.tail .head))) rfl rfl rfl rfl rfl rfl (WE.tup (WL.cons (WE.call (WE.glob F (B.gRef 84 rfl) (.tail (.tail (.tail (.tail (.tail (.tail (.tail (.tail (.tail (.tail (.tail (.tail (.tail (.tail (.tail .head)))))))))))))))) (B.keep 55 rfl) ((t__law_take B).2.2.level rfl) (WL.cons (WE.cell F (.tail .head)) (WL.cons (WE.int _ _ _) WL.nil rfl) rfl)) (WL.cons (WE.dict2 nm_15 nm_16 (WE.int _ _ _) (WE.list WL.nil)) WL.nil rfl) rfl)))
      (WS.cons (WX.if_ (WT.cmp (WE.call (WE.glob F (B.gRef 84 rfl) (.tail (.tail (.tail (.tail (.tail (.tail (.tail (.tail (.tail (.tail (.tail (.tail (.tail (.tail (.tail .head)))))))))))))))) (B.keep 55 rfl) ((t__law_take B).2.2.level rfl) (WL.cons (WE.cell F (.tail .head)) (WL.cons (WE.int _ _ _) WL.nil rfl) rfl)) (WE.int _ _ _) rfl) (WS.cons (WX.assign (WE.ifExp (WT.cmp (WE.loc F (.tail (.tail .head))) (WE.int _ _ _) rfl) (WE.bin (WE.int _ _ _) (WE.bin (WE.loc F (.tail (.tail .head))) (WE.int _ _ _))) (WE.bin (WE.bin (WE.int _ _ _) (WE.bin (WE.bin (WE.bin (WE.loc F (.tail (.tail .head))) (WE.int _ _ _)) (WE.int _ _ _)) (WE.int _ _ _))) (WE.bin (WE.loc F (.tail (.tail .head))) (WE.int _ _ _)))) (WJ.name F (.tail (.tail .head))) rfl)
      WS.nil) WS.nil)
      (WS.cons (WX.assignT F (WE.tup (WL.cons (WE.compC (inames := [(Str.ofString ".0", .local), (Str.ofString "at", .local), (Str.ofString "_law_take", .globalImplicit), (Str.ofString "box", .free)]) [77360, 90484, 6482616824352747907941, 23228280] F (.tail .head) hc rfl (WI.range 8 (by decide) (WE.blt F (g_range B) (.tail (.tail (.tail (.tail (.tail (.tail (.tail (.tail (.tail (.tail (.tail (.tail (.tail (.tail (.tail (.tail .head))))))))))))))))) (WE.int _ _ _) rfl) (clos4 rfl rfl rfl rfl hc) rfl (by rfl) (freeOne_of (by kernel_rfl)) (by kernel_rfl) (by kernel_rfl) (fun ienv FI => (WJ.name FI (.tail .head))) (fun ienv FI => (WE.call (WE.glob FI (B.gRef 84 rfl) (.tail (.tail .head))) (B.keep 55 rfl) ((t__law_take B).2.2.level rfl) (WL.cons (WE.free FI (.tail (.tail (.tail .head)))) (WL.cons (WE.int _ _ _) WL.nil rfl) rfl))) rfl) (WL.cons (WE.compC (inames := [(Str.ofString ".0", .local), (Str.ofString "at", .local), (Str.ofString "_law_take", .globalImplicit), (Str.ofString "box", .free)]) [77360, 90484, 6482616824352747907941, 23228280] F (.tail .head) hc rfl (WI.range 3 (by decide) (WE.blt F (g_range B) (.tail (.tail (.tail (.tail (.tail (.tail (.tail (.tail (.tail (.tail (.tail (.tail (.tail (.tail (.tail (.tail .head))))))))))))))))) (WE.int _ _ _) rfl) (clos4 rfl rfl rfl rfl hc) rfl (by rfl) (freeOne_of (by kernel_rfl)) (by kernel_rfl) (by kernel_rfl) (fun ienv FI => (WJ.name FI (.tail .head))) (fun ienv FI => (WE.call (WE.glob FI (B.gRef 84 rfl) (.tail (.tail .head))) (B.keep 55 rfl) ((t__law_take B).2.2.level rfl) (WL.cons (WE.free FI (.tail (.tail (.tail .head)))) (WL.cons (WE.int _ _ _) WL.nil rfl) rfl))) rfl) WL.nil rfl) rfl)) (WJ.tup (WJs.cons (WJ.sub (WE.loc F (.tail (.tail (.tail .head)))) (WE.str nm_0)) (WJs.cons (WJ.sub (WE.loc F (.tail (.tail (.tail .head)))) (WE.str nm_14)) WJs.nil rfl) rfl)) rfl rfl)
      (WS.cons (WX.assign (WE.compC (inames := [(Str.ofString ".0", .local), (Str.ofString "at", .local), (Str.ofString "_law_take", .globalImplicit), (Str.ofString "box", .free)]) [77360, 90484, 6482616824352747907941, 23228280] F (.tail .head) hc rfl (WI.range 64 (by decide) (WE.blt F (g_range B) (.tail (.tail (.tail (.tail (.tail (.tail (.tail (.tail (.tail (.tail (.tail (.tail (.tail (.tail (.tail (.tail .head))))))))))))))))) (WE.int _ _ _) rfl) (clos4 rfl rfl rfl rfl hc) rfl (by rfl) (freeOne_of (by kernel_rfl)) (by kernel_rfl) (by kernel_rfl) (fun ienv FI => (WJ.name FI (.tail .head))) (fun ienv FI => (WE.call (WE.glob FI (B.gRef 84 rfl) (.tail (.tail .head))) (B.keep 55 rfl) ((t__law_take B).2.2.level rfl) (WL.cons (WE.free FI (.tail (.tail (.tail .head)))) (WL.cons (WE.int _ _ _) WL.nil rfl) rfl))) rfl) (WJ.sub (WE.loc F (.tail (.tail (.tail .head)))) (WE.str nm_17)) rfl)
      (WS.cons (WX.assign (WE.compC (inames := [(Str.ofString ".0", .local), (Str.ofString "many", .local), (Str.ofString "_law_take", .globalImplicit), (Str.ofString "box", .free)]) [77360, 6130069113, 6482616824352747907941, 23228280] F (.tail .head) hc rfl (WI.tup (WE.tup (WL.cons (WE.int _ _ _) (WL.cons (WE.int _ _ _) (WL.cons (WE.int _ _ _) (WL.cons (WE.int _ _ _) WL.nil rfl) rfl) rfl) rfl))) (clos4 rfl rfl rfl rfl hc) rfl (by rfl) (freeOne_of (by kernel_rfl)) (by kernel_rfl) (by kernel_rfl) (fun ienv FI => (WJ.name FI (.tail .head))) (fun ienv FI => (WE.call (WE.glob FI (B.gRef 84 rfl) (.tail (.tail .head))) (B.keep 55 rfl) ((t__law_take B).2.2.level rfl) (WL.cons (WE.free FI (.tail (.tail (.tail .head)))) (WL.cons (WE.loc FI (.tail .head)) WL.nil rfl) rfl))) rfl) (WJ.tupL (WJs.cons (WJ.sub (WE.loc F (.tail (.tail (.tail .head)))) (WE.str nm_4)) (WJs.cons (WJ.sub (WE.loc F (.tail (.tail (.tail .head)))) (WE.str nm_5)) (WJs.cons (WJ.sub (WE.loc F (.tail (.tail (.tail .head)))) (WE.str nm_6)) (WJs.cons (WJ.sub (WE.loc F (.tail (.tail (.tail .head)))) (WE.str nm_7)) WJs.nil rfl) rfl) rfl) rfl)) rfl)
      (WS.cons (WX.assignT F (WE.tup (WL.cons (WE.call (WE.glob F (B.gRef 84 rfl) (.tail (.tail (.tail (.tail (.tail (.tail (.tail (.tail (.tail (.tail (.tail (.tail (.tail (.tail (.tail .head)))))))))))))))) (B.keep 55 rfl) ((t__law_take B).2.2.level rfl) (WL.cons (WE.cell F (.tail .head)) (WL.cons (WE.int _ _ _) WL.nil rfl) rfl)) (WL.cons (WE.call (WE.glob F (B.gRef 84 rfl) (.tail (.tail (.tail (.tail (.tail (.tail (.tail (.tail (.tail (.tail (.tail (.tail (.tail (.tail (.tail .head)))))))))))))))) (B.keep 55 rfl) ((t__law_take B).2.2.level rfl) (WL.cons (WE.cell F (.tail .head)) (WL.cons (WE.int _ _ _) WL.nil rfl) rfl)) (WL.cons (WE.call (WE.glob F (B.gRef 84 rfl) (.tail (.tail (.tail (.tail (.tail (.tail (.tail (.tail (.tail (.tail (.tail (.tail (.tail (.tail (.tail .head)))))))))))))))) (B.keep 55 rfl) ((t__law_take B).2.2.level rfl) (WL.cons (WE.cell F (.tail .head)) (WL.cons (WE.int _ _ _) WL.nil rfl) rfl)) WL.nil rfl) rfl) rfl)) (WJ.tup (WJs.cons (WJ.sub (WE.loc F (.tail (.tail (.tail .head)))) (WE.str nm_8)) (WJs.cons (WJ.sub (WE.loc F (.tail (.tail (.tail .head)))) (WE.str nm_9)) (WJs.cons (WJ.sub (WE.loc F (.tail (.tail (.tail .head)))) (WE.str nm_10)) WJs.nil rfl) rfl) rfl)) rfl rfl)
      (WS.cons (WX.if_ (WT.cmp (WE.loc F (.tail (.tail .head))) (WE.int _ _ _) rfl) (WS.cons (WX.assign (WE.ifExp (WT.cmp (WE.bin (WE.loc F (.tail (.tail .head))) (WE.int _ _ _)) (WE.int _ _ _) rfl) (WE.tup (WL.cons (WE.int _ _ _) (WL.cons (WE.bin (WE.int _ _ _) (WE.bin (WE.sub (WE.sub (WE.loc F (.tail (.tail (.tail .head)))) (WE.str nm_0) rfl) (WE.int _ _ _) rfl) (WE.int _ _ _))) WL.nil rfl) rfl)) (WE.tup (WL.cons (WE.bin (WE.int _ _ _) (WE.bin (WE.sub (WE.sub (WE.loc F (.tail (.tail (.tail .head)))) (WE.str nm_0) rfl) (WE.int _ _ _) rfl) (WE.int _ _ _))) (WL.cons (WE.sub (WE.sub (WE.loc F (.tail (.tail (.tail .head)))) (WE.str nm_0) rfl) (WE.int _ _ _) rfl) WL.nil rfl) rfl))) (WJ.tup (WJs.cons (WJ.sub (WE.sub (WE.loc F (.tail (.tail (.tail .head)))) (WE.str nm_0) rfl) (WE.int _ _ _)) (WJs.cons (WJ.sub (WE.sub (WE.loc F (.tail (.tail (.tail .head)))) (WE.str nm_0) rfl) (WE.int _ _ _)) WJs.nil rfl) rfl)) rfl)
      WS.nil) WS.nil)
      (WS.cons (WX.weak (WX.assignL (WE.tup (WL.cons (WE.call (WE.glob F (B.gRef 97 rfl) (.tail (.tail (.tail (.tail (.tail (.tail (.tail (.tail (.tail (.tail (.tail (.tail (.tail (.tail (.tail (.tail (.tail .head)))))))))))))))))) (B.keep 68 rfl) ((t__law_cpu B).2.2.level rfl) (WL.cons (WE.loc F (.tail (.tail (.tail .head)))) WL.nil rfl)) (WL.cons (WE.call (WE.glob F (B.gRef 97 rfl) (.tail (.tail (.tail (.tail (.tail (.tail (.tail (.tail (.tail (.tail (.tail (.tail (.tail (.tail (.tail (.tail (.tail .head)))))))))))))))))) (B.keep 68 rfl) ((t__law_cpu B).2.2.level rfl) (WL.cons (WE.loc F (.tail (.tail (.tail .head)))) WL.nil rfl)) (WL.cons (WE.callT (WE.blt F (g_list B) (.tail (.tail (.tail (.tail (.tail (.tail (.tail (.tail (.tail (.tail (.tail (.tail (.tail (.tail (.tail (.tail (.tail (.tail .head))))))))))))))))))) WF.list (WL.cons (WE.sub (WE.loc F (.tail (.tail (.tail .head)))) (WE.str nm_17) rfl) WL.nil rfl)) (WL.cons (WE.callT (WE.blt F (g_list B) (.tail (.tail (.tail (.tail (.tail (.tail (.tail (.tail (.tail (.tail (.tail (.tail (.tail (.tail (.tail (.tail (.tail (.tail .head))))))))))))))))))) WF.list (WL.cons (WE.sub (WE.loc F (.tail (.tail (.tail .head)))) (WE.str nm_17) rfl) WL.nil rfl)) WL.nil rfl) rfl) rfl) rfl)) (WJ.tup (WJs.cons (WJ.name F (.tail (.tail (.tail (.tail .head))))) (WJs.cons (WJ.name F (.tail (.tail (.tail (.tail (.tail .head)))))) (WJs.cons (WJ.name F (.tail (.tail (.tail (.tail (.tail (.tail .head))))))) (WJs.cons (WJ.name F (.tail (.tail (.tail (.tail (.tail (.tail (.tail .head)))))))) WJs.nil rfl) rfl) rfl) rfl)) rfl))
      (WS.cons (WX.swap2 F (.tail (.tail (.tail (.tail (.tail (.tail (.tail (.tail .head)))))))) (.tail (.tail (.tail (.tail (.tail (.tail (.tail (.tail (.tail .head))))))))) rfl rfl rfl rfl rfl rfl (WE.tup (WL.cons (WE.call (WE.glob F (B.gRef 100 rfl) (.tail (.tail (.tail (.tail (.tail (.tail (.tail (.tail (.tail (.tail (.tail (.tail (.tail (.tail (.tail (.tail (.tail (.tail (.tail .head)))))))))))))))))))) (B.keep 71 rfl) ((sw_Ports B).level rfl) (WL.cons (WE.callT (WE.blt F (g_list B) (.tail (.tail (.tail (.tail (.tail (.tail (.tail (.tail (.tail (.tail (.tail (.tail (.tail (.tail (.tail (.tail (.tail (.tail .head))))))))))))))))))) WF.list (WL.cons (WE.sub (WE.loc F (.tail (.tail (.tail .head)))) (WE.str nm_14) rfl) WL.nil rfl)) WL.nil rfl)) (WL.cons (WE.call (WE.glob F (B.gRef 100 rfl) (.tail (.tail (.tail (.tail (.tail (.tail (.tail (.tail (.tail (.tail (.tail (.tail (.tail (.tail (.tail (.tail (.tail (.tail (.tail .head)))))))))))))))))))) (B.keep 71 rfl) ((sw_Ports B).level rfl) (WL.cons (WE.callT (WE.blt F (g_list B) (.tail (.tail (.tail (.tail (.tail (.tail (.tail (.tail (.tail (.tail (.tail (.tail (.tail (.tail (.tail (.tail (.tail (.tail .head))))))))))))))))))) WF.list (WL.cons (WE.sub (WE.loc F (.tail (.tail (.tail .head)))) (WE.str nm_14) rfl) WL.nil rfl)) WL.nil rfl)) WL.nil rfl) rfl)))
      (WS.cons (WX.trunc (WX.assign (WE.sub (WE.call (WE.glob F (B.gRef 60 rfl) (.tail (.tail (.tail (.tail (.tail (.tail (.tail (.tail (.tail (.tail (.tail (.tail (.tail (.tail (.tail (.tail (.tail (.tail (.tail (.tail .head))))))))))))))))))))) (B.keep 31 rfl) ((t_ed_plans B).2.2.level rfl) WL.nil) (WE.loc F (.tail (.tail .head))) rfl) (WJ.name F (.tail (.tail (.tail (.tail (.tail (.tail (.tail (.tail (.tail (.tail .head))))))))))) rfl))
      (WS.cons (WX.weak (WX.for_ (WI.range 10 (by decide) (WE.blt F (g_range B) (.tail (.tail (.tail (.tail (.tail (.tail (.tail (.tail (.tail (.tail (.tail (.tail (.tail (.tail (.tail (.tail .head))))))))))))))))) (WE.int _ _ _) rfl) (WJ.name F (.tail (.tail (.tail (.tail (.tail (.tail (.tail (.tail (.tail (.tail (.tail .head)))))))))))) (WS.trunc (WS.cons (WX.assign (WE.sub (WE.loc F (.tail (.tail (.tail .head)))) (WE.str nm_5) rfl) (WJ.name F (.tail (.tail (.tail (.tail (.tail (.tail (.tail (.tail (.tail (.tail (.tail (.tail .head))))))))))))) rfl)
      (WS.cons (WX.assign (WE.call (WE.glob F (B.gRef 96 rfl) (.tail (.tail (.tail (.tail (.tail (.tail (.tail (.tail (.tail (.tail (.tail (.tail (.tail (.tail (.tail (.tail (.tail (.tail (.tail (.tail (.tail .head)))))))))))))))))))))) (B.keep 67 rfl) ((t__law_due B).2.2.level rfl) (WL.cons (WE.loc F (.tail (.tail (.tail .head)))) (WL.cons (WE.loc F (.tail (.tail .head))) WL.nil rfl) rfl)) (WJ.name F (.tail (.tail (.tail (.tail (.tail (.tail (.tail (.tail (.tail (.tail (.tail (.tail (.tail .head)))))))))))))) rfl)
      (WS.cons (WX.if_ (WT.boolOp (WA.or (WT.cmp (WE.call (WE.glob F (B.gRef 73 rfl) (.tail (.tail (.tail (.tail (.tail (.tail (.tail (.tail (.tail (.tail (.tail (.tail (.tail (.tail (.tail (.tail (.tail (.tail (.tail (.tail (.tail (.tail .head))))))))))))))))))))))) (B.keep 44 rfl) ((t_do_ed B).2.2.level rfl) (WL.cons (WE.loc F (.tail (.tail (.tail (.tail .head))))) (WL.cons (WE.loc F (.tail (.tail (.tail (.tail (.tail (.tail .head))))))) (WL.cons (WE.loc F (.tail (.tail (.tail (.tail (.tail (.tail (.tail (.tail .head))))))))) (WL.cons (WE.loc F (.tail (.tail .head))) WL.nil rfl) rfl) rfl) rfl)) (WE.loc F (.tail (.tail (.tail (.tail (.tail (.tail (.tail (.tail (.tail (.tail (.tail (.tail (.tail .head)))))))))))))) rfl) (WA.or (WT.cmp (WE.call (WE.glob F (B.gRef 72 rfl) (.tail (.tail (.tail (.tail (.tail (.tail (.tail (.tail (.tail (.tail (.tail (.tail (.tail (.tail (.tail (.tail (.tail (.tail (.tail (.tail (.tail (.tail (.tail .head)))))))))))))))))))))))) (B.keep 43 rfl) ((t_do_ed_plan B).2.2.level rfl) (WL.cons (WE.loc F (.tail (.tail (.tail (.tail (.tail (.tail (.tail (.tail (.tail (.tail .head))))))))))) (WL.cons (WE.loc F (.tail (.tail (.tail (.tail (.tail .head)))))) (WL.cons (WE.loc F (.tail (.tail (.tail (.tail (.tail (.tail (.tail .head)))))))) (WL.cons (WE.loc F (.tail (.tail (.tail (.tail (.tail (.tail (.tail (.tail (.tail .head)))))))))) WL.nil rfl) rfl) rfl) rfl)) (WE.loc F (.tail (.tail (.tail (.tail (.tail (.tail (.tail (.tail (.tail (.tail (.tail (.tail (.tail .head)))))))))))))) rfl) WA.orNil))) (WS.cons (WX.ret (WE.bool _ _ _))
      WS.nil) WS.nil)
      (WS.cons (WX.if_ (WT.boolOp (WA.or (WT.neSame (WE.call (WE.glob F (B.gRef 29 rfl) (.tail (.tail (.tail (.tail (.tail (.tail (.tail (.tail (.tail (.tail (.tail (.tail (.tail (.tail (.tail (.tail (.tail (.tail (.tail (.tail (.tail (.tail (.tail (.tail .head))))))))))))))))))))))))) (B.keep 0 rfl) ((t_cpu_row B).2.2.level rfl) (WL.cons (WE.loc F (.tail (.tail (.tail (.tail .head))))) WL.nil rfl)) (WE.call (WE.glob F (B.gRef 29 rfl) (.tail (.tail (.tail (.tail (.tail (.tail (.tail (.tail (.tail (.tail (.tail (.tail (.tail (.tail (.tail (.tail (.tail (.tail (.tail (.tail (.tail (.tail (.tail (.tail .head))))))))))))))))))))))))) (B.keep 0 rfl) ((t_cpu_row B).2.2.level rfl) (WL.cons (WE.call (WE.glob F (B.gRef 97 rfl) (.tail (.tail (.tail (.tail (.tail (.tail (.tail (.tail (.tail (.tail (.tail (.tail (.tail (.tail (.tail (.tail (.tail .head)))))))))))))))))) (B.keep 68 rfl) ((t__law_cpu B).2.2.level rfl) (WL.cons (WE.loc F (.tail (.tail (.tail .head)))) WL.nil rfl)) WL.nil rfl)) rfl) (WA.or (WT.neSame (WE.call (WE.glob F (B.gRef 29 rfl) (.tail (.tail (.tail (.tail (.tail (.tail (.tail (.tail (.tail (.tail (.tail (.tail (.tail (.tail (.tail (.tail (.tail (.tail (.tail (.tail (.tail (.tail (.tail (.tail .head))))))))))))))))))))))))) (B.keep 0 rfl) ((t_cpu_row B).2.2.level rfl) (WL.cons (WE.loc F (.tail (.tail (.tail (.tail (.tail .head)))))) WL.nil rfl)) (WE.call (WE.glob F (B.gRef 29 rfl) (.tail (.tail (.tail (.tail (.tail (.tail (.tail (.tail (.tail (.tail (.tail (.tail (.tail (.tail (.tail (.tail (.tail (.tail (.tail (.tail (.tail (.tail (.tail (.tail .head))))))))))))))))))))))))) (B.keep 0 rfl) ((t_cpu_row B).2.2.level rfl) (WL.cons (WE.loc F (.tail (.tail (.tail (.tail .head))))) WL.nil rfl)) rfl) (WA.or (WT.neSame (WE.loc F (.tail (.tail (.tail (.tail (.tail (.tail .head))))))) (WE.sub (WE.loc F (.tail (.tail (.tail .head)))) (WE.str nm_17) rfl) rfl) (WA.or (WT.neSame (WE.loc F (.tail (.tail (.tail (.tail (.tail (.tail (.tail .head)))))))) (WE.loc F (.tail (.tail (.tail (.tail (.tail (.tail .head))))))) rfl) WA.orNil))))) (WS.cons (WX.ret (WE.bool _ _ _))
      WS.nil) WS.nil)
      (WS.cons (WX.if_ (WT.boolOp (WA.or (WT.neSame (WE.tup (WL.cons (WE.attr (B.attr 15 rfl) (WE.loc F (.tail (.tail (.tail (.tail (.tail (.tail (.tail (.tail .head)))))))))) (WL.cons (WE.attr (B.attr 14 rfl) (WE.loc F (.tail (.tail (.tail (.tail (.tail (.tail (.tail (.tail .head)))))))))) WL.nil rfl) rfl)) (WE.tup (WL.cons (WE.sub (WE.loc F (.tail (.tail (.tail .head)))) (WE.str nm_15) rfl) (WL.cons (WE.sub (WE.loc F (.tail (.tail (.tail .head)))) (WE.str nm_16) rfl) WL.nil rfl) rfl)) rfl) (WA.or (WT.neSame (WE.tup (WL.cons (WE.attr (B.attr 15 rfl) (WE.loc F (.tail (.tail (.tail (.tail (.tail (.tail (.tail (.tail (.tail .head))))))))))) (WL.cons (WE.attr (B.attr 14 rfl) (WE.loc F (.tail (.tail (.tail (.tail (.tail (.tail (.tail (.tail (.tail .head))))))))))) WL.nil rfl) rfl)) (WE.tup (WL.cons (WE.sub (WE.loc F (.tail (.tail (.tail .head)))) (WE.str nm_15) rfl) (WL.cons (WE.sub (WE.loc F (.tail (.tail (.tail .head)))) (WE.str nm_16) rfl) WL.nil rfl) rfl)) rfl) WA.orNil))) (WS.cons (WX.ret (WE.bool _ _ _))
      WS.nil) WS.nil)
      (WS.cons (WX.if_ (WT.cmp (WE.loc F (.tail (.tail (.tail (.tail (.tail (.tail (.tail (.tail (.tail (.tail (.tail (.tail (.tail .head)))))))))))))) (WE.int _ _ _) rfl) (WS.cons (WX.ret (WE.bool _ _ _))
      WS.nil) WS.nil)
      (WS.cons (WX.if_ (WT.cmp (WE.sub (WE.loc F (.tail (.tail (.tail .head)))) (WE.str nm_5) rfl) (WE.bin (WE.bin (WE.loc F (.tail (.tail (.tail (.tail (.tail (.tail (.tail (.tail (.tail (.tail (.tail (.tail .head))))))))))))) (WE.int _ _ _)) (WE.int _ _ _)) rfl) (WS.cons (WX.ret (WE.bool _ _ _))
      WS.nil) WS.nil)
      (WS.cons (WX.assignT F (WE.tup (WL.cons (WE.loc F (.tail (.tail (.tail (.tail (.tail (.tail (.tail (.tail (.tail (.tail (.tail (.tail .head))))))))))))) (WL.cons (WE.loc F (.tail (.tail (.tail (.tail (.tail (.tail (.tail (.tail (.tail (.tail (.tail (.tail .head))))))))))))) (WL.cons (WE.loc F (.tail (.tail (.tail (.tail (.tail (.tail (.tail (.tail (.tail (.tail (.tail (.tail .head))))))))))))) WL.nil rfl) rfl) rfl)) (WJ.tup (WJs.cons (WJ.sub (WE.loc F (.tail (.tail (.tail .head)))) (WE.str nm_5)) (WJs.cons (WJ.attr (B.attr 8 rfl) (WE.loc F (.tail (.tail (.tail (.tail .head)))))) (WJs.cons (WJ.attr (B.attr 8 rfl) (WE.loc F (.tail (.tail (.tail (.tail (.tail .head))))))) WJs.nil rfl) rfl) rfl)) rfl rfl)
      WS.nil))))))))) rfl))
      (WS.cons (WX.ret (WE.bool _ _ _))
      WS.nil)))))))))))))
structure St where
  r0 : Int
  r1 : Int
  r2 : Int
  r3 : Int
  r4 : Int
  r5 : Int
  r6 : Int
  r7 : Int
  sp : Int
  pc : Int
  ii : Int
  rf : Int
  f1 : Int
  f2 : Int
  md : Int
  pt : Int
  m : List Int
  outs : List V
noncomputable def z8 : O := .nums [0, 0, 0, 0, 0, 0, 0, 0]
noncomputable def dictO (pt sp pc ii rf f1 f2 md : Int) : O := .dict [(15, .int pt), (16, .obj 4), (0, .obj 6), (14, .obj 7), (17, .obj 8), (4, .int sp), (5, .int pc), (6, .int ii), (7, .int rf), (8, .int f1), (9, .int f2), (10, .int md)]
noncomputable def cpuO (r z : Nat) (sp pc ii rf f1 f2 md : Int) : O := .ns [(0, .obj r), (1, .obj z), (2, .int 0), (3, .int 0), (4, .int sp), (5, .int pc), (6, .int ii), (7, .int rf), (8, .int f1), (9, .int f2), (10, .int md), (11, .bool false), (12, .bool false), (13, .int 0)]
noncomputable def portsO (i o : Nat) (pt : Int) : O := .ns [(14, .obj i), (15, .int pt), (16, .obj o)]
noncomputable def HH (g : Nat → O) (ins : List Int) (d a b : St) (G : List O) : List O :=
  g 0 :: g 1 :: g 2 :: g 3 :: .app d.outs :: dictO d.pt d.sp d.pc d.ii d.rf d.f1 d.f2 d.md :: .nums [d.r0, d.r1, d.r2, d.r3, d.r4, d.r5, d.r6, d.r7] :: .nums ins :: .nums d.m :: g 9
  :: cpuO 16 15 a.sp a.pc a.ii a.rf a.f1 a.f2 a.md :: .inst 31 10 :: g 12 :: g 13 :: g 14 :: z8 :: .nums [a.r0, a.r1, a.r2, a.r3, a.r4, a.r5, a.r6, a.r7]
  :: cpuO 23 22 b.sp b.pc b.ii b.rf b.f1 b.f2 b.md :: .inst 31 17 :: g 19 :: g 20 :: g 21 :: z8 :: .nums [b.r0, b.r1, b.r2, b.r3, b.r4, b.r5, b.r6, b.r7]
  :: .nums a.m :: .nums b.m
  :: .nums ins :: portsO 26 29 a.pt :: .inst 52 27 :: .app a.outs
  :: .nums ins :: portsO 30 33 b.pt :: .inst 52 31 :: .app b.outs :: G
noncomputable def HD (g : Nat → O) (ins : List Int) (a b : St) (G : List O) (r0 r1 r2 r3 r4 r5 r6 r7 sp pc ii rf f1 f2 md pt : Int) (m : List Int) (outs : List V) : List O :=
  g 0 :: g 1 :: g 2 :: g 3 :: .app outs :: dictO pt sp pc ii rf f1 f2 md :: .nums [r0, r1, r2, r3, r4, r5, r6, r7] :: .nums ins :: .nums m :: g 9
  :: cpuO 16 15 a.sp a.pc a.ii a.rf a.f1 a.f2 a.md :: .inst 31 10 :: g 12 :: g 13 :: g 14 :: z8 :: .nums [a.r0, a.r1, a.r2, a.r3, a.r4, a.r5, a.r6, a.r7]
  :: cpuO 23 22 b.sp b.pc b.ii b.rf b.f1 b.f2 b.md :: .inst 31 17 :: g 19 :: g 20 :: g 21 :: z8 :: .nums [b.r0, b.r1, b.r2, b.r3, b.r4, b.r5, b.r6, b.r7]
  :: .nums a.m :: .nums b.m
  :: .nums ins :: portsO 26 29 a.pt :: .inst 52 27 :: .app a.outs
  :: .nums ins :: portsO 30 33 b.pt :: .inst 52 31 :: .app b.outs :: G
noncomputable def HA (g : Nat → O) (ins : List Int) (d b : St) (G : List O) (r0 r1 r2 r3 r4 r5 r6 r7 sp pc ii rf f1 f2 md pt : Int) (m : List Int) (outs : List V) : List O :=
  g 0 :: g 1 :: g 2 :: g 3 :: .app d.outs :: dictO d.pt d.sp d.pc d.ii d.rf d.f1 d.f2 d.md :: .nums [d.r0, d.r1, d.r2, d.r3, d.r4, d.r5, d.r6, d.r7] :: .nums ins :: .nums d.m :: g 9
  :: cpuO 16 15 sp pc ii rf f1 f2 md :: .inst 31 10 :: g 12 :: g 13 :: g 14 :: z8 :: .nums [r0, r1, r2, r3, r4, r5, r6, r7]
  :: cpuO 23 22 b.sp b.pc b.ii b.rf b.f1 b.f2 b.md :: .inst 31 17 :: g 19 :: g 20 :: g 21 :: z8 :: .nums [b.r0, b.r1, b.r2, b.r3, b.r4, b.r5, b.r6, b.r7]
  :: .nums m :: .nums b.m
  :: .nums ins :: portsO 26 29 pt :: .inst 52 27 :: .app outs
  :: .nums ins :: portsO 30 33 b.pt :: .inst 52 31 :: .app b.outs :: G
noncomputable def HB (g : Nat → O) (ins : List Int) (d a : St) (G : List O) (r0 r1 r2 r3 r4 r5 r6 r7 sp pc ii rf f1 f2 md pt : Int) (m : List Int) (outs : List V) : List O :=
  g 0 :: g 1 :: g 2 :: g 3 :: .app d.outs :: dictO d.pt d.sp d.pc d.ii d.rf d.f1 d.f2 d.md :: .nums [d.r0, d.r1, d.r2, d.r3, d.r4, d.r5, d.r6, d.r7] :: .nums ins :: .nums d.m :: g 9
  :: cpuO 16 15 a.sp a.pc a.ii a.rf a.f1 a.f2 a.md :: .inst 31 10 :: g 12 :: g 13 :: g 14 :: z8 :: .nums [a.r0, a.r1, a.r2, a.r3, a.r4, a.r5, a.r6, a.r7]
  :: cpuO 23 22 sp pc ii rf f1 f2 md :: .inst 31 17 :: g 19 :: g 20 :: g 21 :: z8 :: .nums [r0, r1, r2, r3, r4, r5, r6, r7]
  :: .nums a.m :: .nums m
  :: .nums ins :: portsO 26 29 a.pt :: .inst 52 27 :: .app a.outs
  :: .nums ins :: portsO 30 33 pt :: .inst 52 31 :: .app outs :: G
section
variable {g : Nat → O} {ins : List Int} {d a b : St} {G : List O} {r0 r1 r2 r3 r4 r5 r6 r7 sp pc ii rf f1 f2 md pt : Int} {m : List Int} {outs : List V}
theorem fA_sp {x : Int} : (HA g ins d b G r0 r1 r2 r3 r4 r5 r6 r7 sp pc ii rf f1 f2 md pt m outs).set 10 (.ns (fput 4 (.int x) [(0, .obj 16), (1, .obj 15), (2, .int 0), (3, .int 0), (4, .int sp), (5, .int pc), (6, .int ii), (7, .int rf), (8, .int f1), (9, .int f2), (10, .int md), (11, .bool false), (12, .bool false), (13, .int 0)])) = HA g ins d b G r0 r1 r2 r3 r4 r5 r6 r7 x pc ii rf f1 f2 md pt m outs := rfl
theorem fA_pc {x : Int} : (HA g ins d b G r0 r1 r2 r3 r4 r5 r6 r7 sp pc ii rf f1 f2 md pt m outs).set 10 (.ns (fput 5 (.int x) [(0, .obj 16), (1, .obj 15), (2, .int 0), (3, .int 0), (4, .int sp), (5, .int pc), (6, .int ii), (7, .int rf), (8, .int f1), (9, .int f2), (10, .int md), (11, .bool false), (12, .bool false), (13, .int 0)])) = HA g ins d b G r0 r1 r2 r3 r4 r5 r6 r7 sp x ii rf f1 f2 md pt m outs := rfl
theorem fA_ii {x : Int} : (HA g ins d b G r0 r1 r2 r3 r4 r5 r6 r7 sp pc ii rf f1 f2 md pt m outs).set 10 (.ns (fput 6 (.int x) [(0, .obj 16), (1, .obj 15), (2, .int 0), (3, .int 0), (4, .int sp), (5, .int pc), (6, .int ii), (7, .int rf), (8, .int f1), (9, .int f2), (10, .int md), (11, .bool false), (12, .bool false), (13, .int 0)])) = HA g ins d b G r0 r1 r2 r3 r4 r5 r6 r7 sp pc x rf f1 f2 md pt m outs := rfl
theorem fA_rf {x : Int} : (HA g ins d b G r0 r1 r2 r3 r4 r5 r6 r7 sp pc ii rf f1 f2 md pt m outs).set 10 (.ns (fput 7 (.int x) [(0, .obj 16), (1, .obj 15), (2, .int 0), (3, .int 0), (4, .int sp), (5, .int pc), (6, .int ii), (7, .int rf), (8, .int f1), (9, .int f2), (10, .int md), (11, .bool false), (12, .bool false), (13, .int 0)])) = HA g ins d b G r0 r1 r2 r3 r4 r5 r6 r7 sp pc ii x f1 f2 md pt m outs := rfl
theorem fA_f1 {x : Int} : (HA g ins d b G r0 r1 r2 r3 r4 r5 r6 r7 sp pc ii rf f1 f2 md pt m outs).set 10 (.ns (fput 8 (.int x) [(0, .obj 16), (1, .obj 15), (2, .int 0), (3, .int 0), (4, .int sp), (5, .int pc), (6, .int ii), (7, .int rf), (8, .int f1), (9, .int f2), (10, .int md), (11, .bool false), (12, .bool false), (13, .int 0)])) = HA g ins d b G r0 r1 r2 r3 r4 r5 r6 r7 sp pc ii rf x f2 md pt m outs := rfl
theorem fA_f2 {x : Int} : (HA g ins d b G r0 r1 r2 r3 r4 r5 r6 r7 sp pc ii rf f1 f2 md pt m outs).set 10 (.ns (fput 9 (.int x) [(0, .obj 16), (1, .obj 15), (2, .int 0), (3, .int 0), (4, .int sp), (5, .int pc), (6, .int ii), (7, .int rf), (8, .int f1), (9, .int f2), (10, .int md), (11, .bool false), (12, .bool false), (13, .int 0)])) = HA g ins d b G r0 r1 r2 r3 r4 r5 r6 r7 sp pc ii rf f1 x md pt m outs := rfl
theorem fA_md {x : Int} : (HA g ins d b G r0 r1 r2 r3 r4 r5 r6 r7 sp pc ii rf f1 f2 md pt m outs).set 10 (.ns (fput 10 (.int x) [(0, .obj 16), (1, .obj 15), (2, .int 0), (3, .int 0), (4, .int sp), (5, .int pc), (6, .int ii), (7, .int rf), (8, .int f1), (9, .int f2), (10, .int md), (11, .bool false), (12, .bool false), (13, .int 0)])) = HA g ins d b G r0 r1 r2 r3 r4 r5 r6 r7 sp pc ii rf f1 f2 x pt m outs := rfl
theorem fA_pt {x : Int} : (HA g ins d b G r0 r1 r2 r3 r4 r5 r6 r7 sp pc ii rf f1 f2 md pt m outs).set 27 (.ns (fput 15 (.int x) [(14, .obj 26), (15, .int pt), (16, .obj 29)])) = HA g ins d b G r0 r1 r2 r3 r4 r5 r6 r7 sp pc ii rf f1 f2 md x m outs := rfl
theorem fA_r0 {x : Int} : (HA g ins d b G r0 r1 r2 r3 r4 r5 r6 r7 sp pc ii rf f1 f2 md pt m outs).set 16 (.nums [x, r1, r2, r3, r4, r5, r6, r7]) = HA g ins d b G x r1 r2 r3 r4 r5 r6 r7 sp pc ii rf f1 f2 md pt m outs := rfl
theorem fA_r1 {x : Int} : (HA g ins d b G r0 r1 r2 r3 r4 r5 r6 r7 sp pc ii rf f1 f2 md pt m outs).set 16 (.nums [r0, x, r2, r3, r4, r5, r6, r7]) = HA g ins d b G r0 x r2 r3 r4 r5 r6 r7 sp pc ii rf f1 f2 md pt m outs := rfl
theorem fA_r2 {x : Int} : (HA g ins d b G r0 r1 r2 r3 r4 r5 r6 r7 sp pc ii rf f1 f2 md pt m outs).set 16 (.nums [r0, r1, x, r3, r4, r5, r6, r7]) = HA g ins d b G r0 r1 x r3 r4 r5 r6 r7 sp pc ii rf f1 f2 md pt m outs := rfl
theorem fA_r3 {x : Int} : (HA g ins d b G r0 r1 r2 r3 r4 r5 r6 r7 sp pc ii rf f1 f2 md pt m outs).set 16 (.nums [r0, r1, r2, x, r4, r5, r6, r7]) = HA g ins d b G r0 r1 r2 x r4 r5 r6 r7 sp pc ii rf f1 f2 md pt m outs := rfl
theorem fA_r4 {x : Int} : (HA g ins d b G r0 r1 r2 r3 r4 r5 r6 r7 sp pc ii rf f1 f2 md pt m outs).set 16 (.nums [r0, r1, r2, r3, x, r5, r6, r7]) = HA g ins d b G r0 r1 r2 r3 x r5 r6 r7 sp pc ii rf f1 f2 md pt m outs := rfl
theorem fA_r5 {x : Int} : (HA g ins d b G r0 r1 r2 r3 r4 r5 r6 r7 sp pc ii rf f1 f2 md pt m outs).set 16 (.nums [r0, r1, r2, r3, r4, x, r6, r7]) = HA g ins d b G r0 r1 r2 r3 r4 x r6 r7 sp pc ii rf f1 f2 md pt m outs := rfl
theorem fA_r6 {x : Int} : (HA g ins d b G r0 r1 r2 r3 r4 r5 r6 r7 sp pc ii rf f1 f2 md pt m outs).set 16 (.nums [r0, r1, r2, r3, r4, r5, x, r7]) = HA g ins d b G r0 r1 r2 r3 r4 r5 x r7 sp pc ii rf f1 f2 md pt m outs := rfl
theorem fA_r7 {x : Int} : (HA g ins d b G r0 r1 r2 r3 r4 r5 r6 r7 sp pc ii rf f1 f2 md pt m outs).set 16 (.nums [r0, r1, r2, r3, r4, r5, r6, x]) = HA g ins d b G r0 r1 r2 r3 r4 r5 r6 x sp pc ii rf f1 f2 md pt m outs := rfl
theorem fA_m {x : List Int} : (HA g ins d b G r0 r1 r2 r3 r4 r5 r6 r7 sp pc ii rf f1 f2 md pt m outs).set 24 (.nums x) = HA g ins d b G r0 r1 r2 r3 r4 r5 r6 r7 sp pc ii rf f1 f2 md pt x outs := rfl
theorem fA_o {x : List V} : (HA g ins d b G r0 r1 r2 r3 r4 r5 r6 r7 sp pc ii rf f1 f2 md pt m outs).set 29 (.app x) = HA g ins d b G r0 r1 r2 r3 r4 r5 r6 r7 sp pc ii rf f1 f2 md pt m x := rfl
theorem fA_app {X : List O} : HA g ins d b G r0 r1 r2 r3 r4 r5 r6 r7 sp pc ii rf f1 f2 md pt m outs ++ X = HA g ins d b (G ++ X) r0 r1 r2 r3 r4 r5 r6 r7 sp pc ii rf f1 f2 md pt m outs := rfl
theorem fA_len : (HA g ins d b G r0 r1 r2 r3 r4 r5 r6 r7 sp pc ii rf f1 f2 md pt m outs).length = G.length + 34 := rfl
theorem fB_sp {x : Int} : (HB g ins d a G r0 r1 r2 r3 r4 r5 r6 r7 sp pc ii rf f1 f2 md pt m outs).set 17 (.ns (fput 4 (.int x) [(0, .obj 23), (1, .obj 22), (2, .int 0), (3, .int 0), (4, .int sp), (5, .int pc), (6, .int ii), (7, .int rf), (8, .int f1), (9, .int f2), (10, .int md), (11, .bool false), (12, .bool false), (13, .int 0)])) = HB g ins d a G r0 r1 r2 r3 r4 r5 r6 r7 x pc ii rf f1 f2 md pt m outs := rfl
theorem fB_pc {x : Int} : (HB g ins d a G r0 r1 r2 r3 r4 r5 r6 r7 sp pc ii rf f1 f2 md pt m outs).set 17 (.ns (fput 5 (.int x) [(0, .obj 23), (1, .obj 22), (2, .int 0), (3, .int 0), (4, .int sp), (5, .int pc), (6, .int ii), (7, .int rf), (8, .int f1), (9, .int f2), (10, .int md), (11, .bool false), (12, .bool false), (13, .int 0)])) = HB g ins d a G r0 r1 r2 r3 r4 r5 r6 r7 sp x ii rf f1 f2 md pt m outs := rfl
theorem fB_ii {x : Int} : (HB g ins d a G r0 r1 r2 r3 r4 r5 r6 r7 sp pc ii rf f1 f2 md pt m outs).set 17 (.ns (fput 6 (.int x) [(0, .obj 23), (1, .obj 22), (2, .int 0), (3, .int 0), (4, .int sp), (5, .int pc), (6, .int ii), (7, .int rf), (8, .int f1), (9, .int f2), (10, .int md), (11, .bool false), (12, .bool false), (13, .int 0)])) = HB g ins d a G r0 r1 r2 r3 r4 r5 r6 r7 sp pc x rf f1 f2 md pt m outs := rfl
theorem fB_rf {x : Int} : (HB g ins d a G r0 r1 r2 r3 r4 r5 r6 r7 sp pc ii rf f1 f2 md pt m outs).set 17 (.ns (fput 7 (.int x) [(0, .obj 23), (1, .obj 22), (2, .int 0), (3, .int 0), (4, .int sp), (5, .int pc), (6, .int ii), (7, .int rf), (8, .int f1), (9, .int f2), (10, .int md), (11, .bool false), (12, .bool false), (13, .int 0)])) = HB g ins d a G r0 r1 r2 r3 r4 r5 r6 r7 sp pc ii x f1 f2 md pt m outs := rfl
theorem fB_f1 {x : Int} : (HB g ins d a G r0 r1 r2 r3 r4 r5 r6 r7 sp pc ii rf f1 f2 md pt m outs).set 17 (.ns (fput 8 (.int x) [(0, .obj 23), (1, .obj 22), (2, .int 0), (3, .int 0), (4, .int sp), (5, .int pc), (6, .int ii), (7, .int rf), (8, .int f1), (9, .int f2), (10, .int md), (11, .bool false), (12, .bool false), (13, .int 0)])) = HB g ins d a G r0 r1 r2 r3 r4 r5 r6 r7 sp pc ii rf x f2 md pt m outs := rfl
theorem fB_f2 {x : Int} : (HB g ins d a G r0 r1 r2 r3 r4 r5 r6 r7 sp pc ii rf f1 f2 md pt m outs).set 17 (.ns (fput 9 (.int x) [(0, .obj 23), (1, .obj 22), (2, .int 0), (3, .int 0), (4, .int sp), (5, .int pc), (6, .int ii), (7, .int rf), (8, .int f1), (9, .int f2), (10, .int md), (11, .bool false), (12, .bool false), (13, .int 0)])) = HB g ins d a G r0 r1 r2 r3 r4 r5 r6 r7 sp pc ii rf f1 x md pt m outs := rfl
theorem fB_md {x : Int} : (HB g ins d a G r0 r1 r2 r3 r4 r5 r6 r7 sp pc ii rf f1 f2 md pt m outs).set 17 (.ns (fput 10 (.int x) [(0, .obj 23), (1, .obj 22), (2, .int 0), (3, .int 0), (4, .int sp), (5, .int pc), (6, .int ii), (7, .int rf), (8, .int f1), (9, .int f2), (10, .int md), (11, .bool false), (12, .bool false), (13, .int 0)])) = HB g ins d a G r0 r1 r2 r3 r4 r5 r6 r7 sp pc ii rf f1 f2 x pt m outs := rfl
theorem fB_pt {x : Int} : (HB g ins d a G r0 r1 r2 r3 r4 r5 r6 r7 sp pc ii rf f1 f2 md pt m outs).set 31 (.ns (fput 15 (.int x) [(14, .obj 30), (15, .int pt), (16, .obj 33)])) = HB g ins d a G r0 r1 r2 r3 r4 r5 r6 r7 sp pc ii rf f1 f2 md x m outs := rfl
theorem fB_r0 {x : Int} : (HB g ins d a G r0 r1 r2 r3 r4 r5 r6 r7 sp pc ii rf f1 f2 md pt m outs).set 23 (.nums [x, r1, r2, r3, r4, r5, r6, r7]) = HB g ins d a G x r1 r2 r3 r4 r5 r6 r7 sp pc ii rf f1 f2 md pt m outs := rfl
theorem fB_r1 {x : Int} : (HB g ins d a G r0 r1 r2 r3 r4 r5 r6 r7 sp pc ii rf f1 f2 md pt m outs).set 23 (.nums [r0, x, r2, r3, r4, r5, r6, r7]) = HB g ins d a G r0 x r2 r3 r4 r5 r6 r7 sp pc ii rf f1 f2 md pt m outs := rfl
theorem fB_r2 {x : Int} : (HB g ins d a G r0 r1 r2 r3 r4 r5 r6 r7 sp pc ii rf f1 f2 md pt m outs).set 23 (.nums [r0, r1, x, r3, r4, r5, r6, r7]) = HB g ins d a G r0 r1 x r3 r4 r5 r6 r7 sp pc ii rf f1 f2 md pt m outs := rfl
theorem fB_r3 {x : Int} : (HB g ins d a G r0 r1 r2 r3 r4 r5 r6 r7 sp pc ii rf f1 f2 md pt m outs).set 23 (.nums [r0, r1, r2, x, r4, r5, r6, r7]) = HB g ins d a G r0 r1 r2 x r4 r5 r6 r7 sp pc ii rf f1 f2 md pt m outs := rfl
theorem fB_r4 {x : Int} : (HB g ins d a G r0 r1 r2 r3 r4 r5 r6 r7 sp pc ii rf f1 f2 md pt m outs).set 23 (.nums [r0, r1, r2, r3, x, r5, r6, r7]) = HB g ins d a G r0 r1 r2 r3 x r5 r6 r7 sp pc ii rf f1 f2 md pt m outs := rfl
theorem fB_r5 {x : Int} : (HB g ins d a G r0 r1 r2 r3 r4 r5 r6 r7 sp pc ii rf f1 f2 md pt m outs).set 23 (.nums [r0, r1, r2, r3, r4, x, r6, r7]) = HB g ins d a G r0 r1 r2 r3 r4 x r6 r7 sp pc ii rf f1 f2 md pt m outs := rfl
theorem fB_r6 {x : Int} : (HB g ins d a G r0 r1 r2 r3 r4 r5 r6 r7 sp pc ii rf f1 f2 md pt m outs).set 23 (.nums [r0, r1, r2, r3, r4, r5, x, r7]) = HB g ins d a G r0 r1 r2 r3 r4 r5 x r7 sp pc ii rf f1 f2 md pt m outs := rfl
theorem fB_r7 {x : Int} : (HB g ins d a G r0 r1 r2 r3 r4 r5 r6 r7 sp pc ii rf f1 f2 md pt m outs).set 23 (.nums [r0, r1, r2, r3, r4, r5, r6, x]) = HB g ins d a G r0 r1 r2 r3 r4 r5 r6 x sp pc ii rf f1 f2 md pt m outs := rfl
theorem fB_m {x : List Int} : (HB g ins d a G r0 r1 r2 r3 r4 r5 r6 r7 sp pc ii rf f1 f2 md pt m outs).set 25 (.nums x) = HB g ins d a G r0 r1 r2 r3 r4 r5 r6 r7 sp pc ii rf f1 f2 md pt x outs := rfl
theorem fB_o {x : List V} : (HB g ins d a G r0 r1 r2 r3 r4 r5 r6 r7 sp pc ii rf f1 f2 md pt m outs).set 33 (.app x) = HB g ins d a G r0 r1 r2 r3 r4 r5 r6 r7 sp pc ii rf f1 f2 md pt m x := rfl
theorem fB_app {X : List O} : HB g ins d a G r0 r1 r2 r3 r4 r5 r6 r7 sp pc ii rf f1 f2 md pt m outs ++ X = HB g ins d a (G ++ X) r0 r1 r2 r3 r4 r5 r6 r7 sp pc ii rf f1 f2 md pt m outs := rfl
theorem fB_len : (HB g ins d a G r0 r1 r2 r3 r4 r5 r6 r7 sp pc ii rf f1 f2 md pt m outs).length = G.length + 34 := rfl
theorem fD_sp {x : Int} : (HD g ins a b G r0 r1 r2 r3 r4 r5 r6 r7 sp pc ii rf f1 f2 md pt m outs).set 5 (.dict (fput 4 (.int x) [(15, .int pt), (16, .obj 4), (0, .obj 6), (14, .obj 7), (17, .obj 8), (4, .int sp), (5, .int pc), (6, .int ii), (7, .int rf), (8, .int f1), (9, .int f2), (10, .int md)])) = HD g ins a b G r0 r1 r2 r3 r4 r5 r6 r7 x pc ii rf f1 f2 md pt m outs := rfl
theorem fD_pc {x : Int} : (HD g ins a b G r0 r1 r2 r3 r4 r5 r6 r7 sp pc ii rf f1 f2 md pt m outs).set 5 (.dict (fput 5 (.int x) [(15, .int pt), (16, .obj 4), (0, .obj 6), (14, .obj 7), (17, .obj 8), (4, .int sp), (5, .int pc), (6, .int ii), (7, .int rf), (8, .int f1), (9, .int f2), (10, .int md)])) = HD g ins a b G r0 r1 r2 r3 r4 r5 r6 r7 sp x ii rf f1 f2 md pt m outs := rfl
theorem fD_ii {x : Int} : (HD g ins a b G r0 r1 r2 r3 r4 r5 r6 r7 sp pc ii rf f1 f2 md pt m outs).set 5 (.dict (fput 6 (.int x) [(15, .int pt), (16, .obj 4), (0, .obj 6), (14, .obj 7), (17, .obj 8), (4, .int sp), (5, .int pc), (6, .int ii), (7, .int rf), (8, .int f1), (9, .int f2), (10, .int md)])) = HD g ins a b G r0 r1 r2 r3 r4 r5 r6 r7 sp pc x rf f1 f2 md pt m outs := rfl
theorem fD_rf {x : Int} : (HD g ins a b G r0 r1 r2 r3 r4 r5 r6 r7 sp pc ii rf f1 f2 md pt m outs).set 5 (.dict (fput 7 (.int x) [(15, .int pt), (16, .obj 4), (0, .obj 6), (14, .obj 7), (17, .obj 8), (4, .int sp), (5, .int pc), (6, .int ii), (7, .int rf), (8, .int f1), (9, .int f2), (10, .int md)])) = HD g ins a b G r0 r1 r2 r3 r4 r5 r6 r7 sp pc ii x f1 f2 md pt m outs := rfl
theorem fD_f1 {x : Int} : (HD g ins a b G r0 r1 r2 r3 r4 r5 r6 r7 sp pc ii rf f1 f2 md pt m outs).set 5 (.dict (fput 8 (.int x) [(15, .int pt), (16, .obj 4), (0, .obj 6), (14, .obj 7), (17, .obj 8), (4, .int sp), (5, .int pc), (6, .int ii), (7, .int rf), (8, .int f1), (9, .int f2), (10, .int md)])) = HD g ins a b G r0 r1 r2 r3 r4 r5 r6 r7 sp pc ii rf x f2 md pt m outs := rfl
theorem fD_f2 {x : Int} : (HD g ins a b G r0 r1 r2 r3 r4 r5 r6 r7 sp pc ii rf f1 f2 md pt m outs).set 5 (.dict (fput 9 (.int x) [(15, .int pt), (16, .obj 4), (0, .obj 6), (14, .obj 7), (17, .obj 8), (4, .int sp), (5, .int pc), (6, .int ii), (7, .int rf), (8, .int f1), (9, .int f2), (10, .int md)])) = HD g ins a b G r0 r1 r2 r3 r4 r5 r6 r7 sp pc ii rf f1 x md pt m outs := rfl
theorem fD_md {x : Int} : (HD g ins a b G r0 r1 r2 r3 r4 r5 r6 r7 sp pc ii rf f1 f2 md pt m outs).set 5 (.dict (fput 10 (.int x) [(15, .int pt), (16, .obj 4), (0, .obj 6), (14, .obj 7), (17, .obj 8), (4, .int sp), (5, .int pc), (6, .int ii), (7, .int rf), (8, .int f1), (9, .int f2), (10, .int md)])) = HD g ins a b G r0 r1 r2 r3 r4 r5 r6 r7 sp pc ii rf f1 f2 x pt m outs := rfl
theorem fD_pt {x : Int} : (HD g ins a b G r0 r1 r2 r3 r4 r5 r6 r7 sp pc ii rf f1 f2 md pt m outs).set 5 (.dict (fput 15 (.int x) [(15, .int pt), (16, .obj 4), (0, .obj 6), (14, .obj 7), (17, .obj 8), (4, .int sp), (5, .int pc), (6, .int ii), (7, .int rf), (8, .int f1), (9, .int f2), (10, .int md)])) = HD g ins a b G r0 r1 r2 r3 r4 r5 r6 r7 sp pc ii rf f1 f2 md x m outs := rfl
theorem fD_r0 {x : Int} : (HD g ins a b G r0 r1 r2 r3 r4 r5 r6 r7 sp pc ii rf f1 f2 md pt m outs).set 6 (.nums [x, r1, r2, r3, r4, r5, r6, r7]) = HD g ins a b G x r1 r2 r3 r4 r5 r6 r7 sp pc ii rf f1 f2 md pt m outs := rfl
theorem fD_r1 {x : Int} : (HD g ins a b G r0 r1 r2 r3 r4 r5 r6 r7 sp pc ii rf f1 f2 md pt m outs).set 6 (.nums [r0, x, r2, r3, r4, r5, r6, r7]) = HD g ins a b G r0 x r2 r3 r4 r5 r6 r7 sp pc ii rf f1 f2 md pt m outs := rfl
theorem fD_r2 {x : Int} : (HD g ins a b G r0 r1 r2 r3 r4 r5 r6 r7 sp pc ii rf f1 f2 md pt m outs).set 6 (.nums [r0, r1, x, r3, r4, r5, r6, r7]) = HD g ins a b G r0 r1 x r3 r4 r5 r6 r7 sp pc ii rf f1 f2 md pt m outs := rfl
theorem fD_r3 {x : Int} : (HD g ins a b G r0 r1 r2 r3 r4 r5 r6 r7 sp pc ii rf f1 f2 md pt m outs).set 6 (.nums [r0, r1, r2, x, r4, r5, r6, r7]) = HD g ins a b G r0 r1 r2 x r4 r5 r6 r7 sp pc ii rf f1 f2 md pt m outs := rfl
theorem fD_r4 {x : Int} : (HD g ins a b G r0 r1 r2 r3 r4 r5 r6 r7 sp pc ii rf f1 f2 md pt m outs).set 6 (.nums [r0, r1, r2, r3, x, r5, r6, r7]) = HD g ins a b G r0 r1 r2 r3 x r5 r6 r7 sp pc ii rf f1 f2 md pt m outs := rfl
theorem fD_r5 {x : Int} : (HD g ins a b G r0 r1 r2 r3 r4 r5 r6 r7 sp pc ii rf f1 f2 md pt m outs).set 6 (.nums [r0, r1, r2, r3, r4, x, r6, r7]) = HD g ins a b G r0 r1 r2 r3 r4 x r6 r7 sp pc ii rf f1 f2 md pt m outs := rfl
theorem fD_r6 {x : Int} : (HD g ins a b G r0 r1 r2 r3 r4 r5 r6 r7 sp pc ii rf f1 f2 md pt m outs).set 6 (.nums [r0, r1, r2, r3, r4, r5, x, r7]) = HD g ins a b G r0 r1 r2 r3 r4 r5 x r7 sp pc ii rf f1 f2 md pt m outs := rfl
theorem fD_r7 {x : Int} : (HD g ins a b G r0 r1 r2 r3 r4 r5 r6 r7 sp pc ii rf f1 f2 md pt m outs).set 6 (.nums [r0, r1, r2, r3, r4, r5, r6, x]) = HD g ins a b G r0 r1 r2 r3 r4 r5 r6 x sp pc ii rf f1 f2 md pt m outs := rfl
theorem fD_m {x : List Int} : (HD g ins a b G r0 r1 r2 r3 r4 r5 r6 r7 sp pc ii rf f1 f2 md pt m outs).set 8 (.nums x) = HD g ins a b G r0 r1 r2 r3 r4 r5 r6 r7 sp pc ii rf f1 f2 md pt x outs := rfl
theorem fD_o {x : List V} : (HD g ins a b G r0 r1 r2 r3 r4 r5 r6 r7 sp pc ii rf f1 f2 md pt m outs).set 4 (.app x) = HD g ins a b G r0 r1 r2 r3 r4 r5 r6 r7 sp pc ii rf f1 f2 md pt m x := rfl
theorem fD_app {X : List O} : HD g ins a b G r0 r1 r2 r3 r4 r5 r6 r7 sp pc ii rf f1 f2 md pt m outs ++ X = HD g ins a b (G ++ X) r0 r1 r2 r3 r4 r5 r6 r7 sp pc ii rf f1 f2 md pt m outs := rfl
theorem fD_len : (HD g ins a b G r0 r1 r2 r3 r4 r5 r6 r7 sp pc ii rf f1 f2 md pt m outs).length = G.length + 34 := rfl
end
noncomputable def mg (m : List Int) (x : Int) : Int := m.getD (x % 64).toNat 0
noncomputable def ms (m : List Int) (x v : Int) : List Int := m.set (x % 64).toNat v
noncomputable def ig (ins : List Int) (x : Int) : Int := ins.getD (x % 3).toNat 0
noncomputable def AllB (xs : List Int) : Prop := ∀ x ∈ xs, Byte x
theorem getD_mem {xs : List Int} {i : Nat} (h : i < xs.length) : xs.getD i 0 ∈ xs := by
  rw [List.getD_eq_getElem?_getD, List.getElem?_eq_getElem h]; exact List.getElem_mem h
theorem mg_byte {m : List Int} (hm : m.length = 64) (hb : AllB m) (x : Int) : Byte (mg m x) := hb _ (getD_mem (by lia))
theorem ms_len {m : List Int} {x v : Int} : (ms m x v).length = m.length := List.length_set ..
theorem ms_byte {m : List Int} {x v : Int} (hb : AllB m) (hv : Byte v) : AllB (ms m x v) := fun y hy => by
  rcases List.mem_or_eq_of_mem_set hy with h | rfl
  · exact hb _ h
  · exact hv
theorem ix_n {xs : List Int} {i : Nat} (h1 : i < 1000) (h2 : i < xs.length) : Nat.blt i 4611686018427387904 = true ∧ xs[i]? = some (xs.getD i 0) ∧ Nat.blt i xs.length = true := by
  refine ⟨by rw [Nat.blt_eq]; lia, ?_, by rw [Nat.blt_eq]; exact h2⟩
  rw [List.getD_eq_getElem?_getD, List.getElem?_eq_getElem h2]; rfl
theorem ix_m {m : List Int} (hn : m.length = 64) (x : Int) : x.fmod 64 = Int.ofNat (x % 64).toNat ∧ Nat.blt (x % 64).toNat 4611686018427387904 = true ∧ m[(x % 64).toNat]? = some (mg m x) ∧ Nat.blt (x % 64).toNat m.length = true :=
  ⟨by rw [fmod_pos x (by decide)]; show x % 64 = ((x % 64).toNat : Int); lia, ix_n (by lia) (by lia)⟩
theorem ix_l {m : List Int} (hn : m.length = 64) (x : Int) : x.fmod (m.length : Int) = Int.ofNat (x % 64).toNat ∧ Nat.blt (x % 64).toNat 4611686018427387904 = true ∧ m[(x % 64).toNat]? = some (mg m x) ∧ Nat.blt (x % 64).toNat m.length = true := by
  have := ix_m hn x
  rw [hn] at this ⊢; exact this
theorem ix_3 (i0 i1 i2 x : Int) : x.fmod ((0 + 1 + 1 + 1 : Nat) : Int) = Int.ofNat (x % 3).toNat ∧ Nat.blt (x % 3).toNat 4611686018427387904 = true ∧ [i0, i1, i2][(x % 3).toNat]? = some (ig [i0, i1, i2] x) :=
  have h : (x % 3).toNat < 3 := by lia
  have k := ix_n (xs := [i0, i1, i2]) (i := (x % 3).toNat) (by lia) h
  ⟨by rw [show ((0 + 1 + 1 + 1 : Nat) : Int) = 3 from rfl, fmod_pos x (by decide)]; show x % 3 = ((x % 3).toNat : Int); lia, k.1, k.2.1⟩
theorem ig_byte {i0 i1 i2 : Int} (h0 : Byte i0) (h1 : Byte i1) (h2 : Byte i2) (x : Int) : Byte (ig [i0, i1, i2] x) := by
  have : ig [i0, i1, i2] x ∈ [i0, i1, i2] := getD_mem (by show (x % 3).toNat < 3; lia)
  rcases List.mem_cons.mp this with e | this
  · rw [e]; exact h0
  rcases List.mem_cons.mp this with e | this
  · rw [e]; exact h1
  rcases List.mem_cons.mp this with e | this
  · rw [e]; exact h2
  · cases this
local macro_rules | `(tactic| walk_at "sd") => `(tactic| first | decide | rfl | assumption | lia | omega | trivial | exact Nat.le_of_ble_eq_true rfl | exact ⟨_, rfl, rfl⟩ | (dsimp only; omega))
local macro_rules | `(tactic| walk_at "wh") => `(tactic| (conv => whnf))
local macro_rules | `(tactic| walk_at "st") => `(tactic| first | refine And.intro (by walk_at "sd") ?_ | refine Box.mk ?_)
local macro_rules | `(tactic| walk_at "ev0") => `(tactic| (walk_at "wh"; repeat (walk_at "st"; walk_at "wh")))
theorem and_hi (k : Nat) : ∀ x y : Int, 0 ≤ y → y < 2 ^ k → Builtin.bitAnd (x * 2 ^ k) y = 0 := by
  induction k with
  | zero => intro x y h1 h2; have : y = 0 := by lia
            subst this; rw [bitAnd_comm]; have := bitAnd_range (x * 2 ^ 0) (y := 0) (by decide); rw [bitAnd_comm] at this; lia
  | succ k ih =>
    intro x y h1 h2
    rw [Int.pow_succ] at h2 ⊢
    have e : x * (2 ^ k * 2) = 2 * (x * 2 ^ k) := by rw [← Int.mul_assoc, Int.mul_comm]
    rw [kbt_halves, e]
    have e1 : 2 * (x * 2 ^ k) / 2 = x * 2 ^ k := by omega
    rw [e1, ih x (y / 2) (by lia) (by lia)]
    rw [if_neg (by lia)]; rfl
theorem p3 : (2 : Int) ^ Int.toNat 3 = 8 := by decide
theorem p4 : (2 : Int) ^ Int.toNat 4 = 16 := by decide
theorem p6 : (2 : Int) ^ Int.toNat 6 = 64 := by decide
theorem p8 : (2 : Int) ^ Int.toNat 8 = 256 := by decide
theorem p16 : (2 : Int) ^ Int.toNat 16 = 65536 := by decide
theorem or4 {x y : Int} (h1 : 0 ≤ y) (h2 : y < 16) : Builtin.bitOr (x * 16) y = x * 16 + y := by
  rw [show (16 : Int) = 2 ^ 4 by decide, bitOr_and, and_hi 4 x y h1 (by lia)]; lia
section
variable {H : List O} {Q : V → List O → Prop}
theorem c_szyx {v : Int} (hv : Byte v) (h : Q (.int (told v)) H) : fn_szyx [.int v] H Q := by
  unfold fn_szyx
  walk_at "ev0"
  rw [← szyx_eq hv] at h
  exact h
theorem c_parity {v : Int} (hv : Byte v) (h : Q (.int (par v)) H) : fn_parity [.int v] H Q := by
  unfold fn_parity
  walk_at "ev0"
  rw [← parX_eq hv] at h
  exact h
noncomputable def negF (a : Int) : Int := told ((0 - a) % 256) + 2 + (if a % 16 > 0 then 16 else 0) + (if a = 128 then 4 else 0) + (if a > 0 then 1 else 0)
noncomputable def sub8raw (a b c : Int) : Int :=
  let r := Builtin.bitAnd (a - b - c) 255
  Builtin.bitOr (Builtin.bitOr (Builtin.bitOr (Builtin.bitOr (told r) (Builtin.bitAnd (Builtin.bitXor (Builtin.bitXor a b) r) 16)) (cond (Builtin.bitAnd (Builtin.bitAnd (Builtin.bitXor a b) (Builtin.bitXor a r)) 128 != 0) 4 0)) 2) (cond (decide (a - b - c < 0)) 1 0)
theorem byte_and (x : Int) : Byte (Builtin.bitAnd x 255) := by rw [bitAnd_m8]; unfold Byte; lia
theorem c_sub8 {a b c : Int} (h : Q (.tup [.int (Builtin.bitAnd (a - b - c) 255), .int (sub8raw a b c)]) H) : fn_sub8 [.int a, .int b, .int c] H Q := by
  unfold fn_sub8
  walk_at "ev0"
  refine c_szyx (byte_and _) ?_
  walk_at "ev0"
  exact h
theorem c_neg {a : Int} (ha : Byte a) (h : Q (.tup [.int ((0 - a) % 256), .int (negF a)]) H) : fn_neg [.int a] H Q := by
  unfold fn_neg
  walk_at "ev0"
  refine c_sub8 ?_
  have e1 : Builtin.bitAnd (0 - a - 0) 255 = (0 - a) % 256 := by rw [bitAnd_m8, Int.sub_zero]
  have e2 : sub8raw 0 a 0 = negF a := byte_all (P := fun a => sub8raw 0 a 0 = negF a) (by decide +kernel) ha
  rw [e1, e2]
  walk_at "ev0"
  exact h
theorem bit1 (x : Int) : Builtin.bitAnd x 1 = cond (decide (x % 2 = 1)) 1 0 := by
  rw [bitAnd_m1]; rcases Int.emod_two_eq x with e | e <;> rw [e] <;> rfl
theorem condB (p : Prop) [Decidable p] (x : Int) : cond (decide p) x 0 = if p then x else 0 := by by_cases e : p <;> simp [e]
theorem cmod (x : Int) : cond (decide (x % 2 = 1)) 1 0 = x % 2 := by
  rcases Int.emod_two_eq x with e | e <;> rw [e] <;> rfl
theorem c_load_flags {v i f : Int} (hv : Byte v) (hi : i = 0 ∨ i = 1) (h : Q (.int (told v + 4 * i + f % 2)) H) : fn_load_flags [.int v, .int i, .int f] H Q := by
  unfold fn_load_flags
  walk_at "ev0"
  refine c_szyx hv ?_
  walk_at "ev0"
  have e : Builtin.bitOr (Builtin.bitOr (told v) (cond (i != 0) 4 0)) (Builtin.bitAnd f 1) = told v + 4 * i + f % 2 := by
    rw [bit1, flagsP hv, cmod]
    rcases hi with rfl | rfl <;> rfl
  rw [← e] at h
  exact h
theorem c_in_flags {v f : Int} (hv : Byte v) (h : Q (.int (told v + par v + f % 2)) H) : fn_in_flags [.int v, .int f] H Q := by
  unfold fn_in_flags
  walk_at "ev0"
  refine c_szyx hv ?_
  walk_at "ev0"
  refine c_parity hv ?_
  walk_at "ev0"
  have e : Builtin.bitOr (Builtin.bitOr (told v) (par v)) (Builtin.bitAnd f 1) = told v + par v + f % 2 := by
    obtain ⟨p, hp⟩ := par_cond v
    rw [bit1, hp, flagsP hv, cmod]
  rw [← e] at h
  exact h
theorem and240 {a : Int} (ha : Byte a) : Builtin.bitAnd a 240 = a / 16 * 16 := byte_all (P := fun a => Builtin.bitAnd a 240 = a / 16 * 16) (by decide +kernel) ha
theorem c_rrd {a v f : Int} (ha : Byte a) (hv : Byte v) (h : Q (.tup [.int (a / 16 * 16 + v % 16), .int (a % 16 * 16 + v / 16), .int (told (a / 16 * 16 + v % 16) + par (a / 16 * 16 + v % 16) + f % 2)]) H) : fn_rrd [.int a, .int v, .int f] H Q := by
  unfold fn_rrd
  refine Box.mk ?_
  have h1 := ha.1
  have h2 := ha.2
  have h3 := hv.1
  have h4 := hv.2
  have e1 : Builtin.bitOr (Builtin.bitAnd a 240) (Builtin.bitAnd v 15) = a / 16 * 16 + v % 16 := by
    rw [and240 ha, bitAnd_m4, or4 (by lia) (by lia)]
  have e2 : Builtin.bitOr (Builtin.bitAnd a 15 * 2 ^ (Int.toNat 4)) (v.fdiv (2 ^ (Int.toNat 4))) = a % 16 * 16 + v / 16 := by
    rw [p4, bitAnd_m4, fdiv_pos _ (by decide), or4 (by lia) (by lia)]
  have hb : Byte (a / 16 * 16 + v % 16) := by unfold Byte; lia
  have h5 : Builtin.bitAnd a 15 = a % 16 := bitAnd_m4 a
  walk_at "ev0"
  refine c_szyx (by rw [e1]; exact hb) ?_
  walk_at "ev0"
  refine c_parity (by rw [e1]; exact hb) ?_
  walk_at "ev0"
  have e : Builtin.bitOr (Builtin.bitOr (told (a / 16 * 16 + v % 16)) (par (a / 16 * 16 + v % 16))) (Builtin.bitAnd f 1) = told (a / 16 * 16 + v % 16) + par (a / 16 * 16 + v % 16) + f % 2 := by
    obtain ⟨p, hp⟩ := par_cond (a / 16 * 16 + v % 16)
    rw [bit1, hp, flagsP hb, cmod]
  rw [← e, ← e2, ← e1] at h
  exact h
theorem c_rld {a v f : Int} (ha : Byte a) (hv : Byte v) (h : Q (.tup [.int (a / 16 * 16 + v / 16), .int (v % 16 * 16 + a % 16), .int (told (a / 16 * 16 + v / 16) + par (a / 16 * 16 + v / 16) + f % 2)]) H) : fn_rld [.int a, .int v, .int f] H Q := by
  unfold fn_rld
  refine Box.mk ?_
  have h1 := ha.1
  have h2 := ha.2
  have h3 := hv.1
  have h4 := hv.2
  have e1 : Builtin.bitOr (Builtin.bitAnd a 240) (v.fdiv (2 ^ (Int.toNat 4))) = a / 16 * 16 + v / 16 := by
    rw [p4, and240 ha, fdiv_pos _ (by decide), or4 (by lia) (by lia)]
  have e2 : Builtin.bitOr (Builtin.bitAnd v 15 * 2 ^ (Int.toNat 4)) (Builtin.bitAnd a 15) = v % 16 * 16 + a % 16 := by
    rw [p4, bitAnd_m4, bitAnd_m4, or4 (by lia) (by lia)]
  have hb : Byte (a / 16 * 16 + v / 16) := by unfold Byte; lia
  have h5 : Builtin.bitAnd v 15 = v % 16 := bitAnd_m4 v
  walk_at "ev0"
  refine c_szyx (by rw [e1]; exact hb) ?_
  walk_at "ev0"
  refine c_parity (by rw [e1]; exact hb) ?_
  walk_at "ev0"
  have e : Builtin.bitOr (Builtin.bitOr (told (a / 16 * 16 + v / 16)) (par (a / 16 * 16 + v / 16))) (Builtin.bitAnd f 1) = told (a / 16 * 16 + v / 16) + par (a / 16 * 16 + v / 16) + f % 2 := by
    obtain ⟨p, hp⟩ := par_cond (a / 16 * 16 + v / 16)
    rw [bit1, hp, flagsP hb, cmod]
  rw [← e, ← e2, ← e1] at h
  exact h
noncomputable def moveF (a o left f : Int) : Int := Builtin.bitAnd f 193 + (a + o) / 2 % 2 * 32 + (a + o) / 8 % 2 * 8 + (if left > 0 then 4 else 0)
theorem bit2n (x : Int) : (Builtin.bitAnd x 2 != 0) = decide (x / 2 % 2 = 1) := by
  have := bit_cond x 1
  rw [show Builtin.bitAnd x 2 = _ from this]; show (cond (decide (x / 2 % 2 = 1)) (2 : Int) 0 != 0) = _; cases decide (x / 2 % 2 = 1) <;> rfl
theorem bit8 (x : Int) : Builtin.bitAnd x 8 = cond (decide (x / 8 % 2 = 1)) 8 0 := bit_cond x 3
theorem bit16 (x : Int) : Builtin.bitAnd x 16 = cond (decide (x / 16 % 2 = 1)) 16 0 := bit_cond x 4
theorem bit128 (x : Int) : Builtin.bitAnd x 128 = cond (decide (x / 128 % 2 = 1)) 128 0 := bit_cond x 7
theorem bit128n (x : Int) : (Builtin.bitAnd x 128 != 0) = decide (x / 128 % 2 = 1) := by
  rw [bit128]; cases decide (x / 128 % 2 = 1) <;> rfl
theorem cnd (x k : Int) : cond (decide (x % 2 = 1)) k 0 = x % 2 * k := by
  rcases Int.emod_two_eq x with e | e <;> rw [e] <;> simp
theorem cpos {left : Int} (h : 0 ≤ left) : cond (left != 0) (4 : Int) 0 = if left > 0 then 4 else 0 := by
  by_cases e : left = 0
  · subst e; rfl
  · rw [if_pos (by lia), show (left != 0) = true by simp [e]]; rfl
theorem c_move_flags {a o left f : Int} (hf : Byte f) (hl : 0 ≤ left) (h : Q (.int (moveF a o left f)) H) : fn_move_flags [.int a, .int o, .int left, .int f] H Q := by
  unfold fn_move_flags
  walk_at "ev0"
  have e : Builtin.bitOr (Builtin.bitOr (Builtin.bitOr (Builtin.bitAnd f (Builtin.bitOr (Builtin.bitOr 128 64) 1)) (cond (Builtin.bitAnd (a + o) 2 != 0) 32 0)) (Builtin.bitAnd (a + o) 8)) (cond (left != 0) 4 0) = moveF a o left f := by
    rw [bit2n, bit8, flagsM hf, cnd, cnd, cpos hl]; rfl
  rw [← e] at h
  exact h
noncomputable def seekF (a o left f : Int) : Int :=
  Builtin.bitAnd ((a - o) % 256) 128 + (if (a - o) % 256 = 0 then 64 else 0) + (if a % 16 < o % 16 then 16 else 0) + 2 + f % 2
   + ((a - o) % 256 - (if a % 16 < o % 16 then 16 else 0) / 16) / 2 % 2 * 32 + ((a - o) % 256 - (if a % 16 < o % 16 then 16 else 0) / 16) / 8 % 2 * 8 + (if left > 0 then 4 else 0)
end
section
variable {H : List O} {Q : V → List O → Prop}
theorem c_seek_flags {a o left f : Int} (ha : Byte a) (ho : Byte o) (hl : 0 ≤ left) (h : Q (.int (seekF a o left f)) H) : fn_seek_flags [.int a, .int o, .int left, .int f] H Q := by
  unfold fn_seek_flags
  walk_at "ev0"
  refine c_sub8 ?_
  walk_at "ev0"
  have h1 := ha.1
  have h2 := ha.2
  have h3 := ho.1
  have h4 := ho.2
  have er : Builtin.bitAnd (a - o - 0) 255 = (a - o) % 256 := by rw [bitAnd_m8, Int.sub_zero]
  have hr : Byte ((a - o) % 256) := by unfold Byte; lia
  obtain ⟨P, C, eF⟩ : ∃ P C : Bool, sub8raw a o 0 = told ((a - o) % 256) + cond (decide (a % 16 < o % 16)) 16 0 + cond P 4 0 + 2 + cond C 1 0 := by
    unfold sub8raw
    rw [er]
    have e16 : decide (Builtin.bitXor (Builtin.bitXor a o) ((a - o) % 256) / 16 % 2 = 1) = decide (a % 16 < o % 16) := by
      have x1 := xor_bit 4 (Builtin.bitXor a o) ((a - o) % 256)
      have x2 := xor_bit 4 a o
      rw [show (2 : Int) ^ 4 = 16 by decide] at x1 x2
      rw [x1]
      apply decide_eq_decide.mpr
      lia
    exact ⟨_, _, by show Builtin.bitOr (Builtin.bitOr (Builtin.bitOr (Builtin.bitOr _ _) _) _) _ = _; rw [bit16 (Builtin.bitXor (Builtin.bitXor a o) ((a - o) % 256)), e16]; exact flags8 hr _ _ _⟩
  have hF : (Builtin.bitAnd (sub8raw a o 0) 16 != 0) = decide (a % 16 < o % 16) := by
    rw [eF]
    cases e : decide (a % 16 < o % 16) <;>
      exact byte_all (P := fun r => ∀ P C : Bool, (Builtin.bitAnd (told r + cond _ 16 0 + cond P 4 0 + 2 + cond C 1 0) 16 != 0) = _) (by decide +kernel) hr P C
  have hs : ∀ s : Int, s = (a - o) % 256 - cond (decide (a % 16 < o % 16)) 1 0 →
      Builtin.bitOr (Builtin.bitOr (Builtin.bitOr (Builtin.bitOr (Builtin.bitOr (Builtin.bitAnd (sub8raw a o 0) (Builtin.bitOr (Builtin.bitOr 128 64) 16)) (cond (Builtin.bitAnd s 2 != 0) 32 0)) (Builtin.bitAnd s 8)) (cond (left != 0) 4 0)) 2) (Builtin.bitAnd f 1) = seekF a o left f := by
    intro s es
    rw [bit2n, bit8, bit1, eF, flagsS hr, condB (a % 16 < o % 16), cmod, cnd, cnd, cpos hl, es]
    unfold seekF
    have e7 : Builtin.bitAnd ((a - o) % 256) 128 = (a - o) % 256 / 128 * 128 := byte_all (P := fun r => Builtin.bitAnd r 128 = r / 128 * 128) (by decide +kernel) hr
    have e8 : cond (decide (a % 16 < o % 16)) (1 : Int) 0 = (if a % 16 < o % 16 then 16 else 0) / 16 := by rw [condB]; split <;> rfl
    rw [e7, e8]
  have := hs (Builtin.bitAnd (a - o - 0) 255 - cond (Builtin.bitAnd (sub8raw a o 0) 16 != 0) 1 0) (by rw [er, hF])
  rw [← this] at h
  exact h
end
section
variable {H : List O} {Q : V → List O → Prop}
noncomputable def portF (o beside left : Int) : Int := told left + (if o + beside > 255 then 17 else 0) + par (Builtin.bitXor ((o + beside) % 8) left) + o / 128 * 2
theorem xor_byte {x y : Int} (hx : Byte x) (hy : Byte y) : Byte (Builtin.bitXor x y) := by
  have h : ∀ k : Nat, ∀ x y : Int, 0 ≤ x → x < 2 ^ k → 0 ≤ y → y < 2 ^ k → 0 ≤ Builtin.bitXor x y ∧ Builtin.bitXor x y < 2 ^ k := by
    intro k
    induction k with
    | zero => intro x y a b c d; have : x = 0 := by lia
              have : y = 0 := by lia
              subst x y; decide
    | succ k ih =>
      intro x y a b c d
      rw [Int.pow_succ] at b d ⊢
      have := ih (x / 2) (y / 2) (by lia) (by lia) (by lia) (by lia)
      rw [← xor_half] at this
      lia
  exact h 8 x y hx.1 hx.2 hy.1 hy.2
theorem c_port_flags {o beside left : Int} (ho : Byte o) (hl : Byte left) (h : Q (.int (portF o beside left)) H) : fn_port_flags [.int o, .int beside, .int left] H Q := by
  have h3 := ho.1
  have h4 := ho.2
  have e1 : Builtin.bitAnd (o + beside) 7 = (o + beside) % 8 := bitAnd_m3 _
  have hx : Byte (Builtin.bitXor ((o + beside) % 8) left) := xor_byte (by unfold Byte; lia) hl
  have e : ∀ c : Int, c = cond (decide (255 < o + beside)) (Builtin.bitOr 16 1) 0 → Builtin.bitOr (Builtin.bitOr (Builtin.bitOr (told left) c) (par (Builtin.bitXor (Builtin.bitAnd (o + beside) 7) left))) (cond (Builtin.bitAnd o 128 != 0) 2 0) = portF o beside left := by
    intro c ec
    obtain ⟨p, hp⟩ := par_cond (Builtin.bitXor (Builtin.bitAnd (o + beside) 7) left)
    rw [ec, hp, bit128n, flagsQ hl, ← hp, cnd, e1]
    unfold portF
    rw [condB]
    have : o / 128 % 2 = o / 128 := by lia
    rw [this]
  unfold fn_port_flags
  walk_at "ev0"
  cases e2 : decide (255 < o + beside)
  all_goals
    rw [e2] at e
    walk_at "ev0"
    refine c_szyx hl ?_
    walk_at "ev0"
    refine c_parity (by rw [e1]; exact hx) ?_
    walk_at "ev0"
    rw [← e _ rfl] at h
    exact h
end
section
variable {H : List O} {Q : V → List O → Prop}
noncomputable def sgn (v : Int) : Int := if v > 32767 then v - 65536 else v
noncomputable def addF (x y c s : Int) : Int :=
  let whole := x + s * (y + c)
  let half := x % 4096 + s * (y % 4096 + c)
  let v := whole % 65536
  let size := sgn x + s * (sgn y + c)
  v / 32768 * 128 + (if v = 0 then 64 else 0) + Builtin.bitAnd (v / 256) 40 + (if s = 1 then 0 else 2) + (if 0 ≤ half ∧ half < 4096 then 0 else 16) + (if -32768 ≤ size ∧ size < 32768 then 0 else 4) + (if whole = v then 0 else 1)
theorem c_word_flags {r : Int} (h : Q (.int (Builtin.bitOr (Builtin.bitAnd (r / 256) 128) (cond (r == 0) 64 0))) H) : fn_word_flags [.int r] H Q := by
  rw [← fdiv_pos r (by decide), ← p8] at h
  unfold fn_word_flags
  walk_at "ev0"
  exact h
theorem c_high_flags {x y r : Int} (h : Q (.int (Builtin.bitOr (Builtin.bitAnd (r / 256) 40) (Builtin.bitAnd (Builtin.bitXor (Builtin.bitXor x y) r / 256) 16))) H) : fn_high_flags [.int x, .int y, .int r] H Q := by
  rw [← fdiv_pos r (by decide), ← fdiv_pos (Builtin.bitXor (Builtin.bitXor x y) r) (by decide), ← p8] at h
  unfold fn_high_flags
  walk_at "ev0"
  exact h
theorem zbit (r : Int) : (cond (r == 0) 64 0 : Int) = if r = 0 then 64 else 0 := by
  by_cases e : r = 0
  · subst e; rfl
  · rw [if_neg e, show (r == 0) = false by simp [e]]; rfl
theorem if_n {P R : Prop} [Decidable P] [Decidable R] {n : Int} (h : P ↔ ¬ R) : (if P then n else 0) = if R then 0 else n := by
  by_cases r : R
  · rw [if_pos r, if_neg fun p => h.mp p r]
  · rw [if_neg r, if_pos (h.mpr r)]
theorem mod_k {s r : Int} (e : r = s % 65536) : ∃ k, s = r + 65536 * k := ⟨s / 65536, by lia⟩
theorem digS (n : Int) {x y c r m : Int} (e : x + y + c = r + n * m) : x % n + y % n + c = r % n + n * (r / n + m - x / n - y / n) := by
  rw [Int.emod_def, Int.emod_def, Int.emod_def, Int.mul_sub, Int.mul_sub, Int.mul_add]
  generalize n * (x / n) = p, n * (y / n) = q, n * (r / n) = s, n * m = z at *
  lia
theorem one_h {a b c d t : Int} (a1 : 0 ≤ a) (a2 : a < 4096) (b1 : 0 ≤ b) (b2 : b < 4096) (d1 : 0 ≤ d) (d2 : d < 4096) (hc : c = 0 ∨ c = 1) (e : a + b + c = d + 4096 * t) : t = 0 ∨ t = 1 := by lia
theorem one_v {a b c d t : Int} (a1 : 0 ≤ a) (a2 : a < 32768) (b1 : 0 ≤ b) (b2 : b < 32768) (d1 : 0 ≤ d) (d2 : d < 32768) (hc : c = 0 ∨ c = 1) (e : a + b + c = d + 32768 * t) : t = 0 ∨ t = 1 := by lia
theorem par2 {A B C t m : Int} (ht : t = 0 ∨ t = 1) (e : t = C + 2 * m - A - B) : (A + B + C) % 2 = 1 ↔ t = 1 := by
  rw [show A + B + C = t + 2 * (A + B - m) by lia, Int.add_mul_emod_self_left]
  rcases ht with rfl | rfl <;> decide
theorem halfC {x y c r k : Int} (hc : c = 0 ∨ c = 1) (e : x + y + c = r + 65536 * k) :
    ∃ t, (t = 0 ∨ t = 1) ∧ x % 4096 + y % 4096 + c = r % 4096 + 4096 * t ∧ ((x / 4096 + y / 4096 + r / 4096) % 2 = 1 ↔ t = 1) := by
  have g := digS 4096 (x := x) (y := y) (r := r) (c := c) (m := 16 * k) (by lia)
  have b (v : Int) := Int.emod_nonneg v (show (4096 : Int) ≠ 0 by decide)
  have l (v : Int) := Int.emod_lt_of_pos v (show 0 < (4096 : Int) by decide)
  have ht := one_h (b x) (l x) (b y) (l y) (b r) (l r) hc g
  exact ⟨_, ht, g, par2 (m := 8 * k) ht (by rw [← Int.mul_assoc]; rfl)⟩
theorem ad_h' {a b c d t : Int} (a1 : 0 ≤ a) (b1 : 0 ≤ b) (d1 : 0 ≤ d) (d2 : d < 4096) (hc : c = 0 ∨ c = 1) (ht : t = 0 ∨ t = 1) (g : a + b + c = d + 4096 * t) : t = 1 ↔ ¬ (0 ≤ a + (b + c) ∧ a + (b + c) < 4096) := by
  constructor
  · intro e q; lia
  · intro q; lia
theorem em (v : Int) : 0 ≤ v % 4096 ∧ v % 4096 < 4096 := ⟨Int.emod_nonneg v (by decide), Int.emod_lt_of_pos v (by decide)⟩
theorem ad_h {x y c r : Int} (hc : c = 0 ∨ c = 1) (e : r = (x + y + c) % 65536) :
    (if (x / 4096 + y / 4096 + r / 4096) % 2 = 1 then (16 : Int) else 0) = if 0 ≤ x % 4096 + (y % 4096 + c) ∧ x % 4096 + (y % 4096 + c) < 4096 then 0 else 16 := by
  obtain ⟨k, hk⟩ := mod_k e
  obtain ⟨t, ht, g, p⟩ := halfC hc hk
  exact if_n (p.trans (ad_h' (em x).1 (em y).1 (em r).1 (em r).2 hc ht g))
theorem bits {X Y t R k : Int} (hx : X = 0 ∨ X = 1) (hy : Y = 0 ∨ Y = 1) (ht : t = 0 ∨ t = 1) (hr : R = 0 ∨ R = 1) (e : X + Y + t = R + 2 * k) :
    (((X + R) % 2 = 1 ∧ (Y + R) % 2 = 1) ↔ ¬ (t - X - Y = -1 ∨ t - X - Y = 0)) ∧ (((X + R) % 2 = 1 ∧ (Y + R) % 2 = 1) ↔ ¬ (X - R - t = -1 ∨ X - R - t = 0)) := by
  have e2 : (X + Y + t) % 2 = R % 2 := by rw [e, Int.add_mul_emod_self_left]
  clear e
  rcases hx with rfl | rfl <;> rcases hy with rfl | rfl <;> rcases ht with rfl | rfl <;> rcases hr with rfl | rfl <;> revert e2 <;> decide
theorem top {v : Int} (h : Word v) : (v / 32768 = 0 ∨ v / 32768 = 1) ∧ sgn v = v % 32768 - 32768 * (v / 32768) := by
  have h1 := h.1
  have h2 := h.2
  exact ⟨by lia, by unfold sgn; split <;> lia⟩
theorem rng {d u : Int} (d1 : 0 ≤ d) (d2 : d < 32768) : -32768 ≤ d + 32768 * u ∧ d + 32768 * u < 32768 ↔ u = -1 ∨ u = 0 := by
  constructor
  · intro h; lia
  · intro h; lia
theorem over {x y c r k : Int} (hx : Word x) (hy : Word y) (hr : Word r) (hc : c = 0 ∨ c = 1) (e : x + y + c = r + 65536 * k) :
    ((x / 32768 + r / 32768) % 2 = 1 ∧ (y / 32768 + r / 32768) % 2 = 1 ↔ ¬ (-32768 ≤ sgn x + (sgn y + c) ∧ sgn x + (sgn y + c) < 32768)) ∧
    ((x / 32768 + r / 32768) % 2 = 1 ∧ (y / 32768 + r / 32768) % 2 = 1 ↔ ¬ (-32768 ≤ sgn r + -1 * (sgn x + c) ∧ sgn r + -1 * (sgn x + c) < 32768)) := by
  have g := digS 32768 (x := x) (y := y) (r := r) (c := c) (m := 2 * k) (by lia)
  have b (v : Int) := Int.emod_nonneg v (show (32768 : Int) ≠ 0 by decide)
  have l (v : Int) := Int.emod_lt_of_pos v (show 0 < (32768 : Int) by decide)
  have ht := one_v (b x) (l x) (b y) (l y) (b r) (l r) hc g
  have B := bits (k := k) (top hx).1 (top hy).1 ht (top hr).1 (by lia)
  have e1 : sgn x + (sgn y + c) = r % 32768 + 32768 * (r / 32768 + 2 * k - x / 32768 - y / 32768 - x / 32768 - y / 32768) := by
    rw [(top hx).2, (top hy).2]; clear B b l ht; lia
  have e2 : sgn r + -1 * (sgn x + c) = y % 32768 + 32768 * (x / 32768 - r / 32768 - (r / 32768 + 2 * k - x / 32768 - y / 32768)) := by
    rw [(top hx).2, (top hr).2]; clear B b l ht e1; lia
  rw [e1, e2, rng (b r) (l r), rng (b y) (l y)]
  exact B
theorem ad_v {x y c r : Int} (hx : Word x) (hy : Word y) (hr : Word r) (hc : c = 0 ∨ c = 1) (e : r = (x + y + c) % 65536) :
    (if (x / 32768 + r / 32768) % 2 = 1 ∧ (y / 32768 + r / 32768) % 2 = 1 then (4 : Int) else 0) = if -32768 ≤ sgn x + (sgn y + c) ∧ sgn x + (sgn y + c) < 32768 then 0 else 4 := by
  obtain ⟨k, hk⟩ := mod_k e
  exact if_n (over hx hy hr hc hk).1
theorem ad_c {x y c r : Int} (h1 : 0 ≤ x) (h2 : x < 65536) (h3 : 0 ≤ y) (h4 : y < 65536) (hc : c = 0 ∨ c = 1) (e : r = (x + y + c) % 65536) :
    (x + y + c) / 65536 % 2 = if x + y + c = r then 0 else 1 := by split <;> lia
end
section
variable {H : List O} {Q : V → List O → Prop}
theorem d4096 (z : Int) : z / 256 / 16 = z / 4096 := by lia
theorem w16 (v : Int) : Word (v % 65536) := ⟨Int.emod_nonneg v (by decide), Int.emod_lt_of_pos v (by decide)⟩
theorem d32768 (z : Int) : z / 256 / 128 = z / 32768 := by lia
theorem c_adc16 {x y c : Int} (hx : Word x) (hy : Word y) (hc : c = 0 ∨ c = 1) (h : Q (.tup [.int ((x + y + c) % 65536), .int (addF x y c 1)]) H) : fn_adc16 [.int x, .int y, .int c] H Q := by
  have h1 := hx.1
  have h2 := hx.2
  have h3 := hy.1
  have h4 := hy.2
  have er : Builtin.bitAnd (x + y + c) 65535 = (x + y + c) % 65536 := bitAnd_m16 _
  have eF : ∀ r : Int, r = (x + y + c) % 65536 → Builtin.bitOr (Builtin.bitOr (Builtin.bitOr (Builtin.bitOr (Builtin.bitAnd (r / 256) 128) (cond (r == 0) 64 0)) (Builtin.bitOr (Builtin.bitAnd (r / 256) 40) (Builtin.bitAnd (Builtin.bitXor (Builtin.bitXor x y) r / 256) 16))) (cond (Builtin.bitAnd (Builtin.bitAnd (Builtin.bitXor x r) (Builtin.bitXor y r)) 32768 != 0) 4 0)) ((x + y + c).fdiv (2 ^ Int.toNat 16)) = addF x y c 1 := by
    intro r e
    have hr : Byte (r / 256) := by unfold Byte; lia
    have x1 := xor_bit 12 (Builtin.bitXor x y) r
    have k2 : (x + y + c) / 65536 = cond (decide ((x + y + c) / 65536 % 2 = 1)) 1 0 := by
      rw [cmod]; clear x1; rcases hc with rfl | rfl <;> lia
    have x2 := xor_bit 12 x y
    have x3 := xor_bit 15 x r
    have x4 := xor_bit 15 y r
    have x5 := and2_pos (x := Builtin.bitXor x r) (y := Builtin.bitXor y r) 15
    rw [show (2 : Int) ^ 12 = 4096 by decide] at x1 x2
    rw [show (2 : Int) ^ 15 = 32768 by decide] at x3 x4 x5
    rw [x3, x4] at x5
    rw [x5, bit16, p16, fdiv_pos _ (by decide)]
    have k1 : Builtin.bitXor (Builtin.bitXor x y) r / 256 / 16 % 2 = Builtin.bitXor (Builtin.bitXor x y) r / 4096 % 2 := by
      rw [d4096]
    rw [k1, x1]
    clear x1 x3 x4 x5 k1
    have k3 : ∀ b : Bool, (cond b (32768 : Int) 0 != 0) = b := by decide
    rw [k2, k3]
    have fl := flagsW hr (r == 0) (decide ((Builtin.bitXor x y / 4096 + r / 4096) % 2 = 1)) (decide ((x / 32768 + r / 32768) % 2 = 1) && decide ((y / 32768 + r / 32768) % 2 = 1)) false (decide ((x + y + c) / 65536 % 2 = 1))
    have or0 : ∀ z : Int, Builtin.bitOr z (cond false 2 0) = z := by intro z; rw [bitOr_and]; show z + 0 - Builtin.bitAnd z 0 = z; have := bitAnd_range z (y := 0) (by decide); lia
    rw [or0] at fl
    rw [fl, zbit, condB, ← Bool.decide_and, condB, cmod]
    unfold addF
    simp only [Int.one_mul]
    have a1 : (x + (y + c)) = x + y + c := by lia
    rw [a1, ← e]
    have a2 : (Builtin.bitXor x y / 4096 + r / 4096) % 2 = (x / 4096 + y / 4096 + r / 4096) % 2 := by lia
    rw [a2]
    clear x2 a2
    have b1 := ad_h (y := y) hc e
    have b2 := ad_v hx hy (by rw [e]; exact w16 _) hc e
    have b3 := ad_c h1 h2 h3 h4 hc e
    rw [b1, b2, b3]
    have b4 : r / 256 / 128 * 128 = r / 32768 * 128 := by rw [d32768]
    rw [b4]
    simp only [if_true, cond_false]
    lia
  unfold fn_adc16
  walk_at "ev0"
  refine c_word_flags ?_
  walk_at "ev0"
  refine c_high_flags ?_
  walk_at "ev0"
  rw [← eF _ er, ← er] at h
  exact h
theorem sb_h' {a b c d t : Int} (a2 : a < 4096) (d1 : 0 ≤ d) (d2 : d < 4096) (hc : c = 0 ∨ c = 1) (ht : t = 0 ∨ t = 1) (g : b + d + c = a + 4096 * t) : t = 1 ↔ ¬ (0 ≤ a + -1 * (b + c) ∧ a + -1 * (b + c) < 4096) := by
  constructor
  · intro e q; lia
  · intro q; lia
theorem sb_h {x y c r : Int} (hc : c = 0 ∨ c = 1) (e : r = (x - y - c) % 65536) :
    (if (x / 4096 + y / 4096 + r / 4096) % 2 = 1 then (16 : Int) else 0) = if 0 ≤ x % 4096 + -1 * (y % 4096 + c) ∧ x % 4096 + -1 * (y % 4096 + c) < 4096 then 0 else 16 := by
  obtain ⟨k, hk⟩ := mod_k e
  obtain ⟨t, ht, g, p⟩ := halfC (x := y) (y := r) (r := x) (c := c) (k := -k) hc (by lia)
  rw [Int.add_assoc, Int.add_comm]
  exact if_n (p.trans (sb_h' (em x).2 (em r).1 (em r).2 hc ht g))
theorem sb_v {x y c r : Int} (hx : Word x) (hy : Word y) (hr : Word r) (hc : c = 0 ∨ c = 1) (e : r = (x - y - c) % 65536) :
    (if (x / 32768 + y / 32768) % 2 = 1 ∧ (x / 32768 + r / 32768) % 2 = 1 then (4 : Int) else 0) = if -32768 ≤ sgn x + -1 * (sgn y + c) ∧ sgn x + -1 * (sgn y + c) < 32768 then 0 else 4 := by
  obtain ⟨k, hk⟩ := mod_k e
  rw [Int.add_comm (x / 32768), Int.add_comm (x / 32768)]
  exact if_n (over (k := -k) hy hr hx hc (by clear hx hy hr hc e; lia)).2
theorem sb_c {x y c r : Int} (h1 : 0 ≤ x) (h2 : x < 65536) (h3 : 0 ≤ y) (h4 : y < 65536) (hc : c = 0 ∨ c = 1) (e : r = (x - y - c) % 65536) :
    (if x - y - c < 0 then 1 else 0) = if x - y - c = r then (0 : Int) else 1 := by split <;> split <;> lia
theorem c_sbc16 {x y c : Int} (hx : Word x) (hy : Word y) (hc : c = 0 ∨ c = 1) (h : Q (.tup [.int ((x - y - c) % 65536), .int (addF x y c (-1))]) H) : fn_sbc16 [.int x, .int y, .int c] H Q := by
  have h1 := hx.1
  have h2 := hx.2
  have h3 := hy.1
  have h4 := hy.2
  have er : Builtin.bitAnd (x - y - c) 65535 = (x - y - c) % 65536 := bitAnd_m16 _
  have eF : ∀ r : Int, r = (x - y - c) % 65536 → Builtin.bitOr (Builtin.bitOr (Builtin.bitOr (Builtin.bitOr (Builtin.bitOr (Builtin.bitAnd (r / 256) 128) (cond (r == 0) 64 0)) (Builtin.bitOr (Builtin.bitAnd (r / 256) 40) (Builtin.bitAnd (Builtin.bitXor (Builtin.bitXor x y) r / 256) 16))) (cond (Builtin.bitAnd (Builtin.bitAnd (Builtin.bitXor x y) (Builtin.bitXor x r)) 32768 != 0) 4 0)) 2) (cond (decide (x - y - c < 0)) 1 0) = addF x y c (-1) := by
    intro r e
    have hr : Byte (r / 256) := by unfold Byte; lia
    have x1 := xor_bit 12 (Builtin.bitXor x y) r
    have x2 := xor_bit 12 x y
    have x3 := xor_bit 15 x y
    have x4 := xor_bit 15 x r
    have x5 := and2_pos (x := Builtin.bitXor x y) (y := Builtin.bitXor x r) 15
    rw [show (2 : Int) ^ 12 = 4096 by decide] at x1 x2
    rw [show (2 : Int) ^ 15 = 32768 by decide] at x3 x4 x5
    rw [x3, x4] at x5
    rw [x5, bit16]
    have k1 : Builtin.bitXor (Builtin.bitXor x y) r / 256 / 16 % 2 = Builtin.bitXor (Builtin.bitXor x y) r / 4096 % 2 := by
      rw [d4096]
    rw [k1, x1]
    clear x1 x3 x4 x5 k1
    have k3 : ∀ b : Bool, (cond b (32768 : Int) 0 != 0) = b := by decide
    rw [k3]
    have fl := flagsW hr (r == 0) (decide ((Builtin.bitXor x y / 4096 + r / 4096) % 2 = 1)) (decide ((x / 32768 + y / 32768) % 2 = 1) && decide ((x / 32768 + r / 32768) % 2 = 1)) true (decide (x - y - c < 0))
    rw [cond_true] at fl
    rw [fl, zbit, condB, ← Bool.decide_and, condB, condB]
    unfold addF
    dsimp only
    have a1 : (x + -1 * (y + c)) = x - y - c := by lia
    rw [a1, ← e]
    have a2 : (Builtin.bitXor x y / 4096 + r / 4096) % 2 = (x / 4096 + y / 4096 + r / 4096) % 2 := by lia
    rw [a2]
    clear x2 a2
    have b1 := sb_h (y := y) hc e
    have b2 := sb_v hx hy (by rw [e]; exact w16 _) hc e
    have b3 := sb_c h1 h2 h3 h4 hc e
    rw [b1, b2, b3]
    have b4 : r / 256 / 128 * 128 = r / 32768 * 128 := by rw [d32768]
    rw [b4]
    rw [if_neg (show ¬ ((-1 : Int) = 1) by decide)]
    lia
  unfold fn_sbc16
  walk_at "ev0"
  refine c_word_flags ?_
  walk_at "ev0"
  refine c_high_flags ?_
  walk_at "ev0"
  rw [← eF _ er, ← er] at h
  exact h
end
local macro_rules | `(tactic| walk_at "nm") => `(tactic| try dsimp only [initN, fA_sp, fA_pc, fA_ii, fA_rf, fA_f1, fA_f2, fA_md, fA_pt, fA_r0, fA_r1, fA_r2, fA_r3, fA_r4, fA_r5, fA_r6, fA_r7, fA_m, fA_o, fA_app, fA_len, fB_sp, fB_pc, fB_ii, fB_rf, fB_f1, fB_f2, fB_md, fB_pt, fB_r0, fB_r1, fB_r2, fB_r3, fB_r4, fB_r5, fB_r6, fB_r7, fB_m, fB_o, fB_app, fB_len, fD_sp, fD_pc, fD_ii, fD_rf, fD_f1, fD_f2, fD_md, fD_pt, fD_r0, fD_r1, fD_r2, fD_r3, fD_r4, fD_r5, fD_r6, fD_r7, fD_m, fD_o, fD_app, fD_len, List.map, List.replicate, List.append, List.set_cons_succ, List.set_cons_zero, List.length_cons, List.length_nil, List.cons_append, List.nil_append])
local macro_rules | `(tactic| walk_at "ev") => `(tactic| (walk_at "nm"; repeat (walk_at "st"; walk_at "nm")))
theorem or8 {x y : Int} (h1 : 0 ≤ y) (h2 : y < 256) : Builtin.bitOr (x * 256) y = x * 256 + y := by
  rw [show (256 : Int) = 2 ^ 8 by decide, bitOr_and, and_hi 8 x y h1 (by lia)]; lia
theorem sh8 (v : Int) : Builtin.bitAnd (v.fdiv (2 ^ Int.toNat 8)) 255 = v / 256 % 256 := by rw [bitAnd_m8, p8, fdiv_pos _ (by decide)]
theorem mg_mod (m : List Int) (x : Int) : mg m (x % 65536) = mg m x := by
  unfold mg; rw [show x % 65536 % 64 = x % 64 by lia]
theorem mg_and (m : List Int) (x : Int) : mg m (Builtin.bitAnd x 65535) = mg m x := by rw [bitAnd_m16, mg_mod]
theorem ms_mod (m : List Int) (x v : Int) : ms m (x % 65536) v = ms m x v := by
  unfold ms; rw [show x % 65536 % 64 = x % 64 by lia]
theorem ms_and (m : List Int) (x v : Int) : ms m (Builtin.bitAnd x 65535) v = ms m x v := by rw [bitAnd_m16, ms_mod]
section
variable {g : Nat → O} {i0 i1 i2 : Int} {ins : List Int} {d a b : St} {G : List O} {Q : V → List O → Prop}
variable {r0 r1 r2 r3 r4 r5 r6 r7 sp pc ii rf f1 f2 md pt : Int} {m : List Int} {outs : List V}
theorem a_pair0 (hx : Byte r0) (hy : Byte r1) (h : Q (.int (r0 * 256 + r1)) (HA g ins d b G r0 r1 r2 r3 r4 r5 r6 r7 sp pc ii rf f1 f2 md pt m outs)) : fn_pair [.obj 11, .int 0] (HA g ins d b G r0 r1 r2 r3 r4 r5 r6 r7 sp pc ii rf f1 f2 md pt m outs) Q := by
  have h1 := hx.1
  have h2 := hx.2
  have e : Builtin.bitOr (r0 * 2 ^ Int.toNat 8) r1 = r0 * 256 + r1 := by rw [p8, or8 hy.1 hy.2]
  rw [← e] at h
  unfold fn_pair
  walk_at "ev"
  exact h
theorem a_set0 {v : Int} (h : Q .none (HA g ins d b G (v / 256 % 256) (v % 256) r2 r3 r4 r5 r6 r7 sp pc ii rf f1 f2 md pt m outs)) : fn_set_pair [.obj 11, .int 0, .int v] (HA g ins d b G r0 r1 r2 r3 r4 r5 r6 r7 sp pc ii rf f1 f2 md pt m outs) Q := by
  rw [← sh8, ← bitAnd_m8 v] at h
  unfold fn_set_pair
  walk_at "ev"
  exact h
theorem a_pair1 (hx : Byte r2) (hy : Byte r3) (h : Q (.int (r2 * 256 + r3)) (HA g ins d b G r0 r1 r2 r3 r4 r5 r6 r7 sp pc ii rf f1 f2 md pt m outs)) : fn_pair [.obj 11, .int 1] (HA g ins d b G r0 r1 r2 r3 r4 r5 r6 r7 sp pc ii rf f1 f2 md pt m outs) Q := by
  have h1 := hx.1
  have h2 := hx.2
  have e : Builtin.bitOr (r2 * 2 ^ Int.toNat 8) r3 = r2 * 256 + r3 := by rw [p8, or8 hy.1 hy.2]
  rw [← e] at h
  unfold fn_pair
  walk_at "ev"
  exact h
theorem a_set1 {v : Int} (h : Q .none (HA g ins d b G r0 r1 (v / 256 % 256) (v % 256) r4 r5 r6 r7 sp pc ii rf f1 f2 md pt m outs)) : fn_set_pair [.obj 11, .int 1, .int v] (HA g ins d b G r0 r1 r2 r3 r4 r5 r6 r7 sp pc ii rf f1 f2 md pt m outs) Q := by
  rw [← sh8, ← bitAnd_m8 v] at h
  unfold fn_set_pair
  walk_at "ev"
  exact h
theorem a_pair2 (hx : Byte r4) (hy : Byte r5) (h : Q (.int (r4 * 256 + r5)) (HA g ins d b G r0 r1 r2 r3 r4 r5 r6 r7 sp pc ii rf f1 f2 md pt m outs)) : fn_pair [.obj 11, .int 2] (HA g ins d b G r0 r1 r2 r3 r4 r5 r6 r7 sp pc ii rf f1 f2 md pt m outs) Q := by
  have h1 := hx.1
  have h2 := hx.2
  have e : Builtin.bitOr (r4 * 2 ^ Int.toNat 8) r5 = r4 * 256 + r5 := by rw [p8, or8 hy.1 hy.2]
  rw [← e] at h
  unfold fn_pair
  walk_at "ev"
  exact h
theorem a_set2 {v : Int} (h : Q .none (HA g ins d b G r0 r1 r2 r3 (v / 256 % 256) (v % 256) r6 r7 sp pc ii rf f1 f2 md pt m outs)) : fn_set_pair [.obj 11, .int 2, .int v] (HA g ins d b G r0 r1 r2 r3 r4 r5 r6 r7 sp pc ii rf f1 f2 md pt m outs) Q := by
  rw [← sh8, ← bitAnd_m8 v] at h
  unfold fn_set_pair
  walk_at "ev"
  exact h
theorem a_pair3  (h : Q (.int sp) (HA g ins d b G r0 r1 r2 r3 r4 r5 r6 r7 sp pc ii rf f1 f2 md pt m outs)) : fn_pair [.obj 11, .int 3] (HA g ins d b G r0 r1 r2 r3 r4 r5 r6 r7 sp pc ii rf f1 f2 md pt m outs) Q := by
  unfold fn_pair
  walk_at "ev"
  exact h
theorem a_set3 {v : Int} (h : Q .none (HA g ins d b G r0 r1 r2 r3 r4 r5 r6 r7 (v % 65536) pc ii rf f1 f2 md pt m outs)) : fn_set_pair [.obj 11, .int 3, .int v] (HA g ins d b G r0 r1 r2 r3 r4 r5 r6 r7 sp pc ii rf f1 f2 md pt m outs) Q := by
  rw [← bitAnd_m16 v] at h
  unfold fn_set_pair
  walk_at "ev"
  exact h
theorem a_peek {x : Int} (hm : m.length = 64) (h : Q (.int (mg m x)) (HA g ins d b G r0 r1 r2 r3 r4 r5 r6 r7 sp pc ii rf f1 f2 md pt m outs)) : fn_peek [.obj 24, .int x] (HA g ins d b G r0 r1 r2 r3 r4 r5 r6 r7 sp pc ii rf f1 f2 md pt m outs) Q := by
  obtain ⟨e1, e2, e3, e4⟩ := ix_l hm x
  unfold fn_peek
  walk_at "ev"
  rw [e1]; walk_at "wh"; rw [e2]; walk_at "wh"; rw [e3]; walk_at "ev"
  exact h
theorem a_poke {x v : Int} (hm : m.length = 64) (h : Q .none (HA g ins d b G r0 r1 r2 r3 r4 r5 r6 r7 sp pc ii rf f1 f2 md pt (ms m x (v % 256)) outs)) : fn_poke [.obj 24, .int x, .int v] (HA g ins d b G r0 r1 r2 r3 r4 r5 r6 r7 sp pc ii rf f1 f2 md pt m outs) Q := by
  obtain ⟨e1, e2, e3, e4⟩ := ix_l hm x
  rw [← bitAnd_m8 v] at h
  unfold fn_poke
  walk_at "ev"
  rw [e1]; walk_at "wh"; rw [e2]; walk_at "wh"; rw [e4]; walk_at "ev"
  exact h
theorem a_peek16 {x : Int} (hm : m.length = 64) (hb : AllB m) (h : Q (.int (mg m x + 256 * mg m (x + 1))) (HA g ins d b G r0 r1 r2 r3 r4 r5 r6 r7 sp pc ii rf f1 f2 md pt m outs)) : fn_peek16 [.obj 24, .int x] (HA g ins d b G r0 r1 r2 r3 r4 r5 r6 r7 sp pc ii rf f1 f2 md pt m outs) Q := by
  have b1 := mg_byte hm hb x
  have b2 := mg_byte hm hb (x + 1)
  have h1 := b2.1
  have h2 := b2.2
  have em : mg m (Builtin.bitAnd (x + 1) 65535) = mg m (x + 1) := mg_and m _
  have e : Builtin.bitOr (mg m x) (mg m (Builtin.bitAnd (x + 1) 65535) * 2 ^ Int.toNat 8) = mg m x + 256 * mg m (x + 1) := by rw [em, p8, bitOr_comm, or8 b1.1 b1.2]; lia
  rw [← e] at h
  unfold fn_peek16
  walk_at "ev"
  refine a_peek hm ?_
  walk_at "ev"
  refine a_peek hm ?_
  have n1 : (mg m (Builtin.bitAnd (x + 1) 65535)).natAbs < 2 ^ 63 := by rw [em]; lia
  walk_at "ev"
  exact h
theorem a_poke16 {x v : Int} (hm : m.length = 64) (hv : Word v) (h : Q .none (HA g ins d b G r0 r1 r2 r3 r4 r5 r6 r7 sp pc ii rf f1 f2 md pt (ms (ms m x (v % 256)) (x + 1) (v / 256)) outs)) : fn_poke16 [.obj 24, .int x, .int v] (HA g ins d b G r0 r1 r2 r3 r4 r5 r6 r7 sp pc ii rf f1 f2 md pt m outs) Q := by
  have h1 := hv.1
  have h2 := hv.2
  have e1 : Builtin.bitAnd v 255 % 256 = v % 256 := by rw [bitAnd_m8]; lia
  have e2 : Builtin.bitAnd (v.fdiv (2 ^ Int.toNat 8)) 255 % 256 = v / 256 := by rw [bitAnd_m8, p8, fdiv_pos _ (by decide)]; lia
  rw [← e1, ← ms_and, ← e2] at h
  unfold fn_poke16
  walk_at "ev"
  refine a_poke hm ?_
  walk_at "ev"
  refine a_poke (by rw [ms_len]; exact hm) ?_
  walk_at "ev"
  exact h
theorem a_fetch (hm : m.length = 64) (h : Q (.int (mg m pc)) (HA g ins d b G r0 r1 r2 r3 r4 r5 r6 r7 sp ((pc + 1) % 65536) ii rf f1 f2 md pt m outs)) : fn_fetch [.obj 11, .obj 24] (HA g ins d b G r0 r1 r2 r3 r4 r5 r6 r7 sp pc ii rf f1 f2 md pt m outs) Q := by
  rw [← bitAnd_m16 (pc + 1)] at h
  unfold fn_fetch
  walk_at "ev"
  refine a_peek hm ?_
  walk_at "ev"
  exact h
theorem a_fetch16 (hm : m.length = 64) (hb : AllB m) (h : Q (.int (mg m pc + 256 * mg m (pc + 1))) (HA g ins d b G r0 r1 r2 r3 r4 r5 r6 r7 sp ((pc + 2) % 65536) ii rf f1 f2 md pt m outs)) : fn_fetch16 [.obj 11, .obj 24] (HA g ins d b G r0 r1 r2 r3 r4 r5 r6 r7 sp pc ii rf f1 f2 md pt m outs) Q := by
  have b1 := mg_byte hm hb pc
  have b2 := mg_byte hm hb (pc + 1)
  have h1 := b2.1
  have h2 := b2.2
  have em : mg m ((pc + 1) % 65536) = mg m (pc + 1) := mg_mod m _
  have e : Builtin.bitOr (mg m pc) (mg m ((pc + 1) % 65536) * 2 ^ Int.toNat 8) = mg m pc + 256 * mg m (pc + 1) := by rw [em, p8, bitOr_comm, or8 b1.1 b1.2]; lia
  have e2 : ((pc + 1) % 65536 + 1) % 65536 = (pc + 2) % 65536 := by lia
  rw [← e, ← e2] at h
  unfold fn_fetch16
  walk_at "ev"
  refine a_fetch hm ?_
  walk_at "ev"
  refine a_fetch hm ?_
  have n1 : (mg m ((pc + 1) % 65536)).natAbs < 2 ^ 63 := by rw [em]; lia
  walk_at "ev"
  exact h
theorem a_pop (hm : m.length = 64) (hb : AllB m) (h : Q (.int (mg m sp + 256 * mg m (sp + 1))) (HA g ins d b G r0 r1 r2 r3 r4 r5 r6 r7 ((sp + 2) % 65536) pc ii rf f1 f2 md pt m outs)) : fn_pop [.obj 11, .obj 24] (HA g ins d b G r0 r1 r2 r3 r4 r5 r6 r7 sp pc ii rf f1 f2 md pt m outs) Q := by
  rw [← bitAnd_m16 (sp + 2)] at h
  unfold fn_pop
  walk_at "ev"
  refine a_peek16 hm hb ?_
  walk_at "ev"
  exact h
theorem a_in {x : Int} (h0 : Byte i0) (h1 : Byte i1) (h2 : Byte i2) (h : Q (.int (ig [i0, i1, i2] pt)) (HA g [i0, i1, i2] d b G r0 r1 r2 r3 r4 r5 r6 r7 sp pc ii rf f1 f2 md (pt + 1) m outs)) : fn_port_in [.obj 28, .int x] (HA g [i0, i1, i2] d b G r0 r1 r2 r3 r4 r5 r6 r7 sp pc ii rf f1 f2 md pt m outs) Q := by
  have hb := ig_byte h0 h1 h2 pt
  have e : Builtin.bitAnd (ig [i0, i1, i2] pt) 255 = ig [i0, i1, i2] pt := by have := hb.1; have := hb.2; rw [bitAnd_m8]; lia
  rw [← e] at h
  obtain ⟨e1, e2, e3⟩ := ix_3 i0 i1 i2 pt
  have n0 : ([i0, i1, i2] : List Int).length < 2 ^ 62 := by show 3 < 2 ^ 62; decide
  have n1 : (([i0, i1, i2] : List Int).length : Int) ≠ 0 := by show (3 : Int) ≠ 0; decide
  unfold fn_port_in
  walk_at "ev"
  rw [e1]; walk_at "wh"; rw [e2]; walk_at "wh"; rw [e3]; walk_at "ev"
  exact h
theorem a_out {x v : Int} (ho : outs.length ≤ 1000) (h : Q .none (HA g ins d b G r0 r1 r2 r3 r4 r5 r6 r7 sp pc ii rf f1 f2 md pt m (outs ++ [.tup [.int (x % 256), .int (v % 256)]]))) : fn_port_out [.obj 28, .int x, .int v] (HA g ins d b G r0 r1 r2 r3 r4 r5 r6 r7 sp pc ii rf f1 f2 md pt m outs) Q := by
  rw [← bitAnd_m8 x, ← bitAnd_m8 v] at h
  unfold fn_port_out
  walk_at "ev"
  exact h
theorem b_pair0 (hx : Byte r0) (hy : Byte r1) (h : Q (.int (r0 * 256 + r1)) (HB g ins d a G r0 r1 r2 r3 r4 r5 r6 r7 sp pc ii rf f1 f2 md pt m outs)) : fn_pair [.obj 18, .int 0] (HB g ins d a G r0 r1 r2 r3 r4 r5 r6 r7 sp pc ii rf f1 f2 md pt m outs) Q := by
  have h1 := hx.1
  have h2 := hx.2
  have e : Builtin.bitOr (r0 * 2 ^ Int.toNat 8) r1 = r0 * 256 + r1 := by rw [p8, or8 hy.1 hy.2]
  rw [← e] at h
  unfold fn_pair
  walk_at "ev"
  exact h
theorem b_set0 {v : Int} (h : Q .none (HB g ins d a G (v / 256 % 256) (v % 256) r2 r3 r4 r5 r6 r7 sp pc ii rf f1 f2 md pt m outs)) : fn_set_pair [.obj 18, .int 0, .int v] (HB g ins d a G r0 r1 r2 r3 r4 r5 r6 r7 sp pc ii rf f1 f2 md pt m outs) Q := by
  rw [← sh8, ← bitAnd_m8 v] at h
  unfold fn_set_pair
  walk_at "ev"
  exact h
theorem b_pair1 (hx : Byte r2) (hy : Byte r3) (h : Q (.int (r2 * 256 + r3)) (HB g ins d a G r0 r1 r2 r3 r4 r5 r6 r7 sp pc ii rf f1 f2 md pt m outs)) : fn_pair [.obj 18, .int 1] (HB g ins d a G r0 r1 r2 r3 r4 r5 r6 r7 sp pc ii rf f1 f2 md pt m outs) Q := by
  have h1 := hx.1
  have h2 := hx.2
  have e : Builtin.bitOr (r2 * 2 ^ Int.toNat 8) r3 = r2 * 256 + r3 := by rw [p8, or8 hy.1 hy.2]
  rw [← e] at h
  unfold fn_pair
  walk_at "ev"
  exact h
theorem b_set1 {v : Int} (h : Q .none (HB g ins d a G r0 r1 (v / 256 % 256) (v % 256) r4 r5 r6 r7 sp pc ii rf f1 f2 md pt m outs)) : fn_set_pair [.obj 18, .int 1, .int v] (HB g ins d a G r0 r1 r2 r3 r4 r5 r6 r7 sp pc ii rf f1 f2 md pt m outs) Q := by
  rw [← sh8, ← bitAnd_m8 v] at h
  unfold fn_set_pair
  walk_at "ev"
  exact h
theorem b_pair2 (hx : Byte r4) (hy : Byte r5) (h : Q (.int (r4 * 256 + r5)) (HB g ins d a G r0 r1 r2 r3 r4 r5 r6 r7 sp pc ii rf f1 f2 md pt m outs)) : fn_pair [.obj 18, .int 2] (HB g ins d a G r0 r1 r2 r3 r4 r5 r6 r7 sp pc ii rf f1 f2 md pt m outs) Q := by
  have h1 := hx.1
  have h2 := hx.2
  have e : Builtin.bitOr (r4 * 2 ^ Int.toNat 8) r5 = r4 * 256 + r5 := by rw [p8, or8 hy.1 hy.2]
  rw [← e] at h
  unfold fn_pair
  walk_at "ev"
  exact h
theorem b_set2 {v : Int} (h : Q .none (HB g ins d a G r0 r1 r2 r3 (v / 256 % 256) (v % 256) r6 r7 sp pc ii rf f1 f2 md pt m outs)) : fn_set_pair [.obj 18, .int 2, .int v] (HB g ins d a G r0 r1 r2 r3 r4 r5 r6 r7 sp pc ii rf f1 f2 md pt m outs) Q := by
  rw [← sh8, ← bitAnd_m8 v] at h
  unfold fn_set_pair
  walk_at "ev"
  exact h
theorem b_pair3  (h : Q (.int sp) (HB g ins d a G r0 r1 r2 r3 r4 r5 r6 r7 sp pc ii rf f1 f2 md pt m outs)) : fn_pair [.obj 18, .int 3] (HB g ins d a G r0 r1 r2 r3 r4 r5 r6 r7 sp pc ii rf f1 f2 md pt m outs) Q := by
  unfold fn_pair
  walk_at "ev"
  exact h
theorem b_set3 {v : Int} (h : Q .none (HB g ins d a G r0 r1 r2 r3 r4 r5 r6 r7 (v % 65536) pc ii rf f1 f2 md pt m outs)) : fn_set_pair [.obj 18, .int 3, .int v] (HB g ins d a G r0 r1 r2 r3 r4 r5 r6 r7 sp pc ii rf f1 f2 md pt m outs) Q := by
  rw [← bitAnd_m16 v] at h
  unfold fn_set_pair
  walk_at "ev"
  exact h
theorem b_peek {x : Int} (hm : m.length = 64) (h : Q (.int (mg m x)) (HB g ins d a G r0 r1 r2 r3 r4 r5 r6 r7 sp pc ii rf f1 f2 md pt m outs)) : fn_peek [.obj 25, .int x] (HB g ins d a G r0 r1 r2 r3 r4 r5 r6 r7 sp pc ii rf f1 f2 md pt m outs) Q := by
  obtain ⟨e1, e2, e3, e4⟩ := ix_l hm x
  unfold fn_peek
  walk_at "ev"
  rw [e1]; walk_at "wh"; rw [e2]; walk_at "wh"; rw [e3]; walk_at "ev"
  exact h
theorem b_poke {x v : Int} (hm : m.length = 64) (h : Q .none (HB g ins d a G r0 r1 r2 r3 r4 r5 r6 r7 sp pc ii rf f1 f2 md pt (ms m x (v % 256)) outs)) : fn_poke [.obj 25, .int x, .int v] (HB g ins d a G r0 r1 r2 r3 r4 r5 r6 r7 sp pc ii rf f1 f2 md pt m outs) Q := by
  obtain ⟨e1, e2, e3, e4⟩ := ix_l hm x
  rw [← bitAnd_m8 v] at h
  unfold fn_poke
  walk_at "ev"
  rw [e1]; walk_at "wh"; rw [e2]; walk_at "wh"; rw [e4]; walk_at "ev"
  exact h
theorem b_peek16 {x : Int} (hm : m.length = 64) (hb : AllB m) (h : Q (.int (mg m x + 256 * mg m (x + 1))) (HB g ins d a G r0 r1 r2 r3 r4 r5 r6 r7 sp pc ii rf f1 f2 md pt m outs)) : fn_peek16 [.obj 25, .int x] (HB g ins d a G r0 r1 r2 r3 r4 r5 r6 r7 sp pc ii rf f1 f2 md pt m outs) Q := by
  have b1 := mg_byte hm hb x
  have b2 := mg_byte hm hb (x + 1)
  have h1 := b2.1
  have h2 := b2.2
  have em : mg m (Builtin.bitAnd (x + 1) 65535) = mg m (x + 1) := mg_and m _
  have e : Builtin.bitOr (mg m x) (mg m (Builtin.bitAnd (x + 1) 65535) * 2 ^ Int.toNat 8) = mg m x + 256 * mg m (x + 1) := by rw [em, p8, bitOr_comm, or8 b1.1 b1.2]; lia
  rw [← e] at h
  unfold fn_peek16
  walk_at "ev"
  refine b_peek hm ?_
  walk_at "ev"
  refine b_peek hm ?_
  have n1 : (mg m (Builtin.bitAnd (x + 1) 65535)).natAbs < 2 ^ 63 := by rw [em]; lia
  walk_at "ev"
  exact h
theorem b_poke16 {x v : Int} (hm : m.length = 64) (hv : Word v) (h : Q .none (HB g ins d a G r0 r1 r2 r3 r4 r5 r6 r7 sp pc ii rf f1 f2 md pt (ms (ms m x (v % 256)) (x + 1) (v / 256)) outs)) : fn_poke16 [.obj 25, .int x, .int v] (HB g ins d a G r0 r1 r2 r3 r4 r5 r6 r7 sp pc ii rf f1 f2 md pt m outs) Q := by
  have h1 := hv.1
  have h2 := hv.2
  have e1 : Builtin.bitAnd v 255 % 256 = v % 256 := by rw [bitAnd_m8]; lia
  have e2 : Builtin.bitAnd (v.fdiv (2 ^ Int.toNat 8)) 255 % 256 = v / 256 := by rw [bitAnd_m8, p8, fdiv_pos _ (by decide)]; lia
  rw [← e1, ← ms_and, ← e2] at h
  unfold fn_poke16
  walk_at "ev"
  refine b_poke hm ?_
  walk_at "ev"
  refine b_poke (by rw [ms_len]; exact hm) ?_
  walk_at "ev"
  exact h
theorem b_fetch (hm : m.length = 64) (h : Q (.int (mg m pc)) (HB g ins d a G r0 r1 r2 r3 r4 r5 r6 r7 sp ((pc + 1) % 65536) ii rf f1 f2 md pt m outs)) : fn_fetch [.obj 18, .obj 25] (HB g ins d a G r0 r1 r2 r3 r4 r5 r6 r7 sp pc ii rf f1 f2 md pt m outs) Q := by
  rw [← bitAnd_m16 (pc + 1)] at h
  unfold fn_fetch
  walk_at "ev"
  refine b_peek hm ?_
  walk_at "ev"
  exact h
theorem b_fetch16 (hm : m.length = 64) (hb : AllB m) (h : Q (.int (mg m pc + 256 * mg m (pc + 1))) (HB g ins d a G r0 r1 r2 r3 r4 r5 r6 r7 sp ((pc + 2) % 65536) ii rf f1 f2 md pt m outs)) : fn_fetch16 [.obj 18, .obj 25] (HB g ins d a G r0 r1 r2 r3 r4 r5 r6 r7 sp pc ii rf f1 f2 md pt m outs) Q := by
  have b1 := mg_byte hm hb pc
  have b2 := mg_byte hm hb (pc + 1)
  have h1 := b2.1
  have h2 := b2.2
  have em : mg m ((pc + 1) % 65536) = mg m (pc + 1) := mg_mod m _
  have e : Builtin.bitOr (mg m pc) (mg m ((pc + 1) % 65536) * 2 ^ Int.toNat 8) = mg m pc + 256 * mg m (pc + 1) := by rw [em, p8, bitOr_comm, or8 b1.1 b1.2]; lia
  have e2 : ((pc + 1) % 65536 + 1) % 65536 = (pc + 2) % 65536 := by lia
  rw [← e, ← e2] at h
  unfold fn_fetch16
  walk_at "ev"
  refine b_fetch hm ?_
  walk_at "ev"
  refine b_fetch hm ?_
  have n1 : (mg m ((pc + 1) % 65536)).natAbs < 2 ^ 63 := by rw [em]; lia
  walk_at "ev"
  exact h
theorem b_pop (hm : m.length = 64) (hb : AllB m) (h : Q (.int (mg m sp + 256 * mg m (sp + 1))) (HB g ins d a G r0 r1 r2 r3 r4 r5 r6 r7 ((sp + 2) % 65536) pc ii rf f1 f2 md pt m outs)) : fn_pop [.obj 18, .obj 25] (HB g ins d a G r0 r1 r2 r3 r4 r5 r6 r7 sp pc ii rf f1 f2 md pt m outs) Q := by
  rw [← bitAnd_m16 (sp + 2)] at h
  unfold fn_pop
  walk_at "ev"
  refine b_peek16 hm hb ?_
  walk_at "ev"
  exact h
theorem b_in {x : Int} (h0 : Byte i0) (h1 : Byte i1) (h2 : Byte i2) (h : Q (.int (ig [i0, i1, i2] pt)) (HB g [i0, i1, i2] d a G r0 r1 r2 r3 r4 r5 r6 r7 sp pc ii rf f1 f2 md (pt + 1) m outs)) : fn_port_in [.obj 32, .int x] (HB g [i0, i1, i2] d a G r0 r1 r2 r3 r4 r5 r6 r7 sp pc ii rf f1 f2 md pt m outs) Q := by
  have hb := ig_byte h0 h1 h2 pt
  have e : Builtin.bitAnd (ig [i0, i1, i2] pt) 255 = ig [i0, i1, i2] pt := by have := hb.1; have := hb.2; rw [bitAnd_m8]; lia
  rw [← e] at h
  obtain ⟨e1, e2, e3⟩ := ix_3 i0 i1 i2 pt
  have n0 : ([i0, i1, i2] : List Int).length < 2 ^ 62 := by show 3 < 2 ^ 62; decide
  have n1 : (([i0, i1, i2] : List Int).length : Int) ≠ 0 := by show (3 : Int) ≠ 0; decide
  unfold fn_port_in
  walk_at "ev"
  rw [e1]; walk_at "wh"; rw [e2]; walk_at "wh"; rw [e3]; walk_at "ev"
  exact h
theorem b_out {x v : Int} (ho : outs.length ≤ 1000) (h : Q .none (HB g ins d a G r0 r1 r2 r3 r4 r5 r6 r7 sp pc ii rf f1 f2 md pt m (outs ++ [.tup [.int (x % 256), .int (v % 256)]]))) : fn_port_out [.obj 32, .int x, .int v] (HB g ins d a G r0 r1 r2 r3 r4 r5 r6 r7 sp pc ii rf f1 f2 md pt m outs) Q := by
  rw [← bitAnd_m8 x, ← bitAnd_m8 v] at h
  unfold fn_port_out
  walk_at "ev"
  exact h
end
@[elab_as_elim] theorem y8 {P : Nat → Prop} (y : Nat) (hy : y < 8) (h0 : P 0) (h1 : P 1) (h2 : P 2) (h3 : P 3) (h4 : P 4) (h5 : P 5) (h6 : P 6) (h7 : P 7) : P y := by
  rcases (by lia : y = 0 ∨ y = 1 ∨ y = 2 ∨ y = 3 ∨ y = 4 ∨ y = 5 ∨ y = 6 ∨ y = 7) with rfl | rfl | rfl | rfl | rfl | rfl | rfl | rfl <;> assumption
@[elab_as_elim] theorem y47 {P : Nat → Prop} (y : Nat) (h : 4 ≤ y ∧ y < 8) (h4 : P 4) (h5 : P 5) (h6 : P 6) (h7 : P 7) : P y := by
  rcases (by lia : y = 4 ∨ y = 5 ∨ y = 6 ∨ y = 7) with rfl | rfl | rfl | rfl <;> assumption
noncomputable def wd (m : List Int) (x : Int) : Int := mg m x + 256 * mg m (x + 1)
noncomputable def getR (s : St) : Nat → Int
  | 0 => s.r0
  | 1 => s.r1
  | 2 => s.r2
  | 3 => s.r3
  | 4 => s.r4
  | 5 => s.r5
  | 6 => 0
  | _ => s.r7
noncomputable def setR (s : St) (v : Int) : Nat → St
  | 0 => { s with r0 := v }
  | 1 => { s with r1 := v }
  | 2 => { s with r2 := v }
  | 3 => { s with r3 := v }
  | 4 => { s with r4 := v }
  | 5 => { s with r5 := v }
  | 6 => s
  | _ => { s with r7 := v }
noncomputable def getP (s : St) : Nat → Int
  | 0 => s.r0 * 256 + s.r1
  | 1 => s.r2 * 256 + s.r3
  | 2 => s.r4 * 256 + s.r5
  | _ => s.sp
noncomputable def setP (s : St) (v : Int) : Nat → St
  | 0 => { s with r0 := v / 256 % 256, r1 := v % 256 }
  | 1 => { s with r2 := v / 256 % 256, r3 := v % 256 }
  | 2 => { s with r4 := v / 256 % 256, r5 := v % 256 }
  | _ => { s with sp := v % 65536 }
noncomputable def odd (y : Nat) : Bool := match y with
  | 0 => false
  | 1 => true
  | 2 => false
  | 3 => true
  | 4 => false
  | 5 => true
  | 6 => false
  | _ => true
noncomputable def half (y : Nat) : Nat := match y with
  | 0 => 0
  | 1 => 0
  | 2 => 1
  | 3 => 1
  | 4 => 2
  | 5 => 2
  | 6 => 3
  | _ => 3
noncomputable def dueIn (ins : List Int) (y : Nat) (s : St) : St := setR { s with pt := s.pt + 1, r6 := told (ig ins s.pt) + par (ig ins s.pt) + s.r6 % 2 } (ig ins s.pt) y
noncomputable def dueOut (y : Nat) (s : St) : St := { s with outs := s.outs ++ [.tup [.int s.r1, .int (getR s y)]] }
noncomputable def dueSum (y : Nat) (s : St) : St := match odd y with
  | true => { setP s ((getP s 2 + getP s (half y) + s.r6 % 2) % 65536) 2 with r6 := addF (getP s 2) (getP s (half y)) (s.r6 % 2) 1 }
  | false => { setP s ((getP s 2 - getP s (half y) - s.r6 % 2) % 65536) 2 with r6 := addF (getP s 2) (getP s (half y)) (s.r6 % 2) (-1) }
noncomputable def dueLoad (y : Nat) (s : St) : St := match odd y with
  | true => setP { s with pc := (s.pc + 2) % 65536 } (wd s.m (wd s.m s.pc)) (half y)
  | false => { s with pc := (s.pc + 2) % 65536, m := ms (ms s.m (wd s.m s.pc) (getP s (half y) % 256)) (wd s.m s.pc + 1) (getP s (half y) / 256) }
noncomputable def dueNeg (s : St) : St := { s with r7 := (0 - s.r7) % 256, r6 := negF s.r7 }
noncomputable def dueRet (s : St) : St := { s with pc := wd s.m s.sp, sp := (s.sp + 2) % 65536, f1 := s.f2 }
noncomputable def dueIm (y : Nat) (s : St) : St := match y with
  | 2 => { s with md := 1 }
  | 3 => { s with md := 2 }
  | 6 => { s with md := 1 }
  | 7 => { s with md := 2 }
  | _ => { s with md := 0 }
noncomputable def dueSpec (y : Nat) (s : St) : St := match y with
  | 0 => { s with ii := s.r7 }
  | 1 => { s with rf := s.r7 }
  | 2 => { s with r7 := s.ii, r6 := told s.ii + 4 * s.f2 + s.r6 % 2 }
  | 3 => { s with r7 := s.rf, r6 := told s.rf + 4 * s.f2 + s.r6 % 2 }
  | 4 => { s with r7 := s.r7 / 16 * 16 + mg s.m (s.r4 * 256 + s.r5) % 16, m := ms s.m (s.r4 * 256 + s.r5) (s.r7 % 16 * 16 + mg s.m (s.r4 * 256 + s.r5) / 16), r6 := told (s.r7 / 16 * 16 + mg s.m (s.r4 * 256 + s.r5) % 16) + par (s.r7 / 16 * 16 + mg s.m (s.r4 * 256 + s.r5) % 16) + s.r6 % 2 }
  | 5 => { s with r7 := s.r7 / 16 * 16 + mg s.m (s.r4 * 256 + s.r5) / 16, m := ms s.m (s.r4 * 256 + s.r5) (mg s.m (s.r4 * 256 + s.r5) % 16 * 16 + s.r7 % 16), r6 := told (s.r7 / 16 * 16 + mg s.m (s.r4 * 256 + s.r5) / 16) + par (s.r7 / 16 * 16 + mg s.m (s.r4 * 256 + s.r5) / 16) + s.r6 % 2 }
  | _ => s
noncomputable def way (y : Nat) : Int := match odd y with
  | true => -1
  | false => 1
noncomputable def blk (ins : List Int) (y z : Nat) (s : St) : St × Bool :=
  let hl := s.r4 * 256 + s.r5
  let de := s.r2 * 256 + s.r3
  let bc := s.r0 * 256 + s.r1
  let left := (bc - 1) / 256 % 256 * 256 + (bc - 1) % 256
  let w := way y
  match z with
  | 0 => ({ s with r4 := (hl + w) / 256 % 256, r5 := (hl + w) % 256, r2 := (de + w) / 256 % 256, r3 := (de + w) % 256, r0 := (bc - 1) / 256 % 256, r1 := (bc - 1) % 256, m := ms s.m de (mg s.m hl), r6 := moveF s.r7 (mg s.m hl) left s.r6 }, decide (left ≠ 0))
  | 1 => ({ s with r4 := (hl + w) / 256 % 256, r5 := (hl + w) % 256, r0 := (bc - 1) / 256 % 256, r1 := (bc - 1) % 256, r6 := seekF s.r7 (mg s.m hl) left s.r6 }, decide (left ≠ 0) && decide ((s.r7 - mg s.m hl) % 256 ≠ 0))
  | 2 => ({ s with r4 := (hl + w) / 256 % 256, r5 := (hl + w) % 256, pt := s.pt + 1, m := ms s.m hl (ig ins s.pt), r0 := (s.r0 - 1) % 256, r6 := portF (ig ins s.pt) ((s.r1 + w) % 256) ((s.r0 - 1) % 256) }, decide ((s.r0 - 1) % 256 ≠ 0))
  | _ => ({ s with r4 := (hl + w) / 256 % 256, r5 := (hl + w) % 256, r0 := (s.r0 - 1) % 256, outs := s.outs ++ [.tup [.int s.r1, .int (mg s.m hl)]], r6 := portF (mg s.m hl) ((hl + w) % 256) ((s.r0 - 1) % 256) }, decide ((s.r0 - 1) % 256 ≠ 0))
noncomputable def blkS (y : Nat) (p : St × Bool) : St × Int := match y with
  | 6 => (match p.2 with | true => ({ p.1 with pc := (p.1.pc - 2) % 65536 }, 21) | false => (p.1, 16))
  | 7 => (match p.2 with | true => ({ p.1 with pc := (p.1.pc - 2) % 65536 }, 21) | false => (p.1, 16))
  | _ => (p.1, 16)
noncomputable def due1 (ins : List Int) (y z : Nat) (s : St) : St × Int := match z with
  | 0 => (dueIn ins y s, 12)
  | 1 => (dueOut y s, 12)
  | 2 => (dueSum y s, 15)
  | 3 => (dueLoad y s, 20)
  | 4 => (dueNeg s, 8)
  | 5 => (dueRet s, 14)
  | 6 => (dueIm y s, 8)
  | _ => (dueSpec y s, match y with | 0 => 9 | 1 => 9 | 2 => 9 | 3 => 9 | 4 => 18 | 5 => 18 | _ => 8)
structure Wf (s : St) : Prop where
  b0 : Byte s.r0
  b1 : Byte s.r1
  b2 : Byte s.r2
  b3 : Byte s.r3
  b4 : Byte s.r4
  b5 : Byte s.r5
  b6 : Byte s.r6
  b7 : Byte s.r7
  wsp : Word s.sp
  wpc : Word s.pc
  bi : Byte s.ii
  bf : Byte s.rf
  i2 : s.f2 = 0 ∨ s.f2 = 1
  ml : s.m.length = 64
  mb : AllB s.m
theorem word_hi {x y : Int} (hx : Byte x) (hy : Byte y) : Word (x * 256 + y) := by
  have := hx.1; have := hx.2; have := hy.1; have := hy.2; unfold Word; lia
theorem wfO {r0 r1 r2 r3 r4 r5 r6 r7 sp pc ii rf f1 f2 md pt : Int} {m : List Int} {outs : List V} (W : Wf ⟨r0, r1, r2, r3, r4, r5, r6, r7, sp, pc, ii, rf, f1, f2, md, pt, m, outs⟩) : Byte r0 ∧ Byte r1 ∧ Byte r2 ∧ Byte r3 ∧ Byte r4 ∧ Byte r5 ∧ Byte r6 ∧ Byte r7 ∧ m.length = 64 ∧ AllB m := ⟨W.b0, W.b1, W.b2, W.b3, W.b4, W.b5, W.b6, W.b7, W.ml, W.mb⟩
theorem wfK {P : Prop} {r0 r1 r2 r3 r4 r5 r6 r7 sp pc ii rf f1 f2 md pt : Int} {m : List Int} {outs : List V} (W : Wf ⟨r0, r1, r2, r3, r4, r5, r6, r7, sp, pc, ii, rf, f1, f2, md, pt, m, outs⟩) (k : Byte r0 → Byte r1 → Byte r2 → Byte r3 → Byte r4 → Byte r5 → Byte r6 → Byte r7 → m.length = 64 → AllB m → P) : P := k W.b0 W.b1 W.b2 W.b3 W.b4 W.b5 W.b6 W.b7 W.ml W.mb
theorem w65a (v : Int) : v % 65536 / 256 % 256 = v / 256 % 256 := by lia
theorem w65b (v : Int) : v % 65536 % 256 = v % 256 := by lia
theorem byte_hi (v : Int) : Byte (v / 256 % 256) := by unfold Byte; lia
theorem byte_lo (v : Int) : Byte (v % 256) := by unfold Byte; lia
theorem byte_lo2 (v : Int) : (v / 256 % 256 * 256 + v % 256) % 256 = v % 256 := by lia
theorem bne_dec (x y : Int) : (x != y) = decide (x ≠ y) := by
  by_cases e : x = y
  · subst e; simp
  · simp [e]
theorem cond_s {b : Bool} {P Q : Prop} (h1 : b = true → P) (h2 : b = false → Q) : cond b P Q := by
  cases b
  · exact h2 rfl
  · exact h1 rfl
theorem seek_s {A z p q r s t : Int} : A + z + p + 2 + q + r * 32 + s * 8 + t = A + z + (p + 2 + q + r * 32 + s * 8 + t) := by lia
theorem seek_k {A l : Int} (h : 0 ≤ l ∧ l < 64) : (A * 128 + 64 + l) / 64 % 2 = 1 ∧ (A * 128 + 0 + l) / 64 % 2 = 0 := by lia
theorem seek_z {a o left f : Int} (ha : Byte a) (ho : Byte o) : (Builtin.bitAnd (seekF a o left f) 64 == 0) = decide ((a - o) % 256 ≠ 0) := by
  have hr : Byte ((a - o) % 256) := byte_lo _
  have h1 := hr.1
  have h2 := hr.2
  have e1 : Builtin.bitAnd ((a - o) % 256) 128 = (a - o) % 256 / 128 * 128 := byte_all (P := fun r => Builtin.bitAnd r 128 = r / 128 * 128) (by decide +kernel) hr
  have e2 := bit_cond (seekF a o left f) 6
  rw [show (2 : Int) ^ 6 = 64 by decide] at e2
  rw [e2]
  have e3 : seekF a o left f / 64 % 2 = if (a - o) % 256 = 0 then 1 else 0 := by
    unfold seekF
    rw [e1]
    generalize (a - o) % 256 = r at *
    have k1 : ∀ x : Int, 0 ≤ x % 2 ∧ x % 2 ≤ 1 := fun x => by lia
    have k2 := k1 ((r - (if a % 16 < o % 16 then 16 else 0) / 16) / 2)
    have k3 := k1 ((r - (if a % 16 < o % 16 then 16 else 0) / 16) / 8)
    have k4 := k1 f
    generalize (r - (if a % 16 < o % 16 then 16 else 0) / 16) / 2 % 2 = p2 at *
    generalize (r - (if a % 16 < o % 16 then 16 else 0) / 16) / 8 % 2 = p8 at *
    generalize f % 2 = pf at *
    have k5 : (if left > 0 then (4 : Int) else 0) = 4 ∨ (if left > 0 then (4 : Int) else 0) = 0 := by split <;> simp
    have k6 : (if a % 16 < o % 16 then (16 : Int) else 0) = 16 ∨ (if a % 16 < o % 16 then (16 : Int) else 0) = 0 := by split <;> simp
    generalize (if left > 0 then (4 : Int) else 0) = pl at *
    generalize (if a % 16 < o % 16 then (16 : Int) else 0) = ph at *
    have kl : 0 ≤ ph + 2 + pf + p2 * 32 + p8 * 8 + pl ∧ ph + 2 + pf + p2 * 32 + p8 * 8 + pl < 64 := by clear h1 h2 hr e1 e2 k1; lia
    clear h1 h2 hr e1 e2 k1 k2 k3 k4 k5 k6
    rw [seek_s]
    by_cases q : r = 0
    · rw [if_pos q, if_pos q]; exact (seek_k kl).1
    · rw [if_neg q, if_neg q]; exact (seek_k kl).2
  rw [e3]
  by_cases q : (a - o) % 256 = 0
  · rw [if_pos q]; simp [q]
  · rw [if_neg q]; simp [q]
theorem blkS6f {p : St × Bool} (e : p.2 = false) : blkS 6 p = (p.1, 16) := by
  rcases p with ⟨s, _ | _⟩
  all_goals first | rfl | cases e
theorem blkS6t {p : St × Bool} (e : p.2 = true) : blkS 6 p = ({ p.1 with pc := (p.1.pc - 2) % 65536 }, 21) := by
  rcases p with ⟨s, _ | _⟩
  all_goals first | rfl | cases e
theorem blkS7f {p : St × Bool} (e : p.2 = false) : blkS 7 p = (p.1, 16) := by
  rcases p with ⟨s, _ | _⟩
  all_goals first | rfl | cases e
theorem blkS7t {p : St × Bool} (e : p.2 = true) : blkS 7 p = ({ p.1 with pc := (p.1.pc - 2) % 65536 }, 21) := by
  rcases p with ⟨s, _ | _⟩
  all_goals first | rfl | cases e
theorem byte_mod {v : Int} (h : Byte v) : v % 256 = v := by have := h.1; have := h.2; lia
section
variable {g : Nat → O} {i0 i1 i2 : Int} {ins : List Int} {d a b : St} {G : List O} {Q : V → List O → Prop}
variable {r0 r1 r2 r3 r4 r5 r6 r7 sp pc ii rf f1 f2 md pt : Int} {m : List Int} {outs : List V}
theorem a_lead0 {s : Int} (hx : Byte r0) (hy : Byte r1) (h : Q (.int ((r0 * 256 + r1 + s) / 256 % 256 * 256 + (r0 * 256 + r1 + s) % 256)) (HA g ins d b G ((r0 * 256 + r1 + s) / 256 % 256) ((r0 * 256 + r1 + s) % 256) r2 r3 r4 r5 r6 r7 sp pc ii rf f1 f2 md pt m outs)) : fn_lead [.obj 11, .int 0, .int s] (HA g ins d b G r0 r1 r2 r3 r4 r5 r6 r7 sp pc ii rf f1 f2 md pt m outs) Q := by
  have e1 : Builtin.bitAnd (r0 * 256 + r1 + s) 65535 / 256 % 256 = (r0 * 256 + r1 + s) / 256 % 256 := by rw [bitAnd_m16, w65a]
  have e2 : Builtin.bitAnd (r0 * 256 + r1 + s) 65535 % 256 = (r0 * 256 + r1 + s) % 256 := by rw [bitAnd_m16, w65b]
  rw [← e1, ← e2] at h
  unfold fn_lead
  walk_at "ev"
  refine a_pair0 hx hy ?_
  walk_at "ev"
  refine a_set0 ?_
  walk_at "ev"
  refine a_pair0 (by rw [e1]; exact byte_hi _) (by rw [e2]; exact byte_lo _) ?_
  walk_at "ev"
  exact h
theorem a_lead1 {s : Int} (hx : Byte r2) (hy : Byte r3) (h : Q (.int ((r2 * 256 + r3 + s) / 256 % 256 * 256 + (r2 * 256 + r3 + s) % 256)) (HA g ins d b G r0 r1 ((r2 * 256 + r3 + s) / 256 % 256) ((r2 * 256 + r3 + s) % 256) r4 r5 r6 r7 sp pc ii rf f1 f2 md pt m outs)) : fn_lead [.obj 11, .int 1, .int s] (HA g ins d b G r0 r1 r2 r3 r4 r5 r6 r7 sp pc ii rf f1 f2 md pt m outs) Q := by
  have e1 : Builtin.bitAnd (r2 * 256 + r3 + s) 65535 / 256 % 256 = (r2 * 256 + r3 + s) / 256 % 256 := by rw [bitAnd_m16, w65a]
  have e2 : Builtin.bitAnd (r2 * 256 + r3 + s) 65535 % 256 = (r2 * 256 + r3 + s) % 256 := by rw [bitAnd_m16, w65b]
  rw [← e1, ← e2] at h
  unfold fn_lead
  walk_at "ev"
  refine a_pair1 hx hy ?_
  walk_at "ev"
  refine a_set1 ?_
  walk_at "ev"
  refine a_pair1 (by rw [e1]; exact byte_hi _) (by rw [e2]; exact byte_lo _) ?_
  walk_at "ev"
  exact h
theorem a_lead2 {s : Int} (hx : Byte r4) (hy : Byte r5) (h : Q (.int ((r4 * 256 + r5 + s) / 256 % 256 * 256 + (r4 * 256 + r5 + s) % 256)) (HA g ins d b G r0 r1 r2 r3 ((r4 * 256 + r5 + s) / 256 % 256) ((r4 * 256 + r5 + s) % 256) r6 r7 sp pc ii rf f1 f2 md pt m outs)) : fn_lead [.obj 11, .int 2, .int s] (HA g ins d b G r0 r1 r2 r3 r4 r5 r6 r7 sp pc ii rf f1 f2 md pt m outs) Q := by
  have e1 : Builtin.bitAnd (r4 * 256 + r5 + s) 65535 / 256 % 256 = (r4 * 256 + r5 + s) / 256 % 256 := by rw [bitAnd_m16, w65a]
  have e2 : Builtin.bitAnd (r4 * 256 + r5 + s) 65535 % 256 = (r4 * 256 + r5 + s) % 256 := by rw [bitAnd_m16, w65b]
  rw [← e1, ← e2] at h
  unfold fn_lead
  walk_at "ev"
  refine a_pair2 hx hy ?_
  walk_at "ev"
  refine a_set2 ?_
  walk_at "ev"
  refine a_pair2 (by rw [e1]; exact byte_hi _) (by rw [e2]; exact byte_lo _) ?_
  walk_at "ev"
  exact h
theorem a_come_in (y : Nat) (hy : y < 8) (W : Wf ⟨r0, r1, r2, r3, r4, r5, r6, r7, sp, pc, ii, rf, f1, f2, md, pt, m, outs⟩) (h0 : Byte i0) (h1 : Byte i1) (h2 : Byte i2) (h : Q .none (HH g [i0, i1, i2] d (dueIn [i0, i1, i2] y ⟨r0, r1, r2, r3, r4, r5, r6, r7, sp, pc, ii, rf, f1, f2, md, pt, m, outs⟩) b G)) : fn_come_in [.obj 11, .obj 28, .int y] (HA g [i0, i1, i2] d b G r0 r1 r2 r3 r4 r5 r6 r7 sp pc ii rf f1 f2 md pt m outs) Q := by
  refine wfK W fun b0 b1 b2 b3 b4 b5 b6 b7 ml mb => ?_
  revert h; refine y8 y hy ?_ ?_ ?_ ?_ ?_ ?_ ?_ ?_ <;> intro h
  all_goals
    unfold fn_come_in
    walk_at "ev"
    refine a_in h0 h1 h2 ?_
    walk_at "ev"
    refine c_in_flags (ig_byte h0 h1 h2 _) ?_
    walk_at "ev"
    exact h
theorem a_add_words (y : Nat) (hy : y < 8) (W : Wf ⟨r0, r1, r2, r3, r4, r5, r6, r7, sp, pc, ii, rf, f1, f2, md, pt, m, outs⟩) (h : Q .none (HH g [i0, i1, i2] d (dueSum y ⟨r0, r1, r2, r3, r4, r5, r6, r7, sp, pc, ii, rf, f1, f2, md, pt, m, outs⟩) b G)) : fn_add_words [.obj 11, .int y] (HA g [i0, i1, i2] d b G r0 r1 r2 r3 r4 r5 r6 r7 sp pc ii rf f1 f2 md pt m outs) Q := by
  refine wfK W fun b0 b1 b2 b3 b4 b5 b6 b7 ml mb => ?_
  have hc : Builtin.bitAnd r6 1 = 0 ∨ Builtin.bitAnd r6 1 = 1 := by rw [bitAnd_m1]; lia
  have ec := bitAnd_m1 r6
  revert h; refine y8 y hy ?_ ?_ ?_ ?_ ?_ ?_ ?_ ?_ <;> intro h
  · unfold fn_add_words; walk_at "ev"; refine a_pair2 b4 b5 ?_; walk_at "ev"; refine a_pair0 b0 b1 ?_; walk_at "ev"; refine c_sbc16 (word_hi b4 b5) (word_hi b0 b1) hc ?_; walk_at "ev"; refine a_set2 ?_; walk_at "ev"; rw [ec]; exact h
  · unfold fn_add_words; walk_at "ev"; refine a_pair2 b4 b5 ?_; walk_at "ev"; refine a_pair0 b0 b1 ?_; walk_at "ev"; refine c_adc16 (word_hi b4 b5) (word_hi b0 b1) hc ?_; walk_at "ev"; refine a_set2 ?_; walk_at "ev"; rw [ec]; exact h
  · unfold fn_add_words; walk_at "ev"; refine a_pair2 b4 b5 ?_; walk_at "ev"; refine a_pair1 b2 b3 ?_; walk_at "ev"; refine c_sbc16 (word_hi b4 b5) (word_hi b2 b3) hc ?_; walk_at "ev"; refine a_set2 ?_; walk_at "ev"; rw [ec]; exact h
  · unfold fn_add_words; walk_at "ev"; refine a_pair2 b4 b5 ?_; walk_at "ev"; refine a_pair1 b2 b3 ?_; walk_at "ev"; refine c_adc16 (word_hi b4 b5) (word_hi b2 b3) hc ?_; walk_at "ev"; refine a_set2 ?_; walk_at "ev"; rw [ec]; exact h
  · unfold fn_add_words; walk_at "ev"; refine a_pair2 b4 b5 ?_; walk_at "ev"; refine a_pair2 b4 b5 ?_; walk_at "ev"; refine c_sbc16 (word_hi b4 b5) (word_hi b4 b5) hc ?_; walk_at "ev"; refine a_set2 ?_; walk_at "ev"; rw [ec]; exact h
  · unfold fn_add_words; walk_at "ev"; refine a_pair2 b4 b5 ?_; walk_at "ev"; refine a_pair2 b4 b5 ?_; walk_at "ev"; refine c_adc16 (word_hi b4 b5) (word_hi b4 b5) hc ?_; walk_at "ev"; refine a_set2 ?_; walk_at "ev"; rw [ec]; exact h
  · unfold fn_add_words; walk_at "ev"; refine a_pair2 b4 b5 ?_; walk_at "ev"; refine a_pair3  ?_; walk_at "ev"; refine c_sbc16 (word_hi b4 b5) W.wsp hc ?_; walk_at "ev"; refine a_set2 ?_; walk_at "ev"; rw [ec]; exact h
  · unfold fn_add_words; walk_at "ev"; refine a_pair2 b4 b5 ?_; walk_at "ev"; refine a_pair3  ?_; walk_at "ev"; refine c_adc16 (word_hi b4 b5) W.wsp hc ?_; walk_at "ev"; refine a_set2 ?_; walk_at "ev"; rw [ec]; exact h
theorem a_load_words (y : Nat) (hy : y < 8) (W : Wf ⟨r0, r1, r2, r3, r4, r5, r6, r7, sp, pc, ii, rf, f1, f2, md, pt, m, outs⟩) (h : Q .none (HH g [i0, i1, i2] d (dueLoad y ⟨r0, r1, r2, r3, r4, r5, r6, r7, sp, pc, ii, rf, f1, f2, md, pt, m, outs⟩) b G)) : fn_load_words [.obj 11, .obj 24, .int y] (HA g [i0, i1, i2] d b G r0 r1 r2 r3 r4 r5 r6 r7 sp pc ii rf f1 f2 md pt m outs) Q := by
  refine wfK W fun b0 b1 b2 b3 b4 b5 b6 b7 ml mb => ?_
  revert h; refine y8 y hy ?_ ?_ ?_ ?_ ?_ ?_ ?_ ?_ <;> intro h
  · unfold fn_load_words; walk_at "ev"; refine a_fetch16 ml mb ?_; walk_at "ev"; refine a_pair0 b0 b1 ?_; walk_at "ev"; refine a_poke16 ml (word_hi b0 b1) ?_; walk_at "ev"; exact h
  · unfold fn_load_words; walk_at "ev"; refine a_fetch16 ml mb ?_; walk_at "ev"; refine a_peek16 ml mb ?_; walk_at "ev"; refine a_set0 ?_; walk_at "ev"; exact h
  · unfold fn_load_words; walk_at "ev"; refine a_fetch16 ml mb ?_; walk_at "ev"; refine a_pair1 b2 b3 ?_; walk_at "ev"; refine a_poke16 ml (word_hi b2 b3) ?_; walk_at "ev"; exact h
  · unfold fn_load_words; walk_at "ev"; refine a_fetch16 ml mb ?_; walk_at "ev"; refine a_peek16 ml mb ?_; walk_at "ev"; refine a_set1 ?_; walk_at "ev"; exact h
  · unfold fn_load_words; walk_at "ev"; refine a_fetch16 ml mb ?_; walk_at "ev"; refine a_pair2 b4 b5 ?_; walk_at "ev"; refine a_poke16 ml (word_hi b4 b5) ?_; walk_at "ev"; exact h
  · unfold fn_load_words; walk_at "ev"; refine a_fetch16 ml mb ?_; walk_at "ev"; refine a_peek16 ml mb ?_; walk_at "ev"; refine a_set2 ?_; walk_at "ev"; exact h
  · unfold fn_load_words; walk_at "ev"; refine a_fetch16 ml mb ?_; walk_at "ev"; refine a_pair3  ?_; walk_at "ev"; refine a_poke16 ml W.wsp ?_; walk_at "ev"; exact h
  · unfold fn_load_words; walk_at "ev"; refine a_fetch16 ml mb ?_; walk_at "ev"; refine a_peek16 ml mb ?_; walk_at "ev"; refine a_set3 ?_; walk_at "ev"; exact h
theorem a_do_special (y : Nat) (hy : y < 8) (W : Wf ⟨r0, r1, r2, r3, r4, r5, r6, r7, sp, pc, ii, rf, f1, f2, md, pt, m, outs⟩) (h : Q (.int (due1 [i0, i1, i2] y 7 ⟨r0, r1, r2, r3, r4, r5, r6, r7, sp, pc, ii, rf, f1, f2, md, pt, m, outs⟩).2) (HH g [i0, i1, i2] d (dueSpec y ⟨r0, r1, r2, r3, r4, r5, r6, r7, sp, pc, ii, rf, f1, f2, md, pt, m, outs⟩) b G)) : fn_do_special [.obj 11, .obj 24, .int y] (HA g [i0, i1, i2] d b G r0 r1 r2 r3 r4 r5 r6 r7 sp pc ii rf f1 f2 md pt m outs) Q := by
  refine wfK W fun b0 b1 b2 b3 b4 b5 b6 b7 ml mb => ?_
  have bm := mg_byte ml mb (r4 * 256 + r5)
  revert h; refine y8 y hy ?_ ?_ ?_ ?_ ?_ ?_ ?_ ?_ <;> intro h
  · unfold fn_do_special; walk_at "ev"; exact h
  · unfold fn_do_special; walk_at "ev"; exact h
  · unfold fn_do_special; walk_at "ev"; refine c_load_flags W.bi W.i2 ?_; walk_at "ev"; exact h
  · unfold fn_do_special; walk_at "ev"; refine c_load_flags W.bf W.i2 ?_; walk_at "ev"; exact h
  · unfold fn_do_special; walk_at "ev"; refine a_pair2 b4 b5 ?_; walk_at "ev"; refine a_peek ml ?_; walk_at "ev"; refine c_rrd b7 bm ?_; walk_at "ev"; refine a_poke ml ?_; walk_at "ev"; rw [show (r7 % 16 * 16 + mg m (r4 * 256 + r5) / 16) % 256 = r7 % 16 * 16 + mg m (r4 * 256 + r5) / 16 by have := b7.1; have := b7.2; have := bm.1; have := bm.2; lia]; exact h
  · unfold fn_do_special; walk_at "ev"; refine a_pair2 b4 b5 ?_; walk_at "ev"; refine a_peek ml ?_; walk_at "ev"; refine c_rld b7 bm ?_; walk_at "ev"; refine a_poke ml ?_; walk_at "ev"; rw [show (mg m (r4 * 256 + r5) % 16 * 16 + r7 % 16) % 256 = mg m (r4 * 256 + r5) % 16 * 16 + r7 % 16 by have := b7.1; have := b7.2; have := bm.1; have := bm.2; lia]; exact h
  · unfold fn_do_special; walk_at "ev"; exact h
  · unfold fn_do_special; walk_at "ev"; exact h
theorem a_leadm0 (hx : Byte r0) (hy : Byte r1) (h : Q (.int ((r0 * 256 + r1 - 1) / 256 % 256 * 256 + (r0 * 256 + r1 - 1) % 256)) (HA g ins d b G ((r0 * 256 + r1 - 1) / 256 % 256) ((r0 * 256 + r1 - 1) % 256) r2 r3 r4 r5 r6 r7 sp pc ii rf f1 f2 md pt m outs)) : fn_lead [.obj 11, .int 0, .int (-1)] (HA g ins d b G r0 r1 r2 r3 r4 r5 r6 r7 sp pc ii rf f1 f2 md pt m outs) Q := by
  rw [show r0 * 256 + r1 - 1 = r0 * 256 + r1 + -1 by lia] at h
  exact a_lead0 hx hy h
theorem a_move_one {s : Int} {go : Bool} (W : Wf ⟨r0, r1, r2, r3, r4, r5, r6, r7, sp, pc, ii, rf, f1, f2, md, pt, m, outs⟩) (e : decide (((r0 * 256 + r1 - 1) / 256 % 256 * 256 + (r0 * 256 + r1 - 1) % 256) ≠ 0) = go) (h : Q (.bool go) (HA g [i0, i1, i2] d b G ((r0 * 256 + r1 - 1) / 256 % 256) ((r0 * 256 + r1 - 1) % 256) ((r2 * 256 + r3 + s) / 256 % 256) ((r2 * 256 + r3 + s) % 256) ((r4 * 256 + r5 + s) / 256 % 256) ((r4 * 256 + r5 + s) % 256) (moveF r7 (mg m (r4 * 256 + r5)) ((r0 * 256 + r1 - 1) / 256 % 256 * 256 + (r0 * 256 + r1 - 1) % 256) r6) r7 sp pc ii rf f1 f2 md pt (ms m (r2 * 256 + r3) (mg m (r4 * 256 + r5))) outs)) : fn_move_one [.obj 11, .obj 24, .int s] (HA g [i0, i1, i2] d b G r0 r1 r2 r3 r4 r5 r6 r7 sp pc ii rf f1 f2 md pt m outs) Q := by
  refine wfK W fun b0 b1 b2 b3 b4 b5 b6 b7 ml mb => ?_
  have bm := mg_byte ml mb (r4 * 256 + r5)
  unfold fn_move_one
  walk_at "ev"
  refine a_pair2 b4 b5 ?_
  walk_at "ev"
  refine a_peek ml ?_
  walk_at "ev"
  refine a_pair1 b2 b3 ?_
  walk_at "ev"
  refine a_poke ml ?_
  walk_at "ev"
  rw [byte_mod bm]
  refine a_lead2 b4 b5 ?_
  walk_at "ev"
  refine a_lead1 b2 b3 ?_
  walk_at "ev"
  refine a_leadm0 b0 b1 ?_
  walk_at "ev"
  refine c_move_flags b6 (by lia) ?_
  walk_at "ev"
  walk_at "wh"
  rw [bne_dec, e]
  exact h
theorem a_seek_one {s : Int} {go : Bool} (W : Wf ⟨r0, r1, r2, r3, r4, r5, r6, r7, sp, pc, ii, rf, f1, f2, md, pt, m, outs⟩) (e : (decide (((r0 * 256 + r1 - 1) / 256 % 256 * 256 + (r0 * 256 + r1 - 1) % 256) ≠ 0) && decide ((r7 - (mg m (r4 * 256 + r5))) % 256 ≠ 0)) = go) (h : Q (.bool go) (HA g [i0, i1, i2] d b G ((r0 * 256 + r1 - 1) / 256 % 256) ((r0 * 256 + r1 - 1) % 256) r2 r3 ((r4 * 256 + r5 + s) / 256 % 256) ((r4 * 256 + r5 + s) % 256) (seekF r7 (mg m (r4 * 256 + r5)) ((r0 * 256 + r1 - 1) / 256 % 256 * 256 + (r0 * 256 + r1 - 1) % 256) r6) r7 sp pc ii rf f1 f2 md pt m outs)) : fn_seek_one [.obj 11, .obj 24, .int s] (HA g [i0, i1, i2] d b G r0 r1 r2 r3 r4 r5 r6 r7 sp pc ii rf f1 f2 md pt m outs) Q := by
  refine wfK W fun b0 b1 b2 b3 b4 b5 b6 b7 ml mb => ?_
  have bm := mg_byte ml mb (r4 * 256 + r5)
  unfold fn_seek_one
  walk_at "ev"
  refine a_pair2 b4 b5 ?_
  walk_at "ev"
  refine a_peek ml ?_
  walk_at "ev"
  refine a_lead2 b4 b5 ?_
  walk_at "ev"
  refine a_leadm0 b0 b1 ?_
  walk_at "ev"
  refine c_seek_flags b7 bm (by lia) ?_
  walk_at "ev"
  refine cond_s (fun q => ?_) (fun q => ?_)
  · rw [bne_dec] at q
    rw [q, Bool.true_and, ← seek_z b7 bm (f := r6) (left := ((r0 * 256 + r1 - 1) / 256 % 256 * 256 + (r0 * 256 + r1 - 1) % 256))] at e
    walk_at "ev"
    walk_at "wh"
    rw [e]
    exact h
  · rw [bne_dec] at q
    rw [q, Bool.false_and] at e
    walk_at "ev"
    walk_at "wh"
    rw [bne_dec, q, e]
    exact h
theorem a_take_one {s : Int} {go : Bool} (W : Wf ⟨r0, r1, r2, r3, r4, r5, r6, r7, sp, pc, ii, rf, f1, f2, md, pt, m, outs⟩) (h0 : Byte i0) (h1 : Byte i1) (h2 : Byte i2) (e : decide ((r0 - 1) % 256 ≠ 0) = go) (h : Q (.bool go) (HA g [i0, i1, i2] d b G ((r0 - 1) % 256) r1 r2 r3 ((r4 * 256 + r5 + s) / 256 % 256) ((r4 * 256 + r5 + s) % 256) (portF (ig [i0, i1, i2] pt) ((r1 + s) % 256) ((r0 - 1) % 256)) r7 sp pc ii rf f1 f2 md (pt + 1) (ms m (r4 * 256 + r5) (ig [i0, i1, i2] pt)) outs)) : fn_take_one [.obj 11, .obj 24, .obj 28, .int s] (HA g [i0, i1, i2] d b G r0 r1 r2 r3 r4 r5 r6 r7 sp pc ii rf f1 f2 md pt m outs) Q := by
  refine wfK W fun b0 b1 b2 b3 b4 b5 b6 b7 ml mb => ?_
  have bi := ig_byte h0 h1 h2 pt
  have br : Byte (Builtin.bitAnd (r0 - 1) 255) := by rw [bitAnd_m8]; exact byte_lo _
  unfold fn_take_one
  walk_at "ev"
  refine a_in h0 h1 h2 ?_
  walk_at "ev"
  refine a_pair2 b4 b5 ?_
  walk_at "ev"
  refine a_poke ml ?_
  walk_at "ev"
  rw [byte_mod bi]
  refine a_lead2 b4 b5 ?_
  walk_at "ev"
  refine c_port_flags bi br ?_
  walk_at "ev"
  walk_at "wh"
  rw [bne_dec, bitAnd_m8 (r0 - 1), bitAnd_m8 (r1 + s), e]
  exact h
theorem a_send_one {s : Int} {go : Bool} (W : Wf ⟨r0, r1, r2, r3, r4, r5, r6, r7, sp, pc, ii, rf, f1, f2, md, pt, m, outs⟩) (ho : outs.length ≤ 1000) (e : decide ((r0 - 1) % 256 ≠ 0) = go) (h : Q (.bool go) (HA g [i0, i1, i2] d b G ((r0 - 1) % 256) r1 r2 r3 ((r4 * 256 + r5 + s) / 256 % 256) ((r4 * 256 + r5 + s) % 256) (portF (mg m (r4 * 256 + r5)) ((r4 * 256 + r5 + s) % 256) ((r0 - 1) % 256)) r7 sp pc ii rf f1 f2 md pt m (outs ++ [.tup [.int r1, .int (mg m (r4 * 256 + r5))]]))) : fn_send_one [.obj 11, .obj 24, .obj 28, .int s] (HA g [i0, i1, i2] d b G r0 r1 r2 r3 r4 r5 r6 r7 sp pc ii rf f1 f2 md pt m outs) Q := by
  refine wfK W fun b0 b1 b2 b3 b4 b5 b6 b7 ml mb => ?_
  have bm := mg_byte ml mb (r4 * 256 + r5)
  have br : Byte (Builtin.bitAnd (r0 - 1) 255) := by rw [bitAnd_m8]; exact byte_lo _
  unfold fn_send_one
  walk_at "ev"
  refine a_pair2 b4 b5 ?_
  walk_at "ev"
  refine a_peek ml ?_
  walk_at "ev"
  refine a_lead2 b4 b5 ?_
  walk_at "ev"
  refine a_out ho ?_
  walk_at "ev"
  refine a_pair2 (byte_hi _) (byte_lo _) ?_
  walk_at "ev"
  refine c_port_flags bm br ?_
  walk_at "ev"
  walk_at "wh"
  rw [bne_dec, bitAnd_m8 (r0 - 1), bitAnd_m8, byte_lo2, byte_mod b1, byte_mod bm, e]
  exact h
theorem a_do_block0 (y : Nat) (hy : 4 ≤ y) (hz : y < 8) (W : Wf ⟨r0, r1, r2, r3, r4, r5, r6, r7, sp, pc, ii, rf, f1, f2, md, pt, m, outs⟩) (h0 : Byte i0) (h1 : Byte i1) (h2 : Byte i2) (ho : outs.length ≤ 1000) (h : Q (.int (blkS y (blk [i0, i1, i2] y 0 ⟨r0, r1, r2, r3, r4, r5, r6, r7, sp, pc, ii, rf, f1, f2, md, pt, m, outs⟩)).2) (HH g [i0, i1, i2] d (blkS y (blk [i0, i1, i2] y 0 ⟨r0, r1, r2, r3, r4, r5, r6, r7, sp, pc, ii, rf, f1, f2, md, pt, m, outs⟩)).1 b G)) : fn_do_block [.obj 11, .obj 24, .obj 28, .int y, .int 0] (HA g [i0, i1, i2] d b G r0 r1 r2 r3 r4 r5 r6 r7 sp pc ii rf f1 f2 md pt m outs) Q := by
  revert h; refine y47 y (by lia) ?_ ?_ ?_ ?_ <;> intro h
  · unfold fn_do_block; walk_at "ev"; refine a_move_one W (go := (blk [i0, i1, i2] 4 0 ⟨r0, r1, r2, r3, r4, r5, r6, r7, sp, pc, ii, rf, f1, f2, md, pt, m, outs⟩).2) rfl ?_; walk_at "ev"; exact h
  · unfold fn_do_block; walk_at "ev"; refine a_move_one W (go := (blk [i0, i1, i2] 5 0 ⟨r0, r1, r2, r3, r4, r5, r6, r7, sp, pc, ii, rf, f1, f2, md, pt, m, outs⟩).2) rfl ?_; walk_at "ev"; exact h
  · cases e : (blk [i0, i1, i2] 6 0 ⟨r0, r1, r2, r3, r4, r5, r6, r7, sp, pc, ii, rf, f1, f2, md, pt, m, outs⟩).2
    · rw [blkS6f e] at h; unfold fn_do_block; walk_at "ev"; refine a_move_one W e ?_; walk_at "ev"; exact h
    · rw [blkS6t e] at h; unfold fn_do_block; walk_at "ev"; refine a_move_one W e ?_; walk_at "ev"; rw [bitAnd_m16]; exact h
  · cases e : (blk [i0, i1, i2] 7 0 ⟨r0, r1, r2, r3, r4, r5, r6, r7, sp, pc, ii, rf, f1, f2, md, pt, m, outs⟩).2
    · rw [blkS7f e] at h; unfold fn_do_block; walk_at "ev"; refine a_move_one W e ?_; walk_at "ev"; exact h
    · rw [blkS7t e] at h; unfold fn_do_block; walk_at "ev"; refine a_move_one W e ?_; walk_at "ev"; rw [bitAnd_m16]; exact h
theorem a_do_block1 (y : Nat) (hy : 4 ≤ y) (hz : y < 8) (W : Wf ⟨r0, r1, r2, r3, r4, r5, r6, r7, sp, pc, ii, rf, f1, f2, md, pt, m, outs⟩) (h0 : Byte i0) (h1 : Byte i1) (h2 : Byte i2) (ho : outs.length ≤ 1000) (h : Q (.int (blkS y (blk [i0, i1, i2] y 1 ⟨r0, r1, r2, r3, r4, r5, r6, r7, sp, pc, ii, rf, f1, f2, md, pt, m, outs⟩)).2) (HH g [i0, i1, i2] d (blkS y (blk [i0, i1, i2] y 1 ⟨r0, r1, r2, r3, r4, r5, r6, r7, sp, pc, ii, rf, f1, f2, md, pt, m, outs⟩)).1 b G)) : fn_do_block [.obj 11, .obj 24, .obj 28, .int y, .int 1] (HA g [i0, i1, i2] d b G r0 r1 r2 r3 r4 r5 r6 r7 sp pc ii rf f1 f2 md pt m outs) Q := by
  revert h; refine y47 y (by lia) ?_ ?_ ?_ ?_ <;> intro h
  · unfold fn_do_block; walk_at "ev"; refine a_seek_one W (go := (blk [i0, i1, i2] 4 1 ⟨r0, r1, r2, r3, r4, r5, r6, r7, sp, pc, ii, rf, f1, f2, md, pt, m, outs⟩).2) rfl ?_; walk_at "ev"; exact h
  · unfold fn_do_block; walk_at "ev"; refine a_seek_one W (go := (blk [i0, i1, i2] 5 1 ⟨r0, r1, r2, r3, r4, r5, r6, r7, sp, pc, ii, rf, f1, f2, md, pt, m, outs⟩).2) rfl ?_; walk_at "ev"; exact h
  · cases e : (blk [i0, i1, i2] 6 1 ⟨r0, r1, r2, r3, r4, r5, r6, r7, sp, pc, ii, rf, f1, f2, md, pt, m, outs⟩).2
    · rw [blkS6f e] at h; unfold fn_do_block; walk_at "ev"; refine a_seek_one W e ?_; walk_at "ev"; exact h
    · rw [blkS6t e] at h; unfold fn_do_block; walk_at "ev"; refine a_seek_one W e ?_; walk_at "ev"; rw [bitAnd_m16]; exact h
  · cases e : (blk [i0, i1, i2] 7 1 ⟨r0, r1, r2, r3, r4, r5, r6, r7, sp, pc, ii, rf, f1, f2, md, pt, m, outs⟩).2
    · rw [blkS7f e] at h; unfold fn_do_block; walk_at "ev"; refine a_seek_one W e ?_; walk_at "ev"; exact h
    · rw [blkS7t e] at h; unfold fn_do_block; walk_at "ev"; refine a_seek_one W e ?_; walk_at "ev"; rw [bitAnd_m16]; exact h
theorem a_do_block2 (y : Nat) (hy : 4 ≤ y) (hz : y < 8) (W : Wf ⟨r0, r1, r2, r3, r4, r5, r6, r7, sp, pc, ii, rf, f1, f2, md, pt, m, outs⟩) (h0 : Byte i0) (h1 : Byte i1) (h2 : Byte i2) (ho : outs.length ≤ 1000) (h : Q (.int (blkS y (blk [i0, i1, i2] y 2 ⟨r0, r1, r2, r3, r4, r5, r6, r7, sp, pc, ii, rf, f1, f2, md, pt, m, outs⟩)).2) (HH g [i0, i1, i2] d (blkS y (blk [i0, i1, i2] y 2 ⟨r0, r1, r2, r3, r4, r5, r6, r7, sp, pc, ii, rf, f1, f2, md, pt, m, outs⟩)).1 b G)) : fn_do_block [.obj 11, .obj 24, .obj 28, .int y, .int 2] (HA g [i0, i1, i2] d b G r0 r1 r2 r3 r4 r5 r6 r7 sp pc ii rf f1 f2 md pt m outs) Q := by
  revert h; refine y47 y (by lia) ?_ ?_ ?_ ?_ <;> intro h
  · unfold fn_do_block; walk_at "ev"; refine a_take_one W h0 h1 h2 (go := (blk [i0, i1, i2] 4 2 ⟨r0, r1, r2, r3, r4, r5, r6, r7, sp, pc, ii, rf, f1, f2, md, pt, m, outs⟩).2) rfl ?_; walk_at "ev"; exact h
  · unfold fn_do_block; walk_at "ev"; refine a_take_one W h0 h1 h2 (go := (blk [i0, i1, i2] 5 2 ⟨r0, r1, r2, r3, r4, r5, r6, r7, sp, pc, ii, rf, f1, f2, md, pt, m, outs⟩).2) rfl ?_; walk_at "ev"; exact h
  · cases e : (blk [i0, i1, i2] 6 2 ⟨r0, r1, r2, r3, r4, r5, r6, r7, sp, pc, ii, rf, f1, f2, md, pt, m, outs⟩).2
    · rw [blkS6f e] at h; unfold fn_do_block; walk_at "ev"; refine a_take_one W h0 h1 h2 e ?_; walk_at "ev"; exact h
    · rw [blkS6t e] at h; unfold fn_do_block; walk_at "ev"; refine a_take_one W h0 h1 h2 e ?_; walk_at "ev"; rw [bitAnd_m16]; exact h
  · cases e : (blk [i0, i1, i2] 7 2 ⟨r0, r1, r2, r3, r4, r5, r6, r7, sp, pc, ii, rf, f1, f2, md, pt, m, outs⟩).2
    · rw [blkS7f e] at h; unfold fn_do_block; walk_at "ev"; refine a_take_one W h0 h1 h2 e ?_; walk_at "ev"; exact h
    · rw [blkS7t e] at h; unfold fn_do_block; walk_at "ev"; refine a_take_one W h0 h1 h2 e ?_; walk_at "ev"; rw [bitAnd_m16]; exact h
theorem a_do_block3 (y : Nat) (hy : 4 ≤ y) (hz : y < 8) (W : Wf ⟨r0, r1, r2, r3, r4, r5, r6, r7, sp, pc, ii, rf, f1, f2, md, pt, m, outs⟩) (h0 : Byte i0) (h1 : Byte i1) (h2 : Byte i2) (ho : outs.length ≤ 1000) (h : Q (.int (blkS y (blk [i0, i1, i2] y 3 ⟨r0, r1, r2, r3, r4, r5, r6, r7, sp, pc, ii, rf, f1, f2, md, pt, m, outs⟩)).2) (HH g [i0, i1, i2] d (blkS y (blk [i0, i1, i2] y 3 ⟨r0, r1, r2, r3, r4, r5, r6, r7, sp, pc, ii, rf, f1, f2, md, pt, m, outs⟩)).1 b G)) : fn_do_block [.obj 11, .obj 24, .obj 28, .int y, .int 3] (HA g [i0, i1, i2] d b G r0 r1 r2 r3 r4 r5 r6 r7 sp pc ii rf f1 f2 md pt m outs) Q := by
  revert h; refine y47 y (by lia) ?_ ?_ ?_ ?_ <;> intro h
  · unfold fn_do_block; walk_at "ev"; refine a_send_one W ho (go := (blk [i0, i1, i2] 4 3 ⟨r0, r1, r2, r3, r4, r5, r6, r7, sp, pc, ii, rf, f1, f2, md, pt, m, outs⟩).2) rfl ?_; walk_at "ev"; exact h
  · unfold fn_do_block; walk_at "ev"; refine a_send_one W ho (go := (blk [i0, i1, i2] 5 3 ⟨r0, r1, r2, r3, r4, r5, r6, r7, sp, pc, ii, rf, f1, f2, md, pt, m, outs⟩).2) rfl ?_; walk_at "ev"; exact h
  · cases e : (blk [i0, i1, i2] 6 3 ⟨r0, r1, r2, r3, r4, r5, r6, r7, sp, pc, ii, rf, f1, f2, md, pt, m, outs⟩).2
    · rw [blkS6f e] at h; unfold fn_do_block; walk_at "ev"; refine a_send_one W ho e ?_; walk_at "ev"; exact h
    · rw [blkS6t e] at h; unfold fn_do_block; walk_at "ev"; refine a_send_one W ho e ?_; walk_at "ev"; rw [bitAnd_m16]; exact h
  · cases e : (blk [i0, i1, i2] 7 3 ⟨r0, r1, r2, r3, r4, r5, r6, r7, sp, pc, ii, rf, f1, f2, md, pt, m, outs⟩).2
    · rw [blkS7f e] at h; unfold fn_do_block; walk_at "ev"; refine a_send_one W ho e ?_; walk_at "ev"; exact h
    · rw [blkS7t e] at h; unfold fn_do_block; walk_at "ev"; refine a_send_one W ho e ?_; walk_at "ev"; rw [bitAnd_m16]; exact h
theorem a_one0 (y : Nat) (hy : y < 8) (W : Wf ⟨r0, r1, r2, r3, r4, r5, r6, r7, sp, pc, ii, rf, f1, f2, md, pt, m, outs⟩) (h0 : Byte i0) (h1 : Byte i1) (h2 : Byte i2) (ho : outs.length ≤ 1000) (h : Q (.int (due1 [i0, i1, i2] y 0 ⟨r0, r1, r2, r3, r4, r5, r6, r7, sp, pc, ii, rf, f1, f2, md, pt, m, outs⟩).2) (HH g [i0, i1, i2] d (due1 [i0, i1, i2] y 0 ⟨r0, r1, r2, r3, r4, r5, r6, r7, sp, pc, ii, rf, f1, f2, md, pt, m, outs⟩).1 b G)) : fn_do_ed [.obj 11, .obj 24, .obj 28, .int (64 + 8 * y + 0)] (HA g [i0, i1, i2] d b G r0 r1 r2 r3 r4 r5 r6 r7 sp pc ii rf f1 f2 md pt m outs) Q := by
  refine wfK W fun b0 b1 b2 b3 b4 b5 b6 b7 ml mb => ?_
  revert h; refine y8 y hy ?_ ?_ ?_ ?_ ?_ ?_ ?_ ?_ <;> intro h
  · unfold fn_do_ed; walk_at "ev"; refine a_come_in 0 (by decide) W h0 h1 h2 ?_; walk_at "ev"; exact h
  · unfold fn_do_ed; walk_at "ev"; refine a_come_in 1 (by decide) W h0 h1 h2 ?_; walk_at "ev"; exact h
  · unfold fn_do_ed; walk_at "ev"; refine a_come_in 2 (by decide) W h0 h1 h2 ?_; walk_at "ev"; exact h
  · unfold fn_do_ed; walk_at "ev"; refine a_come_in 3 (by decide) W h0 h1 h2 ?_; walk_at "ev"; exact h
  · unfold fn_do_ed; walk_at "ev"; refine a_come_in 4 (by decide) W h0 h1 h2 ?_; walk_at "ev"; exact h
  · unfold fn_do_ed; walk_at "ev"; refine a_come_in 5 (by decide) W h0 h1 h2 ?_; walk_at "ev"; exact h
  · unfold fn_do_ed; walk_at "ev"; refine a_come_in 6 (by decide) W h0 h1 h2 ?_; walk_at "ev"; exact h
  · unfold fn_do_ed; walk_at "ev"; refine a_come_in 7 (by decide) W h0 h1 h2 ?_; walk_at "ev"; exact h
theorem a_one1 (y : Nat) (hy : y < 8) (W : Wf ⟨r0, r1, r2, r3, r4, r5, r6, r7, sp, pc, ii, rf, f1, f2, md, pt, m, outs⟩) (h0 : Byte i0) (h1 : Byte i1) (h2 : Byte i2) (ho : outs.length ≤ 1000) (h : Q (.int (due1 [i0, i1, i2] y 1 ⟨r0, r1, r2, r3, r4, r5, r6, r7, sp, pc, ii, rf, f1, f2, md, pt, m, outs⟩).2) (HH g [i0, i1, i2] d (due1 [i0, i1, i2] y 1 ⟨r0, r1, r2, r3, r4, r5, r6, r7, sp, pc, ii, rf, f1, f2, md, pt, m, outs⟩).1 b G)) : fn_do_ed [.obj 11, .obj 24, .obj 28, .int (64 + 8 * y + 1)] (HA g [i0, i1, i2] d b G r0 r1 r2 r3 r4 r5 r6 r7 sp pc ii rf f1 f2 md pt m outs) Q := by
  refine wfK W fun b0 b1 b2 b3 b4 b5 b6 b7 ml mb => ?_
  revert h; refine y8 y hy ?_ ?_ ?_ ?_ ?_ ?_ ?_ ?_ <;> intro h
  · unfold fn_do_ed; walk_at "ev"; refine a_out ho ?_; walk_at "ev"; rw [byte_mod b1, byte_mod b0]; exact h
  · unfold fn_do_ed; walk_at "ev"; refine a_out ho ?_; walk_at "ev"; rw [byte_mod b1]; exact h
  · unfold fn_do_ed; walk_at "ev"; refine a_out ho ?_; walk_at "ev"; rw [byte_mod b1, byte_mod b2]; exact h
  · unfold fn_do_ed; walk_at "ev"; refine a_out ho ?_; walk_at "ev"; rw [byte_mod b1, byte_mod b3]; exact h
  · unfold fn_do_ed; walk_at "ev"; refine a_out ho ?_; walk_at "ev"; rw [byte_mod b1, byte_mod b4]; exact h
  · unfold fn_do_ed; walk_at "ev"; refine a_out ho ?_; walk_at "ev"; rw [byte_mod b1, byte_mod b5]; exact h
  · unfold fn_do_ed; walk_at "ev"; refine a_out ho ?_; walk_at "ev"; rw [byte_mod b1]; exact h
  · unfold fn_do_ed; walk_at "ev"; refine a_out ho ?_; walk_at "ev"; rw [byte_mod b1, byte_mod b7]; exact h
theorem a_one2 (y : Nat) (hy : y < 8) (W : Wf ⟨r0, r1, r2, r3, r4, r5, r6, r7, sp, pc, ii, rf, f1, f2, md, pt, m, outs⟩) (h0 : Byte i0) (h1 : Byte i1) (h2 : Byte i2) (ho : outs.length ≤ 1000) (h : Q (.int (due1 [i0, i1, i2] y 2 ⟨r0, r1, r2, r3, r4, r5, r6, r7, sp, pc, ii, rf, f1, f2, md, pt, m, outs⟩).2) (HH g [i0, i1, i2] d (due1 [i0, i1, i2] y 2 ⟨r0, r1, r2, r3, r4, r5, r6, r7, sp, pc, ii, rf, f1, f2, md, pt, m, outs⟩).1 b G)) : fn_do_ed [.obj 11, .obj 24, .obj 28, .int (64 + 8 * y + 2)] (HA g [i0, i1, i2] d b G r0 r1 r2 r3 r4 r5 r6 r7 sp pc ii rf f1 f2 md pt m outs) Q := by
  refine wfK W fun b0 b1 b2 b3 b4 b5 b6 b7 ml mb => ?_
  revert h; refine y8 y hy ?_ ?_ ?_ ?_ ?_ ?_ ?_ ?_ <;> intro h
  · unfold fn_do_ed; walk_at "ev"; refine a_add_words 0 (by decide) W ?_; walk_at "ev"; exact h
  · unfold fn_do_ed; walk_at "ev"; refine a_add_words 1 (by decide) W ?_; walk_at "ev"; exact h
  · unfold fn_do_ed; walk_at "ev"; refine a_add_words 2 (by decide) W ?_; walk_at "ev"; exact h
  · unfold fn_do_ed; walk_at "ev"; refine a_add_words 3 (by decide) W ?_; walk_at "ev"; exact h
  · unfold fn_do_ed; walk_at "ev"; refine a_add_words 4 (by decide) W ?_; walk_at "ev"; exact h
  · unfold fn_do_ed; walk_at "ev"; refine a_add_words 5 (by decide) W ?_; walk_at "ev"; exact h
  · unfold fn_do_ed; walk_at "ev"; refine a_add_words 6 (by decide) W ?_; walk_at "ev"; exact h
  · unfold fn_do_ed; walk_at "ev"; refine a_add_words 7 (by decide) W ?_; walk_at "ev"; exact h
theorem a_one3 (y : Nat) (hy : y < 8) (W : Wf ⟨r0, r1, r2, r3, r4, r5, r6, r7, sp, pc, ii, rf, f1, f2, md, pt, m, outs⟩) (h0 : Byte i0) (h1 : Byte i1) (h2 : Byte i2) (ho : outs.length ≤ 1000) (h : Q (.int (due1 [i0, i1, i2] y 3 ⟨r0, r1, r2, r3, r4, r5, r6, r7, sp, pc, ii, rf, f1, f2, md, pt, m, outs⟩).2) (HH g [i0, i1, i2] d (due1 [i0, i1, i2] y 3 ⟨r0, r1, r2, r3, r4, r5, r6, r7, sp, pc, ii, rf, f1, f2, md, pt, m, outs⟩).1 b G)) : fn_do_ed [.obj 11, .obj 24, .obj 28, .int (64 + 8 * y + 3)] (HA g [i0, i1, i2] d b G r0 r1 r2 r3 r4 r5 r6 r7 sp pc ii rf f1 f2 md pt m outs) Q := by
  refine wfK W fun b0 b1 b2 b3 b4 b5 b6 b7 ml mb => ?_
  revert h; refine y8 y hy ?_ ?_ ?_ ?_ ?_ ?_ ?_ ?_ <;> intro h
  · unfold fn_do_ed; walk_at "ev"; refine a_load_words 0 (by decide) W ?_; walk_at "ev"; exact h
  · unfold fn_do_ed; walk_at "ev"; refine a_load_words 1 (by decide) W ?_; walk_at "ev"; exact h
  · unfold fn_do_ed; walk_at "ev"; refine a_load_words 2 (by decide) W ?_; walk_at "ev"; exact h
  · unfold fn_do_ed; walk_at "ev"; refine a_load_words 3 (by decide) W ?_; walk_at "ev"; exact h
  · unfold fn_do_ed; walk_at "ev"; refine a_load_words 4 (by decide) W ?_; walk_at "ev"; exact h
  · unfold fn_do_ed; walk_at "ev"; refine a_load_words 5 (by decide) W ?_; walk_at "ev"; exact h
  · unfold fn_do_ed; walk_at "ev"; refine a_load_words 6 (by decide) W ?_; walk_at "ev"; exact h
  · unfold fn_do_ed; walk_at "ev"; refine a_load_words 7 (by decide) W ?_; walk_at "ev"; exact h
theorem a_one4 (y : Nat) (hy : y < 8) (W : Wf ⟨r0, r1, r2, r3, r4, r5, r6, r7, sp, pc, ii, rf, f1, f2, md, pt, m, outs⟩) (h0 : Byte i0) (h1 : Byte i1) (h2 : Byte i2) (ho : outs.length ≤ 1000) (h : Q (.int (due1 [i0, i1, i2] y 4 ⟨r0, r1, r2, r3, r4, r5, r6, r7, sp, pc, ii, rf, f1, f2, md, pt, m, outs⟩).2) (HH g [i0, i1, i2] d (due1 [i0, i1, i2] y 4 ⟨r0, r1, r2, r3, r4, r5, r6, r7, sp, pc, ii, rf, f1, f2, md, pt, m, outs⟩).1 b G)) : fn_do_ed [.obj 11, .obj 24, .obj 28, .int (64 + 8 * y + 4)] (HA g [i0, i1, i2] d b G r0 r1 r2 r3 r4 r5 r6 r7 sp pc ii rf f1 f2 md pt m outs) Q := by
  refine wfK W fun b0 b1 b2 b3 b4 b5 b6 b7 ml mb => ?_
  revert h; refine y8 y hy ?_ ?_ ?_ ?_ ?_ ?_ ?_ ?_ <;> intro h
  · unfold fn_do_ed; walk_at "ev"; refine c_neg b7 ?_; walk_at "ev"; exact h
  · unfold fn_do_ed; walk_at "ev"; refine c_neg b7 ?_; walk_at "ev"; exact h
  · unfold fn_do_ed; walk_at "ev"; refine c_neg b7 ?_; walk_at "ev"; exact h
  · unfold fn_do_ed; walk_at "ev"; refine c_neg b7 ?_; walk_at "ev"; exact h
  · unfold fn_do_ed; walk_at "ev"; refine c_neg b7 ?_; walk_at "ev"; exact h
  · unfold fn_do_ed; walk_at "ev"; refine c_neg b7 ?_; walk_at "ev"; exact h
  · unfold fn_do_ed; walk_at "ev"; refine c_neg b7 ?_; walk_at "ev"; exact h
  · unfold fn_do_ed; walk_at "ev"; refine c_neg b7 ?_; walk_at "ev"; exact h
theorem a_one5 (y : Nat) (hy : y < 8) (W : Wf ⟨r0, r1, r2, r3, r4, r5, r6, r7, sp, pc, ii, rf, f1, f2, md, pt, m, outs⟩) (h0 : Byte i0) (h1 : Byte i1) (h2 : Byte i2) (ho : outs.length ≤ 1000) (h : Q (.int (due1 [i0, i1, i2] y 5 ⟨r0, r1, r2, r3, r4, r5, r6, r7, sp, pc, ii, rf, f1, f2, md, pt, m, outs⟩).2) (HH g [i0, i1, i2] d (due1 [i0, i1, i2] y 5 ⟨r0, r1, r2, r3, r4, r5, r6, r7, sp, pc, ii, rf, f1, f2, md, pt, m, outs⟩).1 b G)) : fn_do_ed [.obj 11, .obj 24, .obj 28, .int (64 + 8 * y + 5)] (HA g [i0, i1, i2] d b G r0 r1 r2 r3 r4 r5 r6 r7 sp pc ii rf f1 f2 md pt m outs) Q := by
  refine wfK W fun b0 b1 b2 b3 b4 b5 b6 b7 ml mb => ?_
  revert h; refine y8 y hy ?_ ?_ ?_ ?_ ?_ ?_ ?_ ?_ <;> intro h
  · unfold fn_do_ed; walk_at "ev"; refine a_pop ml mb ?_; walk_at "ev"; exact h
  · unfold fn_do_ed; walk_at "ev"; refine a_pop ml mb ?_; walk_at "ev"; exact h
  · unfold fn_do_ed; walk_at "ev"; refine a_pop ml mb ?_; walk_at "ev"; exact h
  · unfold fn_do_ed; walk_at "ev"; refine a_pop ml mb ?_; walk_at "ev"; exact h
  · unfold fn_do_ed; walk_at "ev"; refine a_pop ml mb ?_; walk_at "ev"; exact h
  · unfold fn_do_ed; walk_at "ev"; refine a_pop ml mb ?_; walk_at "ev"; exact h
  · unfold fn_do_ed; walk_at "ev"; refine a_pop ml mb ?_; walk_at "ev"; exact h
  · unfold fn_do_ed; walk_at "ev"; refine a_pop ml mb ?_; walk_at "ev"; exact h
theorem a_one6 (y : Nat) (hy : y < 8) (W : Wf ⟨r0, r1, r2, r3, r4, r5, r6, r7, sp, pc, ii, rf, f1, f2, md, pt, m, outs⟩) (h0 : Byte i0) (h1 : Byte i1) (h2 : Byte i2) (ho : outs.length ≤ 1000) (h : Q (.int (due1 [i0, i1, i2] y 6 ⟨r0, r1, r2, r3, r4, r5, r6, r7, sp, pc, ii, rf, f1, f2, md, pt, m, outs⟩).2) (HH g [i0, i1, i2] d (due1 [i0, i1, i2] y 6 ⟨r0, r1, r2, r3, r4, r5, r6, r7, sp, pc, ii, rf, f1, f2, md, pt, m, outs⟩).1 b G)) : fn_do_ed [.obj 11, .obj 24, .obj 28, .int (64 + 8 * y + 6)] (HA g [i0, i1, i2] d b G r0 r1 r2 r3 r4 r5 r6 r7 sp pc ii rf f1 f2 md pt m outs) Q := by
  refine wfK W fun b0 b1 b2 b3 b4 b5 b6 b7 ml mb => ?_
  revert h; refine y8 y hy ?_ ?_ ?_ ?_ ?_ ?_ ?_ ?_ <;> intro h
  · unfold fn_do_ed; walk_at "ev"; exact h
  · unfold fn_do_ed; walk_at "ev"; exact h
  · unfold fn_do_ed; walk_at "ev"; exact h
  · unfold fn_do_ed; walk_at "ev"; exact h
  · unfold fn_do_ed; walk_at "ev"; exact h
  · unfold fn_do_ed; walk_at "ev"; exact h
  · unfold fn_do_ed; walk_at "ev"; exact h
  · unfold fn_do_ed; walk_at "ev"; exact h
theorem a_one7 (y : Nat) (hy : y < 8) (W : Wf ⟨r0, r1, r2, r3, r4, r5, r6, r7, sp, pc, ii, rf, f1, f2, md, pt, m, outs⟩) (h0 : Byte i0) (h1 : Byte i1) (h2 : Byte i2) (ho : outs.length ≤ 1000) (h : Q (.int (due1 [i0, i1, i2] y 7 ⟨r0, r1, r2, r3, r4, r5, r6, r7, sp, pc, ii, rf, f1, f2, md, pt, m, outs⟩).2) (HH g [i0, i1, i2] d (due1 [i0, i1, i2] y 7 ⟨r0, r1, r2, r3, r4, r5, r6, r7, sp, pc, ii, rf, f1, f2, md, pt, m, outs⟩).1 b G)) : fn_do_ed [.obj 11, .obj 24, .obj 28, .int (64 + 8 * y + 7)] (HA g [i0, i1, i2] d b G r0 r1 r2 r3 r4 r5 r6 r7 sp pc ii rf f1 f2 md pt m outs) Q := by
  refine wfK W fun b0 b1 b2 b3 b4 b5 b6 b7 ml mb => ?_
  revert h; refine y8 y hy ?_ ?_ ?_ ?_ ?_ ?_ ?_ ?_ <;> intro h
  · unfold fn_do_ed; walk_at "ev"; refine a_do_special 0 (by decide) W ?_; walk_at "ev"; exact h
  · unfold fn_do_ed; walk_at "ev"; refine a_do_special 1 (by decide) W ?_; walk_at "ev"; exact h
  · unfold fn_do_ed; walk_at "ev"; refine a_do_special 2 (by decide) W ?_; walk_at "ev"; exact h
  · unfold fn_do_ed; walk_at "ev"; refine a_do_special 3 (by decide) W ?_; walk_at "ev"; exact h
  · unfold fn_do_ed; walk_at "ev"; refine a_do_special 4 (by decide) W ?_; walk_at "ev"; exact h
  · unfold fn_do_ed; walk_at "ev"; refine a_do_special 5 (by decide) W ?_; walk_at "ev"; exact h
  · unfold fn_do_ed; walk_at "ev"; refine a_do_special 6 (by decide) W ?_; walk_at "ev"; exact h
  · unfold fn_do_ed; walk_at "ev"; refine a_do_special 7 (by decide) W ?_; walk_at "ev"; exact h
theorem a_blk0 (y : Nat) (hy : 4 ≤ y) (hz : y < 8) (W : Wf ⟨r0, r1, r2, r3, r4, r5, r6, r7, sp, pc, ii, rf, f1, f2, md, pt, m, outs⟩) (h0 : Byte i0) (h1 : Byte i1) (h2 : Byte i2) (ho : outs.length ≤ 1000) (h : Q (.int (blkS y (blk [i0, i1, i2] y 0 ⟨r0, r1, r2, r3, r4, r5, r6, r7, sp, pc, ii, rf, f1, f2, md, pt, m, outs⟩)).2) (HH g [i0, i1, i2] d (blkS y (blk [i0, i1, i2] y 0 ⟨r0, r1, r2, r3, r4, r5, r6, r7, sp, pc, ii, rf, f1, f2, md, pt, m, outs⟩)).1 b G)) : fn_do_ed [.obj 11, .obj 24, .obj 28, .int (128 + 8 * y + 0)] (HA g [i0, i1, i2] d b G r0 r1 r2 r3 r4 r5 r6 r7 sp pc ii rf f1 f2 md pt m outs) Q := by
  revert h; refine y47 y (by lia) ?_ ?_ ?_ ?_ <;> intro h
  · unfold fn_do_ed; walk_at "ev"; refine a_do_block0 4 (by decide) (by decide) W h0 h1 h2 ho ?_; walk_at "ev"; exact h
  · unfold fn_do_ed; walk_at "ev"; refine a_do_block0 5 (by decide) (by decide) W h0 h1 h2 ho ?_; walk_at "ev"; exact h
  · unfold fn_do_ed; walk_at "ev"; refine a_do_block0 6 (by decide) (by decide) W h0 h1 h2 ho ?_; walk_at "ev"; exact h
  · unfold fn_do_ed; walk_at "ev"; refine a_do_block0 7 (by decide) (by decide) W h0 h1 h2 ho ?_; walk_at "ev"; exact h
theorem a_blk1 (y : Nat) (hy : 4 ≤ y) (hz : y < 8) (W : Wf ⟨r0, r1, r2, r3, r4, r5, r6, r7, sp, pc, ii, rf, f1, f2, md, pt, m, outs⟩) (h0 : Byte i0) (h1 : Byte i1) (h2 : Byte i2) (ho : outs.length ≤ 1000) (h : Q (.int (blkS y (blk [i0, i1, i2] y 1 ⟨r0, r1, r2, r3, r4, r5, r6, r7, sp, pc, ii, rf, f1, f2, md, pt, m, outs⟩)).2) (HH g [i0, i1, i2] d (blkS y (blk [i0, i1, i2] y 1 ⟨r0, r1, r2, r3, r4, r5, r6, r7, sp, pc, ii, rf, f1, f2, md, pt, m, outs⟩)).1 b G)) : fn_do_ed [.obj 11, .obj 24, .obj 28, .int (128 + 8 * y + 1)] (HA g [i0, i1, i2] d b G r0 r1 r2 r3 r4 r5 r6 r7 sp pc ii rf f1 f2 md pt m outs) Q := by
  revert h; refine y47 y (by lia) ?_ ?_ ?_ ?_ <;> intro h
  · unfold fn_do_ed; walk_at "ev"; refine a_do_block1 4 (by decide) (by decide) W h0 h1 h2 ho ?_; walk_at "ev"; exact h
  · unfold fn_do_ed; walk_at "ev"; refine a_do_block1 5 (by decide) (by decide) W h0 h1 h2 ho ?_; walk_at "ev"; exact h
  · unfold fn_do_ed; walk_at "ev"; refine a_do_block1 6 (by decide) (by decide) W h0 h1 h2 ho ?_; walk_at "ev"; exact h
  · unfold fn_do_ed; walk_at "ev"; refine a_do_block1 7 (by decide) (by decide) W h0 h1 h2 ho ?_; walk_at "ev"; exact h
theorem a_blk2 (y : Nat) (hy : 4 ≤ y) (hz : y < 8) (W : Wf ⟨r0, r1, r2, r3, r4, r5, r6, r7, sp, pc, ii, rf, f1, f2, md, pt, m, outs⟩) (h0 : Byte i0) (h1 : Byte i1) (h2 : Byte i2) (ho : outs.length ≤ 1000) (h : Q (.int (blkS y (blk [i0, i1, i2] y 2 ⟨r0, r1, r2, r3, r4, r5, r6, r7, sp, pc, ii, rf, f1, f2, md, pt, m, outs⟩)).2) (HH g [i0, i1, i2] d (blkS y (blk [i0, i1, i2] y 2 ⟨r0, r1, r2, r3, r4, r5, r6, r7, sp, pc, ii, rf, f1, f2, md, pt, m, outs⟩)).1 b G)) : fn_do_ed [.obj 11, .obj 24, .obj 28, .int (128 + 8 * y + 2)] (HA g [i0, i1, i2] d b G r0 r1 r2 r3 r4 r5 r6 r7 sp pc ii rf f1 f2 md pt m outs) Q := by
  revert h; refine y47 y (by lia) ?_ ?_ ?_ ?_ <;> intro h
  · unfold fn_do_ed; walk_at "ev"; refine a_do_block2 4 (by decide) (by decide) W h0 h1 h2 ho ?_; walk_at "ev"; exact h
  · unfold fn_do_ed; walk_at "ev"; refine a_do_block2 5 (by decide) (by decide) W h0 h1 h2 ho ?_; walk_at "ev"; exact h
  · unfold fn_do_ed; walk_at "ev"; refine a_do_block2 6 (by decide) (by decide) W h0 h1 h2 ho ?_; walk_at "ev"; exact h
  · unfold fn_do_ed; walk_at "ev"; refine a_do_block2 7 (by decide) (by decide) W h0 h1 h2 ho ?_; walk_at "ev"; exact h
theorem a_blk3 (y : Nat) (hy : 4 ≤ y) (hz : y < 8) (W : Wf ⟨r0, r1, r2, r3, r4, r5, r6, r7, sp, pc, ii, rf, f1, f2, md, pt, m, outs⟩) (h0 : Byte i0) (h1 : Byte i1) (h2 : Byte i2) (ho : outs.length ≤ 1000) (h : Q (.int (blkS y (blk [i0, i1, i2] y 3 ⟨r0, r1, r2, r3, r4, r5, r6, r7, sp, pc, ii, rf, f1, f2, md, pt, m, outs⟩)).2) (HH g [i0, i1, i2] d (blkS y (blk [i0, i1, i2] y 3 ⟨r0, r1, r2, r3, r4, r5, r6, r7, sp, pc, ii, rf, f1, f2, md, pt, m, outs⟩)).1 b G)) : fn_do_ed [.obj 11, .obj 24, .obj 28, .int (128 + 8 * y + 3)] (HA g [i0, i1, i2] d b G r0 r1 r2 r3 r4 r5 r6 r7 sp pc ii rf f1 f2 md pt m outs) Q := by
  revert h; refine y47 y (by lia) ?_ ?_ ?_ ?_ <;> intro h
  · unfold fn_do_ed; walk_at "ev"; refine a_do_block3 4 (by decide) (by decide) W h0 h1 h2 ho ?_; walk_at "ev"; exact h
  · unfold fn_do_ed; walk_at "ev"; refine a_do_block3 5 (by decide) (by decide) W h0 h1 h2 ho ?_; walk_at "ev"; exact h
  · unfold fn_do_ed; walk_at "ev"; refine a_do_block3 6 (by decide) (by decide) W h0 h1 h2 ho ?_; walk_at "ev"; exact h
  · unfold fn_do_ed; walk_at "ev"; refine a_do_block3 7 (by decide) (by decide) W h0 h1 h2 ho ?_; walk_at "ev"; exact h
end
noncomputable def planA (y z : Nat) : V := match y, z with
  | 0, 0 => (.tup [.str 19, .tup [.str 39], .int 12])
  | 1, 0 => (.tup [.str 19, .tup [.str 40], .int 12])
  | 2, 0 => (.tup [.str 19, .tup [.str 41], .int 12])
  | 3, 0 => (.tup [.str 19, .tup [.str 42], .int 12])
  | 4, 0 => (.tup [.str 19, .tup [.str 43], .int 12])
  | 5, 0 => (.tup [.str 19, .tup [.str 44], .int 12])
  | 6, 0 => (.tup [.str 19, .tup [.str 46], .int 12])
  | 7, 0 => (.tup [.str 19, .tup [.str 45], .int 12])
  | 0, 1 => (.tup [.str 20, .tup [.str 39], .int 12])
  | 1, 1 => (.tup [.str 20, .tup [.str 40], .int 12])
  | 2, 1 => (.tup [.str 20, .tup [.str 41], .int 12])
  | 3, 1 => (.tup [.str 20, .tup [.str 42], .int 12])
  | 4, 1 => (.tup [.str 20, .tup [.str 43], .int 12])
  | 5, 1 => (.tup [.str 20, .tup [.str 44], .int 12])
  | 6, 1 => (.tup [.str 20, .tup [.str 46], .int 12])
  | 7, 1 => (.tup [.str 20, .tup [.str 45], .int 12])
  | 0, 2 => (.tup [.str 21, .tup [.str 47], .int 15])
  | 1, 2 => (.tup [.str 22, .tup [.str 47], .int 15])
  | 2, 2 => (.tup [.str 21, .tup [.str 48], .int 15])
  | 3, 2 => (.tup [.str 22, .tup [.str 48], .int 15])
  | 4, 2 => (.tup [.str 21, .tup [.str 49], .int 15])
  | 5, 2 => (.tup [.str 22, .tup [.str 49], .int 15])
  | 6, 2 => (.tup [.str 21, .tup [.str 50], .int 15])
  | 7, 2 => (.tup [.str 22, .tup [.str 50], .int 15])
  | 0, 3 => (.tup [.str 23, .tup [.str 47], .int 20])
  | 1, 3 => (.tup [.str 24, .tup [.str 47], .int 20])
  | 2, 3 => (.tup [.str 23, .tup [.str 48], .int 20])
  | 3, 3 => (.tup [.str 24, .tup [.str 48], .int 20])
  | 4, 3 => (.tup [.str 23, .tup [.str 49], .int 20])
  | 5, 3 => (.tup [.str 24, .tup [.str 49], .int 20])
  | 6, 3 => (.tup [.str 23, .tup [.str 50], .int 20])
  | 7, 3 => (.tup [.str 24, .tup [.str 50], .int 20])
  | 0, 4 => (.tup [.str 25, .tup [], .int 8])
  | 1, 4 => (.tup [.str 25, .tup [], .int 8])
  | 2, 4 => (.tup [.str 25, .tup [], .int 8])
  | 3, 4 => (.tup [.str 25, .tup [], .int 8])
  | 4, 4 => (.tup [.str 25, .tup [], .int 8])
  | 5, 4 => (.tup [.str 25, .tup [], .int 8])
  | 6, 4 => (.tup [.str 25, .tup [], .int 8])
  | 7, 4 => (.tup [.str 25, .tup [], .int 8])
  | 0, 5 => (.tup [.str 27, .tup [], .int 14])
  | 1, 5 => (.tup [.str 26, .tup [], .int 14])
  | 2, 5 => (.tup [.str 27, .tup [], .int 14])
  | 3, 5 => (.tup [.str 27, .tup [], .int 14])
  | 4, 5 => (.tup [.str 27, .tup [], .int 14])
  | 5, 5 => (.tup [.str 27, .tup [], .int 14])
  | 6, 5 => (.tup [.str 27, .tup [], .int 14])
  | 7, 5 => (.tup [.str 27, .tup [], .int 14])
  | 0, 6 => (.tup [.str 28, .tup [.int 0], .int 8])
  | 1, 6 => (.tup [.str 28, .tup [.int 0], .int 8])
  | 2, 6 => (.tup [.str 28, .tup [.int 1], .int 8])
  | 3, 6 => (.tup [.str 28, .tup [.int 2], .int 8])
  | 4, 6 => (.tup [.str 28, .tup [.int 0], .int 8])
  | 5, 6 => (.tup [.str 28, .tup [.int 0], .int 8])
  | 6, 6 => (.tup [.str 28, .tup [.int 1], .int 8])
  | 7, 6 => (.tup [.str 28, .tup [.int 2], .int 8])
  | 0, 7 => (.tup [.str 29, .tup [], .int 9])
  | 1, 7 => (.tup [.str 30, .tup [], .int 9])
  | 2, 7 => (.tup [.str 31, .tup [], .int 9])
  | 3, 7 => (.tup [.str 32, .tup [], .int 9])
  | 4, 7 => (.tup [.str 33, .tup [], .int 18])
  | 5, 7 => (.tup [.str 34, .tup [], .int 18])
  | 6, 7 => (.tup [.str 18, .tup [], .int 8])
  | 7, 7 => (.tup [.str 18, .tup [], .int 8])
  | _, _ => (.tup [.str 18, .tup [], .int 8])
noncomputable def planB (y z : Nat) : V := match y, z with
  | 4, 0 => (.tup [.str 35, .tup [.int 1, .bool false], .int 16])
  | 5, 0 => (.tup [.str 35, .tup [.int (-1), .bool false], .int 16])
  | 6, 0 => (.tup [.str 35, .tup [.int 1, .bool true], .int 16])
  | 7, 0 => (.tup [.str 35, .tup [.int (-1), .bool true], .int 16])
  | 4, 1 => (.tup [.str 36, .tup [.int 1, .bool false], .int 16])
  | 5, 1 => (.tup [.str 36, .tup [.int (-1), .bool false], .int 16])
  | 6, 1 => (.tup [.str 36, .tup [.int 1, .bool true], .int 16])
  | 7, 1 => (.tup [.str 36, .tup [.int (-1), .bool true], .int 16])
  | 4, 2 => (.tup [.str 37, .tup [.int 1, .bool false], .int 16])
  | 5, 2 => (.tup [.str 37, .tup [.int (-1), .bool false], .int 16])
  | 6, 2 => (.tup [.str 37, .tup [.int 1, .bool true], .int 16])
  | 7, 2 => (.tup [.str 37, .tup [.int (-1), .bool true], .int 16])
  | 4, 3 => (.tup [.str 38, .tup [.int 1, .bool false], .int 16])
  | 5, 3 => (.tup [.str 38, .tup [.int (-1), .bool false], .int 16])
  | 6, 3 => (.tup [.str 38, .tup [.int 1, .bool true], .int 16])
  | 7, 3 => (.tup [.str 38, .tup [.int (-1), .bool true], .int 16])
  | _, _ => (.tup [.str 18, .tup [], .int 8])
theorem gt_dec {x : Int} (h : 0 ≤ x) : decide (0 < x) = decide (x ≠ 0) := decide_eq_decide.mpr (by lia)
section
variable {g : Nat → O} {i0 i1 i2 : Int} {ins : List Int} {d a b : St} {G : List O} {Q : V → List O → Prop}
variable {r0 r1 r2 r3 r4 r5 r6 r7 sp pc ii rf f1 f2 md pt : Int} {m : List Int} {outs : List V}
theorem b_step0 {s : Int} (hx : Byte r0) (hy : Byte r1) (h : Q (.int (r0 * 256 + r1)) (HB g ins d a G ((r0 * 256 + r1 + s) / 256 % 256) ((r0 * 256 + r1 + s) % 256) r2 r3 r4 r5 r6 r7 sp pc ii rf f1 f2 md pt m outs)) : fn_step_pair [.obj 18, .str 47, .int s] (HB g ins d a G r0 r1 r2 r3 r4 r5 r6 r7 sp pc ii rf f1 f2 md pt m outs) Q := by
  have e1 : Builtin.bitAnd (r0 * 256 + r1 + s) 65535 / 256 % 256 = (r0 * 256 + r1 + s) / 256 % 256 := by rw [bitAnd_m16, w65a]
  have e2 : Builtin.bitAnd (r0 * 256 + r1 + s) 65535 % 256 = (r0 * 256 + r1 + s) % 256 := by rw [bitAnd_m16, w65b]
  rw [← e1, ← e2] at h
  unfold fn_step_pair
  walk_at "ev"
  refine b_pair0 hx hy ?_
  walk_at "ev"
  refine b_set0 ?_
  walk_at "ev"
  exact h
theorem b_stepm0 (hx : Byte r0) (hy : Byte r1) (h : Q (.int (r0 * 256 + r1)) (HB g ins d a G ((r0 * 256 + r1 - 1) / 256 % 256) ((r0 * 256 + r1 - 1) % 256) r2 r3 r4 r5 r6 r7 sp pc ii rf f1 f2 md pt m outs)) : fn_step_pair [.obj 18, .str 47, .int (-1)] (HB g ins d a G r0 r1 r2 r3 r4 r5 r6 r7 sp pc ii rf f1 f2 md pt m outs) Q := by
  rw [show r0 * 256 + r1 - 1 = r0 * 256 + r1 + -1 by lia] at h
  exact b_step0 hx hy h
theorem b_step1 {s : Int} (hx : Byte r2) (hy : Byte r3) (h : Q (.int (r2 * 256 + r3)) (HB g ins d a G r0 r1 ((r2 * 256 + r3 + s) / 256 % 256) ((r2 * 256 + r3 + s) % 256) r4 r5 r6 r7 sp pc ii rf f1 f2 md pt m outs)) : fn_step_pair [.obj 18, .str 48, .int s] (HB g ins d a G r0 r1 r2 r3 r4 r5 r6 r7 sp pc ii rf f1 f2 md pt m outs) Q := by
  have e1 : Builtin.bitAnd (r2 * 256 + r3 + s) 65535 / 256 % 256 = (r2 * 256 + r3 + s) / 256 % 256 := by rw [bitAnd_m16, w65a]
  have e2 : Builtin.bitAnd (r2 * 256 + r3 + s) 65535 % 256 = (r2 * 256 + r3 + s) % 256 := by rw [bitAnd_m16, w65b]
  rw [← e1, ← e2] at h
  unfold fn_step_pair
  walk_at "ev"
  refine b_pair1 hx hy ?_
  walk_at "ev"
  refine b_set1 ?_
  walk_at "ev"
  exact h
theorem b_step2 {s : Int} (hx : Byte r4) (hy : Byte r5) (h : Q (.int (r4 * 256 + r5)) (HB g ins d a G r0 r1 r2 r3 ((r4 * 256 + r5 + s) / 256 % 256) ((r4 * 256 + r5 + s) % 256) r6 r7 sp pc ii rf f1 f2 md pt m outs)) : fn_step_pair [.obj 18, .str 49, .int s] (HB g ins d a G r0 r1 r2 r3 r4 r5 r6 r7 sp pc ii rf f1 f2 md pt m outs) Q := by
  have e1 : Builtin.bitAnd (r4 * 256 + r5 + s) 65535 / 256 % 256 = (r4 * 256 + r5 + s) / 256 % 256 := by rw [bitAnd_m16, w65a]
  have e2 : Builtin.bitAnd (r4 * 256 + r5 + s) 65535 % 256 = (r4 * 256 + r5 + s) % 256 := by rw [bitAnd_m16, w65b]
  rw [← e1, ← e2] at h
  unfold fn_step_pair
  walk_at "ev"
  refine b_pair2 hx hy ?_
  walk_at "ev"
  refine b_set2 ?_
  walk_at "ev"
  exact h
theorem b_count  (h : Q (.int ((r0 - 1) % 256)) (HB g ins d a G ((r0 - 1) % 256) r1 r2 r3 r4 r5 r6 r7 sp pc ii rf f1 f2 md pt m outs)) : fn_step_count [.obj 18] (HB g ins d a G r0 r1 r2 r3 r4 r5 r6 r7 sp pc ii rf f1 f2 md pt m outs) Q := by
  rw [← bitAnd_m8 (r0 - 1)] at h
  unfold fn_step_count
  walk_at "ev"
  exact h
theorem b_move {s : Int} {go : Bool} (W : Wf ⟨r0, r1, r2, r3, r4, r5, r6, r7, sp, pc, ii, rf, f1, f2, md, pt, m, outs⟩) (e : decide (((r0 * 256 + r1 - 1) / 256 % 256 * 256 + (r0 * 256 + r1 - 1) % 256) ≠ 0) = go) (h : Q (.bool go) (HB g [i0, i1, i2] d a G ((r0 * 256 + r1 - 1) / 256 % 256) ((r0 * 256 + r1 - 1) % 256) ((r2 * 256 + r3 + s) / 256 % 256) ((r2 * 256 + r3 + s) % 256) ((r4 * 256 + r5 + s) / 256 % 256) ((r4 * 256 + r5 + s) % 256) (moveF r7 (mg m (r4 * 256 + r5)) ((r0 * 256 + r1 - 1) / 256 % 256 * 256 + (r0 * 256 + r1 - 1) % 256) r6) r7 sp pc ii rf f1 f2 md pt (ms m (r2 * 256 + r3) (mg m (r4 * 256 + r5))) outs)) : fn_move_round [.obj 18, .obj 25, .int s] (HB g [i0, i1, i2] d a G r0 r1 r2 r3 r4 r5 r6 r7 sp pc ii rf f1 f2 md pt m outs) Q := by
  refine wfK W fun b0 b1 b2 b3 b4 b5 b6 b7 ml mb => ?_
  have bm := mg_byte ml mb (r4 * 256 + r5)
  unfold fn_move_round
  walk_at "ev"
  refine b_step2 b4 b5 ?_
  walk_at "ev"
  refine b_peek ml ?_
  walk_at "ev"
  refine b_step1 b2 b3 ?_
  walk_at "ev"
  refine b_poke ml ?_
  walk_at "ev"
  rw [byte_mod bm]
  refine b_stepm0 b0 b1 ?_
  walk_at "ev"
  refine b_pair0 (byte_hi _) (byte_lo _) ?_
  walk_at "ev"
  refine c_move_flags b6 (by lia) ?_
  walk_at "ev"
  walk_at "wh"; rw [gt_dec (by lia), e]
  exact h
theorem b_seek {s : Int} {go : Bool} (W : Wf ⟨r0, r1, r2, r3, r4, r5, r6, r7, sp, pc, ii, rf, f1, f2, md, pt, m, outs⟩) (e : (decide (((r0 * 256 + r1 - 1) / 256 % 256 * 256 + (r0 * 256 + r1 - 1) % 256) ≠ 0) && decide ((r7 - (mg m (r4 * 256 + r5))) % 256 ≠ 0)) = go) (h : Q (.bool go) (HB g [i0, i1, i2] d a G ((r0 * 256 + r1 - 1) / 256 % 256) ((r0 * 256 + r1 - 1) % 256) r2 r3 ((r4 * 256 + r5 + s) / 256 % 256) ((r4 * 256 + r5 + s) % 256) (seekF r7 (mg m (r4 * 256 + r5)) ((r0 * 256 + r1 - 1) / 256 % 256 * 256 + (r0 * 256 + r1 - 1) % 256) r6) r7 sp pc ii rf f1 f2 md pt m outs)) : fn_seek_round [.obj 18, .obj 25, .int s] (HB g [i0, i1, i2] d a G r0 r1 r2 r3 r4 r5 r6 r7 sp pc ii rf f1 f2 md pt m outs) Q := by
  refine wfK W fun b0 b1 b2 b3 b4 b5 b6 b7 ml mb => ?_
  have bm := mg_byte ml mb (r4 * 256 + r5)
  unfold fn_seek_round
  walk_at "ev"
  refine b_step2 b4 b5 ?_
  walk_at "ev"
  refine b_peek ml ?_
  walk_at "ev"
  refine b_stepm0 b0 b1 ?_
  walk_at "ev"
  refine b_pair0 (byte_hi _) (byte_lo _) ?_
  walk_at "ev"
  refine c_seek_flags b7 bm (by lia) ?_
  walk_at "ev"
  refine cond_s (fun q => ?_) (fun q => ?_)
  · rw [gt_dec (by lia)] at q
    rw [q, Bool.true_and, ← seek_z b7 bm (f := r6) (left := ((r0 * 256 + r1 - 1) / 256 % 256 * 256 + (r0 * 256 + r1 - 1) % 256))] at e
    walk_at "ev"
    walk_at "wh"; rw [e]
    exact h
  · rw [gt_dec (by lia)] at q
    rw [q, Bool.false_and] at e
    walk_at "ev"
    rw [gt_dec (by omega), q, e]
    exact h
theorem b_take {s : Int} {go : Bool} (W : Wf ⟨r0, r1, r2, r3, r4, r5, r6, r7, sp, pc, ii, rf, f1, f2, md, pt, m, outs⟩) (h0 : Byte i0) (h1 : Byte i1) (h2 : Byte i2) (e : decide ((r0 - 1) % 256 ≠ 0) = go) (h : Q (.bool go) (HB g [i0, i1, i2] d a G ((r0 - 1) % 256) r1 r2 r3 ((r4 * 256 + r5 + s) / 256 % 256) ((r4 * 256 + r5 + s) % 256) (portF (ig [i0, i1, i2] pt) ((r1 + s) % 256) ((r0 - 1) % 256)) r7 sp pc ii rf f1 f2 md (pt + 1) (ms m (r4 * 256 + r5) (ig [i0, i1, i2] pt)) outs)) : fn_take_round [.obj 18, .obj 25, .obj 32, .int s] (HB g [i0, i1, i2] d a G r0 r1 r2 r3 r4 r5 r6 r7 sp pc ii rf f1 f2 md pt m outs) Q := by
  refine wfK W fun b0 b1 b2 b3 b4 b5 b6 b7 ml mb => ?_
  have bi := ig_byte h0 h1 h2 pt
  unfold fn_take_round
  walk_at "ev"
  refine b_in h0 h1 h2 ?_
  walk_at "ev"
  refine b_step2 b4 b5 ?_
  walk_at "ev"
  refine b_poke ml ?_
  walk_at "ev"
  rw [byte_mod bi]
  refine b_count ?_
  walk_at "ev"
  refine c_port_flags bi (byte_lo _) ?_
  walk_at "ev"
  walk_at "wh"; rw [gt_dec (by omega), bitAnd_m8 (r1 + s), e]
  exact h
theorem b_send {s : Int} {go : Bool} (W : Wf ⟨r0, r1, r2, r3, r4, r5, r6, r7, sp, pc, ii, rf, f1, f2, md, pt, m, outs⟩) (ho : outs.length ≤ 1000) (e : decide ((r0 - 1) % 256 ≠ 0) = go) (h : Q (.bool go) (HB g [i0, i1, i2] d a G ((r0 - 1) % 256) r1 r2 r3 ((r4 * 256 + r5 + s) / 256 % 256) ((r4 * 256 + r5 + s) % 256) (portF (mg m (r4 * 256 + r5)) ((r4 * 256 + r5 + s) % 256) ((r0 - 1) % 256)) r7 sp pc ii rf f1 f2 md pt m (outs ++ [.tup [.int r1, .int (mg m (r4 * 256 + r5))]]))) : fn_send_round [.obj 18, .obj 25, .obj 32, .int s] (HB g [i0, i1, i2] d a G r0 r1 r2 r3 r4 r5 r6 r7 sp pc ii rf f1 f2 md pt m outs) Q := by
  refine wfK W fun b0 b1 b2 b3 b4 b5 b6 b7 ml mb => ?_
  have bm := mg_byte ml mb (r4 * 256 + r5)
  unfold fn_send_round
  walk_at "ev"
  refine b_step2 b4 b5 ?_
  walk_at "ev"
  refine b_peek ml ?_
  walk_at "ev"
  refine b_count ?_
  walk_at "ev"
  refine b_out ho ?_
  walk_at "ev"
  refine c_port_flags bm (byte_lo _) ?_
  walk_at "ev"
  walk_at "wh"; rw [gt_dec (by lia), byte_mod b1, byte_mod bm, e]
  exact h
theorem b_blk0 (y : Nat) (hy : 4 ≤ y) (hz : y < 8) (W : Wf ⟨r0, r1, r2, r3, r4, r5, r6, r7, sp, pc, ii, rf, f1, f2, md, pt, m, outs⟩) (h0 : Byte i0) (h1 : Byte i1) (h2 : Byte i2) (ho : outs.length ≤ 1000) (h : Q (.int (blkS y (blk [i0, i1, i2] y 0 ⟨r0, r1, r2, r3, r4, r5, r6, r7, sp, pc, ii, rf, f1, f2, md, pt, m, outs⟩)).2) (HH g [i0, i1, i2] d a (blkS y (blk [i0, i1, i2] y 0 ⟨r0, r1, r2, r3, r4, r5, r6, r7, sp, pc, ii, rf, f1, f2, md, pt, m, outs⟩)).1 G)) : fn_do_ed_plan [planB y 0, .obj 18, .obj 25, .obj 32] (HB g [i0, i1, i2] d a G r0 r1 r2 r3 r4 r5 r6 r7 sp pc ii rf f1 f2 md pt m outs) Q := by
  revert h; refine y47 y (by lia) ?_ ?_ ?_ ?_ <;> intro h
  · unfold fn_do_ed_plan; walk_at "ev"; unfold fn_do_block_plan; walk_at "ev"; refine b_move W (go := (blk [i0, i1, i2] 4 0 ⟨r0, r1, r2, r3, r4, r5, r6, r7, sp, pc, ii, rf, f1, f2, md, pt, m, outs⟩).2) rfl ?_; walk_at "ev"; exact h
  · unfold fn_do_ed_plan; walk_at "ev"; unfold fn_do_block_plan; walk_at "ev"; refine b_move W (go := (blk [i0, i1, i2] 5 0 ⟨r0, r1, r2, r3, r4, r5, r6, r7, sp, pc, ii, rf, f1, f2, md, pt, m, outs⟩).2) rfl ?_; walk_at "ev"; exact h
  · cases e : (blk [i0, i1, i2] 6 0 ⟨r0, r1, r2, r3, r4, r5, r6, r7, sp, pc, ii, rf, f1, f2, md, pt, m, outs⟩).2
    · rw [blkS6f e] at h; unfold fn_do_ed_plan; walk_at "ev"; unfold fn_do_block_plan; walk_at "ev"; refine b_move W e ?_; walk_at "ev"; exact h
    · rw [blkS6t e] at h; unfold fn_do_ed_plan; walk_at "ev"; unfold fn_do_block_plan; walk_at "ev"; refine b_move W e ?_; walk_at "ev"; rw [bitAnd_m16]; exact h
  · cases e : (blk [i0, i1, i2] 7 0 ⟨r0, r1, r2, r3, r4, r5, r6, r7, sp, pc, ii, rf, f1, f2, md, pt, m, outs⟩).2
    · rw [blkS7f e] at h; unfold fn_do_ed_plan; walk_at "ev"; unfold fn_do_block_plan; walk_at "ev"; refine b_move W e ?_; walk_at "ev"; exact h
    · rw [blkS7t e] at h; unfold fn_do_ed_plan; walk_at "ev"; unfold fn_do_block_plan; walk_at "ev"; refine b_move W e ?_; walk_at "ev"; rw [bitAnd_m16]; exact h
theorem b_blk1 (y : Nat) (hy : 4 ≤ y) (hz : y < 8) (W : Wf ⟨r0, r1, r2, r3, r4, r5, r6, r7, sp, pc, ii, rf, f1, f2, md, pt, m, outs⟩) (h0 : Byte i0) (h1 : Byte i1) (h2 : Byte i2) (ho : outs.length ≤ 1000) (h : Q (.int (blkS y (blk [i0, i1, i2] y 1 ⟨r0, r1, r2, r3, r4, r5, r6, r7, sp, pc, ii, rf, f1, f2, md, pt, m, outs⟩)).2) (HH g [i0, i1, i2] d a (blkS y (blk [i0, i1, i2] y 1 ⟨r0, r1, r2, r3, r4, r5, r6, r7, sp, pc, ii, rf, f1, f2, md, pt, m, outs⟩)).1 G)) : fn_do_ed_plan [planB y 1, .obj 18, .obj 25, .obj 32] (HB g [i0, i1, i2] d a G r0 r1 r2 r3 r4 r5 r6 r7 sp pc ii rf f1 f2 md pt m outs) Q := by
  revert h; refine y47 y (by lia) ?_ ?_ ?_ ?_ <;> intro h
  · unfold fn_do_ed_plan; walk_at "ev"; unfold fn_do_block_plan; walk_at "ev"; refine b_seek W (go := (blk [i0, i1, i2] 4 1 ⟨r0, r1, r2, r3, r4, r5, r6, r7, sp, pc, ii, rf, f1, f2, md, pt, m, outs⟩).2) rfl ?_; walk_at "ev"; exact h
  · unfold fn_do_ed_plan; walk_at "ev"; unfold fn_do_block_plan; walk_at "ev"; refine b_seek W (go := (blk [i0, i1, i2] 5 1 ⟨r0, r1, r2, r3, r4, r5, r6, r7, sp, pc, ii, rf, f1, f2, md, pt, m, outs⟩).2) rfl ?_; walk_at "ev"; exact h
  · cases e : (blk [i0, i1, i2] 6 1 ⟨r0, r1, r2, r3, r4, r5, r6, r7, sp, pc, ii, rf, f1, f2, md, pt, m, outs⟩).2
    · rw [blkS6f e] at h; unfold fn_do_ed_plan; walk_at "ev"; unfold fn_do_block_plan; walk_at "ev"; refine b_seek W e ?_; walk_at "ev"; exact h
    · rw [blkS6t e] at h; unfold fn_do_ed_plan; walk_at "ev"; unfold fn_do_block_plan; walk_at "ev"; refine b_seek W e ?_; walk_at "ev"; rw [bitAnd_m16]; exact h
  · cases e : (blk [i0, i1, i2] 7 1 ⟨r0, r1, r2, r3, r4, r5, r6, r7, sp, pc, ii, rf, f1, f2, md, pt, m, outs⟩).2
    · rw [blkS7f e] at h; unfold fn_do_ed_plan; walk_at "ev"; unfold fn_do_block_plan; walk_at "ev"; refine b_seek W e ?_; walk_at "ev"; exact h
    · rw [blkS7t e] at h; unfold fn_do_ed_plan; walk_at "ev"; unfold fn_do_block_plan; walk_at "ev"; refine b_seek W e ?_; walk_at "ev"; rw [bitAnd_m16]; exact h
theorem b_blk2 (y : Nat) (hy : 4 ≤ y) (hz : y < 8) (W : Wf ⟨r0, r1, r2, r3, r4, r5, r6, r7, sp, pc, ii, rf, f1, f2, md, pt, m, outs⟩) (h0 : Byte i0) (h1 : Byte i1) (h2 : Byte i2) (ho : outs.length ≤ 1000) (h : Q (.int (blkS y (blk [i0, i1, i2] y 2 ⟨r0, r1, r2, r3, r4, r5, r6, r7, sp, pc, ii, rf, f1, f2, md, pt, m, outs⟩)).2) (HH g [i0, i1, i2] d a (blkS y (blk [i0, i1, i2] y 2 ⟨r0, r1, r2, r3, r4, r5, r6, r7, sp, pc, ii, rf, f1, f2, md, pt, m, outs⟩)).1 G)) : fn_do_ed_plan [planB y 2, .obj 18, .obj 25, .obj 32] (HB g [i0, i1, i2] d a G r0 r1 r2 r3 r4 r5 r6 r7 sp pc ii rf f1 f2 md pt m outs) Q := by
  revert h; refine y47 y (by lia) ?_ ?_ ?_ ?_ <;> intro h
  · unfold fn_do_ed_plan; walk_at "ev"; unfold fn_do_block_plan; walk_at "ev"; refine b_take W h0 h1 h2 (go := (blk [i0, i1, i2] 4 2 ⟨r0, r1, r2, r3, r4, r5, r6, r7, sp, pc, ii, rf, f1, f2, md, pt, m, outs⟩).2) rfl ?_; walk_at "ev"; exact h
  · unfold fn_do_ed_plan; walk_at "ev"; unfold fn_do_block_plan; walk_at "ev"; refine b_take W h0 h1 h2 (go := (blk [i0, i1, i2] 5 2 ⟨r0, r1, r2, r3, r4, r5, r6, r7, sp, pc, ii, rf, f1, f2, md, pt, m, outs⟩).2) rfl ?_; walk_at "ev"; exact h
  · cases e : (blk [i0, i1, i2] 6 2 ⟨r0, r1, r2, r3, r4, r5, r6, r7, sp, pc, ii, rf, f1, f2, md, pt, m, outs⟩).2
    · rw [blkS6f e] at h; unfold fn_do_ed_plan; walk_at "ev"; unfold fn_do_block_plan; walk_at "ev"; refine b_take W h0 h1 h2 e ?_; walk_at "ev"; exact h
    · rw [blkS6t e] at h; unfold fn_do_ed_plan; walk_at "ev"; unfold fn_do_block_plan; walk_at "ev"; refine b_take W h0 h1 h2 e ?_; walk_at "ev"; rw [bitAnd_m16]; exact h
  · cases e : (blk [i0, i1, i2] 7 2 ⟨r0, r1, r2, r3, r4, r5, r6, r7, sp, pc, ii, rf, f1, f2, md, pt, m, outs⟩).2
    · rw [blkS7f e] at h; unfold fn_do_ed_plan; walk_at "ev"; unfold fn_do_block_plan; walk_at "ev"; refine b_take W h0 h1 h2 e ?_; walk_at "ev"; exact h
    · rw [blkS7t e] at h; unfold fn_do_ed_plan; walk_at "ev"; unfold fn_do_block_plan; walk_at "ev"; refine b_take W h0 h1 h2 e ?_; walk_at "ev"; rw [bitAnd_m16]; exact h
theorem b_blk3 (y : Nat) (hy : 4 ≤ y) (hz : y < 8) (W : Wf ⟨r0, r1, r2, r3, r4, r5, r6, r7, sp, pc, ii, rf, f1, f2, md, pt, m, outs⟩) (h0 : Byte i0) (h1 : Byte i1) (h2 : Byte i2) (ho : outs.length ≤ 1000) (h : Q (.int (blkS y (blk [i0, i1, i2] y 3 ⟨r0, r1, r2, r3, r4, r5, r6, r7, sp, pc, ii, rf, f1, f2, md, pt, m, outs⟩)).2) (HH g [i0, i1, i2] d a (blkS y (blk [i0, i1, i2] y 3 ⟨r0, r1, r2, r3, r4, r5, r6, r7, sp, pc, ii, rf, f1, f2, md, pt, m, outs⟩)).1 G)) : fn_do_ed_plan [planB y 3, .obj 18, .obj 25, .obj 32] (HB g [i0, i1, i2] d a G r0 r1 r2 r3 r4 r5 r6 r7 sp pc ii rf f1 f2 md pt m outs) Q := by
  revert h; refine y47 y (by lia) ?_ ?_ ?_ ?_ <;> intro h
  · unfold fn_do_ed_plan; walk_at "ev"; unfold fn_do_block_plan; walk_at "ev"; refine b_send W ho (go := (blk [i0, i1, i2] 4 3 ⟨r0, r1, r2, r3, r4, r5, r6, r7, sp, pc, ii, rf, f1, f2, md, pt, m, outs⟩).2) rfl ?_; walk_at "ev"; exact h
  · unfold fn_do_ed_plan; walk_at "ev"; unfold fn_do_block_plan; walk_at "ev"; refine b_send W ho (go := (blk [i0, i1, i2] 5 3 ⟨r0, r1, r2, r3, r4, r5, r6, r7, sp, pc, ii, rf, f1, f2, md, pt, m, outs⟩).2) rfl ?_; walk_at "ev"; exact h
  · cases e : (blk [i0, i1, i2] 6 3 ⟨r0, r1, r2, r3, r4, r5, r6, r7, sp, pc, ii, rf, f1, f2, md, pt, m, outs⟩).2
    · rw [blkS6f e] at h; unfold fn_do_ed_plan; walk_at "ev"; unfold fn_do_block_plan; walk_at "ev"; refine b_send W ho e ?_; walk_at "ev"; exact h
    · rw [blkS6t e] at h; unfold fn_do_ed_plan; walk_at "ev"; unfold fn_do_block_plan; walk_at "ev"; refine b_send W ho e ?_; walk_at "ev"; rw [bitAnd_m16]; exact h
  · cases e : (blk [i0, i1, i2] 7 3 ⟨r0, r1, r2, r3, r4, r5, r6, r7, sp, pc, ii, rf, f1, f2, md, pt, m, outs⟩).2
    · rw [blkS7f e] at h; unfold fn_do_ed_plan; walk_at "ev"; unfold fn_do_block_plan; walk_at "ev"; refine b_send W ho e ?_; walk_at "ev"; exact h
    · rw [blkS7t e] at h; unfold fn_do_ed_plan; walk_at "ev"; unfold fn_do_block_plan; walk_at "ev"; refine b_send W ho e ?_; walk_at "ev"; rw [bitAnd_m16]; exact h
theorem b_one0 (y : Nat) (hy : y < 8) (W : Wf ⟨r0, r1, r2, r3, r4, r5, r6, r7, sp, pc, ii, rf, f1, f2, md, pt, m, outs⟩) (h0 : Byte i0) (h1 : Byte i1) (h2 : Byte i2) (ho : outs.length ≤ 1000) (h : Q (.int (due1 [i0, i1, i2] y 0 ⟨r0, r1, r2, r3, r4, r5, r6, r7, sp, pc, ii, rf, f1, f2, md, pt, m, outs⟩).2) (HH g [i0, i1, i2] d a (due1 [i0, i1, i2] y 0 ⟨r0, r1, r2, r3, r4, r5, r6, r7, sp, pc, ii, rf, f1, f2, md, pt, m, outs⟩).1 G)) : fn_do_ed_plan [planA y 0, .obj 18, .obj 25, .obj 32] (HB g [i0, i1, i2] d a G r0 r1 r2 r3 r4 r5 r6 r7 sp pc ii rf f1 f2 md pt m outs) Q := by
  refine wfK W fun b0 b1 b2 b3 b4 b5 b6 b7 ml mb => ?_
  revert h; refine y8 y hy ?_ ?_ ?_ ?_ ?_ ?_ ?_ ?_ <;> intro h
  · unfold fn_do_ed_plan; walk_at "ev"; unfold fn_do_port_plan; walk_at "ev"; refine b_in h0 h1 h2 ?_; walk_at "ev"; refine c_in_flags (ig_byte h0 h1 h2 _) ?_; walk_at "ev"; exact h
  · unfold fn_do_ed_plan; walk_at "ev"; unfold fn_do_port_plan; walk_at "ev"; refine b_in h0 h1 h2 ?_; walk_at "ev"; refine c_in_flags (ig_byte h0 h1 h2 _) ?_; walk_at "ev"; exact h
  · unfold fn_do_ed_plan; walk_at "ev"; unfold fn_do_port_plan; walk_at "ev"; refine b_in h0 h1 h2 ?_; walk_at "ev"; refine c_in_flags (ig_byte h0 h1 h2 _) ?_; walk_at "ev"; exact h
  · unfold fn_do_ed_plan; walk_at "ev"; unfold fn_do_port_plan; walk_at "ev"; refine b_in h0 h1 h2 ?_; walk_at "ev"; refine c_in_flags (ig_byte h0 h1 h2 _) ?_; walk_at "ev"; exact h
  · unfold fn_do_ed_plan; walk_at "ev"; unfold fn_do_port_plan; walk_at "ev"; refine b_in h0 h1 h2 ?_; walk_at "ev"; refine c_in_flags (ig_byte h0 h1 h2 _) ?_; walk_at "ev"; exact h
  · unfold fn_do_ed_plan; walk_at "ev"; unfold fn_do_port_plan; walk_at "ev"; refine b_in h0 h1 h2 ?_; walk_at "ev"; refine c_in_flags (ig_byte h0 h1 h2 _) ?_; walk_at "ev"; exact h
  · unfold fn_do_ed_plan; walk_at "ev"; unfold fn_do_port_plan; walk_at "ev"; refine b_in h0 h1 h2 ?_; walk_at "ev"; refine c_in_flags (ig_byte h0 h1 h2 _) ?_; walk_at "ev"; exact h
  · unfold fn_do_ed_plan; walk_at "ev"; unfold fn_do_port_plan; walk_at "ev"; refine b_in h0 h1 h2 ?_; walk_at "ev"; refine c_in_flags (ig_byte h0 h1 h2 _) ?_; walk_at "ev"; exact h
theorem b_one1 (y : Nat) (hy : y < 8) (W : Wf ⟨r0, r1, r2, r3, r4, r5, r6, r7, sp, pc, ii, rf, f1, f2, md, pt, m, outs⟩) (h0 : Byte i0) (h1 : Byte i1) (h2 : Byte i2) (ho : outs.length ≤ 1000) (h : Q (.int (due1 [i0, i1, i2] y 1 ⟨r0, r1, r2, r3, r4, r5, r6, r7, sp, pc, ii, rf, f1, f2, md, pt, m, outs⟩).2) (HH g [i0, i1, i2] d a (due1 [i0, i1, i2] y 1 ⟨r0, r1, r2, r3, r4, r5, r6, r7, sp, pc, ii, rf, f1, f2, md, pt, m, outs⟩).1 G)) : fn_do_ed_plan [planA y 1, .obj 18, .obj 25, .obj 32] (HB g [i0, i1, i2] d a G r0 r1 r2 r3 r4 r5 r6 r7 sp pc ii rf f1 f2 md pt m outs) Q := by
  refine wfK W fun b0 b1 b2 b3 b4 b5 b6 b7 ml mb => ?_
  revert h; refine y8 y hy ?_ ?_ ?_ ?_ ?_ ?_ ?_ ?_ <;> intro h
  · unfold fn_do_ed_plan; walk_at "ev"; unfold fn_do_port_plan; walk_at "ev"; refine b_out ho ?_; walk_at "ev"; rw [byte_mod b1, byte_mod b0]; exact h
  · unfold fn_do_ed_plan; walk_at "ev"; unfold fn_do_port_plan; walk_at "ev"; refine b_out ho ?_; walk_at "ev"; rw [byte_mod b1]; exact h
  · unfold fn_do_ed_plan; walk_at "ev"; unfold fn_do_port_plan; walk_at "ev"; refine b_out ho ?_; walk_at "ev"; rw [byte_mod b1, byte_mod b2]; exact h
  · unfold fn_do_ed_plan; walk_at "ev"; unfold fn_do_port_plan; walk_at "ev"; refine b_out ho ?_; walk_at "ev"; rw [byte_mod b1, byte_mod b3]; exact h
  · unfold fn_do_ed_plan; walk_at "ev"; unfold fn_do_port_plan; walk_at "ev"; refine b_out ho ?_; walk_at "ev"; rw [byte_mod b1, byte_mod b4]; exact h
  · unfold fn_do_ed_plan; walk_at "ev"; unfold fn_do_port_plan; walk_at "ev"; refine b_out ho ?_; walk_at "ev"; rw [byte_mod b1, byte_mod b5]; exact h
  · unfold fn_do_ed_plan; walk_at "ev"; unfold fn_do_port_plan; walk_at "ev"; refine b_out ho ?_; walk_at "ev"; rw [byte_mod b1]; exact h
  · unfold fn_do_ed_plan; walk_at "ev"; unfold fn_do_port_plan; walk_at "ev"; refine b_out ho ?_; walk_at "ev"; rw [byte_mod b1, byte_mod b7]; exact h
theorem b_one2 (y : Nat) (hy : y < 8) (W : Wf ⟨r0, r1, r2, r3, r4, r5, r6, r7, sp, pc, ii, rf, f1, f2, md, pt, m, outs⟩) (h0 : Byte i0) (h1 : Byte i1) (h2 : Byte i2) (ho : outs.length ≤ 1000) (h : Q (.int (due1 [i0, i1, i2] y 2 ⟨r0, r1, r2, r3, r4, r5, r6, r7, sp, pc, ii, rf, f1, f2, md, pt, m, outs⟩).2) (HH g [i0, i1, i2] d a (due1 [i0, i1, i2] y 2 ⟨r0, r1, r2, r3, r4, r5, r6, r7, sp, pc, ii, rf, f1, f2, md, pt, m, outs⟩).1 G)) : fn_do_ed_plan [planA y 2, .obj 18, .obj 25, .obj 32] (HB g [i0, i1, i2] d a G r0 r1 r2 r3 r4 r5 r6 r7 sp pc ii rf f1 f2 md pt m outs) Q := by
  refine wfK W fun b0 b1 b2 b3 b4 b5 b6 b7 ml mb => ?_
  have hc : Builtin.bitAnd r6 1 = 0 ∨ Builtin.bitAnd r6 1 = 1 := by rw [bitAnd_m1]; lia
  have ec := bitAnd_m1 r6
  revert h; refine y8 y hy ?_ ?_ ?_ ?_ ?_ ?_ ?_ ?_ <;> intro h
  · unfold fn_do_ed_plan; walk_at "ev"; unfold fn_do_pair_plan; walk_at "ev"; refine b_pair2 b4 b5 ?_; walk_at "ev"; refine b_pair0 b0 b1 ?_; walk_at "ev"; refine c_sbc16 (word_hi b4 b5) (word_hi b0 b1) hc ?_; walk_at "ev"; refine b_set2 ?_; walk_at "ev"; rw [ec]; exact h
  · unfold fn_do_ed_plan; walk_at "ev"; unfold fn_do_pair_plan; walk_at "ev"; refine b_pair2 b4 b5 ?_; walk_at "ev"; refine b_pair0 b0 b1 ?_; walk_at "ev"; refine c_adc16 (word_hi b4 b5) (word_hi b0 b1) hc ?_; walk_at "ev"; refine b_set2 ?_; walk_at "ev"; rw [ec]; exact h
  · unfold fn_do_ed_plan; walk_at "ev"; unfold fn_do_pair_plan; walk_at "ev"; refine b_pair2 b4 b5 ?_; walk_at "ev"; refine b_pair1 b2 b3 ?_; walk_at "ev"; refine c_sbc16 (word_hi b4 b5) (word_hi b2 b3) hc ?_; walk_at "ev"; refine b_set2 ?_; walk_at "ev"; rw [ec]; exact h
  · unfold fn_do_ed_plan; walk_at "ev"; unfold fn_do_pair_plan; walk_at "ev"; refine b_pair2 b4 b5 ?_; walk_at "ev"; refine b_pair1 b2 b3 ?_; walk_at "ev"; refine c_adc16 (word_hi b4 b5) (word_hi b2 b3) hc ?_; walk_at "ev"; refine b_set2 ?_; walk_at "ev"; rw [ec]; exact h
  · unfold fn_do_ed_plan; walk_at "ev"; unfold fn_do_pair_plan; walk_at "ev"; refine b_pair2 b4 b5 ?_; walk_at "ev"; refine b_pair2 b4 b5 ?_; walk_at "ev"; refine c_sbc16 (word_hi b4 b5) (word_hi b4 b5) hc ?_; walk_at "ev"; refine b_set2 ?_; walk_at "ev"; rw [ec]; exact h
  · unfold fn_do_ed_plan; walk_at "ev"; unfold fn_do_pair_plan; walk_at "ev"; refine b_pair2 b4 b5 ?_; walk_at "ev"; refine b_pair2 b4 b5 ?_; walk_at "ev"; refine c_adc16 (word_hi b4 b5) (word_hi b4 b5) hc ?_; walk_at "ev"; refine b_set2 ?_; walk_at "ev"; rw [ec]; exact h
  · unfold fn_do_ed_plan; walk_at "ev"; unfold fn_do_pair_plan; walk_at "ev"; refine b_pair2 b4 b5 ?_; walk_at "ev"; refine b_pair3  ?_; walk_at "ev"; refine c_sbc16 (word_hi b4 b5) W.wsp hc ?_; walk_at "ev"; refine b_set2 ?_; walk_at "ev"; rw [ec]; exact h
  · unfold fn_do_ed_plan; walk_at "ev"; unfold fn_do_pair_plan; walk_at "ev"; refine b_pair2 b4 b5 ?_; walk_at "ev"; refine b_pair3  ?_; walk_at "ev"; refine c_adc16 (word_hi b4 b5) W.wsp hc ?_; walk_at "ev"; refine b_set2 ?_; walk_at "ev"; rw [ec]; exact h
theorem b_one3 (y : Nat) (hy : y < 8) (W : Wf ⟨r0, r1, r2, r3, r4, r5, r6, r7, sp, pc, ii, rf, f1, f2, md, pt, m, outs⟩) (h0 : Byte i0) (h1 : Byte i1) (h2 : Byte i2) (ho : outs.length ≤ 1000) (h : Q (.int (due1 [i0, i1, i2] y 3 ⟨r0, r1, r2, r3, r4, r5, r6, r7, sp, pc, ii, rf, f1, f2, md, pt, m, outs⟩).2) (HH g [i0, i1, i2] d a (due1 [i0, i1, i2] y 3 ⟨r0, r1, r2, r3, r4, r5, r6, r7, sp, pc, ii, rf, f1, f2, md, pt, m, outs⟩).1 G)) : fn_do_ed_plan [planA y 3, .obj 18, .obj 25, .obj 32] (HB g [i0, i1, i2] d a G r0 r1 r2 r3 r4 r5 r6 r7 sp pc ii rf f1 f2 md pt m outs) Q := by
  refine wfK W fun b0 b1 b2 b3 b4 b5 b6 b7 ml mb => ?_
  revert h; refine y8 y hy ?_ ?_ ?_ ?_ ?_ ?_ ?_ ?_ <;> intro h
  · unfold fn_do_ed_plan; walk_at "ev"; unfold fn_do_pair_plan; walk_at "ev"; refine b_fetch16 ml mb ?_; walk_at "ev"; refine b_pair0 b0 b1 ?_; walk_at "ev"; refine b_poke16 ml (word_hi b0 b1) ?_; walk_at "ev"; exact h
  · unfold fn_do_ed_plan; walk_at "ev"; unfold fn_do_pair_plan; walk_at "ev"; refine b_fetch16 ml mb ?_; walk_at "ev"; refine b_peek16 ml mb ?_; walk_at "ev"; refine b_set0 ?_; walk_at "ev"; exact h
  · unfold fn_do_ed_plan; walk_at "ev"; unfold fn_do_pair_plan; walk_at "ev"; refine b_fetch16 ml mb ?_; walk_at "ev"; refine b_pair1 b2 b3 ?_; walk_at "ev"; refine b_poke16 ml (word_hi b2 b3) ?_; walk_at "ev"; exact h
  · unfold fn_do_ed_plan; walk_at "ev"; unfold fn_do_pair_plan; walk_at "ev"; refine b_fetch16 ml mb ?_; walk_at "ev"; refine b_peek16 ml mb ?_; walk_at "ev"; refine b_set1 ?_; walk_at "ev"; exact h
  · unfold fn_do_ed_plan; walk_at "ev"; unfold fn_do_pair_plan; walk_at "ev"; refine b_fetch16 ml mb ?_; walk_at "ev"; refine b_pair2 b4 b5 ?_; walk_at "ev"; refine b_poke16 ml (word_hi b4 b5) ?_; walk_at "ev"; exact h
  · unfold fn_do_ed_plan; walk_at "ev"; unfold fn_do_pair_plan; walk_at "ev"; refine b_fetch16 ml mb ?_; walk_at "ev"; refine b_peek16 ml mb ?_; walk_at "ev"; refine b_set2 ?_; walk_at "ev"; exact h
  · unfold fn_do_ed_plan; walk_at "ev"; unfold fn_do_pair_plan; walk_at "ev"; refine b_fetch16 ml mb ?_; walk_at "ev"; refine b_pair3  ?_; walk_at "ev"; refine b_poke16 ml W.wsp ?_; walk_at "ev"; exact h
  · unfold fn_do_ed_plan; walk_at "ev"; unfold fn_do_pair_plan; walk_at "ev"; refine b_fetch16 ml mb ?_; walk_at "ev"; refine b_peek16 ml mb ?_; walk_at "ev"; refine b_set3 ?_; walk_at "ev"; exact h
theorem b_one4 (y : Nat) (hy : y < 8) (W : Wf ⟨r0, r1, r2, r3, r4, r5, r6, r7, sp, pc, ii, rf, f1, f2, md, pt, m, outs⟩) (h0 : Byte i0) (h1 : Byte i1) (h2 : Byte i2) (ho : outs.length ≤ 1000) (h : Q (.int (due1 [i0, i1, i2] y 4 ⟨r0, r1, r2, r3, r4, r5, r6, r7, sp, pc, ii, rf, f1, f2, md, pt, m, outs⟩).2) (HH g [i0, i1, i2] d a (due1 [i0, i1, i2] y 4 ⟨r0, r1, r2, r3, r4, r5, r6, r7, sp, pc, ii, rf, f1, f2, md, pt, m, outs⟩).1 G)) : fn_do_ed_plan [planA y 4, .obj 18, .obj 25, .obj 32] (HB g [i0, i1, i2] d a G r0 r1 r2 r3 r4 r5 r6 r7 sp pc ii rf f1 f2 md pt m outs) Q := by
  refine wfK W fun b0 b1 b2 b3 b4 b5 b6 b7 ml mb => ?_
  revert h; refine y8 y hy ?_ ?_ ?_ ?_ ?_ ?_ ?_ ?_ <;> intro h
  · unfold fn_do_ed_plan; walk_at "ev"; refine c_neg b7 ?_; walk_at "ev"; exact h
  · unfold fn_do_ed_plan; walk_at "ev"; refine c_neg b7 ?_; walk_at "ev"; exact h
  · unfold fn_do_ed_plan; walk_at "ev"; refine c_neg b7 ?_; walk_at "ev"; exact h
  · unfold fn_do_ed_plan; walk_at "ev"; refine c_neg b7 ?_; walk_at "ev"; exact h
  · unfold fn_do_ed_plan; walk_at "ev"; refine c_neg b7 ?_; walk_at "ev"; exact h
  · unfold fn_do_ed_plan; walk_at "ev"; refine c_neg b7 ?_; walk_at "ev"; exact h
  · unfold fn_do_ed_plan; walk_at "ev"; refine c_neg b7 ?_; walk_at "ev"; exact h
  · unfold fn_do_ed_plan; walk_at "ev"; refine c_neg b7 ?_; walk_at "ev"; exact h
theorem b_one5 (y : Nat) (hy : y < 8) (W : Wf ⟨r0, r1, r2, r3, r4, r5, r6, r7, sp, pc, ii, rf, f1, f2, md, pt, m, outs⟩) (h0 : Byte i0) (h1 : Byte i1) (h2 : Byte i2) (ho : outs.length ≤ 1000) (h : Q (.int (due1 [i0, i1, i2] y 5 ⟨r0, r1, r2, r3, r4, r5, r6, r7, sp, pc, ii, rf, f1, f2, md, pt, m, outs⟩).2) (HH g [i0, i1, i2] d a (due1 [i0, i1, i2] y 5 ⟨r0, r1, r2, r3, r4, r5, r6, r7, sp, pc, ii, rf, f1, f2, md, pt, m, outs⟩).1 G)) : fn_do_ed_plan [planA y 5, .obj 18, .obj 25, .obj 32] (HB g [i0, i1, i2] d a G r0 r1 r2 r3 r4 r5 r6 r7 sp pc ii rf f1 f2 md pt m outs) Q := by
  refine wfK W fun b0 b1 b2 b3 b4 b5 b6 b7 ml mb => ?_
  revert h; refine y8 y hy ?_ ?_ ?_ ?_ ?_ ?_ ?_ ?_ <;> intro h
  · unfold fn_do_ed_plan; walk_at "ev"; refine b_pop ml mb ?_; walk_at "ev"; exact h
  · unfold fn_do_ed_plan; walk_at "ev"; refine b_pop ml mb ?_; walk_at "ev"; exact h
  · unfold fn_do_ed_plan; walk_at "ev"; refine b_pop ml mb ?_; walk_at "ev"; exact h
  · unfold fn_do_ed_plan; walk_at "ev"; refine b_pop ml mb ?_; walk_at "ev"; exact h
  · unfold fn_do_ed_plan; walk_at "ev"; refine b_pop ml mb ?_; walk_at "ev"; exact h
  · unfold fn_do_ed_plan; walk_at "ev"; refine b_pop ml mb ?_; walk_at "ev"; exact h
  · unfold fn_do_ed_plan; walk_at "ev"; refine b_pop ml mb ?_; walk_at "ev"; exact h
  · unfold fn_do_ed_plan; walk_at "ev"; refine b_pop ml mb ?_; walk_at "ev"; exact h
theorem b_one6 (y : Nat) (hy : y < 8) (W : Wf ⟨r0, r1, r2, r3, r4, r5, r6, r7, sp, pc, ii, rf, f1, f2, md, pt, m, outs⟩) (h0 : Byte i0) (h1 : Byte i1) (h2 : Byte i2) (ho : outs.length ≤ 1000) (h : Q (.int (due1 [i0, i1, i2] y 6 ⟨r0, r1, r2, r3, r4, r5, r6, r7, sp, pc, ii, rf, f1, f2, md, pt, m, outs⟩).2) (HH g [i0, i1, i2] d a (due1 [i0, i1, i2] y 6 ⟨r0, r1, r2, r3, r4, r5, r6, r7, sp, pc, ii, rf, f1, f2, md, pt, m, outs⟩).1 G)) : fn_do_ed_plan [planA y 6, .obj 18, .obj 25, .obj 32] (HB g [i0, i1, i2] d a G r0 r1 r2 r3 r4 r5 r6 r7 sp pc ii rf f1 f2 md pt m outs) Q := by
  refine wfK W fun b0 b1 b2 b3 b4 b5 b6 b7 ml mb => ?_
  revert h; refine y8 y hy ?_ ?_ ?_ ?_ ?_ ?_ ?_ ?_ <;> intro h
  · unfold fn_do_ed_plan; walk_at "ev"; exact h
  · unfold fn_do_ed_plan; walk_at "ev"; exact h
  · unfold fn_do_ed_plan; walk_at "ev"; exact h
  · unfold fn_do_ed_plan; walk_at "ev"; exact h
  · unfold fn_do_ed_plan; walk_at "ev"; exact h
  · unfold fn_do_ed_plan; walk_at "ev"; exact h
  · unfold fn_do_ed_plan; walk_at "ev"; exact h
  · unfold fn_do_ed_plan; walk_at "ev"; exact h
theorem b_one7 (y : Nat) (hy : y < 8) (W : Wf ⟨r0, r1, r2, r3, r4, r5, r6, r7, sp, pc, ii, rf, f1, f2, md, pt, m, outs⟩) (h0 : Byte i0) (h1 : Byte i1) (h2 : Byte i2) (ho : outs.length ≤ 1000) (h : Q (.int (due1 [i0, i1, i2] y 7 ⟨r0, r1, r2, r3, r4, r5, r6, r7, sp, pc, ii, rf, f1, f2, md, pt, m, outs⟩).2) (HH g [i0, i1, i2] d a (due1 [i0, i1, i2] y 7 ⟨r0, r1, r2, r3, r4, r5, r6, r7, sp, pc, ii, rf, f1, f2, md, pt, m, outs⟩).1 G)) : fn_do_ed_plan [planA y 7, .obj 18, .obj 25, .obj 32] (HB g [i0, i1, i2] d a G r0 r1 r2 r3 r4 r5 r6 r7 sp pc ii rf f1 f2 md pt m outs) Q := by
  refine wfK W fun b0 b1 b2 b3 b4 b5 b6 b7 ml mb => ?_
  have bm := mg_byte ml mb (r4 * 256 + r5)
  revert h; refine y8 y hy ?_ ?_ ?_ ?_ ?_ ?_ ?_ ?_ <;> intro h
  · unfold fn_do_ed_plan; walk_at "ev"; unfold fn_do_special_plan; walk_at "ev"; exact h
  · unfold fn_do_ed_plan; walk_at "ev"; unfold fn_do_special_plan; walk_at "ev"; exact h
  · unfold fn_do_ed_plan; walk_at "ev"; unfold fn_do_special_plan; walk_at "ev"; refine c_load_flags W.bi W.i2 ?_; walk_at "ev"; exact h
  · unfold fn_do_ed_plan; walk_at "ev"; unfold fn_do_special_plan; walk_at "ev"; refine c_load_flags W.bf W.i2 ?_; walk_at "ev"; exact h
  · unfold fn_do_ed_plan; walk_at "ev"; unfold fn_do_halves_plan; walk_at "ev"; refine b_pair2 b4 b5 ?_; walk_at "ev"; refine b_peek ml ?_; walk_at "ev"; refine c_rrd b7 bm ?_; walk_at "ev"; refine b_poke ml ?_; walk_at "ev"; rw [show (r7 % 16 * 16 + mg m (r4 * 256 + r5) / 16) % 256 = r7 % 16 * 16 + mg m (r4 * 256 + r5) / 16 by have := b7.1; have := b7.2; have := bm.1; have := bm.2; lia]; exact h
  · unfold fn_do_ed_plan; walk_at "ev"; unfold fn_do_halves_plan; walk_at "ev"; refine b_pair2 b4 b5 ?_; walk_at "ev"; refine b_peek ml ?_; walk_at "ev"; refine c_rld b7 bm ?_; walk_at "ev"; refine b_poke ml ?_; walk_at "ev"; rw [show (mg m (r4 * 256 + r5) % 16 * 16 + r7 % 16) % 256 = mg m (r4 * 256 + r5) % 16 * 16 + r7 % 16 by have := b7.1; have := b7.2; have := bm.1; have := bm.2; lia]; exact h
  · unfold fn_do_ed_plan; walk_at "ev"; exact h
  · unfold fn_do_ed_plan; walk_at "ev"; exact h
theorem b_nop  (h : Q (.int 8) (HB g [i0, i1, i2] d a G r0 r1 r2 r3 r4 r5 r6 r7 sp pc ii rf f1 f2 md pt m outs)) : fn_do_ed_plan [(.tup [.str 18, .tup [], .int 8]), .obj 18, .obj 25, .obj 32] (HB g [i0, i1, i2] d a G r0 r1 r2 r3 r4 r5 r6 r7 sp pc ii rf f1 f2 md pt m outs) Q := by
  unfold fn_do_ed_plan; walk_at "ev"; exact h
end
local macro_rules | `(tactic| walk_at "evc") => `(tactic| (walk_at "nm"; repeat ((first | walk_at "st" | refine compS_c ?_ | refine compS_n ?_); walk_at "nm")))
theorem d_told {H : List O} {Q : V → List O → Prop} {v : Int} (hv : Byte v) (h : Q (.int (told v)) H) : fn__law_told [.int v] H Q := by
  have h1 := hv.1
  have h2 := hv.2
  have e0 := fdiv_pos v (n := 128) (by decide)
  have e : v.fdiv 128 * 128 + cond (v == 0) 64 0 + Builtin.bitAnd v 40 = told v := by rw [e0, zbit]; rfl
  rw [← e] at h
  unfold fn__law_told
  walk_at "evc"
  exact h
theorem d_signed {H : List O} {Q : V → List O → Prop} {v : Int} (h : Q (.int (sgn v)) H) : fn__law_signed [.int v] H Q := by
  unfold fn__law_signed
  walk_at "evc"
  refine cond_s (fun e => ?_) (fun e => ?_)
  · have e' : sgn v = v - 65536 := by unfold sgn; rw [if_pos (of_decide_eq_true e)]
    rw [e'] at h
    walk_at "evc"
    exact h
  · have e' : sgn v = v := by unfold sgn; rw [if_neg (of_decide_eq_false e)]
    rw [e'] at h
    walk_at "evc"
    exact h
noncomputable def OutsOK (outs : List V) : Prop := ∃ ps : List (Int × Int), outs = ps.map fun p => .tup [.int p.1, .int p.2]
theorem outs_closed {k : Nat} {outs : List V} (h : OutsOK outs) : closedL k outs := by
  obtain ⟨ps, rfl⟩ := h
  induction ps with
  | nil => exact trivial
  | cons p r ih => exact ⟨⟨trivial, trivial, trivial⟩, ih⟩
theorem outs_snoc {outs : List V} (h : OutsOK outs) (x y : Int) : OutsOK (outs ++ [.tup [.int x, .int y]]) := by
  obtain ⟨ps, rfl⟩ := h
  exact ⟨ps ++ [(x, y)], by rw [List.map_append]; rfl⟩
theorem clo_HH {g : Nat → O} {ins : List Int} {d a b : St} (hg : ∀ k, closedO 34 (g k)) (hd : OutsOK d.outs) (ha : OutsOK a.outs) (hb : OutsOK b.outs) : closedH 34 (HH g ins d a b []) :=
  have t : ∀ {k n : Nat}, k < n → k < n := fun h => h
  ⟨hg _, hg _, hg _, hg _, outs_closed hd, ⟨trivial, t (by decide), t (by decide), t (by decide), t (by decide), trivial, trivial, trivial, trivial, trivial, trivial, trivial, trivial⟩, trivial, trivial, trivial, hg _,
    ⟨t (by decide), t (by decide), trivial, trivial, trivial, trivial, trivial, trivial, trivial, trivial, trivial, trivial, trivial, trivial, trivial⟩, t (by decide), hg _, hg _, hg _, trivial, trivial,
    ⟨t (by decide), t (by decide), trivial, trivial, trivial, trivial, trivial, trivial, trivial, trivial, trivial, trivial, trivial, trivial, trivial⟩, t (by decide), hg _, hg _, hg _, trivial, trivial,
    trivial, trivial, trivial, ⟨t (by decide), trivial, t (by decide), trivial⟩, t (by decide), outs_closed ha, trivial, ⟨t (by decide), trivial, t (by decide), trivial⟩, t (by decide), outs_closed hb, trivial⟩
noncomputable def par8 (v : Int) : Int := cond ((([0, 1, 2, 3, 4, 5, 6, 7] : List Int).map fun k => Builtin.bitAnd (v.fdiv (2 ^ k.toNat)) 1).sum.fmod 2 == 0) 4 0
theorem par8_eq {v : Int} (hv : Byte v) : par8 v = par v := byte_all (P := fun v => par8 v = par v) (by decide +kernel) hv
theorem d_par0 {g : Nat → O} {ins : List Int} {d a b : St} {Q : V → List O → Prop} {v : Int} (hv : Byte v) (hg : ∀ k, closedO 34 (g k)) (hd : OutsOK d.outs) (ha : OutsOK a.outs) (hb : OutsOK b.outs)
    (h : Q (.int (par v)) (HH g ins d a b [])) : truncF fn__law_parity [.int v] (HH g ins d a b []) Q := by
  rw [← par8_eq hv] at h
  have hc := clo_HH (ins := ins) hg hd ha hb
  unfold truncF
  unfold fn__law_parity
  refine Box.mk ?_
  ((conv => whnf); try dsimp only [initN, HA, HB, HD, HH, List.map, List.replicate, List.append, List.set_cons_succ, List.set_cons_zero, List.length_cons, List.length_nil, List.cons_append, List.nil_append]; repeat ((first | walk_at "st" | refine compS_c ?_ | refine compS_n ?_); (conv => whnf); try dsimp only [initN, HA, HB, HD, HH, List.map, List.replicate, List.append, List.set_cons_succ, List.set_cons_zero, List.length_cons, List.length_nil, List.cons_append, List.nil_append]))
  exact h
section
variable {g : Nat → O} {i0 i1 i2 : Int} {ins : List Int} {d a b : St} {G : List O} {Q : V → List O → Prop}
variable {r0 r1 r2 r3 r4 r5 r6 r7 sp pc ii rf f1 f2 md pt : Int} {m : List Int} {outs : List V}
theorem d_pair0 (hx : Byte r0) (hy : Byte r1) (h : Q (.int (r0 * 256 + r1)) (HD g ins a b G r0 r1 r2 r3 r4 r5 r6 r7 sp pc ii rf f1 f2 md pt m outs)) : fn__law_pair [.obj 5, .int 0] (HD g ins a b G r0 r1 r2 r3 r4 r5 r6 r7 sp pc ii rf f1 f2 md pt m outs) Q := by
  have h1 := hx.1
  have h2 := hx.2
  unfold fn__law_pair
  walk_at "evc"
  exact h
theorem d_set0 {v : Int} (h : Q .none (HD g ins a b G (v / 256 % 256) (v % 256) r2 r3 r4 r5 r6 r7 sp pc ii rf f1 f2 md pt m outs)) : fn__law_set [.obj 5, .int 0, .int v] (HD g ins a b G r0 r1 r2 r3 r4 r5 r6 r7 sp pc ii rf f1 f2 md pt m outs) Q := by
  rw [← fdiv_pos v (n := 256) (by decide), ← fmod_pos (v.fdiv 256) (n := 256) (by decide), ← fmod_pos v (n := 256) (by decide)] at h
  unfold fn__law_set
  walk_at "evc"
  exact h
theorem d_pair1 (hx : Byte r2) (hy : Byte r3) (h : Q (.int (r2 * 256 + r3)) (HD g ins a b G r0 r1 r2 r3 r4 r5 r6 r7 sp pc ii rf f1 f2 md pt m outs)) : fn__law_pair [.obj 5, .int 1] (HD g ins a b G r0 r1 r2 r3 r4 r5 r6 r7 sp pc ii rf f1 f2 md pt m outs) Q := by
  have h1 := hx.1
  have h2 := hx.2
  unfold fn__law_pair
  walk_at "evc"
  exact h
theorem d_set1 {v : Int} (h : Q .none (HD g ins a b G r0 r1 (v / 256 % 256) (v % 256) r4 r5 r6 r7 sp pc ii rf f1 f2 md pt m outs)) : fn__law_set [.obj 5, .int 1, .int v] (HD g ins a b G r0 r1 r2 r3 r4 r5 r6 r7 sp pc ii rf f1 f2 md pt m outs) Q := by
  rw [← fdiv_pos v (n := 256) (by decide), ← fmod_pos (v.fdiv 256) (n := 256) (by decide), ← fmod_pos v (n := 256) (by decide)] at h
  unfold fn__law_set
  walk_at "evc"
  exact h
theorem d_pair2 (hx : Byte r4) (hy : Byte r5) (h : Q (.int (r4 * 256 + r5)) (HD g ins a b G r0 r1 r2 r3 r4 r5 r6 r7 sp pc ii rf f1 f2 md pt m outs)) : fn__law_pair [.obj 5, .int 2] (HD g ins a b G r0 r1 r2 r3 r4 r5 r6 r7 sp pc ii rf f1 f2 md pt m outs) Q := by
  have h1 := hx.1
  have h2 := hx.2
  unfold fn__law_pair
  walk_at "evc"
  exact h
theorem d_set2 {v : Int} (h : Q .none (HD g ins a b G r0 r1 r2 r3 (v / 256 % 256) (v % 256) r6 r7 sp pc ii rf f1 f2 md pt m outs)) : fn__law_set [.obj 5, .int 2, .int v] (HD g ins a b G r0 r1 r2 r3 r4 r5 r6 r7 sp pc ii rf f1 f2 md pt m outs) Q := by
  rw [← fdiv_pos v (n := 256) (by decide), ← fmod_pos (v.fdiv 256) (n := 256) (by decide), ← fmod_pos v (n := 256) (by decide)] at h
  unfold fn__law_set
  walk_at "evc"
  exact h
theorem d_pair3  (h : Q (.int sp) (HD g ins a b G r0 r1 r2 r3 r4 r5 r6 r7 sp pc ii rf f1 f2 md pt m outs)) : fn__law_pair [.obj 5, .int 3] (HD g ins a b G r0 r1 r2 r3 r4 r5 r6 r7 sp pc ii rf f1 f2 md pt m outs) Q := by
  unfold fn__law_pair
  walk_at "evc"
  exact h
theorem d_set3 {v : Int} (h : Q .none (HD g ins a b G r0 r1 r2 r3 r4 r5 r6 r7 (v % 65536) pc ii rf f1 f2 md pt m outs)) : fn__law_set [.obj 5, .int 3, .int v] (HD g ins a b G r0 r1 r2 r3 r4 r5 r6 r7 sp pc ii rf f1 f2 md pt m outs) Q := by
  rw [← fmod_pos v (n := 65536) (by decide)] at h
  unfold fn__law_set
  walk_at "evc"
  exact h
theorem d_word {x : Int} (hm : m.length = 64) (hb : AllB m) (h : Q (.int (wd m x)) (HD g ins a b G r0 r1 r2 r3 r4 r5 r6 r7 sp pc ii rf f1 f2 md pt m outs)) : fn__law_word [.obj 5, .int x] (HD g ins a b G r0 r1 r2 r3 r4 r5 r6 r7 sp pc ii rf f1 f2 md pt m outs) Q := by
  obtain ⟨e1, e2, e3, e4⟩ := ix_m hm x
  obtain ⟨u1, u2, u3, u4⟩ := ix_m hm (x + 1)
  have b2 := mg_byte hm hb (x + 1)
  have h1 := b2.1
  have h2 := b2.2
  unfold fn__law_word
  walk_at "evc"
  rw [e1]; walk_at "evc"; walk_at "wh"; rw [e2]; walk_at "evc"; rw [e3]; walk_at "evc"
  rw [u1]; walk_at "evc"; walk_at "wh"; rw [u2]; walk_at "evc"; rw [u3]; walk_at "evc"
  exact h
theorem d_in  (h : Q (.int (ig [i0, i1, i2] pt)) (HD g [i0, i1, i2] a b G r0 r1 r2 r3 r4 r5 r6 r7 sp pc ii rf f1 f2 md (pt + 1) m outs)) : fn__law_in [.obj 5] (HD g [i0, i1, i2] a b G r0 r1 r2 r3 r4 r5 r6 r7 sp pc ii rf f1 f2 md pt m outs) Q := by
  obtain ⟨e1, e2, e3⟩ := ix_3 i0 i1 i2 (pt + 1 - 1)
  rw [show ig [i0, i1, i2] (pt + 1 - 1) = ig [i0, i1, i2] pt by rw [show pt + 1 - 1 = pt by lia]] at e3
  have n0 : ([i0, i1, i2] : List Int).length < 2 ^ 62 := by show 3 < 2 ^ 62; decide
  have n1 : (([i0, i1, i2] : List Int).length : Int) ≠ 0 := by show (3 : Int) ≠ 0; decide
  unfold fn__law_in
  walk_at "evc"
  rw [e1]; walk_at "evc"; walk_at "wh"; rw [e2]; walk_at "evc"; rw [e3]; walk_at "evc"
  exact h
theorem d_par {v : Int} (hv : Byte v) (hg : ∀ k, closedO 34 (g k)) (hd : OutsOK outs) (ha : OutsOK a.outs) (hb : OutsOK b.outs) (h : Q (.int (par v)) (HD g ins a b [] r0 r1 r2 r3 r4 r5 r6 r7 sp pc ii rf f1 f2 md pt m outs)) : truncF fn__law_parity [.int v] (HD g ins a b [] r0 r1 r2 r3 r4 r5 r6 r7 sp pc ii rf f1 f2 md pt m outs) Q := by
  exact d_par0 (d := ⟨r0, r1, r2, r3, r4, r5, r6, r7, sp, pc, ii, rf, f1, f2, md, pt, m, outs⟩) hv hg hd ha hb h
end
set_option maxHeartbeats 2000000
theorem sgn_b {x : Int} (hx : Word x) : -32768 ≤ sgn x ∧ sgn x ≤ 32767 := by
  have := hx.1; have := hx.2; unfold sgn; split <;> lia
theorem sum_v (t : Bool) (x y f : Int) : (x + cond t 1 (-1) * (y + f.fmod 2)).fmod 65536 = (match t with | true => (x + y + f % 2) % 65536 | false => (x - y - f % 2) % 65536) := by
  rw [fmod_pos _ (by decide), fmod_pos f (by decide)]
  cases t
  · show (x + -1 * _) % _ = _; congr 1; lia
  · show (x + 1 * _) % _ = _; congr 1; lia
theorem sum_f (t : Bool) (x y f : Int) {b1 b2 : Bool}
    (h1 : b1 = (decide (0 ≤ x.fmod 4096 + cond t 1 (-1) * (y.fmod 4096 + f.fmod 2)) && decide (x.fmod 4096 + cond t 1 (-1) * (y.fmod 4096 + f.fmod 2) < 4096)))
    (h2 : b2 = (decide (0 - 32768 ≤ sgn x + cond t 1 (-1) * (sgn y + f.fmod 2)) && decide (sgn x + cond t 1 (-1) * (sgn y + f.fmod 2) < 32768))) :
    ((x + cond t 1 (-1) * (y + f.fmod 2)).fmod 65536).fdiv 32768 * 128 + cond ((x + cond t 1 (-1) * (y + f.fmod 2)).fmod 65536 == 0) 64 0
      + Builtin.bitAnd (((x + cond t 1 (-1) * (y + f.fmod 2)).fmod 65536).fdiv 256) 40 + cond t 0 2 + cond (!b1) 16 0 + cond (!b2) 4 0
      + cond (x + cond t 1 (-1) * (y + f.fmod 2) != (x + cond t 1 (-1) * (y + f.fmod 2)).fmod 65536) 1 0 = addF x y (f % 2) (cond t 1 (-1)) := by
  have c1 : ∀ p q : Prop, ∀ (_ : Decidable p) (_ : Decidable q) (k : Int), cond (!(decide p && decide q)) k 0 = if p ∧ q then 0 else k := by
    intro p q _ _ k
    by_cases e1 : p <;> by_cases e2 : q <;> simp [e1, e2]
  have c2 : ∀ u v : Int, (cond (u != v) 1 0 : Int) = if u = v then 0 else 1 := by
    intro u v
    by_cases e : u = v
    · subst e; simp
    · rw [if_neg e, show (u != v) = true by simp [e]]; rfl
  subst h1 h2
  rw [c1, c1, c2, zbit, fmod_pos f (by decide), fmod_pos x (by decide), fmod_pos y (by decide), fmod_pos (x + _) (by decide), fdiv_pos _ (by decide), fdiv_pos _ (by decide)]
  unfold addF
  cases t <;> rfl
theorem move_raw (a o left f : Int) : Builtin.bitAnd f 193 + ((a + o).fdiv 2).fmod 2 * 32 + ((a + o).fdiv 8).fmod 2 * 8 + cond (decide (0 < left)) 4 0 = moveF a o left f := by
  rw [fdiv_pos _ (by decide), fdiv_pos _ (by decide), fmod_pos _ (by decide), fmod_pos _ (by decide), condB]; rfl
theorem seek_raw (a o left f : Int) : Builtin.bitAnd ((a - o).fmod 256) 128 + cond ((a - o).fmod 256 == 0) 64 0 + cond (decide (a.fmod 16 < o.fmod 16)) 16 0 + 2 + f.fmod 2
    + (((a - o).fmod 256 - (cond (decide (a.fmod 16 < o.fmod 16)) 16 0 : Int).fdiv 16).fdiv 2).fmod 2 * 32 + (((a - o).fmod 256 - (cond (decide (a.fmod 16 < o.fmod 16)) 16 0 : Int).fdiv 16).fdiv 8).fmod 2 * 8 + cond (decide (0 < left)) 4 0 = seekF a o left f := by
  rw [fmod_pos (a - o) (by decide), fmod_pos a (by decide), fmod_pos o (by decide), fmod_pos f (by decide), condB, condB, zbit, fdiv_pos _ (by decide), fdiv_pos _ (by decide), fdiv_pos _ (by decide), fmod_pos _ (by decide), fmod_pos _ (by decide)]; rfl
theorem port_raw (o w left : Int) : told left + cond (decide (255 < o + w)) 17 0 + par (Builtin.bitXor ((o + w).fmod 8) left) + o.fdiv 128 * 2 = portF o w left := by
  rw [fmod_pos _ (by decide), condB, fdiv_pos _ (by decide)]; rfl
noncomputable def negRaw (a : Int) : Int := told ((0 - a).fmod 256) + 2 + cond (decide (0 < a.fmod 16)) 16 0 + cond (a == 128) 4 0 + cond (decide (0 < a)) 1 0
theorem neg_raw {a : Int} (ha : Byte a) : negRaw a = negF a := byte_all (P := fun a => negRaw a = negF a) (by decide +kernel) ha
theorem beq_f {x : Int} (h : ¬ x = 0) : (x == 0) = false := by simp [h]
theorem beq_t {x : Int} (h : x = 0) : (x == 0) = true := by simp [h]
section
variable {g : Nat → O} {i0 i1 i2 : Int} {ins : List Int} {d a b : St} {G : List O} {Q : V → List O → Prop}
variable {r0 r1 r2 r3 r4 r5 r6 r7 sp pc ii rf f1 f2 md pt : Int} {m : List Int} {outs : List V}
theorem finD {v : V} {x4 x5 x6 : Int} (h : Q v (HD g ins a b G r0 r1 r2 r3 x4 x5 x6 r7 sp pc ii rf f1 f2 md pt m outs)) (e4 : r4 = x4) (e5 : r5 = x5) (e6 : r6 = x6) : Q v (HD g ins a b G r0 r1 r2 r3 r4 r5 r6 r7 sp pc ii rf f1 f2 md pt m outs) := by
  subst e4 e5 e6; exact h
theorem d_sumG0 {k vy : Int} (hw : Word vy) (hp : ∀ {Q : V → List O → Prop}, Q (.int vy) (HD g [i0, i1, i2] a b [] r0 r1 r2 r3 r4 r5 r6 r7 sp pc ii rf f1 f2 md pt m outs) → fn__law_pair [.obj 5, .int k] (HD g [i0, i1, i2] a b [] r0 r1 r2 r3 r4 r5 r6 r7 sp pc ii rf f1 f2 md pt m outs) Q) (W : Wf ⟨r0, r1, r2, r3, r4, r5, r6, r7, sp, pc, ii, rf, f1, f2, md, pt, m, outs⟩) (h : Q .none (HD g [i0, i1, i2] a b [] r0 r1 r2 r3 ((((r4 * 256 + r5) - vy - r6 % 2) % 65536) / 256 % 256) ((((r4 * 256 + r5) - vy - r6 % 2) % 65536) % 256) (addF (r4 * 256 + r5) vy (r6 % 2) (cond false 1 (-1))) r7 sp pc ii rf f1 f2 md pt m outs)) : fn__law_sum [.obj 5, .int k, .bool false] (HD g [i0, i1, i2] a b [] r0 r1 r2 r3 r4 r5 r6 r7 sp pc ii rf f1 f2 md pt m outs) Q := by
  refine wfK W fun b0 b1 b2 b3 b4 b5 b6 b7 ml mb => ?_
  have wx : Word (r4 * 256 + r5) := word_hi b4 b5
  have wy : Word vy := hw
  have x1 := wx.1
  have x2 := wx.2
  have y1 := wy.1
  have y2 := wy.2
  have s1 := sgn_b wx
  have s2 := sgn_b wy
  have fm := fmod_pos r6 (n := 2) (by decide)
  have fo := fmod_pos vy (n := 4096) (by decide)
  have fw := fmod_pos ((r4 * 256 + r5) + cond false 1 (-1) * (vy + r6.fmod 2)) (n := 65536) (by decide)
  have fd := fdiv_pos (((r4 * 256 + r5) + cond false 1 (-1) * (vy + r6.fmod 2)).fmod 65536) (n := 32768) (by decide)
  have ev : ((r4 * 256 + r5) + cond false 1 (-1) * (vy + r6.fmod 2)).fmod 65536 = (((r4 * 256 + r5) - vy - r6 % 2) % 65536) := sum_v false (r4 * 256 + r5) vy r6
  unfold fn__law_sum
  walk_at "ev"
  refine d_pair2 b4 b5 ?_
  walk_at "ev"
  refine hp ?_
  walk_at "ev"
  refine d_signed ?_
  walk_at "ev"
  refine d_signed ?_
  walk_at "ev"
  refine cond_s (fun q1 => ?_) (fun q1 => ?_)
  all_goals
    walk_at "ev"
    refine cond_s (fun q2 => ?_) (fun q2 => ?_)
    all_goals
      walk_at "ev"
      refine d_set2 ?_
      walk_at "ev"
      refine finD h ?_ ?_ ?_
      · rw [ev]
      · rw [ev]
      · refine sum_f false (r4 * 256 + r5) vy r6 ?_ ?_
        · rw [q1]; rfl
        · rw [q2]; rfl
theorem d_sum00 (W : Wf ⟨r0, r1, r2, r3, r4, r5, r6, r7, sp, pc, ii, rf, f1, f2, md, pt, m, outs⟩) (h : Q .none (HD g [i0, i1, i2] a b [] r0 r1 r2 r3 ((((r4 * 256 + r5) - (r0 * 256 + r1) - r6 % 2) % 65536) / 256 % 256) ((((r4 * 256 + r5) - (r0 * 256 + r1) - r6 % 2) % 65536) % 256) (addF (r4 * 256 + r5) (r0 * 256 + r1) (r6 % 2) (cond false 1 (-1))) r7 sp pc ii rf f1 f2 md pt m outs)) : fn__law_sum [.obj 5, .int 0, .bool false] (HD g [i0, i1, i2] a b [] r0 r1 r2 r3 r4 r5 r6 r7 sp pc ii rf f1 f2 md pt m outs) Q := d_sumG0 (word_hi W.b0 W.b1) (fun h => d_pair0 W.b0 W.b1 h) W h
theorem d_sumG1 {k vy : Int} (hw : Word vy) (hp : ∀ {Q : V → List O → Prop}, Q (.int vy) (HD g [i0, i1, i2] a b [] r0 r1 r2 r3 r4 r5 r6 r7 sp pc ii rf f1 f2 md pt m outs) → fn__law_pair [.obj 5, .int k] (HD g [i0, i1, i2] a b [] r0 r1 r2 r3 r4 r5 r6 r7 sp pc ii rf f1 f2 md pt m outs) Q) (W : Wf ⟨r0, r1, r2, r3, r4, r5, r6, r7, sp, pc, ii, rf, f1, f2, md, pt, m, outs⟩) (h : Q .none (HD g [i0, i1, i2] a b [] r0 r1 r2 r3 ((((r4 * 256 + r5) + vy + r6 % 2) % 65536) / 256 % 256) ((((r4 * 256 + r5) + vy + r6 % 2) % 65536) % 256) (addF (r4 * 256 + r5) vy (r6 % 2) (cond true 1 (-1))) r7 sp pc ii rf f1 f2 md pt m outs)) : fn__law_sum [.obj 5, .int k, .bool true] (HD g [i0, i1, i2] a b [] r0 r1 r2 r3 r4 r5 r6 r7 sp pc ii rf f1 f2 md pt m outs) Q := by
  refine wfK W fun b0 b1 b2 b3 b4 b5 b6 b7 ml mb => ?_
  have wx : Word (r4 * 256 + r5) := word_hi b4 b5
  have wy : Word vy := hw
  have x1 := wx.1
  have x2 := wx.2
  have y1 := wy.1
  have y2 := wy.2
  have s1 := sgn_b wx
  have s2 := sgn_b wy
  have fm := fmod_pos r6 (n := 2) (by decide)
  have fo := fmod_pos vy (n := 4096) (by decide)
  have fw := fmod_pos ((r4 * 256 + r5) + cond true 1 (-1) * (vy + r6.fmod 2)) (n := 65536) (by decide)
  have fd := fdiv_pos (((r4 * 256 + r5) + cond true 1 (-1) * (vy + r6.fmod 2)).fmod 65536) (n := 32768) (by decide)
  have ev : ((r4 * 256 + r5) + cond true 1 (-1) * (vy + r6.fmod 2)).fmod 65536 = (((r4 * 256 + r5) + vy + r6 % 2) % 65536) := sum_v true (r4 * 256 + r5) vy r6
  unfold fn__law_sum
  walk_at "ev"
  refine d_pair2 b4 b5 ?_
  walk_at "ev"
  refine hp ?_
  walk_at "ev"
  refine d_signed ?_
  walk_at "ev"
  refine d_signed ?_
  walk_at "ev"
  refine cond_s (fun q1 => ?_) (fun q1 => ?_)
  all_goals
    walk_at "ev"
    refine cond_s (fun q2 => ?_) (fun q2 => ?_)
    all_goals
      walk_at "ev"
      refine d_set2 ?_
      walk_at "ev"
      refine finD h ?_ ?_ ?_
      · rw [ev]
      · rw [ev]
      · refine sum_f true (r4 * 256 + r5) vy r6 ?_ ?_
        · rw [q1]; rfl
        · rw [q2]; rfl
theorem d_sum01 (W : Wf ⟨r0, r1, r2, r3, r4, r5, r6, r7, sp, pc, ii, rf, f1, f2, md, pt, m, outs⟩) (h : Q .none (HD g [i0, i1, i2] a b [] r0 r1 r2 r3 ((((r4 * 256 + r5) + (r0 * 256 + r1) + r6 % 2) % 65536) / 256 % 256) ((((r4 * 256 + r5) + (r0 * 256 + r1) + r6 % 2) % 65536) % 256) (addF (r4 * 256 + r5) (r0 * 256 + r1) (r6 % 2) (cond true 1 (-1))) r7 sp pc ii rf f1 f2 md pt m outs)) : fn__law_sum [.obj 5, .int 0, .bool true] (HD g [i0, i1, i2] a b [] r0 r1 r2 r3 r4 r5 r6 r7 sp pc ii rf f1 f2 md pt m outs) Q := d_sumG1 (word_hi W.b0 W.b1) (fun h => d_pair0 W.b0 W.b1 h) W h
theorem d_sum10 (W : Wf ⟨r0, r1, r2, r3, r4, r5, r6, r7, sp, pc, ii, rf, f1, f2, md, pt, m, outs⟩) (h : Q .none (HD g [i0, i1, i2] a b [] r0 r1 r2 r3 ((((r4 * 256 + r5) - (r2 * 256 + r3) - r6 % 2) % 65536) / 256 % 256) ((((r4 * 256 + r5) - (r2 * 256 + r3) - r6 % 2) % 65536) % 256) (addF (r4 * 256 + r5) (r2 * 256 + r3) (r6 % 2) (cond false 1 (-1))) r7 sp pc ii rf f1 f2 md pt m outs)) : fn__law_sum [.obj 5, .int 1, .bool false] (HD g [i0, i1, i2] a b [] r0 r1 r2 r3 r4 r5 r6 r7 sp pc ii rf f1 f2 md pt m outs) Q := d_sumG0 (word_hi W.b2 W.b3) (fun h => d_pair1 W.b2 W.b3 h) W h
theorem d_sum11 (W : Wf ⟨r0, r1, r2, r3, r4, r5, r6, r7, sp, pc, ii, rf, f1, f2, md, pt, m, outs⟩) (h : Q .none (HD g [i0, i1, i2] a b [] r0 r1 r2 r3 ((((r4 * 256 + r5) + (r2 * 256 + r3) + r6 % 2) % 65536) / 256 % 256) ((((r4 * 256 + r5) + (r2 * 256 + r3) + r6 % 2) % 65536) % 256) (addF (r4 * 256 + r5) (r2 * 256 + r3) (r6 % 2) (cond true 1 (-1))) r7 sp pc ii rf f1 f2 md pt m outs)) : fn__law_sum [.obj 5, .int 1, .bool true] (HD g [i0, i1, i2] a b [] r0 r1 r2 r3 r4 r5 r6 r7 sp pc ii rf f1 f2 md pt m outs) Q := d_sumG1 (word_hi W.b2 W.b3) (fun h => d_pair1 W.b2 W.b3 h) W h
theorem d_sum20 (W : Wf ⟨r0, r1, r2, r3, r4, r5, r6, r7, sp, pc, ii, rf, f1, f2, md, pt, m, outs⟩) (h : Q .none (HD g [i0, i1, i2] a b [] r0 r1 r2 r3 ((((r4 * 256 + r5) - (r4 * 256 + r5) - r6 % 2) % 65536) / 256 % 256) ((((r4 * 256 + r5) - (r4 * 256 + r5) - r6 % 2) % 65536) % 256) (addF (r4 * 256 + r5) (r4 * 256 + r5) (r6 % 2) (cond false 1 (-1))) r7 sp pc ii rf f1 f2 md pt m outs)) : fn__law_sum [.obj 5, .int 2, .bool false] (HD g [i0, i1, i2] a b [] r0 r1 r2 r3 r4 r5 r6 r7 sp pc ii rf f1 f2 md pt m outs) Q := d_sumG0 (word_hi W.b4 W.b5) (fun h => d_pair2 W.b4 W.b5 h) W h
theorem d_sum21 (W : Wf ⟨r0, r1, r2, r3, r4, r5, r6, r7, sp, pc, ii, rf, f1, f2, md, pt, m, outs⟩) (h : Q .none (HD g [i0, i1, i2] a b [] r0 r1 r2 r3 ((((r4 * 256 + r5) + (r4 * 256 + r5) + r6 % 2) % 65536) / 256 % 256) ((((r4 * 256 + r5) + (r4 * 256 + r5) + r6 % 2) % 65536) % 256) (addF (r4 * 256 + r5) (r4 * 256 + r5) (r6 % 2) (cond true 1 (-1))) r7 sp pc ii rf f1 f2 md pt m outs)) : fn__law_sum [.obj 5, .int 2, .bool true] (HD g [i0, i1, i2] a b [] r0 r1 r2 r3 r4 r5 r6 r7 sp pc ii rf f1 f2 md pt m outs) Q := d_sumG1 (word_hi W.b4 W.b5) (fun h => d_pair2 W.b4 W.b5 h) W h
theorem d_sum30 (W : Wf ⟨r0, r1, r2, r3, r4, r5, r6, r7, sp, pc, ii, rf, f1, f2, md, pt, m, outs⟩) (h : Q .none (HD g [i0, i1, i2] a b [] r0 r1 r2 r3 ((((r4 * 256 + r5) - sp - r6 % 2) % 65536) / 256 % 256) ((((r4 * 256 + r5) - sp - r6 % 2) % 65536) % 256) (addF (r4 * 256 + r5) sp (r6 % 2) (cond false 1 (-1))) r7 sp pc ii rf f1 f2 md pt m outs)) : fn__law_sum [.obj 5, .int 3, .bool false] (HD g [i0, i1, i2] a b [] r0 r1 r2 r3 r4 r5 r6 r7 sp pc ii rf f1 f2 md pt m outs) Q := d_sumG0 W.wsp (fun h => d_pair3 h) W h
theorem d_sum31 (W : Wf ⟨r0, r1, r2, r3, r4, r5, r6, r7, sp, pc, ii, rf, f1, f2, md, pt, m, outs⟩) (h : Q .none (HD g [i0, i1, i2] a b [] r0 r1 r2 r3 ((((r4 * 256 + r5) + sp + r6 % 2) % 65536) / 256 % 256) ((((r4 * 256 + r5) + sp + r6 % 2) % 65536) % 256) (addF (r4 * 256 + r5) sp (r6 % 2) (cond true 1 (-1))) r7 sp pc ii rf f1 f2 md pt m outs)) : fn__law_sum [.obj 5, .int 3, .bool true] (HD g [i0, i1, i2] a b [] r0 r1 r2 r3 r4 r5 r6 r7 sp pc ii rf f1 f2 md pt m outs) Q := d_sumG1 W.wsp (fun h => d_pair3 h) W h
theorem d_blk04 (W : Wf ⟨r0, r1, r2, r3, r4, r5, r6, r7, sp, pc, ii, rf, f1, f2, md, pt, m, outs⟩) (h0 : Byte i0) (h1 : Byte i1) (h2 : Byte i2) (ho : outs.length ≤ 1000) (hg : ∀ k, closedO 34 (g k)) (hd : OutsOK outs) (ha : OutsOK a.outs) (hb : OutsOK b.outs) (h : Q (.int (blkS 4 (blk [i0, i1, i2] 4 0 ⟨r0, r1, r2, r3, r4, r5, r6, r7, sp, pc, ii, rf, f1, f2, md, pt, m, outs⟩)).2) (HH g [i0, i1, i2] (blkS 4 (blk [i0, i1, i2] 4 0 ⟨r0, r1, r2, r3, r4, r5, r6, r7, sp, pc, ii, rf, f1, f2, md, pt, m, outs⟩)).1 a b [])) : fn__law_block [.obj 5, .int 4, .int 0] (HD g [i0, i1, i2] a b [] r0 r1 r2 r3 r4 r5 r6 r7 sp pc ii rf f1 f2 md pt m outs) Q := by
  refine wfK W fun b0 b1 b2 b3 b4 b5 b6 b7 ml mb => ?_
  obtain ⟨e1, e2, e3, e4⟩ := ix_m ml (r4 * 256 + r5)
  have bm := mg_byte ml mb (r4 * 256 + r5)
  have m1 := bm.1
  have m2 := bm.2
  have c1 := b7.1
  have c2 := b7.2
  have bi := ig_byte h0 h1 h2 pt
  have n1 := bi.1
  have n2 := bi.2
  obtain ⟨u1, u2, u3, u4⟩ := ix_m ml (r2 * 256 + r3)
  have t1 := fmod_pos ((r7 + (mg m (r4 * 256 + r5))).fdiv 2) (n := 2) (by decide)
  have t2 := fmod_pos ((r7 + (mg m (r4 * 256 + r5))).fdiv 8) (n := 2) (by decide)
  have h' : Q (.int 16) (HD g [i0, i1, i2] a b [] ((r0 * 256 + r1 - 1) / 256 % 256) ((r0 * 256 + r1 - 1) % 256) ((r2 * 256 + r3 + 1) / 256 % 256) ((r2 * 256 + r3 + 1) % 256) ((r4 * 256 + r5 + 1) / 256 % 256) ((r4 * 256 + r5 + 1) % 256) (moveF r7 (mg m (r4 * 256 + r5)) ((r0 * 256 + r1 - 1) / 256 % 256 * 256 + (r0 * 256 + r1 - 1) % 256) r6) r7 sp pc ii rf f1 f2 md pt (ms m (r2 * 256 + r3) (mg m (r4 * 256 + r5))) outs) := h
  rw [← move_raw] at h'
  unfold fn__law_block
  walk_at "ev"
  refine d_pair2 b4 b5 ?_
  walk_at "ev"
  rw [e1]; walk_at "ev"; walk_at "wh"; rw [e2]; walk_at "ev"; rw [e3]; walk_at "ev"
  refine d_set2 ?_
  walk_at "ev"
  refine d_pair0 b0 b1 ?_
  walk_at "ev"
  refine d_set0 ?_
  walk_at "ev"
  refine d_pair0 (byte_hi _) (byte_lo _) ?_
  walk_at "ev"
  refine d_pair1 b2 b3 ?_
  walk_at "ev"
  rw [u1]; walk_at "ev"; walk_at "wh"; rw [u2]; walk_at "ev"; rw [u4]; walk_at "ev"
  refine d_pair1 b2 b3 ?_
  walk_at "ev"
  refine d_set1 ?_
  walk_at "ev"
  exact h'
theorem d_blk05 (W : Wf ⟨r0, r1, r2, r3, r4, r5, r6, r7, sp, pc, ii, rf, f1, f2, md, pt, m, outs⟩) (h0 : Byte i0) (h1 : Byte i1) (h2 : Byte i2) (ho : outs.length ≤ 1000) (hg : ∀ k, closedO 34 (g k)) (hd : OutsOK outs) (ha : OutsOK a.outs) (hb : OutsOK b.outs) (h : Q (.int (blkS 5 (blk [i0, i1, i2] 5 0 ⟨r0, r1, r2, r3, r4, r5, r6, r7, sp, pc, ii, rf, f1, f2, md, pt, m, outs⟩)).2) (HH g [i0, i1, i2] (blkS 5 (blk [i0, i1, i2] 5 0 ⟨r0, r1, r2, r3, r4, r5, r6, r7, sp, pc, ii, rf, f1, f2, md, pt, m, outs⟩)).1 a b [])) : fn__law_block [.obj 5, .int 5, .int 0] (HD g [i0, i1, i2] a b [] r0 r1 r2 r3 r4 r5 r6 r7 sp pc ii rf f1 f2 md pt m outs) Q := by
  refine wfK W fun b0 b1 b2 b3 b4 b5 b6 b7 ml mb => ?_
  obtain ⟨e1, e2, e3, e4⟩ := ix_m ml (r4 * 256 + r5)
  have bm := mg_byte ml mb (r4 * 256 + r5)
  have m1 := bm.1
  have m2 := bm.2
  have c1 := b7.1
  have c2 := b7.2
  have bi := ig_byte h0 h1 h2 pt
  have n1 := bi.1
  have n2 := bi.2
  obtain ⟨u1, u2, u3, u4⟩ := ix_m ml (r2 * 256 + r3)
  have t1 := fmod_pos ((r7 + (mg m (r4 * 256 + r5))).fdiv 2) (n := 2) (by decide)
  have t2 := fmod_pos ((r7 + (mg m (r4 * 256 + r5))).fdiv 8) (n := 2) (by decide)
  have h' : Q (.int 16) (HD g [i0, i1, i2] a b [] ((r0 * 256 + r1 - 1) / 256 % 256) ((r0 * 256 + r1 - 1) % 256) ((r2 * 256 + r3 + -1) / 256 % 256) ((r2 * 256 + r3 + -1) % 256) ((r4 * 256 + r5 + -1) / 256 % 256) ((r4 * 256 + r5 + -1) % 256) (moveF r7 (mg m (r4 * 256 + r5)) ((r0 * 256 + r1 - 1) / 256 % 256 * 256 + (r0 * 256 + r1 - 1) % 256) r6) r7 sp pc ii rf f1 f2 md pt (ms m (r2 * 256 + r3) (mg m (r4 * 256 + r5))) outs) := h
  rw [← move_raw] at h'
  unfold fn__law_block
  walk_at "ev"
  refine d_pair2 b4 b5 ?_
  walk_at "ev"
  rw [e1]; walk_at "ev"; walk_at "wh"; rw [e2]; walk_at "ev"; rw [e3]; walk_at "ev"
  refine d_set2 ?_
  walk_at "ev"
  refine d_pair0 b0 b1 ?_
  walk_at "ev"
  refine d_set0 ?_
  walk_at "ev"
  refine d_pair0 (byte_hi _) (byte_lo _) ?_
  walk_at "ev"
  refine d_pair1 b2 b3 ?_
  walk_at "ev"
  rw [u1]; walk_at "ev"; walk_at "wh"; rw [u2]; walk_at "ev"; rw [u4]; walk_at "ev"
  refine d_pair1 b2 b3 ?_
  walk_at "ev"
  refine d_set1 ?_
  walk_at "ev"
  exact h'
theorem d_blk06 (W : Wf ⟨r0, r1, r2, r3, r4, r5, r6, r7, sp, pc, ii, rf, f1, f2, md, pt, m, outs⟩) (h0 : Byte i0) (h1 : Byte i1) (h2 : Byte i2) (ho : outs.length ≤ 1000) (hg : ∀ k, closedO 34 (g k)) (hd : OutsOK outs) (ha : OutsOK a.outs) (hb : OutsOK b.outs) (h : Q (.int (blkS 6 (blk [i0, i1, i2] 6 0 ⟨r0, r1, r2, r3, r4, r5, r6, r7, sp, pc, ii, rf, f1, f2, md, pt, m, outs⟩)).2) (HH g [i0, i1, i2] (blkS 6 (blk [i0, i1, i2] 6 0 ⟨r0, r1, r2, r3, r4, r5, r6, r7, sp, pc, ii, rf, f1, f2, md, pt, m, outs⟩)).1 a b [])) : fn__law_block [.obj 5, .int 6, .int 0] (HD g [i0, i1, i2] a b [] r0 r1 r2 r3 r4 r5 r6 r7 sp pc ii rf f1 f2 md pt m outs) Q := by
  refine wfK W fun b0 b1 b2 b3 b4 b5 b6 b7 ml mb => ?_
  obtain ⟨e1, e2, e3, e4⟩ := ix_m ml (r4 * 256 + r5)
  have bm := mg_byte ml mb (r4 * 256 + r5)
  have m1 := bm.1
  have m2 := bm.2
  have c1 := b7.1
  have c2 := b7.2
  have bi := ig_byte h0 h1 h2 pt
  have n1 := bi.1
  have n2 := bi.2
  obtain ⟨u1, u2, u3, u4⟩ := ix_m ml (r2 * 256 + r3)
  have t1 := fmod_pos ((r7 + (mg m (r4 * 256 + r5))).fdiv 2) (n := 2) (by decide)
  have t2 := fmod_pos ((r7 + (mg m (r4 * 256 + r5))).fdiv 8) (n := 2) (by decide)
  unfold fn__law_block
  walk_at "ev"
  refine d_pair2 b4 b5 ?_
  walk_at "ev"
  rw [e1]; walk_at "ev"; walk_at "wh"; rw [e2]; walk_at "ev"; rw [e3]; walk_at "ev"
  refine d_set2 ?_
  walk_at "ev"
  refine d_pair0 b0 b1 ?_
  walk_at "ev"
  refine d_set0 ?_
  walk_at "ev"
  refine d_pair0 (byte_hi _) (byte_lo _) ?_
  walk_at "ev"
  refine d_pair1 b2 b3 ?_
  walk_at "ev"
  rw [u1]; walk_at "ev"; walk_at "wh"; rw [u2]; walk_at "ev"; rw [u4]; walk_at "ev"
  refine d_pair1 b2 b3 ?_
  walk_at "ev"
  refine d_set1 ?_
  walk_at "ev"
  by_cases q : ((r0 * 256 + r1 - 1) / 256 % 256 * 256 + (r0 * 256 + r1 - 1) % 256) = 0
  · have e : (blk [i0, i1, i2] 6 0 ⟨r0, r1, r2, r3, r4, r5, r6, r7, sp, pc, ii, rf, f1, f2, md, pt, m, outs⟩).2 = false := by show (decide (((r0 * 256 + r1 - 1) / 256 % 256 * 256 + (r0 * 256 + r1 - 1) % 256) ≠ 0)) = false; rw [q]; rfl
    rw [blkS6f e] at h
    have h' : Q (.int 16) (HD g [i0, i1, i2] a b [] ((r0 * 256 + r1 - 1) / 256 % 256) ((r0 * 256 + r1 - 1) % 256) ((r2 * 256 + r3 + 1) / 256 % 256) ((r2 * 256 + r3 + 1) % 256) ((r4 * 256 + r5 + 1) / 256 % 256) ((r4 * 256 + r5 + 1) % 256) (moveF r7 (mg m (r4 * 256 + r5)) ((r0 * 256 + r1 - 1) / 256 % 256 * 256 + (r0 * 256 + r1 - 1) % 256) r6) r7 sp pc ii rf f1 f2 md pt (ms m (r2 * 256 + r3) (mg m (r4 * 256 + r5))) outs) := h
    rw [← move_raw] at h'
    walk_at "wh"; rw [beq_t q]; walk_at "ev"
    exact h'
  · have e : (blk [i0, i1, i2] 6 0 ⟨r0, r1, r2, r3, r4, r5, r6, r7, sp, pc, ii, rf, f1, f2, md, pt, m, outs⟩).2 = true := by show decide (((r0 * 256 + r1 - 1) / 256 % 256 * 256 + (r0 * 256 + r1 - 1) % 256) ≠ 0) = true; exact decide_eq_true q
    rw [blkS6t e] at h
    have h' : Q (.int 21) (HD g [i0, i1, i2] a b [] ((r0 * 256 + r1 - 1) / 256 % 256) ((r0 * 256 + r1 - 1) % 256) ((r2 * 256 + r3 + 1) / 256 % 256) ((r2 * 256 + r3 + 1) % 256) ((r4 * 256 + r5 + 1) / 256 % 256) ((r4 * 256 + r5 + 1) % 256) (moveF r7 (mg m (r4 * 256 + r5)) ((r0 * 256 + r1 - 1) / 256 % 256 * 256 + (r0 * 256 + r1 - 1) % 256) r6) r7 sp ((pc - 2) % 65536) ii rf f1 f2 md pt (ms m (r2 * 256 + r3) (mg m (r4 * 256 + r5))) outs) := h
    rw [← move_raw] at h'
    walk_at "wh"; rw [beq_f q]; walk_at "ev"
    rw [← fmod_pos (pc - 2) (n := 65536) (by decide)] at h'
    exact h'
theorem d_blk07 (W : Wf ⟨r0, r1, r2, r3, r4, r5, r6, r7, sp, pc, ii, rf, f1, f2, md, pt, m, outs⟩) (h0 : Byte i0) (h1 : Byte i1) (h2 : Byte i2) (ho : outs.length ≤ 1000) (hg : ∀ k, closedO 34 (g k)) (hd : OutsOK outs) (ha : OutsOK a.outs) (hb : OutsOK b.outs) (h : Q (.int (blkS 7 (blk [i0, i1, i2] 7 0 ⟨r0, r1, r2, r3, r4, r5, r6, r7, sp, pc, ii, rf, f1, f2, md, pt, m, outs⟩)).2) (HH g [i0, i1, i2] (blkS 7 (blk [i0, i1, i2] 7 0 ⟨r0, r1, r2, r3, r4, r5, r6, r7, sp, pc, ii, rf, f1, f2, md, pt, m, outs⟩)).1 a b [])) : fn__law_block [.obj 5, .int 7, .int 0] (HD g [i0, i1, i2] a b [] r0 r1 r2 r3 r4 r5 r6 r7 sp pc ii rf f1 f2 md pt m outs) Q := by
  refine wfK W fun b0 b1 b2 b3 b4 b5 b6 b7 ml mb => ?_
  obtain ⟨e1, e2, e3, e4⟩ := ix_m ml (r4 * 256 + r5)
  have bm := mg_byte ml mb (r4 * 256 + r5)
  have m1 := bm.1
  have m2 := bm.2
  have c1 := b7.1
  have c2 := b7.2
  have bi := ig_byte h0 h1 h2 pt
  have n1 := bi.1
  have n2 := bi.2
  obtain ⟨u1, u2, u3, u4⟩ := ix_m ml (r2 * 256 + r3)
  have t1 := fmod_pos ((r7 + (mg m (r4 * 256 + r5))).fdiv 2) (n := 2) (by decide)
  have t2 := fmod_pos ((r7 + (mg m (r4 * 256 + r5))).fdiv 8) (n := 2) (by decide)
  unfold fn__law_block
  walk_at "ev"
  refine d_pair2 b4 b5 ?_
  walk_at "ev"
  rw [e1]; walk_at "ev"; walk_at "wh"; rw [e2]; walk_at "ev"; rw [e3]; walk_at "ev"
  refine d_set2 ?_
  walk_at "ev"
  refine d_pair0 b0 b1 ?_
  walk_at "ev"
  refine d_set0 ?_
  walk_at "ev"
  refine d_pair0 (byte_hi _) (byte_lo _) ?_
  walk_at "ev"
  refine d_pair1 b2 b3 ?_
  walk_at "ev"
  rw [u1]; walk_at "ev"; walk_at "wh"; rw [u2]; walk_at "ev"; rw [u4]; walk_at "ev"
  refine d_pair1 b2 b3 ?_
  walk_at "ev"
  refine d_set1 ?_
  walk_at "ev"
  by_cases q : ((r0 * 256 + r1 - 1) / 256 % 256 * 256 + (r0 * 256 + r1 - 1) % 256) = 0
  · have e : (blk [i0, i1, i2] 7 0 ⟨r0, r1, r2, r3, r4, r5, r6, r7, sp, pc, ii, rf, f1, f2, md, pt, m, outs⟩).2 = false := by show (decide (((r0 * 256 + r1 - 1) / 256 % 256 * 256 + (r0 * 256 + r1 - 1) % 256) ≠ 0)) = false; rw [q]; rfl
    rw [blkS7f e] at h
    have h' : Q (.int 16) (HD g [i0, i1, i2] a b [] ((r0 * 256 + r1 - 1) / 256 % 256) ((r0 * 256 + r1 - 1) % 256) ((r2 * 256 + r3 + -1) / 256 % 256) ((r2 * 256 + r3 + -1) % 256) ((r4 * 256 + r5 + -1) / 256 % 256) ((r4 * 256 + r5 + -1) % 256) (moveF r7 (mg m (r4 * 256 + r5)) ((r0 * 256 + r1 - 1) / 256 % 256 * 256 + (r0 * 256 + r1 - 1) % 256) r6) r7 sp pc ii rf f1 f2 md pt (ms m (r2 * 256 + r3) (mg m (r4 * 256 + r5))) outs) := h
    rw [← move_raw] at h'
    walk_at "wh"; rw [beq_t q]; walk_at "ev"
    exact h'
  · have e : (blk [i0, i1, i2] 7 0 ⟨r0, r1, r2, r3, r4, r5, r6, r7, sp, pc, ii, rf, f1, f2, md, pt, m, outs⟩).2 = true := by show decide (((r0 * 256 + r1 - 1) / 256 % 256 * 256 + (r0 * 256 + r1 - 1) % 256) ≠ 0) = true; exact decide_eq_true q
    rw [blkS7t e] at h
    have h' : Q (.int 21) (HD g [i0, i1, i2] a b [] ((r0 * 256 + r1 - 1) / 256 % 256) ((r0 * 256 + r1 - 1) % 256) ((r2 * 256 + r3 + -1) / 256 % 256) ((r2 * 256 + r3 + -1) % 256) ((r4 * 256 + r5 + -1) / 256 % 256) ((r4 * 256 + r5 + -1) % 256) (moveF r7 (mg m (r4 * 256 + r5)) ((r0 * 256 + r1 - 1) / 256 % 256 * 256 + (r0 * 256 + r1 - 1) % 256) r6) r7 sp ((pc - 2) % 65536) ii rf f1 f2 md pt (ms m (r2 * 256 + r3) (mg m (r4 * 256 + r5))) outs) := h
    rw [← move_raw] at h'
    walk_at "wh"; rw [beq_f q]; walk_at "ev"
    rw [← fmod_pos (pc - 2) (n := 65536) (by decide)] at h'
    exact h'
theorem d_blk14 (W : Wf ⟨r0, r1, r2, r3, r4, r5, r6, r7, sp, pc, ii, rf, f1, f2, md, pt, m, outs⟩) (h0 : Byte i0) (h1 : Byte i1) (h2 : Byte i2) (ho : outs.length ≤ 1000) (hg : ∀ k, closedO 34 (g k)) (hd : OutsOK outs) (ha : OutsOK a.outs) (hb : OutsOK b.outs) (h : Q (.int (blkS 4 (blk [i0, i1, i2] 4 1 ⟨r0, r1, r2, r3, r4, r5, r6, r7, sp, pc, ii, rf, f1, f2, md, pt, m, outs⟩)).2) (HH g [i0, i1, i2] (blkS 4 (blk [i0, i1, i2] 4 1 ⟨r0, r1, r2, r3, r4, r5, r6, r7, sp, pc, ii, rf, f1, f2, md, pt, m, outs⟩)).1 a b [])) : fn__law_block [.obj 5, .int 4, .int 1] (HD g [i0, i1, i2] a b [] r0 r1 r2 r3 r4 r5 r6 r7 sp pc ii rf f1 f2 md pt m outs) Q := by
  refine wfK W fun b0 b1 b2 b3 b4 b5 b6 b7 ml mb => ?_
  obtain ⟨e1, e2, e3, e4⟩ := ix_m ml (r4 * 256 + r5)
  have bm := mg_byte ml mb (r4 * 256 + r5)
  have m1 := bm.1
  have m2 := bm.2
  have c1 := b7.1
  have c2 := b7.2
  have bi := ig_byte h0 h1 h2 pt
  have n1 := bi.1
  have n2 := bi.2
  have t1 := fmod_pos (((r7 - (mg m (r4 * 256 + r5))).fmod 256 - (cond (decide (r7.fmod 16 < (mg m (r4 * 256 + r5)).fmod 16)) 16 0 : Int).fdiv 16).fdiv 2) (n := 2) (by decide)
  have t2 := fmod_pos (((r7 - (mg m (r4 * 256 + r5))).fmod 256 - (cond (decide (r7.fmod 16 < (mg m (r4 * 256 + r5)).fmod 16)) 16 0 : Int).fdiv 16).fdiv 8) (n := 2) (by decide)
  have t3 := fmod_pos (r7 - (mg m (r4 * 256 + r5))) (n := 256) (by decide)
  have h' : Q (.int 16) (HD g [i0, i1, i2] a b [] ((r0 * 256 + r1 - 1) / 256 % 256) ((r0 * 256 + r1 - 1) % 256) r2 r3 ((r4 * 256 + r5 + 1) / 256 % 256) ((r4 * 256 + r5 + 1) % 256) (seekF r7 (mg m (r4 * 256 + r5)) ((r0 * 256 + r1 - 1) / 256 % 256 * 256 + (r0 * 256 + r1 - 1) % 256) r6) r7 sp pc ii rf f1 f2 md pt m outs) := h
  rw [← seek_raw] at h'
  unfold fn__law_block
  walk_at "ev"
  refine d_pair2 b4 b5 ?_
  walk_at "ev"
  rw [e1]; walk_at "ev"; walk_at "wh"; rw [e2]; walk_at "ev"; rw [e3]; walk_at "ev"
  refine d_set2 ?_
  walk_at "ev"
  refine d_pair0 b0 b1 ?_
  walk_at "ev"
  refine d_set0 ?_
  walk_at "ev"
  refine d_pair0 (byte_hi _) (byte_lo _) ?_
  walk_at "ev"
  exact h'
theorem d_blk15 (W : Wf ⟨r0, r1, r2, r3, r4, r5, r6, r7, sp, pc, ii, rf, f1, f2, md, pt, m, outs⟩) (h0 : Byte i0) (h1 : Byte i1) (h2 : Byte i2) (ho : outs.length ≤ 1000) (hg : ∀ k, closedO 34 (g k)) (hd : OutsOK outs) (ha : OutsOK a.outs) (hb : OutsOK b.outs) (h : Q (.int (blkS 5 (blk [i0, i1, i2] 5 1 ⟨r0, r1, r2, r3, r4, r5, r6, r7, sp, pc, ii, rf, f1, f2, md, pt, m, outs⟩)).2) (HH g [i0, i1, i2] (blkS 5 (blk [i0, i1, i2] 5 1 ⟨r0, r1, r2, r3, r4, r5, r6, r7, sp, pc, ii, rf, f1, f2, md, pt, m, outs⟩)).1 a b [])) : fn__law_block [.obj 5, .int 5, .int 1] (HD g [i0, i1, i2] a b [] r0 r1 r2 r3 r4 r5 r6 r7 sp pc ii rf f1 f2 md pt m outs) Q := by
  refine wfK W fun b0 b1 b2 b3 b4 b5 b6 b7 ml mb => ?_
  obtain ⟨e1, e2, e3, e4⟩ := ix_m ml (r4 * 256 + r5)
  have bm := mg_byte ml mb (r4 * 256 + r5)
  have m1 := bm.1
  have m2 := bm.2
  have c1 := b7.1
  have c2 := b7.2
  have bi := ig_byte h0 h1 h2 pt
  have n1 := bi.1
  have n2 := bi.2
  have t1 := fmod_pos (((r7 - (mg m (r4 * 256 + r5))).fmod 256 - (cond (decide (r7.fmod 16 < (mg m (r4 * 256 + r5)).fmod 16)) 16 0 : Int).fdiv 16).fdiv 2) (n := 2) (by decide)
  have t2 := fmod_pos (((r7 - (mg m (r4 * 256 + r5))).fmod 256 - (cond (decide (r7.fmod 16 < (mg m (r4 * 256 + r5)).fmod 16)) 16 0 : Int).fdiv 16).fdiv 8) (n := 2) (by decide)
  have t3 := fmod_pos (r7 - (mg m (r4 * 256 + r5))) (n := 256) (by decide)
  have h' : Q (.int 16) (HD g [i0, i1, i2] a b [] ((r0 * 256 + r1 - 1) / 256 % 256) ((r0 * 256 + r1 - 1) % 256) r2 r3 ((r4 * 256 + r5 + -1) / 256 % 256) ((r4 * 256 + r5 + -1) % 256) (seekF r7 (mg m (r4 * 256 + r5)) ((r0 * 256 + r1 - 1) / 256 % 256 * 256 + (r0 * 256 + r1 - 1) % 256) r6) r7 sp pc ii rf f1 f2 md pt m outs) := h
  rw [← seek_raw] at h'
  unfold fn__law_block
  walk_at "ev"
  refine d_pair2 b4 b5 ?_
  walk_at "ev"
  rw [e1]; walk_at "ev"; walk_at "wh"; rw [e2]; walk_at "ev"; rw [e3]; walk_at "ev"
  refine d_set2 ?_
  walk_at "ev"
  refine d_pair0 b0 b1 ?_
  walk_at "ev"
  refine d_set0 ?_
  walk_at "ev"
  refine d_pair0 (byte_hi _) (byte_lo _) ?_
  walk_at "ev"
  exact h'
theorem d_blk16 (W : Wf ⟨r0, r1, r2, r3, r4, r5, r6, r7, sp, pc, ii, rf, f1, f2, md, pt, m, outs⟩) (h0 : Byte i0) (h1 : Byte i1) (h2 : Byte i2) (ho : outs.length ≤ 1000) (hg : ∀ k, closedO 34 (g k)) (hd : OutsOK outs) (ha : OutsOK a.outs) (hb : OutsOK b.outs) (h : Q (.int (blkS 6 (blk [i0, i1, i2] 6 1 ⟨r0, r1, r2, r3, r4, r5, r6, r7, sp, pc, ii, rf, f1, f2, md, pt, m, outs⟩)).2) (HH g [i0, i1, i2] (blkS 6 (blk [i0, i1, i2] 6 1 ⟨r0, r1, r2, r3, r4, r5, r6, r7, sp, pc, ii, rf, f1, f2, md, pt, m, outs⟩)).1 a b [])) : fn__law_block [.obj 5, .int 6, .int 1] (HD g [i0, i1, i2] a b [] r0 r1 r2 r3 r4 r5 r6 r7 sp pc ii rf f1 f2 md pt m outs) Q := by
  refine wfK W fun b0 b1 b2 b3 b4 b5 b6 b7 ml mb => ?_
  obtain ⟨e1, e2, e3, e4⟩ := ix_m ml (r4 * 256 + r5)
  have bm := mg_byte ml mb (r4 * 256 + r5)
  have m1 := bm.1
  have m2 := bm.2
  have c1 := b7.1
  have c2 := b7.2
  have bi := ig_byte h0 h1 h2 pt
  have n1 := bi.1
  have n2 := bi.2
  have t1 := fmod_pos (((r7 - (mg m (r4 * 256 + r5))).fmod 256 - (cond (decide (r7.fmod 16 < (mg m (r4 * 256 + r5)).fmod 16)) 16 0 : Int).fdiv 16).fdiv 2) (n := 2) (by decide)
  have t2 := fmod_pos (((r7 - (mg m (r4 * 256 + r5))).fmod 256 - (cond (decide (r7.fmod 16 < (mg m (r4 * 256 + r5)).fmod 16)) 16 0 : Int).fdiv 16).fdiv 8) (n := 2) (by decide)
  have t3 := fmod_pos (r7 - (mg m (r4 * 256 + r5))) (n := 256) (by decide)
  unfold fn__law_block
  walk_at "ev"
  refine d_pair2 b4 b5 ?_
  walk_at "ev"
  rw [e1]; walk_at "ev"; walk_at "wh"; rw [e2]; walk_at "ev"; rw [e3]; walk_at "ev"
  refine d_set2 ?_
  walk_at "ev"
  refine d_pair0 b0 b1 ?_
  walk_at "ev"
  refine d_set0 ?_
  walk_at "ev"
  refine d_pair0 (byte_hi _) (byte_lo _) ?_
  walk_at "ev"
  by_cases q : ((r0 * 256 + r1 - 1) / 256 % 256 * 256 + (r0 * 256 + r1 - 1) % 256) = 0
  · have e : (blk [i0, i1, i2] 6 1 ⟨r0, r1, r2, r3, r4, r5, r6, r7, sp, pc, ii, rf, f1, f2, md, pt, m, outs⟩).2 = false := by show (decide (((r0 * 256 + r1 - 1) / 256 % 256 * 256 + (r0 * 256 + r1 - 1) % 256) ≠ 0) && decide ((r7 - (mg m (r4 * 256 + r5))) % 256 ≠ 0)) = false; rw [q]; rfl
    rw [blkS6f e] at h
    have h' : Q (.int 16) (HD g [i0, i1, i2] a b [] ((r0 * 256 + r1 - 1) / 256 % 256) ((r0 * 256 + r1 - 1) % 256) r2 r3 ((r4 * 256 + r5 + 1) / 256 % 256) ((r4 * 256 + r5 + 1) % 256) (seekF r7 (mg m (r4 * 256 + r5)) ((r0 * 256 + r1 - 1) / 256 % 256 * 256 + (r0 * 256 + r1 - 1) % 256) r6) r7 sp pc ii rf f1 f2 md pt m outs) := h
    rw [← seek_raw] at h'
    walk_at "wh"; rw [beq_t q]; walk_at "ev"
    exact h'
  · by_cases p : (r7 - (mg m (r4 * 256 + r5))) % 256 = 0
    · have e : (blk [i0, i1, i2] 6 1 ⟨r0, r1, r2, r3, r4, r5, r6, r7, sp, pc, ii, rf, f1, f2, md, pt, m, outs⟩).2 = false := by show (decide (((r0 * 256 + r1 - 1) / 256 % 256 * 256 + (r0 * 256 + r1 - 1) % 256) ≠ 0) && decide ((r7 - (mg m (r4 * 256 + r5))) % 256 ≠ 0)) = false; rw [p]; simp
      rw [blkS6f e] at h
      have h' : Q (.int 16) (HD g [i0, i1, i2] a b [] ((r0 * 256 + r1 - 1) / 256 % 256) ((r0 * 256 + r1 - 1) % 256) r2 r3 ((r4 * 256 + r5 + 1) / 256 % 256) ((r4 * 256 + r5 + 1) % 256) (seekF r7 (mg m (r4 * 256 + r5)) ((r0 * 256 + r1 - 1) / 256 % 256 * 256 + (r0 * 256 + r1 - 1) % 256) r6) r7 sp pc ii rf f1 f2 md pt m outs) := h
      rw [← seek_raw] at h'
      walk_at "wh"; rw [beq_f q]; walk_at "ev"; rw [beq_t (t3.trans p)]; walk_at "ev"; rw [beq_t (t3.trans p)] at h'
      exact h'
    · have e : (blk [i0, i1, i2] 6 1 ⟨r0, r1, r2, r3, r4, r5, r6, r7, sp, pc, ii, rf, f1, f2, md, pt, m, outs⟩).2 = true := by show (decide (((r0 * 256 + r1 - 1) / 256 % 256 * 256 + (r0 * 256 + r1 - 1) % 256) ≠ 0) && decide ((r7 - (mg m (r4 * 256 + r5))) % 256 ≠ 0)) = true; rw [decide_eq_true q, decide_eq_true p]; rfl
      rw [blkS6t e] at h
      have h' : Q (.int 21) (HD g [i0, i1, i2] a b [] ((r0 * 256 + r1 - 1) / 256 % 256) ((r0 * 256 + r1 - 1) % 256) r2 r3 ((r4 * 256 + r5 + 1) / 256 % 256) ((r4 * 256 + r5 + 1) % 256) (seekF r7 (mg m (r4 * 256 + r5)) ((r0 * 256 + r1 - 1) / 256 % 256 * 256 + (r0 * 256 + r1 - 1) % 256) r6) r7 sp ((pc - 2) % 65536) ii rf f1 f2 md pt m outs) := h
      rw [← seek_raw] at h'
      walk_at "wh"; rw [beq_f q]; walk_at "ev"; rw [beq_f (fun k => p (t3.symm.trans k))]; walk_at "ev"; rw [beq_f (fun k => p (t3.symm.trans k))] at h'
      rw [← fmod_pos (pc - 2) (n := 65536) (by decide)] at h'
      exact h'
theorem d_blk17 (W : Wf ⟨r0, r1, r2, r3, r4, r5, r6, r7, sp, pc, ii, rf, f1, f2, md, pt, m, outs⟩) (h0 : Byte i0) (h1 : Byte i1) (h2 : Byte i2) (ho : outs.length ≤ 1000) (hg : ∀ k, closedO 34 (g k)) (hd : OutsOK outs) (ha : OutsOK a.outs) (hb : OutsOK b.outs) (h : Q (.int (blkS 7 (blk [i0, i1, i2] 7 1 ⟨r0, r1, r2, r3, r4, r5, r6, r7, sp, pc, ii, rf, f1, f2, md, pt, m, outs⟩)).2) (HH g [i0, i1, i2] (blkS 7 (blk [i0, i1, i2] 7 1 ⟨r0, r1, r2, r3, r4, r5, r6, r7, sp, pc, ii, rf, f1, f2, md, pt, m, outs⟩)).1 a b [])) : fn__law_block [.obj 5, .int 7, .int 1] (HD g [i0, i1, i2] a b [] r0 r1 r2 r3 r4 r5 r6 r7 sp pc ii rf f1 f2 md pt m outs) Q := by
  refine wfK W fun b0 b1 b2 b3 b4 b5 b6 b7 ml mb => ?_
  obtain ⟨e1, e2, e3, e4⟩ := ix_m ml (r4 * 256 + r5)
  have bm := mg_byte ml mb (r4 * 256 + r5)
  have m1 := bm.1
  have m2 := bm.2
  have c1 := b7.1
  have c2 := b7.2
  have bi := ig_byte h0 h1 h2 pt
  have n1 := bi.1
  have n2 := bi.2
  have t1 := fmod_pos (((r7 - (mg m (r4 * 256 + r5))).fmod 256 - (cond (decide (r7.fmod 16 < (mg m (r4 * 256 + r5)).fmod 16)) 16 0 : Int).fdiv 16).fdiv 2) (n := 2) (by decide)
  have t2 := fmod_pos (((r7 - (mg m (r4 * 256 + r5))).fmod 256 - (cond (decide (r7.fmod 16 < (mg m (r4 * 256 + r5)).fmod 16)) 16 0 : Int).fdiv 16).fdiv 8) (n := 2) (by decide)
  have t3 := fmod_pos (r7 - (mg m (r4 * 256 + r5))) (n := 256) (by decide)
  unfold fn__law_block
  walk_at "ev"
  refine d_pair2 b4 b5 ?_
  walk_at "ev"
  rw [e1]; walk_at "ev"; walk_at "wh"; rw [e2]; walk_at "ev"; rw [e3]; walk_at "ev"
  refine d_set2 ?_
  walk_at "ev"
  refine d_pair0 b0 b1 ?_
  walk_at "ev"
  refine d_set0 ?_
  walk_at "ev"
  refine d_pair0 (byte_hi _) (byte_lo _) ?_
  walk_at "ev"
  by_cases q : ((r0 * 256 + r1 - 1) / 256 % 256 * 256 + (r0 * 256 + r1 - 1) % 256) = 0
  · have e : (blk [i0, i1, i2] 7 1 ⟨r0, r1, r2, r3, r4, r5, r6, r7, sp, pc, ii, rf, f1, f2, md, pt, m, outs⟩).2 = false := by show (decide (((r0 * 256 + r1 - 1) / 256 % 256 * 256 + (r0 * 256 + r1 - 1) % 256) ≠ 0) && decide ((r7 - (mg m (r4 * 256 + r5))) % 256 ≠ 0)) = false; rw [q]; rfl
    rw [blkS7f e] at h
    have h' : Q (.int 16) (HD g [i0, i1, i2] a b [] ((r0 * 256 + r1 - 1) / 256 % 256) ((r0 * 256 + r1 - 1) % 256) r2 r3 ((r4 * 256 + r5 + -1) / 256 % 256) ((r4 * 256 + r5 + -1) % 256) (seekF r7 (mg m (r4 * 256 + r5)) ((r0 * 256 + r1 - 1) / 256 % 256 * 256 + (r0 * 256 + r1 - 1) % 256) r6) r7 sp pc ii rf f1 f2 md pt m outs) := h
    rw [← seek_raw] at h'
    walk_at "wh"; rw [beq_t q]; walk_at "ev"
    exact h'
  · by_cases p : (r7 - (mg m (r4 * 256 + r5))) % 256 = 0
    · have e : (blk [i0, i1, i2] 7 1 ⟨r0, r1, r2, r3, r4, r5, r6, r7, sp, pc, ii, rf, f1, f2, md, pt, m, outs⟩).2 = false := by show (decide (((r0 * 256 + r1 - 1) / 256 % 256 * 256 + (r0 * 256 + r1 - 1) % 256) ≠ 0) && decide ((r7 - (mg m (r4 * 256 + r5))) % 256 ≠ 0)) = false; rw [p]; simp
      rw [blkS7f e] at h
      have h' : Q (.int 16) (HD g [i0, i1, i2] a b [] ((r0 * 256 + r1 - 1) / 256 % 256) ((r0 * 256 + r1 - 1) % 256) r2 r3 ((r4 * 256 + r5 + -1) / 256 % 256) ((r4 * 256 + r5 + -1) % 256) (seekF r7 (mg m (r4 * 256 + r5)) ((r0 * 256 + r1 - 1) / 256 % 256 * 256 + (r0 * 256 + r1 - 1) % 256) r6) r7 sp pc ii rf f1 f2 md pt m outs) := h
      rw [← seek_raw] at h'
      walk_at "wh"; rw [beq_f q]; walk_at "ev"; rw [beq_t (t3.trans p)]; walk_at "ev"; rw [beq_t (t3.trans p)] at h'
      exact h'
    · have e : (blk [i0, i1, i2] 7 1 ⟨r0, r1, r2, r3, r4, r5, r6, r7, sp, pc, ii, rf, f1, f2, md, pt, m, outs⟩).2 = true := by show (decide (((r0 * 256 + r1 - 1) / 256 % 256 * 256 + (r0 * 256 + r1 - 1) % 256) ≠ 0) && decide ((r7 - (mg m (r4 * 256 + r5))) % 256 ≠ 0)) = true; rw [decide_eq_true q, decide_eq_true p]; rfl
      rw [blkS7t e] at h
      have h' : Q (.int 21) (HD g [i0, i1, i2] a b [] ((r0 * 256 + r1 - 1) / 256 % 256) ((r0 * 256 + r1 - 1) % 256) r2 r3 ((r4 * 256 + r5 + -1) / 256 % 256) ((r4 * 256 + r5 + -1) % 256) (seekF r7 (mg m (r4 * 256 + r5)) ((r0 * 256 + r1 - 1) / 256 % 256 * 256 + (r0 * 256 + r1 - 1) % 256) r6) r7 sp ((pc - 2) % 65536) ii rf f1 f2 md pt m outs) := h
      rw [← seek_raw] at h'
      walk_at "wh"; rw [beq_f q]; walk_at "ev"; rw [beq_f (fun k => p (t3.symm.trans k))]; walk_at "ev"; rw [beq_f (fun k => p (t3.symm.trans k))] at h'
      rw [← fmod_pos (pc - 2) (n := 65536) (by decide)] at h'
      exact h'
theorem d_blk24 (W : Wf ⟨r0, r1, r2, r3, r4, r5, r6, r7, sp, pc, ii, rf, f1, f2, md, pt, m, outs⟩) (h0 : Byte i0) (h1 : Byte i1) (h2 : Byte i2) (ho : outs.length ≤ 1000) (hg : ∀ k, closedO 34 (g k)) (hd : OutsOK outs) (ha : OutsOK a.outs) (hb : OutsOK b.outs) (h : Q (.int (blkS 4 (blk [i0, i1, i2] 4 2 ⟨r0, r1, r2, r3, r4, r5, r6, r7, sp, pc, ii, rf, f1, f2, md, pt, m, outs⟩)).2) (HH g [i0, i1, i2] (blkS 4 (blk [i0, i1, i2] 4 2 ⟨r0, r1, r2, r3, r4, r5, r6, r7, sp, pc, ii, rf, f1, f2, md, pt, m, outs⟩)).1 a b [])) : fn__law_block [.obj 5, .int 4, .int 2] (HD g [i0, i1, i2] a b [] r0 r1 r2 r3 r4 r5 r6 r7 sp pc ii rf f1 f2 md pt m outs) Q := by
  refine wfK W fun b0 b1 b2 b3 b4 b5 b6 b7 ml mb => ?_
  obtain ⟨e1, e2, e3, e4⟩ := ix_m ml (r4 * 256 + r5)
  have bm := mg_byte ml mb (r4 * 256 + r5)
  have m1 := bm.1
  have m2 := bm.2
  have c1 := b7.1
  have c2 := b7.2
  have bi := ig_byte h0 h1 h2 pt
  have n1 := bi.1
  have n2 := bi.2
  have bl : Byte ((r0 - 1) % 256) := byte_lo _
  have t1 := fmod_pos (r0 - 1) (n := 256) (by decide)
  have t2 := fdiv_pos (ig [i0, i1, i2] pt) (n := 128) (by decide)
  have t3 := fmod_pos (r1 + 1) (n := 256) (by decide)
  have bx : Byte (Builtin.bitXor (((ig [i0, i1, i2] pt) + ((r1 + 1) % 256)).fmod 8) ((r0 - 1) % 256)) := xor_byte (by rw [fmod_pos _ (by decide)]; unfold Byte; lia) bl
  have bl2 : Byte ((r0 - 1).fmod 256) := by rw [t1]; exact bl
  have bx2 : Byte (Builtin.bitXor (((ig [i0, i1, i2] pt) + ((r1 + 1).fmod 256)).fmod 8) ((r0 - 1).fmod 256)) := by rw [t1, t3]; exact bx
  have h' : Q (.int 16) (HD g [i0, i1, i2] a b [] ((r0 - 1) % 256) r1 r2 r3 ((r4 * 256 + r5 + 1) / 256 % 256) ((r4 * 256 + r5 + 1) % 256) (portF (ig [i0, i1, i2] pt) ((r1 + 1) % 256) ((r0 - 1) % 256)) r7 sp pc ii rf f1 f2 md (pt + 1) (ms m (r4 * 256 + r5) (ig [i0, i1, i2] pt)) outs) := h
  rw [← port_raw, ← t1, ← t3] at h'
  unfold fn__law_block
  walk_at "ev"
  refine d_pair2 b4 b5 ?_
  walk_at "ev"
  rw [e1]; walk_at "ev"; walk_at "wh"; rw [e2]; walk_at "ev"; rw [e3]; walk_at "ev"
  refine d_in ?_
  walk_at "ev"
  rw [e1]; walk_at "ev"; walk_at "wh"; rw [e2]; walk_at "ev"; rw [e4]; walk_at "ev"
  refine d_set2 ?_
  walk_at "ev"
  refine d_told bl2 ?_
  walk_at "ev"
  refine d_par bx2 hg hd ha hb ?_
  walk_at "ev"
  exact h'
theorem d_blk25 (W : Wf ⟨r0, r1, r2, r3, r4, r5, r6, r7, sp, pc, ii, rf, f1, f2, md, pt, m, outs⟩) (h0 : Byte i0) (h1 : Byte i1) (h2 : Byte i2) (ho : outs.length ≤ 1000) (hg : ∀ k, closedO 34 (g k)) (hd : OutsOK outs) (ha : OutsOK a.outs) (hb : OutsOK b.outs) (h : Q (.int (blkS 5 (blk [i0, i1, i2] 5 2 ⟨r0, r1, r2, r3, r4, r5, r6, r7, sp, pc, ii, rf, f1, f2, md, pt, m, outs⟩)).2) (HH g [i0, i1, i2] (blkS 5 (blk [i0, i1, i2] 5 2 ⟨r0, r1, r2, r3, r4, r5, r6, r7, sp, pc, ii, rf, f1, f2, md, pt, m, outs⟩)).1 a b [])) : fn__law_block [.obj 5, .int 5, .int 2] (HD g [i0, i1, i2] a b [] r0 r1 r2 r3 r4 r5 r6 r7 sp pc ii rf f1 f2 md pt m outs) Q := by
  refine wfK W fun b0 b1 b2 b3 b4 b5 b6 b7 ml mb => ?_
  obtain ⟨e1, e2, e3, e4⟩ := ix_m ml (r4 * 256 + r5)
  have bm := mg_byte ml mb (r4 * 256 + r5)
  have m1 := bm.1
  have m2 := bm.2
  have c1 := b7.1
  have c2 := b7.2
  have bi := ig_byte h0 h1 h2 pt
  have n1 := bi.1
  have n2 := bi.2
  have bl : Byte ((r0 - 1) % 256) := byte_lo _
  have t1 := fmod_pos (r0 - 1) (n := 256) (by decide)
  have t2 := fdiv_pos (ig [i0, i1, i2] pt) (n := 128) (by decide)
  have t3 := fmod_pos (r1 + -1) (n := 256) (by decide)
  have bx : Byte (Builtin.bitXor (((ig [i0, i1, i2] pt) + ((r1 + -1) % 256)).fmod 8) ((r0 - 1) % 256)) := xor_byte (by rw [fmod_pos _ (by decide)]; unfold Byte; omega) bl
  have bl2 : Byte ((r0 - 1).fmod 256) := by rw [t1]; exact bl
  have bx2 : Byte (Builtin.bitXor (((ig [i0, i1, i2] pt) + ((r1 + -1).fmod 256)).fmod 8) ((r0 - 1).fmod 256)) := by rw [t1, t3]; exact bx
  have h' : Q (.int 16) (HD g [i0, i1, i2] a b [] ((r0 - 1) % 256) r1 r2 r3 ((r4 * 256 + r5 + -1) / 256 % 256) ((r4 * 256 + r5 + -1) % 256) (portF (ig [i0, i1, i2] pt) ((r1 + -1) % 256) ((r0 - 1) % 256)) r7 sp pc ii rf f1 f2 md (pt + 1) (ms m (r4 * 256 + r5) (ig [i0, i1, i2] pt)) outs) := h
  rw [← port_raw, ← t1, ← t3] at h'
  unfold fn__law_block
  walk_at "ev"
  refine d_pair2 b4 b5 ?_
  walk_at "ev"
  rw [e1]; walk_at "ev"; walk_at "wh"; rw [e2]; walk_at "ev"; rw [e3]; walk_at "ev"
  refine d_in ?_
  walk_at "ev"
  rw [e1]; walk_at "ev"; walk_at "wh"; rw [e2]; walk_at "ev"; rw [e4]; walk_at "ev"
  refine d_set2 ?_
  walk_at "ev"
  refine d_told bl2 ?_
  walk_at "ev"
  refine d_par bx2 hg hd ha hb ?_
  walk_at "ev"
  exact h'
theorem d_blk26 (W : Wf ⟨r0, r1, r2, r3, r4, r5, r6, r7, sp, pc, ii, rf, f1, f2, md, pt, m, outs⟩) (h0 : Byte i0) (h1 : Byte i1) (h2 : Byte i2) (ho : outs.length ≤ 1000) (hg : ∀ k, closedO 34 (g k)) (hd : OutsOK outs) (ha : OutsOK a.outs) (hb : OutsOK b.outs) (h : Q (.int (blkS 6 (blk [i0, i1, i2] 6 2 ⟨r0, r1, r2, r3, r4, r5, r6, r7, sp, pc, ii, rf, f1, f2, md, pt, m, outs⟩)).2) (HH g [i0, i1, i2] (blkS 6 (blk [i0, i1, i2] 6 2 ⟨r0, r1, r2, r3, r4, r5, r6, r7, sp, pc, ii, rf, f1, f2, md, pt, m, outs⟩)).1 a b [])) : fn__law_block [.obj 5, .int 6, .int 2] (HD g [i0, i1, i2] a b [] r0 r1 r2 r3 r4 r5 r6 r7 sp pc ii rf f1 f2 md pt m outs) Q := by
  refine wfK W fun b0 b1 b2 b3 b4 b5 b6 b7 ml mb => ?_
  obtain ⟨e1, e2, e3, e4⟩ := ix_m ml (r4 * 256 + r5)
  have bm := mg_byte ml mb (r4 * 256 + r5)
  have m1 := bm.1
  have m2 := bm.2
  have c1 := b7.1
  have c2 := b7.2
  have bi := ig_byte h0 h1 h2 pt
  have n1 := bi.1
  have n2 := bi.2
  have bl : Byte ((r0 - 1) % 256) := byte_lo _
  have t1 := fmod_pos (r0 - 1) (n := 256) (by decide)
  have t2 := fdiv_pos (ig [i0, i1, i2] pt) (n := 128) (by decide)
  have t3 := fmod_pos (r1 + 1) (n := 256) (by decide)
  have bx : Byte (Builtin.bitXor (((ig [i0, i1, i2] pt) + ((r1 + 1) % 256)).fmod 8) ((r0 - 1) % 256)) := xor_byte (by rw [fmod_pos _ (by decide)]; unfold Byte; lia) bl
  have bl2 : Byte ((r0 - 1).fmod 256) := by rw [t1]; exact bl
  have bx2 : Byte (Builtin.bitXor (((ig [i0, i1, i2] pt) + ((r1 + 1).fmod 256)).fmod 8) ((r0 - 1).fmod 256)) := by rw [t1, t3]; exact bx
  unfold fn__law_block
  walk_at "ev"
  refine d_pair2 b4 b5 ?_
  walk_at "ev"
  rw [e1]; walk_at "ev"; walk_at "wh"; rw [e2]; walk_at "ev"; rw [e3]; walk_at "ev"
  refine d_in ?_
  walk_at "ev"
  rw [e1]; walk_at "ev"; walk_at "wh"; rw [e2]; walk_at "ev"; rw [e4]; walk_at "ev"
  refine d_set2 ?_
  walk_at "ev"
  refine d_told bl2 ?_
  walk_at "ev"
  refine d_par bx2 hg hd ha hb ?_
  walk_at "ev"
  by_cases q : ((r0 - 1) % 256) = 0
  · have e : (blk [i0, i1, i2] 6 2 ⟨r0, r1, r2, r3, r4, r5, r6, r7, sp, pc, ii, rf, f1, f2, md, pt, m, outs⟩).2 = false := by show (decide (((r0 - 1) % 256) ≠ 0)) = false; rw [q]; rfl
    rw [blkS6f e] at h
    have h' : Q (.int 16) (HD g [i0, i1, i2] a b [] ((r0 - 1) % 256) r1 r2 r3 ((r4 * 256 + r5 + 1) / 256 % 256) ((r4 * 256 + r5 + 1) % 256) (portF (ig [i0, i1, i2] pt) ((r1 + 1) % 256) ((r0 - 1) % 256)) r7 sp pc ii rf f1 f2 md (pt + 1) (ms m (r4 * 256 + r5) (ig [i0, i1, i2] pt)) outs) := h
    rw [← port_raw, ← t1, ← t3] at h'
    walk_at "wh"; rw [beq_t (t1.trans q)]; walk_at "ev"
    exact h'
  · have e : (blk [i0, i1, i2] 6 2 ⟨r0, r1, r2, r3, r4, r5, r6, r7, sp, pc, ii, rf, f1, f2, md, pt, m, outs⟩).2 = true := by show decide (((r0 - 1) % 256) ≠ 0) = true; exact decide_eq_true q
    rw [blkS6t e] at h
    have h' : Q (.int 21) (HD g [i0, i1, i2] a b [] ((r0 - 1) % 256) r1 r2 r3 ((r4 * 256 + r5 + 1) / 256 % 256) ((r4 * 256 + r5 + 1) % 256) (portF (ig [i0, i1, i2] pt) ((r1 + 1) % 256) ((r0 - 1) % 256)) r7 sp ((pc - 2) % 65536) ii rf f1 f2 md (pt + 1) (ms m (r4 * 256 + r5) (ig [i0, i1, i2] pt)) outs) := h
    rw [← port_raw, ← t1, ← t3] at h'
    walk_at "wh"; rw [beq_f (fun k => q (t1.symm.trans k))]; walk_at "ev"
    rw [← fmod_pos (pc - 2) (n := 65536) (by decide)] at h'
    exact h'
theorem d_blk27 (W : Wf ⟨r0, r1, r2, r3, r4, r5, r6, r7, sp, pc, ii, rf, f1, f2, md, pt, m, outs⟩) (h0 : Byte i0) (h1 : Byte i1) (h2 : Byte i2) (ho : outs.length ≤ 1000) (hg : ∀ k, closedO 34 (g k)) (hd : OutsOK outs) (ha : OutsOK a.outs) (hb : OutsOK b.outs) (h : Q (.int (blkS 7 (blk [i0, i1, i2] 7 2 ⟨r0, r1, r2, r3, r4, r5, r6, r7, sp, pc, ii, rf, f1, f2, md, pt, m, outs⟩)).2) (HH g [i0, i1, i2] (blkS 7 (blk [i0, i1, i2] 7 2 ⟨r0, r1, r2, r3, r4, r5, r6, r7, sp, pc, ii, rf, f1, f2, md, pt, m, outs⟩)).1 a b [])) : fn__law_block [.obj 5, .int 7, .int 2] (HD g [i0, i1, i2] a b [] r0 r1 r2 r3 r4 r5 r6 r7 sp pc ii rf f1 f2 md pt m outs) Q := by
  refine wfK W fun b0 b1 b2 b3 b4 b5 b6 b7 ml mb => ?_
  obtain ⟨e1, e2, e3, e4⟩ := ix_m ml (r4 * 256 + r5)
  have bm := mg_byte ml mb (r4 * 256 + r5)
  have m1 := bm.1
  have m2 := bm.2
  have c1 := b7.1
  have c2 := b7.2
  have bi := ig_byte h0 h1 h2 pt
  have n1 := bi.1
  have n2 := bi.2
  have bl : Byte ((r0 - 1) % 256) := byte_lo _
  have t1 := fmod_pos (r0 - 1) (n := 256) (by decide)
  have t2 := fdiv_pos (ig [i0, i1, i2] pt) (n := 128) (by decide)
  have t3 := fmod_pos (r1 + -1) (n := 256) (by decide)
  have bx : Byte (Builtin.bitXor (((ig [i0, i1, i2] pt) + ((r1 + -1) % 256)).fmod 8) ((r0 - 1) % 256)) := xor_byte (by rw [fmod_pos _ (by decide)]; unfold Byte; omega) bl
  have bl2 : Byte ((r0 - 1).fmod 256) := by rw [t1]; exact bl
  have bx2 : Byte (Builtin.bitXor (((ig [i0, i1, i2] pt) + ((r1 + -1).fmod 256)).fmod 8) ((r0 - 1).fmod 256)) := by rw [t1, t3]; exact bx
  unfold fn__law_block
  walk_at "ev"
  refine d_pair2 b4 b5 ?_
  walk_at "ev"
  rw [e1]; walk_at "ev"; walk_at "wh"; rw [e2]; walk_at "ev"; rw [e3]; walk_at "ev"
  refine d_in ?_
  walk_at "ev"
  rw [e1]; walk_at "ev"; walk_at "wh"; rw [e2]; walk_at "ev"; rw [e4]; walk_at "ev"
  refine d_set2 ?_
  walk_at "ev"
  refine d_told bl2 ?_
  walk_at "ev"
  refine d_par bx2 hg hd ha hb ?_
  walk_at "ev"
  by_cases q : ((r0 - 1) % 256) = 0
  · have e : (blk [i0, i1, i2] 7 2 ⟨r0, r1, r2, r3, r4, r5, r6, r7, sp, pc, ii, rf, f1, f2, md, pt, m, outs⟩).2 = false := by show (decide (((r0 - 1) % 256) ≠ 0)) = false; rw [q]; rfl
    rw [blkS7f e] at h
    have h' : Q (.int 16) (HD g [i0, i1, i2] a b [] ((r0 - 1) % 256) r1 r2 r3 ((r4 * 256 + r5 + -1) / 256 % 256) ((r4 * 256 + r5 + -1) % 256) (portF (ig [i0, i1, i2] pt) ((r1 + -1) % 256) ((r0 - 1) % 256)) r7 sp pc ii rf f1 f2 md (pt + 1) (ms m (r4 * 256 + r5) (ig [i0, i1, i2] pt)) outs) := h
    rw [← port_raw, ← t1, ← t3] at h'
    walk_at "wh"; rw [beq_t (t1.trans q)]; walk_at "ev"
    exact h'
  · have e : (blk [i0, i1, i2] 7 2 ⟨r0, r1, r2, r3, r4, r5, r6, r7, sp, pc, ii, rf, f1, f2, md, pt, m, outs⟩).2 = true := by show decide (((r0 - 1) % 256) ≠ 0) = true; exact decide_eq_true q
    rw [blkS7t e] at h
    have h' : Q (.int 21) (HD g [i0, i1, i2] a b [] ((r0 - 1) % 256) r1 r2 r3 ((r4 * 256 + r5 + -1) / 256 % 256) ((r4 * 256 + r5 + -1) % 256) (portF (ig [i0, i1, i2] pt) ((r1 + -1) % 256) ((r0 - 1) % 256)) r7 sp ((pc - 2) % 65536) ii rf f1 f2 md (pt + 1) (ms m (r4 * 256 + r5) (ig [i0, i1, i2] pt)) outs) := h
    rw [← port_raw, ← t1, ← t3] at h'
    walk_at "wh"; rw [beq_f (fun k => q (t1.symm.trans k))]; walk_at "ev"
    rw [← fmod_pos (pc - 2) (n := 65536) (by decide)] at h'
    exact h'
theorem d_blk34 (W : Wf ⟨r0, r1, r2, r3, r4, r5, r6, r7, sp, pc, ii, rf, f1, f2, md, pt, m, outs⟩) (h0 : Byte i0) (h1 : Byte i1) (h2 : Byte i2) (ho : outs.length ≤ 1000) (hg : ∀ k, closedO 34 (g k)) (hd : OutsOK outs) (ha : OutsOK a.outs) (hb : OutsOK b.outs) (h : Q (.int (blkS 4 (blk [i0, i1, i2] 4 3 ⟨r0, r1, r2, r3, r4, r5, r6, r7, sp, pc, ii, rf, f1, f2, md, pt, m, outs⟩)).2) (HH g [i0, i1, i2] (blkS 4 (blk [i0, i1, i2] 4 3 ⟨r0, r1, r2, r3, r4, r5, r6, r7, sp, pc, ii, rf, f1, f2, md, pt, m, outs⟩)).1 a b [])) : fn__law_block [.obj 5, .int 4, .int 3] (HD g [i0, i1, i2] a b [] r0 r1 r2 r3 r4 r5 r6 r7 sp pc ii rf f1 f2 md pt m outs) Q := by
  refine wfK W fun b0 b1 b2 b3 b4 b5 b6 b7 ml mb => ?_
  obtain ⟨e1, e2, e3, e4⟩ := ix_m ml (r4 * 256 + r5)
  have bm := mg_byte ml mb (r4 * 256 + r5)
  have m1 := bm.1
  have m2 := bm.2
  have c1 := b7.1
  have c2 := b7.2
  have bi := ig_byte h0 h1 h2 pt
  have n1 := bi.1
  have n2 := bi.2
  have bl : Byte ((r0 - 1) % 256) := byte_lo _
  have t1 := fmod_pos (r0 - 1) (n := 256) (by decide)
  have t2 := fdiv_pos (mg m (r4 * 256 + r5)) (n := 128) (by decide)
  have t3 := fmod_pos (r1 + 1) (n := 256) (by decide)
  have bx : Byte (Builtin.bitXor (((mg m (r4 * 256 + r5)) + ((r4 * 256 + r5 + 1) % 256)).fmod 8) ((r0 - 1) % 256)) := xor_byte (by rw [fmod_pos _ (by decide)]; unfold Byte; lia) bl
  have bl2 : Byte ((r0 - 1).fmod 256) := by rw [t1]; exact bl
  have bx2 : Byte (Builtin.bitXor (((mg m (r4 * 256 + r5)) + ((r4 * 256 + r5 + 1) % 256)).fmod 8) ((r0 - 1).fmod 256)) := by rw [t1]; exact bx
  have h' : Q (.int 16) (HD g [i0, i1, i2] a b [] ((r0 - 1) % 256) r1 r2 r3 ((r4 * 256 + r5 + 1) / 256 % 256) ((r4 * 256 + r5 + 1) % 256) (portF (mg m (r4 * 256 + r5)) ((r4 * 256 + r5 + 1) % 256) ((r0 - 1) % 256)) r7 sp pc ii rf f1 f2 md pt m (outs ++ [.tup [.int r1, .int (mg m (r4 * 256 + r5))]])) := h
  rw [← port_raw, ← t1] at h'
  unfold fn__law_block
  walk_at "ev"
  refine d_pair2 b4 b5 ?_
  walk_at "ev"
  rw [e1]; walk_at "ev"; walk_at "wh"; rw [e2]; walk_at "ev"; rw [e3]; walk_at "ev"
  refine d_set2 ?_
  walk_at "ev"
  refine d_told bl2 ?_
  walk_at "ev"
  refine d_par bx2 hg (outs_snoc hd _ _) ha hb ?_
  walk_at "ev"
  exact h'
theorem d_blk35 (W : Wf ⟨r0, r1, r2, r3, r4, r5, r6, r7, sp, pc, ii, rf, f1, f2, md, pt, m, outs⟩) (h0 : Byte i0) (h1 : Byte i1) (h2 : Byte i2) (ho : outs.length ≤ 1000) (hg : ∀ k, closedO 34 (g k)) (hd : OutsOK outs) (ha : OutsOK a.outs) (hb : OutsOK b.outs) (h : Q (.int (blkS 5 (blk [i0, i1, i2] 5 3 ⟨r0, r1, r2, r3, r4, r5, r6, r7, sp, pc, ii, rf, f1, f2, md, pt, m, outs⟩)).2) (HH g [i0, i1, i2] (blkS 5 (blk [i0, i1, i2] 5 3 ⟨r0, r1, r2, r3, r4, r5, r6, r7, sp, pc, ii, rf, f1, f2, md, pt, m, outs⟩)).1 a b [])) : fn__law_block [.obj 5, .int 5, .int 3] (HD g [i0, i1, i2] a b [] r0 r1 r2 r3 r4 r5 r6 r7 sp pc ii rf f1 f2 md pt m outs) Q := by
  refine wfK W fun b0 b1 b2 b3 b4 b5 b6 b7 ml mb => ?_
  obtain ⟨e1, e2, e3, e4⟩ := ix_m ml (r4 * 256 + r5)
  have bm := mg_byte ml mb (r4 * 256 + r5)
  have m1 := bm.1
  have m2 := bm.2
  have c1 := b7.1
  have c2 := b7.2
  have bi := ig_byte h0 h1 h2 pt
  have n1 := bi.1
  have n2 := bi.2
  have bl : Byte ((r0 - 1) % 256) := byte_lo _
  have t1 := fmod_pos (r0 - 1) (n := 256) (by decide)
  have t2 := fdiv_pos (mg m (r4 * 256 + r5)) (n := 128) (by decide)
  have t3 := fmod_pos (r1 + -1) (n := 256) (by decide)
  have bx : Byte (Builtin.bitXor (((mg m (r4 * 256 + r5)) + ((r4 * 256 + r5 + -1) % 256)).fmod 8) ((r0 - 1) % 256)) := xor_byte (by rw [fmod_pos _ (by decide)]; unfold Byte; omega) bl
  have bl2 : Byte ((r0 - 1).fmod 256) := by rw [t1]; exact bl
  have bx2 : Byte (Builtin.bitXor (((mg m (r4 * 256 + r5)) + ((r4 * 256 + r5 + -1) % 256)).fmod 8) ((r0 - 1).fmod 256)) := by rw [t1]; exact bx
  have h' : Q (.int 16) (HD g [i0, i1, i2] a b [] ((r0 - 1) % 256) r1 r2 r3 ((r4 * 256 + r5 + -1) / 256 % 256) ((r4 * 256 + r5 + -1) % 256) (portF (mg m (r4 * 256 + r5)) ((r4 * 256 + r5 + -1) % 256) ((r0 - 1) % 256)) r7 sp pc ii rf f1 f2 md pt m (outs ++ [.tup [.int r1, .int (mg m (r4 * 256 + r5))]])) := h
  rw [← port_raw, ← t1] at h'
  unfold fn__law_block
  walk_at "ev"
  refine d_pair2 b4 b5 ?_
  walk_at "ev"
  rw [e1]; walk_at "ev"; walk_at "wh"; rw [e2]; walk_at "ev"; rw [e3]; walk_at "ev"
  refine d_set2 ?_
  walk_at "ev"
  refine d_told bl2 ?_
  walk_at "ev"
  refine d_par bx2 hg (outs_snoc hd _ _) ha hb ?_
  walk_at "ev"
  exact h'
theorem d_blk36 (W : Wf ⟨r0, r1, r2, r3, r4, r5, r6, r7, sp, pc, ii, rf, f1, f2, md, pt, m, outs⟩) (h0 : Byte i0) (h1 : Byte i1) (h2 : Byte i2) (ho : outs.length ≤ 1000) (hg : ∀ k, closedO 34 (g k)) (hd : OutsOK outs) (ha : OutsOK a.outs) (hb : OutsOK b.outs) (h : Q (.int (blkS 6 (blk [i0, i1, i2] 6 3 ⟨r0, r1, r2, r3, r4, r5, r6, r7, sp, pc, ii, rf, f1, f2, md, pt, m, outs⟩)).2) (HH g [i0, i1, i2] (blkS 6 (blk [i0, i1, i2] 6 3 ⟨r0, r1, r2, r3, r4, r5, r6, r7, sp, pc, ii, rf, f1, f2, md, pt, m, outs⟩)).1 a b [])) : fn__law_block [.obj 5, .int 6, .int 3] (HD g [i0, i1, i2] a b [] r0 r1 r2 r3 r4 r5 r6 r7 sp pc ii rf f1 f2 md pt m outs) Q := by
  refine wfK W fun b0 b1 b2 b3 b4 b5 b6 b7 ml mb => ?_
  obtain ⟨e1, e2, e3, e4⟩ := ix_m ml (r4 * 256 + r5)
  have bm := mg_byte ml mb (r4 * 256 + r5)
  have m1 := bm.1
  have m2 := bm.2
  have c1 := b7.1
  have c2 := b7.2
  have bi := ig_byte h0 h1 h2 pt
  have n1 := bi.1
  have n2 := bi.2
  have bl : Byte ((r0 - 1) % 256) := byte_lo _
  have t1 := fmod_pos (r0 - 1) (n := 256) (by decide)
  have t2 := fdiv_pos (mg m (r4 * 256 + r5)) (n := 128) (by decide)
  have t3 := fmod_pos (r1 + 1) (n := 256) (by decide)
  have bx : Byte (Builtin.bitXor (((mg m (r4 * 256 + r5)) + ((r4 * 256 + r5 + 1) % 256)).fmod 8) ((r0 - 1) % 256)) := xor_byte (by rw [fmod_pos _ (by decide)]; unfold Byte; lia) bl
  have bl2 : Byte ((r0 - 1).fmod 256) := by rw [t1]; exact bl
  have bx2 : Byte (Builtin.bitXor (((mg m (r4 * 256 + r5)) + ((r4 * 256 + r5 + 1) % 256)).fmod 8) ((r0 - 1).fmod 256)) := by rw [t1]; exact bx
  unfold fn__law_block
  walk_at "ev"
  refine d_pair2 b4 b5 ?_
  walk_at "ev"
  rw [e1]; walk_at "ev"; walk_at "wh"; rw [e2]; walk_at "ev"; rw [e3]; walk_at "ev"
  refine d_set2 ?_
  walk_at "ev"
  refine d_told bl2 ?_
  walk_at "ev"
  refine d_par bx2 hg (outs_snoc hd _ _) ha hb ?_
  walk_at "ev"
  by_cases q : ((r0 - 1) % 256) = 0
  · have e : (blk [i0, i1, i2] 6 3 ⟨r0, r1, r2, r3, r4, r5, r6, r7, sp, pc, ii, rf, f1, f2, md, pt, m, outs⟩).2 = false := by show (decide (((r0 - 1) % 256) ≠ 0)) = false; rw [q]; rfl
    rw [blkS6f e] at h
    have h' : Q (.int 16) (HD g [i0, i1, i2] a b [] ((r0 - 1) % 256) r1 r2 r3 ((r4 * 256 + r5 + 1) / 256 % 256) ((r4 * 256 + r5 + 1) % 256) (portF (mg m (r4 * 256 + r5)) ((r4 * 256 + r5 + 1) % 256) ((r0 - 1) % 256)) r7 sp pc ii rf f1 f2 md pt m (outs ++ [.tup [.int r1, .int (mg m (r4 * 256 + r5))]])) := h
    rw [← port_raw, ← t1] at h'
    walk_at "wh"; rw [beq_t (t1.trans q)]; walk_at "ev"
    exact h'
  · have e : (blk [i0, i1, i2] 6 3 ⟨r0, r1, r2, r3, r4, r5, r6, r7, sp, pc, ii, rf, f1, f2, md, pt, m, outs⟩).2 = true := by show decide (((r0 - 1) % 256) ≠ 0) = true; exact decide_eq_true q
    rw [blkS6t e] at h
    have h' : Q (.int 21) (HD g [i0, i1, i2] a b [] ((r0 - 1) % 256) r1 r2 r3 ((r4 * 256 + r5 + 1) / 256 % 256) ((r4 * 256 + r5 + 1) % 256) (portF (mg m (r4 * 256 + r5)) ((r4 * 256 + r5 + 1) % 256) ((r0 - 1) % 256)) r7 sp ((pc - 2) % 65536) ii rf f1 f2 md pt m (outs ++ [.tup [.int r1, .int (mg m (r4 * 256 + r5))]])) := h
    rw [← port_raw, ← t1] at h'
    walk_at "wh"; rw [beq_f (fun k => q (t1.symm.trans k))]; walk_at "ev"
    rw [← fmod_pos (pc - 2) (n := 65536) (by decide)] at h'
    exact h'
theorem d_blk37 (W : Wf ⟨r0, r1, r2, r3, r4, r5, r6, r7, sp, pc, ii, rf, f1, f2, md, pt, m, outs⟩) (h0 : Byte i0) (h1 : Byte i1) (h2 : Byte i2) (ho : outs.length ≤ 1000) (hg : ∀ k, closedO 34 (g k)) (hd : OutsOK outs) (ha : OutsOK a.outs) (hb : OutsOK b.outs) (h : Q (.int (blkS 7 (blk [i0, i1, i2] 7 3 ⟨r0, r1, r2, r3, r4, r5, r6, r7, sp, pc, ii, rf, f1, f2, md, pt, m, outs⟩)).2) (HH g [i0, i1, i2] (blkS 7 (blk [i0, i1, i2] 7 3 ⟨r0, r1, r2, r3, r4, r5, r6, r7, sp, pc, ii, rf, f1, f2, md, pt, m, outs⟩)).1 a b [])) : fn__law_block [.obj 5, .int 7, .int 3] (HD g [i0, i1, i2] a b [] r0 r1 r2 r3 r4 r5 r6 r7 sp pc ii rf f1 f2 md pt m outs) Q := by
  refine wfK W fun b0 b1 b2 b3 b4 b5 b6 b7 ml mb => ?_
  obtain ⟨e1, e2, e3, e4⟩ := ix_m ml (r4 * 256 + r5)
  have bm := mg_byte ml mb (r4 * 256 + r5)
  have m1 := bm.1
  have m2 := bm.2
  have c1 := b7.1
  have c2 := b7.2
  have bi := ig_byte h0 h1 h2 pt
  have n1 := bi.1
  have n2 := bi.2
  have bl : Byte ((r0 - 1) % 256) := byte_lo _
  have t1 := fmod_pos (r0 - 1) (n := 256) (by decide)
  have t2 := fdiv_pos (mg m (r4 * 256 + r5)) (n := 128) (by decide)
  have t3 := fmod_pos (r1 + -1) (n := 256) (by decide)
  have bx : Byte (Builtin.bitXor (((mg m (r4 * 256 + r5)) + ((r4 * 256 + r5 + -1) % 256)).fmod 8) ((r0 - 1) % 256)) := xor_byte (by rw [fmod_pos _ (by decide)]; unfold Byte; omega) bl
  have bl2 : Byte ((r0 - 1).fmod 256) := by rw [t1]; exact bl
  have bx2 : Byte (Builtin.bitXor (((mg m (r4 * 256 + r5)) + ((r4 * 256 + r5 + -1) % 256)).fmod 8) ((r0 - 1).fmod 256)) := by rw [t1]; exact bx
  unfold fn__law_block
  walk_at "ev"
  refine d_pair2 b4 b5 ?_
  walk_at "ev"
  rw [e1]; walk_at "ev"; walk_at "wh"; rw [e2]; walk_at "ev"; rw [e3]; walk_at "ev"
  refine d_set2 ?_
  walk_at "ev"
  refine d_told bl2 ?_
  walk_at "ev"
  refine d_par bx2 hg (outs_snoc hd _ _) ha hb ?_
  walk_at "ev"
  by_cases q : ((r0 - 1) % 256) = 0
  · have e : (blk [i0, i1, i2] 7 3 ⟨r0, r1, r2, r3, r4, r5, r6, r7, sp, pc, ii, rf, f1, f2, md, pt, m, outs⟩).2 = false := by show (decide (((r0 - 1) % 256) ≠ 0)) = false; rw [q]; rfl
    rw [blkS7f e] at h
    have h' : Q (.int 16) (HD g [i0, i1, i2] a b [] ((r0 - 1) % 256) r1 r2 r3 ((r4 * 256 + r5 + -1) / 256 % 256) ((r4 * 256 + r5 + -1) % 256) (portF (mg m (r4 * 256 + r5)) ((r4 * 256 + r5 + -1) % 256) ((r0 - 1) % 256)) r7 sp pc ii rf f1 f2 md pt m (outs ++ [.tup [.int r1, .int (mg m (r4 * 256 + r5))]])) := h
    rw [← port_raw, ← t1] at h'
    walk_at "wh"; rw [beq_t (t1.trans q)]; walk_at "ev"
    exact h'
  · have e : (blk [i0, i1, i2] 7 3 ⟨r0, r1, r2, r3, r4, r5, r6, r7, sp, pc, ii, rf, f1, f2, md, pt, m, outs⟩).2 = true := by show decide (((r0 - 1) % 256) ≠ 0) = true; exact decide_eq_true q
    rw [blkS7t e] at h
    have h' : Q (.int 21) (HD g [i0, i1, i2] a b [] ((r0 - 1) % 256) r1 r2 r3 ((r4 * 256 + r5 + -1) / 256 % 256) ((r4 * 256 + r5 + -1) % 256) (portF (mg m (r4 * 256 + r5)) ((r4 * 256 + r5 + -1) % 256) ((r0 - 1) % 256)) r7 sp ((pc - 2) % 65536) ii rf f1 f2 md pt m (outs ++ [.tup [.int r1, .int (mg m (r4 * 256 + r5))]])) := h
    rw [← port_raw, ← t1] at h'
    walk_at "wh"; rw [beq_f (fun k => q (t1.symm.trans k))]; walk_at "ev"
    rw [← fmod_pos (pc - 2) (n := 65536) (by decide)] at h'
    exact h'
end
set_option maxHeartbeats 200000
set_option maxHeartbeats 2000000
section
variable {g : Nat → O} {i0 i1 i2 : Int} {ins : List Int} {d a b : St} {G : List O} {Q : V → List O → Prop}
variable {r0 r1 r2 r3 r4 r5 r6 r7 sp pc ii rf f1 f2 md pt : Int} {m : List Int} {outs : List V}
theorem d_spec (y : Nat) (hy : y < 8) (W : Wf ⟨r0, r1, r2, r3, r4, r5, r6, r7, sp, pc, ii, rf, f1, f2, md, pt, m, outs⟩) (h0 : Byte i0) (h1 : Byte i1) (h2 : Byte i2) (ho : outs.length ≤ 1000) (hg : ∀ k, closedO 34 (g k)) (hd : OutsOK outs) (ha : OutsOK a.outs) (hb : OutsOK b.outs) (h : ∀ G', Q (.int (due1 [i0, i1, i2] y 7 ⟨r0, r1, r2, r3, r4, r5, r6, r7, sp, pc, ii, rf, f1, f2, md, pt, m, outs⟩).2) (HH g [i0, i1, i2] (dueSpec y ⟨r0, r1, r2, r3, r4, r5, r6, r7, sp, pc, ii, rf, f1, f2, md, pt, m, outs⟩) a b G')) : fn__law_special [.obj 5, .int y] (HD g [i0, i1, i2] a b [] r0 r1 r2 r3 r4 r5 r6 r7 sp pc ii rf f1 f2 md pt m outs) Q := by
  refine wfK W fun b0 b1 b2 b3 b4 b5 b6 b7 ml mb => ?_
  obtain ⟨e1, e2, e3, e4⟩ := ix_m ml (r4 * 256 + r5)
  have bm := mg_byte ml mb (r4 * 256 + r5)
  have m1 := bm.1
  have m2 := bm.2
  have c1 := b7.1
  have c2 := b7.2
  have i2 := W.i2
  dsimp only at i2
  have t1 := fdiv_pos r7 (n := 16) (by decide)
  have t2 := fmod_pos (mg m (r4 * 256 + r5)) (n := 16) (by decide)
  have t3 := fdiv_pos (mg m (r4 * 256 + r5)) (n := 16) (by decide)
  have t4 := fmod_pos r7 (n := 16) (by decide)
  have t5 := fmod_pos r6 (n := 2) (by decide)
  revert h; refine y8 y hy ?_ ?_ ?_ ?_ ?_ ?_ ?_ ?_ <;> intro h
  · unfold fn__law_special
    walk_at "ev"
    refine d_pair2 b4 b5 ?_
    walk_at "ev"
    exact h _
  · unfold fn__law_special
    walk_at "ev"
    refine d_pair2 b4 b5 ?_
    walk_at "ev"
    exact h _
  · unfold fn__law_special
    walk_at "ev"
    refine d_pair2 b4 b5 ?_
    walk_at "ev"
    refine d_told W.bi ?_
    walk_at "ev"
    rw [t5]
    exact h _
  · unfold fn__law_special
    walk_at "ev"
    refine d_pair2 b4 b5 ?_
    walk_at "ev"
    refine d_told W.bf ?_
    walk_at "ev"
    rw [t5]
    exact h _
  · have bx : Byte (r7.fdiv 16 * 16 + (mg m (r4 * 256 + r5)).fmod 16) := by rw [t1, t2]; unfold Byte; lia
    unfold fn__law_special
    walk_at "ev"
    refine d_pair2 b4 b5 ?_
    walk_at "ev"
    rw [e1]; walk_at "ev"; walk_at "wh"; rw [e2]; walk_at "ev"; rw [e3]; walk_at "ev"
    walk_at "wh"; rw [e2]; walk_at "ev"; rw [e4]; walk_at "ev"
    refine d_told bx ?_
    walk_at "ev"
    refine d_par bx hg hd ha hb ?_
    walk_at "ev"
    rw [t5, t1, t2, t4, t3]
    exact h []
  · have bx : Byte (r7.fdiv 16 * 16 + (mg m (r4 * 256 + r5)).fdiv 16) := by rw [t1, t3]; unfold Byte; lia
    unfold fn__law_special
    walk_at "ev"
    refine d_pair2 b4 b5 ?_
    walk_at "ev"
    rw [e1]; walk_at "ev"; walk_at "wh"; rw [e2]; walk_at "ev"; rw [e3]; walk_at "ev"
    walk_at "wh"; rw [e2]; walk_at "ev"; rw [e4]; walk_at "ev"
    refine d_told bx ?_
    walk_at "ev"
    refine d_par bx hg hd ha hb ?_
    walk_at "ev"
    rw [t5, t1, t3, t4, t2]
    exact h []
  · unfold fn__law_special
    walk_at "ev"
    refine d_pair2 b4 b5 ?_
    walk_at "ev"
    exact h _
  · unfold fn__law_special
    walk_at "ev"
    refine d_pair2 b4 b5 ?_
    walk_at "ev"
    exact h _
theorem d_one0 (y : Nat) (hy : y < 8) (W : Wf ⟨r0, r1, r2, r3, r4, r5, r6, r7, sp, pc, ii, rf, f1, f2, md, pt, m, outs⟩) (h0 : Byte i0) (h1 : Byte i1) (h2 : Byte i2) (ho : outs.length ≤ 1000) (hg : ∀ k, closedO 34 (g k)) (hd : OutsOK outs) (ha : OutsOK a.outs) (hb : OutsOK b.outs) (h : ∀ G', Q (.int (due1 [i0, i1, i2] y 0 ⟨r0, r1, r2, r3, r4, r5, r6, r7, sp, pc, ii, rf, f1, f2, md, pt, m, outs⟩).2) (HH g [i0, i1, i2] (due1 [i0, i1, i2] y 0 ⟨r0, r1, r2, r3, r4, r5, r6, r7, sp, pc, ii, rf, f1, f2, md, pt, m, outs⟩).1 a b G')) : fn__law_due [.obj 5, .int (64 + 8 * y + 0)] (HD g [i0, i1, i2] a b [] r0 r1 r2 r3 r4 r5 r6 r7 sp pc ii rf f1 f2 md pt m outs) Q := by
  refine wfK W fun b0 b1 b2 b3 b4 b5 b6 b7 ml mb => ?_
  have bi := ig_byte h0 h1 h2 pt
  have t5 := fmod_pos r6 (n := 2) (by decide)
  revert h; refine y8 y hy ?_ ?_ ?_ ?_ ?_ ?_ ?_ ?_ <;> intro h
  · unfold fn__law_due
    walk_at "ev"
    refine d_in ?_
    walk_at "ev"
    refine d_told bi ?_
    walk_at "ev"
    refine d_par bi hg hd ha hb ?_
    walk_at "ev"
    rw [t5]
    exact h _
  · unfold fn__law_due
    walk_at "ev"
    refine d_in ?_
    walk_at "ev"
    refine d_told bi ?_
    walk_at "ev"
    refine d_par bi hg hd ha hb ?_
    walk_at "ev"
    rw [t5]
    exact h _
  · unfold fn__law_due
    walk_at "ev"
    refine d_in ?_
    walk_at "ev"
    refine d_told bi ?_
    walk_at "ev"
    refine d_par bi hg hd ha hb ?_
    walk_at "ev"
    rw [t5]
    exact h _
  · unfold fn__law_due
    walk_at "ev"
    refine d_in ?_
    walk_at "ev"
    refine d_told bi ?_
    walk_at "ev"
    refine d_par bi hg hd ha hb ?_
    walk_at "ev"
    rw [t5]
    exact h _
  · unfold fn__law_due
    walk_at "ev"
    refine d_in ?_
    walk_at "ev"
    refine d_told bi ?_
    walk_at "ev"
    refine d_par bi hg hd ha hb ?_
    walk_at "ev"
    rw [t5]
    exact h _
  · unfold fn__law_due
    walk_at "ev"
    refine d_in ?_
    walk_at "ev"
    refine d_told bi ?_
    walk_at "ev"
    refine d_par bi hg hd ha hb ?_
    walk_at "ev"
    rw [t5]
    exact h _
  · unfold fn__law_due
    walk_at "ev"
    refine d_in ?_
    walk_at "ev"
    refine d_told bi ?_
    walk_at "ev"
    refine d_par bi hg hd ha hb ?_
    walk_at "ev"
    rw [t5]
    exact h _
  · unfold fn__law_due
    walk_at "ev"
    refine d_in ?_
    walk_at "ev"
    refine d_told bi ?_
    walk_at "ev"
    refine d_par bi hg hd ha hb ?_
    walk_at "ev"
    rw [t5]
    exact h _
theorem d_one1 (y : Nat) (hy : y < 8) (W : Wf ⟨r0, r1, r2, r3, r4, r5, r6, r7, sp, pc, ii, rf, f1, f2, md, pt, m, outs⟩) (h0 : Byte i0) (h1 : Byte i1) (h2 : Byte i2) (ho : outs.length ≤ 1000) (hg : ∀ k, closedO 34 (g k)) (hd : OutsOK outs) (ha : OutsOK a.outs) (hb : OutsOK b.outs) (h : ∀ G', Q (.int (due1 [i0, i1, i2] y 1 ⟨r0, r1, r2, r3, r4, r5, r6, r7, sp, pc, ii, rf, f1, f2, md, pt, m, outs⟩).2) (HH g [i0, i1, i2] (due1 [i0, i1, i2] y 1 ⟨r0, r1, r2, r3, r4, r5, r6, r7, sp, pc, ii, rf, f1, f2, md, pt, m, outs⟩).1 a b G')) : fn__law_due [.obj 5, .int (64 + 8 * y + 1)] (HD g [i0, i1, i2] a b [] r0 r1 r2 r3 r4 r5 r6 r7 sp pc ii rf f1 f2 md pt m outs) Q := by
  refine wfK W fun b0 b1 b2 b3 b4 b5 b6 b7 ml mb => ?_
  revert h; refine y8 y hy ?_ ?_ ?_ ?_ ?_ ?_ ?_ ?_ <;> intro h
  · unfold fn__law_due
    walk_at "ev"
    exact h _
  · unfold fn__law_due
    walk_at "ev"
    exact h _
  · unfold fn__law_due
    walk_at "ev"
    exact h _
  · unfold fn__law_due
    walk_at "ev"
    exact h _
  · unfold fn__law_due
    walk_at "ev"
    exact h _
  · unfold fn__law_due
    walk_at "ev"
    exact h _
  · unfold fn__law_due
    walk_at "ev"
    exact h _
  · unfold fn__law_due
    walk_at "ev"
    exact h _
theorem d_one2 (y : Nat) (hy : y < 8) (W : Wf ⟨r0, r1, r2, r3, r4, r5, r6, r7, sp, pc, ii, rf, f1, f2, md, pt, m, outs⟩) (h0 : Byte i0) (h1 : Byte i1) (h2 : Byte i2) (ho : outs.length ≤ 1000) (hg : ∀ k, closedO 34 (g k)) (hd : OutsOK outs) (ha : OutsOK a.outs) (hb : OutsOK b.outs) (h : ∀ G', Q (.int (due1 [i0, i1, i2] y 2 ⟨r0, r1, r2, r3, r4, r5, r6, r7, sp, pc, ii, rf, f1, f2, md, pt, m, outs⟩).2) (HH g [i0, i1, i2] (due1 [i0, i1, i2] y 2 ⟨r0, r1, r2, r3, r4, r5, r6, r7, sp, pc, ii, rf, f1, f2, md, pt, m, outs⟩).1 a b G')) : fn__law_due [.obj 5, .int (64 + 8 * y + 2)] (HD g [i0, i1, i2] a b [] r0 r1 r2 r3 r4 r5 r6 r7 sp pc ii rf f1 f2 md pt m outs) Q := by
  refine wfK W fun b0 b1 b2 b3 b4 b5 b6 b7 ml mb => ?_
  revert h; refine y8 y hy ?_ ?_ ?_ ?_ ?_ ?_ ?_ ?_ <;> intro h
  · unfold fn__law_due
    walk_at "ev"
    refine d_sum00 W ?_
    walk_at "ev"
    exact h _
  · unfold fn__law_due
    walk_at "ev"
    refine d_sum01 W ?_
    walk_at "ev"
    exact h _
  · unfold fn__law_due
    walk_at "ev"
    refine d_sum10 W ?_
    walk_at "ev"
    exact h _
  · unfold fn__law_due
    walk_at "ev"
    refine d_sum11 W ?_
    walk_at "ev"
    exact h _
  · unfold fn__law_due
    walk_at "ev"
    refine d_sum20 W ?_
    walk_at "ev"
    exact h _
  · unfold fn__law_due
    walk_at "ev"
    refine d_sum21 W ?_
    walk_at "ev"
    exact h _
  · unfold fn__law_due
    walk_at "ev"
    refine d_sum30 W ?_
    walk_at "ev"
    exact h _
  · unfold fn__law_due
    walk_at "ev"
    refine d_sum31 W ?_
    walk_at "ev"
    exact h _
theorem d_one3 (y : Nat) (hy : y < 8) (W : Wf ⟨r0, r1, r2, r3, r4, r5, r6, r7, sp, pc, ii, rf, f1, f2, md, pt, m, outs⟩) (h0 : Byte i0) (h1 : Byte i1) (h2 : Byte i2) (ho : outs.length ≤ 1000) (hg : ∀ k, closedO 34 (g k)) (hd : OutsOK outs) (ha : OutsOK a.outs) (hb : OutsOK b.outs) (h : ∀ G', Q (.int (due1 [i0, i1, i2] y 3 ⟨r0, r1, r2, r3, r4, r5, r6, r7, sp, pc, ii, rf, f1, f2, md, pt, m, outs⟩).2) (HH g [i0, i1, i2] (due1 [i0, i1, i2] y 3 ⟨r0, r1, r2, r3, r4, r5, r6, r7, sp, pc, ii, rf, f1, f2, md, pt, m, outs⟩).1 a b G')) : fn__law_due [.obj 5, .int (64 + 8 * y + 3)] (HD g [i0, i1, i2] a b [] r0 r1 r2 r3 r4 r5 r6 r7 sp pc ii rf f1 f2 md pt m outs) Q := by
  refine wfK W fun b0 b1 b2 b3 b4 b5 b6 b7 ml mb => ?_
  have t5 := fmod_pos (pc + 2) (n := 65536) (by decide)
  revert h; refine y8 y hy ?_ ?_ ?_ ?_ ?_ ?_ ?_ ?_ <;> intro h
  · obtain ⟨e1, e2, e3, e4⟩ := ix_m ml (wd m pc)
    obtain ⟨u1, u2, u3, u4⟩ := ix_m (m := m.set ((wd m pc) % 64).toNat ((r0 * 256 + r1).fmod 256)) (by rw [List.length_set]; exact ml) ((wd m pc) + 1)
    have t6 := fmod_pos (r0 * 256 + r1) (n := 256) (by decide)
    have t7 := fdiv_pos (r0 * 256 + r1) (n := 256) (by decide)
    unfold fn__law_due
    walk_at "ev"
    refine d_word ml mb ?_
    walk_at "ev"
    refine d_pair0 b0 b1 ?_
    walk_at "ev"
    rw [e1]; walk_at "ev"; walk_at "wh"; rw [e2]; walk_at "ev"; rw [e4]; walk_at "ev"
    rw [u1]; walk_at "ev"; walk_at "wh"; rw [u2]; walk_at "ev"; rw [u4]; walk_at "ev"
    rw [t5, t6, t7]
    exact h _
  · unfold fn__law_due
    walk_at "ev"
    refine d_word ml mb ?_
    walk_at "ev"
    refine d_word ml mb ?_
    walk_at "ev"
    refine d_set0 ?_
    walk_at "ev"
    rw [t5]
    exact h _
  · obtain ⟨e1, e2, e3, e4⟩ := ix_m ml (wd m pc)
    obtain ⟨u1, u2, u3, u4⟩ := ix_m (m := m.set ((wd m pc) % 64).toNat ((r2 * 256 + r3).fmod 256)) (by rw [List.length_set]; exact ml) ((wd m pc) + 1)
    have t6 := fmod_pos (r2 * 256 + r3) (n := 256) (by decide)
    have t7 := fdiv_pos (r2 * 256 + r3) (n := 256) (by decide)
    unfold fn__law_due
    walk_at "ev"
    refine d_word ml mb ?_
    walk_at "ev"
    refine d_pair1 b2 b3 ?_
    walk_at "ev"
    rw [e1]; walk_at "ev"; walk_at "wh"; rw [e2]; walk_at "ev"; rw [e4]; walk_at "ev"
    rw [u1]; walk_at "ev"; walk_at "wh"; rw [u2]; walk_at "ev"; rw [u4]; walk_at "ev"
    rw [t5, t6, t7]
    exact h _
  · unfold fn__law_due
    walk_at "ev"
    refine d_word ml mb ?_
    walk_at "ev"
    refine d_word ml mb ?_
    walk_at "ev"
    refine d_set1 ?_
    walk_at "ev"
    rw [t5]
    exact h _
  · obtain ⟨e1, e2, e3, e4⟩ := ix_m ml (wd m pc)
    obtain ⟨u1, u2, u3, u4⟩ := ix_m (m := m.set ((wd m pc) % 64).toNat ((r4 * 256 + r5).fmod 256)) (by rw [List.length_set]; exact ml) ((wd m pc) + 1)
    have t6 := fmod_pos (r4 * 256 + r5) (n := 256) (by decide)
    have t7 := fdiv_pos (r4 * 256 + r5) (n := 256) (by decide)
    unfold fn__law_due
    walk_at "ev"
    refine d_word ml mb ?_
    walk_at "ev"
    refine d_pair2 b4 b5 ?_
    walk_at "ev"
    rw [e1]; walk_at "ev"; walk_at "wh"; rw [e2]; walk_at "ev"; rw [e4]; walk_at "ev"
    rw [u1]; walk_at "ev"; walk_at "wh"; rw [u2]; walk_at "ev"; rw [u4]; walk_at "ev"
    rw [t5, t6, t7]
    exact h _
  · unfold fn__law_due
    walk_at "ev"
    refine d_word ml mb ?_
    walk_at "ev"
    refine d_word ml mb ?_
    walk_at "ev"
    refine d_set2 ?_
    walk_at "ev"
    rw [t5]
    exact h _
  · obtain ⟨e1, e2, e3, e4⟩ := ix_m ml (wd m pc)
    obtain ⟨u1, u2, u3, u4⟩ := ix_m (m := m.set ((wd m pc) % 64).toNat (sp.fmod 256)) (by rw [List.length_set]; exact ml) ((wd m pc) + 1)
    have t6 := fmod_pos sp (n := 256) (by decide)
    have t7 := fdiv_pos sp (n := 256) (by decide)
    unfold fn__law_due
    walk_at "ev"
    refine d_word ml mb ?_
    walk_at "ev"
    refine d_pair3  ?_
    walk_at "ev"
    rw [e1]; walk_at "ev"; walk_at "wh"; rw [e2]; walk_at "ev"; rw [e4]; walk_at "ev"
    rw [u1]; walk_at "ev"; walk_at "wh"; rw [u2]; walk_at "ev"; rw [u4]; walk_at "ev"
    rw [t5, t6, t7]
    exact h _
  · unfold fn__law_due
    walk_at "ev"
    refine d_word ml mb ?_
    walk_at "ev"
    refine d_word ml mb ?_
    walk_at "ev"
    refine d_set3 ?_
    walk_at "ev"
    rw [t5]
    exact h _
theorem d_one4 (y : Nat) (hy : y < 8) (W : Wf ⟨r0, r1, r2, r3, r4, r5, r6, r7, sp, pc, ii, rf, f1, f2, md, pt, m, outs⟩) (h0 : Byte i0) (h1 : Byte i1) (h2 : Byte i2) (ho : outs.length ≤ 1000) (hg : ∀ k, closedO 34 (g k)) (hd : OutsOK outs) (ha : OutsOK a.outs) (hb : OutsOK b.outs) (h : ∀ G', Q (.int (due1 [i0, i1, i2] y 4 ⟨r0, r1, r2, r3, r4, r5, r6, r7, sp, pc, ii, rf, f1, f2, md, pt, m, outs⟩).2) (HH g [i0, i1, i2] (due1 [i0, i1, i2] y 4 ⟨r0, r1, r2, r3, r4, r5, r6, r7, sp, pc, ii, rf, f1, f2, md, pt, m, outs⟩).1 a b G')) : fn__law_due [.obj 5, .int (64 + 8 * y + 4)] (HD g [i0, i1, i2] a b [] r0 r1 r2 r3 r4 r5 r6 r7 sp pc ii rf f1 f2 md pt m outs) Q := by
  refine wfK W fun b0 b1 b2 b3 b4 b5 b6 b7 ml mb => ?_
  have c1 := b7.1
  have c2 := b7.2
  have t5 := fmod_pos (0 - r7) (n := 256) (by decide)
  have bn : Byte ((0 - r7).fmod 256) := by rw [t5]; exact byte_lo _
  have en := neg_raw b7
  unfold negRaw at en
  revert h; refine y8 y hy ?_ ?_ ?_ ?_ ?_ ?_ ?_ ?_ <;> intro h
  · unfold fn__law_due
    walk_at "ev"
    refine d_told bn ?_
    walk_at "ev"
    rw [en, t5]
    exact h _
  · unfold fn__law_due
    walk_at "ev"
    refine d_told bn ?_
    walk_at "ev"
    rw [en, t5]
    exact h _
  · unfold fn__law_due
    walk_at "ev"
    refine d_told bn ?_
    walk_at "ev"
    rw [en, t5]
    exact h _
  · unfold fn__law_due
    walk_at "ev"
    refine d_told bn ?_
    walk_at "ev"
    rw [en, t5]
    exact h _
  · unfold fn__law_due
    walk_at "ev"
    refine d_told bn ?_
    walk_at "ev"
    rw [en, t5]
    exact h _
  · unfold fn__law_due
    walk_at "ev"
    refine d_told bn ?_
    walk_at "ev"
    rw [en, t5]
    exact h _
  · unfold fn__law_due
    walk_at "ev"
    refine d_told bn ?_
    walk_at "ev"
    rw [en, t5]
    exact h _
  · unfold fn__law_due
    walk_at "ev"
    refine d_told bn ?_
    walk_at "ev"
    rw [en, t5]
    exact h _
theorem d_one5 (y : Nat) (hy : y < 8) (W : Wf ⟨r0, r1, r2, r3, r4, r5, r6, r7, sp, pc, ii, rf, f1, f2, md, pt, m, outs⟩) (h0 : Byte i0) (h1 : Byte i1) (h2 : Byte i2) (ho : outs.length ≤ 1000) (hg : ∀ k, closedO 34 (g k)) (hd : OutsOK outs) (ha : OutsOK a.outs) (hb : OutsOK b.outs) (h : ∀ G', Q (.int (due1 [i0, i1, i2] y 5 ⟨r0, r1, r2, r3, r4, r5, r6, r7, sp, pc, ii, rf, f1, f2, md, pt, m, outs⟩).2) (HH g [i0, i1, i2] (due1 [i0, i1, i2] y 5 ⟨r0, r1, r2, r3, r4, r5, r6, r7, sp, pc, ii, rf, f1, f2, md, pt, m, outs⟩).1 a b G')) : fn__law_due [.obj 5, .int (64 + 8 * y + 5)] (HD g [i0, i1, i2] a b [] r0 r1 r2 r3 r4 r5 r6 r7 sp pc ii rf f1 f2 md pt m outs) Q := by
  refine wfK W fun b0 b1 b2 b3 b4 b5 b6 b7 ml mb => ?_
  have t5 := fmod_pos (sp + 2) (n := 65536) (by decide)
  revert h; refine y8 y hy ?_ ?_ ?_ ?_ ?_ ?_ ?_ ?_ <;> intro h
  · unfold fn__law_due
    walk_at "ev"
    refine d_word ml mb ?_
    walk_at "ev"
    rw [t5]
    exact h _
  · unfold fn__law_due
    walk_at "ev"
    refine d_word ml mb ?_
    walk_at "ev"
    rw [t5]
    exact h _
  · unfold fn__law_due
    walk_at "ev"
    refine d_word ml mb ?_
    walk_at "ev"
    rw [t5]
    exact h _
  · unfold fn__law_due
    walk_at "ev"
    refine d_word ml mb ?_
    walk_at "ev"
    rw [t5]
    exact h _
  · unfold fn__law_due
    walk_at "ev"
    refine d_word ml mb ?_
    walk_at "ev"
    rw [t5]
    exact h _
  · unfold fn__law_due
    walk_at "ev"
    refine d_word ml mb ?_
    walk_at "ev"
    rw [t5]
    exact h _
  · unfold fn__law_due
    walk_at "ev"
    refine d_word ml mb ?_
    walk_at "ev"
    rw [t5]
    exact h _
  · unfold fn__law_due
    walk_at "ev"
    refine d_word ml mb ?_
    walk_at "ev"
    rw [t5]
    exact h _
theorem d_one6 (y : Nat) (hy : y < 8) (W : Wf ⟨r0, r1, r2, r3, r4, r5, r6, r7, sp, pc, ii, rf, f1, f2, md, pt, m, outs⟩) (h0 : Byte i0) (h1 : Byte i1) (h2 : Byte i2) (ho : outs.length ≤ 1000) (hg : ∀ k, closedO 34 (g k)) (hd : OutsOK outs) (ha : OutsOK a.outs) (hb : OutsOK b.outs) (h : ∀ G', Q (.int (due1 [i0, i1, i2] y 6 ⟨r0, r1, r2, r3, r4, r5, r6, r7, sp, pc, ii, rf, f1, f2, md, pt, m, outs⟩).2) (HH g [i0, i1, i2] (due1 [i0, i1, i2] y 6 ⟨r0, r1, r2, r3, r4, r5, r6, r7, sp, pc, ii, rf, f1, f2, md, pt, m, outs⟩).1 a b G')) : fn__law_due [.obj 5, .int (64 + 8 * y + 6)] (HD g [i0, i1, i2] a b [] r0 r1 r2 r3 r4 r5 r6 r7 sp pc ii rf f1 f2 md pt m outs) Q := by
  refine wfK W fun b0 b1 b2 b3 b4 b5 b6 b7 ml mb => ?_
  revert h; refine y8 y hy ?_ ?_ ?_ ?_ ?_ ?_ ?_ ?_ <;> intro h
  · unfold fn__law_due
    walk_at "ev"
    exact h _
  · unfold fn__law_due
    walk_at "ev"
    exact h _
  · unfold fn__law_due
    walk_at "ev"
    exact h _
  · unfold fn__law_due
    walk_at "ev"
    exact h _
  · unfold fn__law_due
    walk_at "ev"
    exact h _
  · unfold fn__law_due
    walk_at "ev"
    exact h _
  · unfold fn__law_due
    walk_at "ev"
    exact h _
  · unfold fn__law_due
    walk_at "ev"
    exact h _
theorem d_one7 (y : Nat) (hy : y < 8) (W : Wf ⟨r0, r1, r2, r3, r4, r5, r6, r7, sp, pc, ii, rf, f1, f2, md, pt, m, outs⟩) (h0 : Byte i0) (h1 : Byte i1) (h2 : Byte i2) (ho : outs.length ≤ 1000) (hg : ∀ k, closedO 34 (g k)) (hd : OutsOK outs) (ha : OutsOK a.outs) (hb : OutsOK b.outs) (h : ∀ G', Q (.int (due1 [i0, i1, i2] y 7 ⟨r0, r1, r2, r3, r4, r5, r6, r7, sp, pc, ii, rf, f1, f2, md, pt, m, outs⟩).2) (HH g [i0, i1, i2] (due1 [i0, i1, i2] y 7 ⟨r0, r1, r2, r3, r4, r5, r6, r7, sp, pc, ii, rf, f1, f2, md, pt, m, outs⟩).1 a b G')) : fn__law_due [.obj 5, .int (64 + 8 * y + 7)] (HD g [i0, i1, i2] a b [] r0 r1 r2 r3 r4 r5 r6 r7 sp pc ii rf f1 f2 md pt m outs) Q := by
  refine wfK W fun b0 b1 b2 b3 b4 b5 b6 b7 ml mb => ?_
  revert h; refine y8 y hy ?_ ?_ ?_ ?_ ?_ ?_ ?_ ?_ <;> intro h
  · unfold fn__law_due
    walk_at "ev"
    refine d_spec 0 (by decide) W h0 h1 h2 ho hg hd ha hb (fun G' => ?_)
    walk_at "ev"
    exact h _
  · unfold fn__law_due
    walk_at "ev"
    refine d_spec 1 (by decide) W h0 h1 h2 ho hg hd ha hb (fun G' => ?_)
    walk_at "ev"
    exact h _
  · unfold fn__law_due
    walk_at "ev"
    refine d_spec 2 (by decide) W h0 h1 h2 ho hg hd ha hb (fun G' => ?_)
    walk_at "ev"
    exact h _
  · unfold fn__law_due
    walk_at "ev"
    refine d_spec 3 (by decide) W h0 h1 h2 ho hg hd ha hb (fun G' => ?_)
    walk_at "ev"
    exact h _
  · unfold fn__law_due
    walk_at "ev"
    refine d_spec 4 (by decide) W h0 h1 h2 ho hg hd ha hb (fun G' => ?_)
    walk_at "ev"
    exact h _
  · unfold fn__law_due
    walk_at "ev"
    refine d_spec 5 (by decide) W h0 h1 h2 ho hg hd ha hb (fun G' => ?_)
    walk_at "ev"
    exact h _
  · unfold fn__law_due
    walk_at "ev"
    refine d_spec 6 (by decide) W h0 h1 h2 ho hg hd ha hb (fun G' => ?_)
    walk_at "ev"
    exact h _
  · unfold fn__law_due
    walk_at "ev"
    refine d_spec 7 (by decide) W h0 h1 h2 ho hg hd ha hb (fun G' => ?_)
    walk_at "ev"
    exact h _
theorem d_due0 (y : Nat) (hy : 4 ≤ y) (hz : y < 8) (W : Wf ⟨r0, r1, r2, r3, r4, r5, r6, r7, sp, pc, ii, rf, f1, f2, md, pt, m, outs⟩) (h0 : Byte i0) (h1 : Byte i1) (h2 : Byte i2) (ho : outs.length ≤ 1000) (hg : ∀ k, closedO 34 (g k)) (hd : OutsOK outs) (ha : OutsOK a.outs) (hb : OutsOK b.outs) (h : ∀ G', Q (.int (blkS y (blk [i0, i1, i2] y 0 ⟨r0, r1, r2, r3, r4, r5, r6, r7, sp, pc, ii, rf, f1, f2, md, pt, m, outs⟩)).2) (HH g [i0, i1, i2] (blkS y (blk [i0, i1, i2] y 0 ⟨r0, r1, r2, r3, r4, r5, r6, r7, sp, pc, ii, rf, f1, f2, md, pt, m, outs⟩)).1 a b G')) : fn__law_due [.obj 5, .int (128 + 8 * y + 0)] (HD g [i0, i1, i2] a b [] r0 r1 r2 r3 r4 r5 r6 r7 sp pc ii rf f1 f2 md pt m outs) Q := by
  revert h; refine y47 y (by lia) ?_ ?_ ?_ ?_ <;> intro h
  · unfold fn__law_due
    walk_at "ev"
    refine d_blk04 W h0 h1 h2 ho hg hd ha hb ?_
    walk_at "ev"
    exact h _
  · unfold fn__law_due
    walk_at "ev"
    refine d_blk05 W h0 h1 h2 ho hg hd ha hb ?_
    walk_at "ev"
    exact h _
  · unfold fn__law_due
    walk_at "ev"
    refine d_blk06 W h0 h1 h2 ho hg hd ha hb ?_
    walk_at "ev"
    exact h _
  · unfold fn__law_due
    walk_at "ev"
    refine d_blk07 W h0 h1 h2 ho hg hd ha hb ?_
    walk_at "ev"
    exact h _
theorem d_due1 (y : Nat) (hy : 4 ≤ y) (hz : y < 8) (W : Wf ⟨r0, r1, r2, r3, r4, r5, r6, r7, sp, pc, ii, rf, f1, f2, md, pt, m, outs⟩) (h0 : Byte i0) (h1 : Byte i1) (h2 : Byte i2) (ho : outs.length ≤ 1000) (hg : ∀ k, closedO 34 (g k)) (hd : OutsOK outs) (ha : OutsOK a.outs) (hb : OutsOK b.outs) (h : ∀ G', Q (.int (blkS y (blk [i0, i1, i2] y 1 ⟨r0, r1, r2, r3, r4, r5, r6, r7, sp, pc, ii, rf, f1, f2, md, pt, m, outs⟩)).2) (HH g [i0, i1, i2] (blkS y (blk [i0, i1, i2] y 1 ⟨r0, r1, r2, r3, r4, r5, r6, r7, sp, pc, ii, rf, f1, f2, md, pt, m, outs⟩)).1 a b G')) : fn__law_due [.obj 5, .int (128 + 8 * y + 1)] (HD g [i0, i1, i2] a b [] r0 r1 r2 r3 r4 r5 r6 r7 sp pc ii rf f1 f2 md pt m outs) Q := by
  revert h; refine y47 y (by lia) ?_ ?_ ?_ ?_ <;> intro h
  · unfold fn__law_due
    walk_at "ev"
    refine d_blk14 W h0 h1 h2 ho hg hd ha hb ?_
    walk_at "ev"
    exact h _
  · unfold fn__law_due
    walk_at "ev"
    refine d_blk15 W h0 h1 h2 ho hg hd ha hb ?_
    walk_at "ev"
    exact h _
  · unfold fn__law_due
    walk_at "ev"
    refine d_blk16 W h0 h1 h2 ho hg hd ha hb ?_
    walk_at "ev"
    exact h _
  · unfold fn__law_due
    walk_at "ev"
    refine d_blk17 W h0 h1 h2 ho hg hd ha hb ?_
    walk_at "ev"
    exact h _
theorem d_due2 (y : Nat) (hy : 4 ≤ y) (hz : y < 8) (W : Wf ⟨r0, r1, r2, r3, r4, r5, r6, r7, sp, pc, ii, rf, f1, f2, md, pt, m, outs⟩) (h0 : Byte i0) (h1 : Byte i1) (h2 : Byte i2) (ho : outs.length ≤ 1000) (hg : ∀ k, closedO 34 (g k)) (hd : OutsOK outs) (ha : OutsOK a.outs) (hb : OutsOK b.outs) (h : ∀ G', Q (.int (blkS y (blk [i0, i1, i2] y 2 ⟨r0, r1, r2, r3, r4, r5, r6, r7, sp, pc, ii, rf, f1, f2, md, pt, m, outs⟩)).2) (HH g [i0, i1, i2] (blkS y (blk [i0, i1, i2] y 2 ⟨r0, r1, r2, r3, r4, r5, r6, r7, sp, pc, ii, rf, f1, f2, md, pt, m, outs⟩)).1 a b G')) : fn__law_due [.obj 5, .int (128 + 8 * y + 2)] (HD g [i0, i1, i2] a b [] r0 r1 r2 r3 r4 r5 r6 r7 sp pc ii rf f1 f2 md pt m outs) Q := by
  revert h; refine y47 y (by lia) ?_ ?_ ?_ ?_ <;> intro h
  · unfold fn__law_due
    walk_at "ev"
    refine d_blk24 W h0 h1 h2 ho hg hd ha hb ?_
    walk_at "ev"
    exact h _
  · unfold fn__law_due
    walk_at "ev"
    refine d_blk25 W h0 h1 h2 ho hg hd ha hb ?_
    walk_at "ev"
    exact h _
  · unfold fn__law_due
    walk_at "ev"
    refine d_blk26 W h0 h1 h2 ho hg hd ha hb ?_
    walk_at "ev"
    exact h _
  · unfold fn__law_due
    walk_at "ev"
    refine d_blk27 W h0 h1 h2 ho hg hd ha hb ?_
    walk_at "ev"
    exact h _
theorem d_due3 (y : Nat) (hy : 4 ≤ y) (hz : y < 8) (W : Wf ⟨r0, r1, r2, r3, r4, r5, r6, r7, sp, pc, ii, rf, f1, f2, md, pt, m, outs⟩) (h0 : Byte i0) (h1 : Byte i1) (h2 : Byte i2) (ho : outs.length ≤ 1000) (hg : ∀ k, closedO 34 (g k)) (hd : OutsOK outs) (ha : OutsOK a.outs) (hb : OutsOK b.outs) (h : ∀ G', Q (.int (blkS y (blk [i0, i1, i2] y 3 ⟨r0, r1, r2, r3, r4, r5, r6, r7, sp, pc, ii, rf, f1, f2, md, pt, m, outs⟩)).2) (HH g [i0, i1, i2] (blkS y (blk [i0, i1, i2] y 3 ⟨r0, r1, r2, r3, r4, r5, r6, r7, sp, pc, ii, rf, f1, f2, md, pt, m, outs⟩)).1 a b G')) : fn__law_due [.obj 5, .int (128 + 8 * y + 3)] (HD g [i0, i1, i2] a b [] r0 r1 r2 r3 r4 r5 r6 r7 sp pc ii rf f1 f2 md pt m outs) Q := by
  revert h; refine y47 y (by lia) ?_ ?_ ?_ ?_ <;> intro h
  · unfold fn__law_due
    walk_at "ev"
    refine d_blk34 W h0 h1 h2 ho hg hd ha hb ?_
    walk_at "ev"
    exact h _
  · unfold fn__law_due
    walk_at "ev"
    refine d_blk35 W h0 h1 h2 ho hg hd ha hb ?_
    walk_at "ev"
    exact h _
  · unfold fn__law_due
    walk_at "ev"
    refine d_blk36 W h0 h1 h2 ho hg hd ha hb ?_
    walk_at "ev"
    exact h _
  · unfold fn__law_due
    walk_at "ev"
    refine d_blk37 W h0 h1 h2 ho hg hd ha hb ?_
    walk_at "ev"
    exact h _
end
set_option maxHeartbeats 200000
set_option maxHeartbeats 2000000
local macro_rules | `(tactic| walk_at "nx") => `(tactic| skip)
local macro_rules | `(tactic| walk_at "nmP") => `(tactic| (walk_at "nx"; try dsimp only [initN, initL, HA, HB, HD, HH, List.map, List.replicate, List.append, List.set_cons_succ, List.set_cons_zero, List.length_cons, List.length_nil, List.cons_append, List.nil_append, Nat.reduceAdd, Nat.reduceMul, Nat.zero_add]))
local macro_rules | `(tactic| walk_at "evp") => `(tactic| (walk_at "wh"; walk_at "nmP"; repeat ((first | walk_at "st" | refine forS_c ?_ | refine forS_n ?_); walk_at "wh"; walk_at "nmP")))
section
variable {g : Nat → O} {i0 i1 i2 : Int} {ins : List Int} {d a b : St} {G : List O} {Q : V → List O → Prop}
variable {r0 r1 r2 r3 r4 r5 r6 r7 sp pc ii rf f1 f2 md pt : Int} {m : List Int} {outs : List V}
theorem guardB_s {b : Bool} {P : Prop} (hb : b = true) (h : P) : guardB b P := by rw [hb]; exact h
theorem forS_gen {t : PT} {body : PS} {dep : List O → Prop} {S I : Type} (enc : I → V) (Lo : S → List (Option V)) (He : S → List O) (stp : S → I → S) (Ok : S → Prop) (P : I → Prop) (Qr : V → List O → Prop)
    (hs : ∀ (i : I) (s : S) (Qn : List (Option V) → List O → Prop), P i → Ok s → Qn (Lo (stp s i)) (He (stp s i)) → t (enc i) (Lo s) (He s) fun L₁ H₁ => body L₁ H₁ Qn Qr)
    (ok : ∀ i s, Ok s → Ok (stp s i)) (hd : ∀ s, Ok s → dep (He s)) (Qn : List (Option V) → List O → Prop) (is : List I) : ∀ (s : S), (∀ i ∈ is, P i) → Ok s → (Ok (is.foldl stp s) → Qn (Lo (is.foldl stp s)) (He (is.foldl stp s))) → forS t body dep (is.map enc) (Lo s) (He s) Qn Qr := by
  induction is with
  | nil => exact fun s _ o h => forS_n (h o)
  | cons i r ih => exact fun s p o h => forS_c (hs i s _ (p i (List.mem_cons_self ..)) o ⟨hd _ (ok i s o), ih _ (fun j hj => p j (List.mem_cons_of_mem _ hj)) (ok i s o) h⟩)
noncomputable abbrev PlS := Option V × Option V × List V
noncomputable abbrev plOk (s : PlS) : Prop := s.2.2.length = 256
noncomputable def plE (i : Nat × V) : V := .tup [.int i.1, i.2]
theorem put_s {n : Nat} {u : List V} {P : Prop} (hn : n < u.length) (hb : n < 4611686018427387904) (h : P) : guardB (Nat.blt n 4611686018427387904) (guardB (Nat.blt n u.length) P) := by
  rw [Nat.blt_eq.mpr hb, Nat.blt_eq.mpr hn]; exact h
noncomputable def plIp : List (Nat × V) := [(0, .str 39), (1, .str 40), (2, .str 41), (3, .str 42), (4, .str 43), (5, .str 44), (6, .str 46), (7, .str 45)]
noncomputable def plSp (s : PlS) (i : Nat × V) : PlS := (some (.int i.1), some i.2, (s.2.2.set (64 + 8 * i.1) (.tup [.str 19, .tup [i.2], .int 12])).set (65 + 8 * i.1) (.tup [.str 20, .tup [i.2], .int 12]))
noncomputable def plFp (u : List V) : List V := (plIp.foldl plSp (none, none, u)).2.2
theorem pl_port_plans {o34 : O} {vs : List V} (hv : vs.length = 256) (h : (plFp vs).length = 256 → ∀ n2 : O, Q .none (HH g ins d a b [o34, .list (plFp vs), n2])) : fn_port_plans [.obj 35] (HH g ins d a b [o34, .app vs]) Q := by
  unfold fn_port_plans
  refine Box.mk ?_
  walk_at "wh"
  refine Box.mk ?_
  walk_at "wh"
  refine forS_c ?_
  walk_at "evp"
  refine guardB_s (by rw [hv]; rfl) ?_
  walk_at "evp"
  refine guardB_s (by rw [List.length_set, hv]; rfl) ?_
  walk_at "wh"
  repeat (refine Box.mk ?_; walk_at "wh")
  refine ⟨⟨_, rfl, rfl⟩, ?_⟩
  show forS _ _ (depList 36 (plIp.map Prod.snd)) (plIp.tail.map plE) [some (.obj 35), (plSp (none, none, vs) (0, .str 39)).1, (plSp (none, none, vs) (0, .str 39)).2.1, none] (HH g ins d a b [o34, .list (plSp (none, none, vs) (0, .str 39)).2.2, .app (plIp.map Prod.snd)]) _ _
  refine forS_gen plE (fun s => [some (.obj 35), s.1, s.2.1, none]) (fun s : PlS => HH g ins d a b [o34, .list s.2.2, .app (plIp.map Prod.snd)]) plSp plOk (fun i => i.1 < 8) _ ?_ ?_ ?_ _ plIp.tail (plSp (none, none, vs) (0, .str 39)) ?_ (by simpa only [plSp, plOk, List.length_set] using hv) ?_
  · intro i s Qn p o q
    unfold plE
    walk_at "evp"
    refine put_s (by lia) (by lia) ?_
    walk_at "evp"
    refine put_s (by rw [List.length_set]; lia) (by lia) ?_
    walk_at "evp"
    exact q
  · intro i s o
    simpa only [plSp, plOk, List.length_set] using o
  · exact fun s o => ⟨_, rfl, rfl⟩
  · decide
  · exact fun o => Box.mk (h o _)
noncomputable def plIq : List (Nat × V) := [(0, .str 47), (1, .str 48), (2, .str 49), (3, .str 50)]
noncomputable def plSq (s : PlS) (i : Nat × V) : PlS := (some (.int i.1), some i.2, (((s.2.2.set (66 + 16 * i.1) (.tup [.str 21, .tup [i.2], .int 15])).set (74 + 16 * i.1) (.tup [.str 22, .tup [i.2], .int 15])).set (67 + 16 * i.1) (.tup [.str 23, .tup [i.2], .int 20])).set (75 + 16 * i.1) (.tup [.str 24, .tup [i.2], .int 20]))
noncomputable def plFq (u : List V) : List V := (plIq.foldl plSq (none, none, u)).2.2
theorem pl_pair_plans {o34 n2 : O} {vs : List V} (hv : vs.length = 256) (h : (plFq vs).length = 256 → ∀ n3 : O, Q .none (HH g ins d a b [o34, .list (plFq vs), n2, n3])) : fn_pair_plans [.obj 35] (HH g ins d a b [o34, .list vs, n2]) Q := by
  unfold fn_pair_plans
  refine Box.mk ?_
  walk_at "wh"
  refine Box.mk ?_
  walk_at "wh"
  show forS _ _ (depList 37 (plIq.map Prod.snd)) (plIq.map plE) [some (.obj 35), none, none, none] (HH g ins d a b [o34, .list vs, n2, .app (plIq.map Prod.snd)]) _ _
  refine forS_gen plE (fun s => [some (.obj 35), s.1, s.2.1, none]) (fun s : PlS => HH g ins d a b [o34, .list s.2.2, n2, .app (plIq.map Prod.snd)]) plSq plOk (fun i => i.1 < 4) _ ?_ ?_ ?_ _ plIq (none, none, vs) ?_ hv ?_
  · intro i s Qn p o q
    unfold plE
    walk_at "evp"
    refine put_s (by lia) (by lia) ?_
    walk_at "evp"
    refine put_s (by rw [List.length_set]; lia) (by lia) ?_
    walk_at "evp"
    refine put_s (by rw [List.length_set, List.length_set]; lia) (by lia) ?_
    walk_at "evp"
    refine put_s (by rw [List.length_set, List.length_set, List.length_set]; lia) (by lia) ?_
    walk_at "evp"
    exact q
  · intro i s o
    simpa only [plSq, plOk, List.length_set] using o
  · exact fun s o => ⟨_, rfl, rfl⟩
  · decide
  · exact fun o => Box.mk (h o _)
theorem if_s {b : Bool} {x y : Nat} {L : List (Option V)} {H : List O} {K : V → List O → Prop} (h : K (.str (cond b x y)) H) : match (generalizing := false) b with | true => pV (.str x) L H K | false => pV (.str y) L H K := by
  cases b <;> exact h
noncomputable def plIr : List (Nat × V) := [(0, .int 0), (1, .int 0), (2, .int 1), (3, .int 2), (4, .int 0), (5, .int 0), (6, .int 1), (7, .int 2)]
noncomputable def plSr (s : PlS) (i : Nat × V) : PlS := (some (.int i.1), some i.2, ((s.2.2.set (68 + 8 * i.1) (.tup [.str 25, .tup [], .int 8])).set (69 + 8 * i.1) (.tup [.str (cond ((i.1 : Int) == 1) 26 27), .tup [], .int 14])).set (70 + 8 * i.1) (.tup [.str 28, .tup [i.2], .int 8]))
noncomputable def plIs : List (Nat × V) := [(0, .tup [.str 29, .int 9]), (1, .tup [.str 30, .int 9]), (2, .tup [.str 31, .int 9]), (3, .tup [.str 32, .int 9]), (4, .tup [.str 33, .int 18]), (5, .tup [.str 34, .int 18])]
noncomputable def plFs (v : V) : V := match v with | .tup [x, y] => .tup [x, .tup [], y] | _ => v
noncomputable def plSs (s : PlS) (i : Nat × V) : PlS := (some (.int i.1), some i.2, s.2.2.set (71 + 8 * i.1) (plFs i.2))
noncomputable def plFr (u : List V) : List V := (plIs.foldl plSs (none, none, (plIr.foldl plSr (none, none, u)).2.2)).2.2
theorem pl_plain_plans {o34 n2 n3 : O} {vs : List V} (hv : vs.length = 256) (h : (plFr vs).length = 256 → ∀ n4 n5 : O, Q .none (HH g ins d a b [o34, .list (plFr vs), n2, n3, n4, n5])) : fn_plain_plans [.obj 35] (HH g ins d a b [o34, .list vs, n2, n3]) Q := by
  unfold fn_plain_plans
  refine Box.mk ?_
  walk_at "wh"
  refine Box.mk ?_
  walk_at "wh"
  show forS _ _ (depList 38 (plIr.map Prod.snd)) (plIr.map plE) [some (.obj 35), none, none, none, none] (HH g ins d a b [o34, .list vs, n2, n3, .app (plIr.map Prod.snd)]) _ _
  refine forS_gen plE (fun s => [some (.obj 35), s.1, s.2.1, none, none]) (fun s : PlS => HH g ins d a b [o34, .list s.2.2, n2, n3, .app (plIr.map Prod.snd)]) plSr plOk (fun i => i.1 < 8) _ ?_ ?_ ?_ _ plIr (none, none, vs) ?_ hv ?_
  · intro i s Qn p o q
    unfold plE
    walk_at "evp"
    refine put_s (by lia) (by lia) ?_
    walk_at "evp"
    refine if_s ?_
    walk_at "evp"
    refine put_s (by rw [List.length_set]; lia) (by lia) ?_
    walk_at "evp"
    refine put_s (by rw [List.length_set, List.length_set]; lia) (by lia) ?_
    walk_at "evp"
    exact q
  · intro i s o
    simpa only [plSr, plOk, List.length_set] using o
  · exact fun s o => ⟨_, rfl, rfl⟩
  · decide
  rw [plFr] at h
  intro o
  generalize plIr.foldl plSr (none, none, vs) = s at o h ⊢
  obtain ⟨x, y, u⟩ := s
  refine Box.mk ?_
  walk_at "wh"
  refine Box.mk ?_
  walk_at "wh"
  show forS _ _ (depList 39 (plIs.map Prod.snd)) (plIs.map plE) [some (.obj 35), x, y, none, none] (HH g ins d a b [o34, .list u, n2, n3, .app (plIr.map Prod.snd), .app (plIs.map Prod.snd)]) _ _
  refine forS_gen plE (fun s => [some (.obj 35), s.1, y, s.2.1, none]) (fun s : PlS => HH g ins d a b [o34, .list s.2.2, n2, n3, .app (plIr.map Prod.snd), .app (plIs.map Prod.snd)]) plSs plOk (fun i => i.1 < 6 ∧ ∃ n c, i.2 = .tup [.str n, .int c]) _ ?_ ?_ ?_ _ plIs (x, none, u) ?_ o ?_
  · intro i s Qn p o q
    obtain ⟨k, w⟩ := i
    obtain ⟨p, n, c, rfl⟩ := p
    unfold plE
    walk_at "evp"
    refine put_s (by lia) (by lia) ?_
    walk_at "evp"
    exact q
  · intro i s o
    simpa only [plSs, plOk, List.length_set] using o
  · exact fun s o => ⟨_, rfl, rfl⟩
  · intro i hi
    simp only [plIs, List.mem_cons, List.not_mem_nil, or_false] at hi
    rcases hi with rfl | rfl | rfl | rfl | rfl | rfl <;> exact ⟨by decide, _, _, rfl⟩
  · exact fun o => Box.mk (h o _ _)
noncomputable def plIb : List (Nat × V) := [(0, .str 35), (1, .str 36), (2, .str 37), (3, .str 38)]
noncomputable def plSb (B : Nat) (D : Int) (R : Bool) (s : PlS) (i : Nat × V) : PlS := (some (.int i.1), some i.2, s.2.2.set (B + i.1) (.tup [i.2, .tup [.int D, .bool R], .int 16]))
noncomputable def plB (B : Nat) (D : Int) (R : Bool) (s : PlS) : PlS := plIb.foldl (plSb B D R) s
noncomputable def plFb (u : List V) : List V := (plB 184 (-1) true (plB 176 1 true (plB 168 (-1) false (plB 160 1 false (none, none, u))))).2.2
theorem pl_blk {o34 : O} {T : List O} {k : Nat} (B : Nat) (D : Int) (R : Bool) (s : PlS) {Qn : List (Option V) → List O → Prop} {Qr : V → List O → Prop} (hB : B < 200)
    (hd : ∀ u, (HH g ins d a b (o34 :: .list u :: T))[k]? = some (.app (plIb.map Prod.snd))) (hv : plOk s)
    (h : plOk (plB B D R s) → Qn [some (.obj 35), some (.int B), some (.int D), some (.bool R), (plB B D R s).1, (plB B D R s).2.1, none] (HH g ins d a b (o34 :: .list (plB B D R s).2.2 :: T))) :
    forS (tTup 2 (tsCons (tLoc 4) (tsCons (tLoc 5) tsNil))) (sCons (sAssign (pTup (plCons (pLoc 5) (plCons (pTup (plCons (pLoc 2) (plCons (pLoc 3) plNil))) (plCons (pV (.int 16)) plNil)))) (tSub (pLoc 0) (pBin .Add (pLoc 1) (pLoc 4)))) sNil)
      (depList k (plIb.map Prod.snd)) (plIb.map plE) [some (.obj 35), some (.int B), some (.int D), some (.bool R), s.1, s.2.1, none] (HH g ins d a b (o34 :: .list s.2.2 :: T)) Qn Qr := by
  refine forS_gen plE (fun s => [some (.obj 35), some (.int B), some (.int D), some (.bool R), s.1, s.2.1, none]) (fun s : PlS => HH g ins d a b (o34 :: .list s.2.2 :: T)) (plSb B D R) plOk (fun i => i.1 < 4) _ ?_ ?_ ?_ _ plIb s ?_ hv ?_
  · intro i s Qn p o q
    unfold plE
    walk_at "evp"
    refine put_s (by lia) (by lia) ?_
    walk_at "evp"
    exact q
  · intro i s o
    simpa only [plSb, plOk, List.length_set] using o
  · exact fun s o => ⟨_, hd _, rfl⟩
  · decide
  · exact h
theorem pl_block_plans {o34 n2 n3 n4 n5 : O} {vs : List V} (hv : vs.length = 256) (h : ∀ n6 n7 n8 n9 : O, Q .none (HH g ins d a b [o34, .list (plFb vs), n2, n3, n4, n5, n6, n7, n8, n9])) : fn_block_plans [.obj 35] (HH g ins d a b [o34, .list vs, n2, n3, n4, n5]) Q := by
  unfold fn_block_plans
  refine Box.mk ?_
  walk_at "wh"
  refine forS_c ?_
  walk_at "wh"
  repeat (refine Box.mk ?_; walk_at "wh")
  rw [plFb] at h
  refine pl_blk (k := 40) (T := [n2, n3, n4, n5, .app (plIb.map Prod.snd)]) 160 1 false (none, none, vs) (by decide) (fun u => rfl) hv fun o => ?_
  generalize plB 160 1 false (none, none, vs) = s1 at o h ⊢
  walk_at "wh"
  repeat (refine Box.mk ?_; walk_at "wh")
  refine ⟨trivial, forS_c ?_⟩
  walk_at "wh"
  repeat (refine Box.mk ?_; walk_at "wh")
  refine pl_blk (k := 41) (T := [n2, n3, n4, n5, .app (plIb.map Prod.snd), .app (plIb.map Prod.snd)]) 168 (-1) false s1 (by decide) (fun u => rfl) o fun o => ?_
  generalize plB 168 (-1) false s1 = s2 at o h ⊢
  walk_at "wh"
  repeat (refine Box.mk ?_; walk_at "wh")
  refine ⟨trivial, forS_c ?_⟩
  walk_at "wh"
  repeat (refine Box.mk ?_; walk_at "wh")
  refine pl_blk (k := 42) (T := [n2, n3, n4, n5, .app (plIb.map Prod.snd), .app (plIb.map Prod.snd), .app (plIb.map Prod.snd)]) 176 1 true s2 (by decide) (fun u => rfl) o fun o => ?_
  generalize plB 176 1 true s2 = s3 at o h ⊢
  walk_at "wh"
  repeat (refine Box.mk ?_; walk_at "wh")
  refine ⟨trivial, forS_c ?_⟩
  walk_at "wh"
  repeat (refine Box.mk ?_; walk_at "wh")
  refine pl_blk (k := 43) (T := [n2, n3, n4, n5, .app (plIb.map Prod.snd), .app (plIb.map Prod.snd), .app (plIb.map Prod.snd), .app (plIb.map Prod.snd)]) 184 (-1) true s3 (by decide) (fun u => rfl) o fun o => ?_
  walk_at "wh"
  repeat (refine Box.mk ?_; walk_at "wh")
  refine ⟨trivial, forS_n ?_⟩
  exact Box.mk (h _ _ _ _)
@[irreducible] noncomputable def planL : List V := plFb (plFr (plFq (plFp (List.replicate 256 [(.tup [.str 18, .tup [], .int 8])]).flatten)))
noncomputable def planOf (c : Nat) : V := cond (Nat.beq (c / 64) 1) (planA (c / 8 % 8) (c % 8)) (cond (Nat.beq (c / 64) 2 && (Nat.blt 3 (c / 8 % 8) && Nat.blt (c % 8) 4)) (planB (c / 8 % 8) (c % 8)) (.tup [.str 18, .tup [], .int 8]))
theorem pl_len : List.length (α := V) (List.replicate 256 [(.tup [.str 18, .tup [], .int 8])]).flatten = 256 := by kernel_rfl
theorem pl_ed_plans (h : ∀ n0 n2 n3 n4 n5 n6 n7 n8 n9 : O, Q (.obj 35) (HH g ins d a b [n0, .list planL, n2, n3, n4, n5, n6, n7, n8, n9])) : fn_ed_plans [] (HH g ins d a b []) Q := by
  unfold planL at h
  unfold fn_ed_plans
  walk_at "evp"
  refine pl_port_plans (vs := (List.replicate 256 [(.tup [.str 18, .tup [], .int 8])]).flatten) pl_len (fun l2 n2 => ?_)
  generalize plFp _ = u2 at l2 h ⊢
  walk_at "evp"
  refine pl_pair_plans l2 (fun l3 n3 => ?_)
  generalize plFq _ = u3 at l3 h ⊢
  walk_at "evp"
  refine pl_plain_plans l3 (fun l4 n4 n5 => ?_)
  generalize plFr _ = u4 at l4 h ⊢
  walk_at "evp"
  refine pl_block_plans l4 (fun n6 n7 n8 n9 => ?_)
  walk_at "evp"
  exact h _ _ _ _ _ _ _ _ _
theorem planL_eq : planL = (List.range 256).map planOf := by kernel_rfl
end
set_option maxHeartbeats 200000
set_option maxHeartbeats 2000000
noncomputable def ps_turn : PS := (truncS (sCons (sAssign (pSub (pLoc 3) (pV (.str 5))) (tLoc 12)) (sCons (sAssign (pCall (truncF fn__law_due) (plCons (pLoc 3) (plCons (pLoc 2) plNil))) (tLoc 13)) (sCons (sIf (bOr (bCmp .NotEq (pCall (truncF fn_do_ed) (plCons (pLoc 4) (plCons (pLoc 6) (plCons (pLoc 8) (plCons (pLoc 2) plNil))))) (pLoc 13)) (bOr (bCmp .NotEq (pCall (truncF fn_do_ed_plan) (plCons (pLoc 10) (plCons (pLoc 5) (plCons (pLoc 7) (plCons (pLoc 9) plNil))))) (pLoc 13)) bOrNil)) (sCons (sRet (pV (.bool false))) sNil) sNil) (sCons (sIf (bOr (bNeSame (pCall fn_cpu_row (plCons (pLoc 4) plNil)) (pCall fn_cpu_row (plCons (pCall fn__law_cpu (plCons (pLoc 3) plNil)) plNil))) (bOr (bNeSame (pCall fn_cpu_row (plCons (pLoc 5) plNil)) (pCall fn_cpu_row (plCons (pLoc 4) plNil))) (bOr (bNeSame (pLoc 6) (pSub (pLoc 3) (pV (.str 17)))) (bOr (bNeSame (pLoc 7) (pLoc 6)) bOrNil)))) (sCons (sRet (pV (.bool false))) sNil) sNil) (sCons (sIf (bOr (bNeSame (pTup (plCons (pAttr 52 15 (pLoc 8)) (plCons (pAttr 52 16 (pLoc 8)) plNil))) (pTup (plCons (pSub (pLoc 3) (pV (.str 15))) (plCons (pSub (pLoc 3) (pV (.str 16))) plNil)))) (bOr (bNeSame (pTup (plCons (pAttr 52 15 (pLoc 9)) (plCons (pAttr 52 16 (pLoc 9)) plNil))) (pTup (plCons (pSub (pLoc 3) (pV (.str 15))) (plCons (pSub (pLoc 3) (pV (.str 16))) plNil)))) bOrNil)) (sCons (sRet (pV (.bool false))) sNil) sNil) (sCons (sIf (bCmp .NotEq (pLoc 13) (pV (.int 21))) (sCons (sRet (pV (.bool true))) sNil) sNil) (sCons (sIf (bCmp .NotEq (pSub (pLoc 3) (pV (.str 5))) (pBin .Mod (pBin .Sub (pLoc 12) (pV (.int 2))) (pV (.int 65536)))) (sCons (sRet (pV (.bool false))) sNil) sNil) (sCons (sAssign (pTup (plCons (pLoc 12) (plCons (pLoc 12) (plCons (pLoc 12) plNil)))) (tTup 3 (tsCons (tSub (pLoc 3) (pV (.str 5))) (tsCons (tAttr 31 5 (pLoc 4)) (tsCons (tAttr 31 5 (pLoc 5)) tsNil))))) sNil)))))))))
noncomputable def LL (l : Addr) (c : Int) (plan : V) (tv av sv : Option V) : List (Option V) := [some (.raw (.ref l)), some (.obj 2), some (.int c), some (.obj 5), some (.obj 11), some (.obj 18), some (.obj 24), some (.obj 25), some (.obj 28), some (.obj 32), some plan, tv, av, sv, none, none, none, none, none, none, none, none, none, none, none]
local macro_rules | `(tactic| walk_at "nx") => `(tactic| try dsimp only [LL])
theorem row_i {args : List V} {H : List O} {Q : V → List O → Prop} (h : defN 1 2 ps_cpu_row args H Q) : fn_cpu_row args H Q := by
  unfold fn_cpu_row; exact ⟨h⟩
theorem lcpu_i {args : List V} {H : List O} {Q : V → List O → Prop} (h : defN 1 4 ps__law_cpu args H Q) : fn__law_cpu args H Q := by
  unfold fn__law_cpu; exact ⟨h⟩
theorem cinit_i {args : List V} {H : List O} {Q : V → List O → Prop} (h : defN 1 1 ps_Cpu_init args H Q) : fn_Cpu_init args H Q := by
  unfold fn_Cpu_init; exact ⟨h⟩
theorem ncpu_i {args : List V} {H : List O} {Q : V → List O → Prop} (h : newF 31 fn_Cpu_init args H Q) : nw_Cpu args H Q := by
  unfold nw_Cpu; exact ⟨h⟩
theorem outs_pairs {outs : List V} (h : OutsOK outs) : (pyPairs outs).isSome = true := by
  obtain ⟨ps, rfl⟩ := h
  induction ps with
  | nil => rfl
  | cons p r ih =>
    rw [List.map_cons]
    show (match pyPair (.tup [.int p.1, .int p.2]), pyPairs (r.map fun p : Int × Int => V.tup [.int p.1, .int p.2]) with | some d, some ds => some (d :: ds) | _, _ => none).isSome = true
    cases e : pyPairs (r.map fun p : Int × Int => V.tup [.int p.1, .int p.2]) with
    | none => rw [e] at ih; cases ih
    | some ds => rfl
section
variable {g : Nat → O} {i0 i1 i2 : Int} {s s' : St} {l : Addr} {c n tv : Int} {plan : V} {av sv : Option V} {Qn : List (Option V) → List O → Prop} {Qr : V → List O → Prop}
theorem turn (hg : ∀ k, closedO 34 (g k)) (ho : OutsOK s'.outs) (hpl : closedV 34 plan)
    (hD : ∀ Q : V → List O → Prop, Q (.int n) (HH g [i0, i1, i2] s' s s []) → truncF fn__law_due [.obj 5, .int c] (HH g [i0, i1, i2] s s s []) Q)
    (hA : ∀ Q : V → List O → Prop, Q (.int n) (HH g [i0, i1, i2] s' s' s []) → truncF fn_do_ed [.obj 11, .obj 24, .obj 28, .int c] (HH g [i0, i1, i2] s' s s []) Q)
    (hB : ∀ Q : V → List O → Prop, Q (.int n) (HH g [i0, i1, i2] s' s' s' []) → truncF fn_do_ed_plan [plan, .obj 18, .obj 25, .obj 32] (HH g [i0, i1, i2] s' s' s []) Q)
    (hpc : n = 21 → s'.pc = (s.pc - 2) % 65536)
    (hret : ∀ H', Qr (.bool true) H')
    (hnext : n = 21 → Qn (LL l c plan (some (.int tv)) (some (.int s.pc)) (some (.int n))) (HH g [i0, i1, i2] { s' with pc := s.pc } { s' with pc := s.pc } { s' with pc := s.pc } [])) :
    ps_turn (LL l c plan (some (.int tv)) av sv) (HH g [i0, i1, i2] s s s []) Qn Qr := by
  have hp := outs_pairs ho
  have bs : (n != n) = false := bne_self_eq_false n
  unfold ps_turn
  walk_at "evp"
  refine hD _ ?_
  walk_at "evp"
  refine hA _ ?_
  walk_at "evp"
  rw [bs]
  walk_at "evp"
  refine hB _ ?_
  walk_at "evp"
  rw [bs]
  walk_at "evp"
  refine row_i ?_
  walk_at "evp"
  refine lcpu_i ?_
  walk_at "evp"
  refine ncpu_i ?_
  walk_at "evp"
  refine cinit_i ?_
  walk_at "evp"
  refine row_i ?_
  walk_at "evp"
  refine row_i ?_
  walk_at "evp"
  refine row_i ?_
  walk_at "evp"
  refine And.intro ⟨rfl, _, rfl, rfl, hp⟩ ?_
  walk_at "evp"
  refine And.intro ⟨rfl, _, rfl, rfl, hp⟩ ?_
  walk_at "evp"
  by_cases hn : n = 21
  · rw [show (n != 21) = false by rw [hn]; rfl]
    walk_at "evp"
    rw [show (s'.pc != (s.pc - 2).fmod 65536) = false by rw [hpc hn, fmod_pos _ (by decide)]; exact bne_self_eq_false _]
    walk_at "evp"
    refine And.intro ?_ ?_
    · exact ⟨trivial, (by decide : 2 < 34), trivial, (by decide : 5 < 34), (by decide : 11 < 34), (by decide : 18 < 34), (by decide : 24 < 34), (by decide : 25 < 34), (by decide : 28 < 34), (by decide : 32 < 34), hpl, trivial, trivial, trivial, trivial⟩
    · refine And.intro ?_ ?_
      · exact clo_HH (ins := [i0, i1, i2]) (d := { s' with pc := s.pc }) (a := { s' with pc := s.pc }) (b := { s' with pc := s.pc }) hg ho ho ho
      · exact hnext hn
  · rw [show (n != 21) = true by simp [hn]]
    walk_at "evp"
    exact hret _
end
set_option maxHeartbeats 200000
set_option maxHeartbeats 2000000
theorem told_le {v : Int} (hv : Byte v) : 0 ≤ told v ∧ told v ≤ 168 := byte_all (P := fun v => 0 ≤ told v ∧ told v ≤ 168) (by decide +kernel) hv
theorem par_le (v : Int) : 0 ≤ par v ∧ par v ≤ 4 := by
  obtain ⟨p, hp⟩ := par_cond v
  rw [hp]
  cases p <;> decide
theorem and40 (v : Int) : 0 ≤ Builtin.bitAnd v 40 ∧ Builtin.bitAnd v 40 ≤ 40 := bitAnd_range v (by decide)
theorem and193 (v : Int) : 0 ≤ Builtin.bitAnd v 193 ∧ Builtin.bitAnd v 193 ≤ 193 := bitAnd_range v (by decide)
theorem ite_le (p : Prop) [Decidable p] (x : Int) (hx : 0 ≤ x) : 0 ≤ (if p then x else 0) ∧ (if p then x else 0) ≤ x := by split <;> lia
theorem ite_le' (p : Prop) [Decidable p] (x : Int) (hx : 0 ≤ x) : 0 ≤ (if p then 0 else x) ∧ (if p then 0 else x) ≤ x := by split <;> lia
theorem neg_byte {a : Int} (ha : Byte a) : Byte (negF a) := byte_all (P := fun a => Byte (negF a)) (by unfold Byte; decide +kernel) ha
theorem in_byte {v f : Int} (hv : Byte v) : Byte (told v + par v + f % 2) := by
  have := told_le hv; have := par_le v; unfold Byte; lia
theorem load_byte {v f i : Int} (hv : Byte v) (hi : i = 0 ∨ i = 1) : Byte (told v + 4 * i + f % 2) := by
  have := told_le hv; unfold Byte; lia
theorem move_byte (a o left f : Int) : Byte (moveF a o left f) := by
  have := and193 f; have := ite_le (left > 0) 4 (by decide); unfold moveF Byte; lia
theorem seek_byte (a o left f : Int) : Byte (seekF a o left f) := by
  have h1 := ite_le (left > 0) 4 (by decide)
  have h2 := ite_le (a % 16 < o % 16) 16 (by decide)
  have h3 : 0 ≤ Builtin.bitAnd ((a - o) % 256) 128 + (if (a - o) % 256 = 0 then 64 else 0) ∧ Builtin.bitAnd ((a - o) % 256) 128 + (if (a - o) % 256 = 0 then 64 else 0) ≤ 128 :=
    byte_all (P := fun r => 0 ≤ Builtin.bitAnd r 128 + (if r = 0 then 64 else 0) ∧ Builtin.bitAnd r 128 + (if r = 0 then 64 else 0) ≤ 128) (by decide +kernel) (byte_lo (a - o))
  unfold seekF Byte
  generalize (if left > 0 then (4 : Int) else 0) = p1 at *
  generalize (if a % 16 < o % 16 then (16 : Int) else 0) = p2 at *
  generalize Builtin.bitAnd ((a - o) % 256) 128 = p3 at *
  generalize (if (a - o) % 256 = 0 then (64 : Int) else 0) = p4 at *
  lia
theorem port_byte {o left : Int} (w : Int) (ho : Byte o) (hl : Byte left) : Byte (portF o w left) := by
  have h1 := told_le hl; have h2 := par_le (Builtin.bitXor ((o + w) % 8) left); have h3 := ite_le (o + w > 255) 17 (by decide)
  have := ho.1; have := ho.2
  unfold portF Byte; omega
theorem add_byte (x y c s : Int) : Byte (addF x y c s) := by
  unfold addF
  dsimp only
  have h0 : 0 ≤ (x + s * (y + c)) % 65536 ∧ (x + s * (y + c)) % 65536 < 65536 := by lia
  generalize (x + s * (y + c)) % 65536 = v at *
  have h1 := and40 (v / 256)
  have h2 := ite_le (v = 0) 64 (by decide)
  have h3 := ite_le' (s = 1) 2 (by decide)
  have h4 := ite_le' (0 ≤ x % 4096 + s * (y % 4096 + c) ∧ x % 4096 + s * (y % 4096 + c) < 4096) 16 (by decide)
  have h5 := ite_le' (-32768 ≤ sgn x + s * (sgn y + c) ∧ sgn x + s * (sgn y + c) < 32768) 4 (by decide)
  have h6 := ite_le' (x + s * (y + c) = v) 1 (by decide)
  unfold Byte
  generalize Builtin.bitAnd (v / 256) 40 = p1 at *
  generalize (if v = 0 then (64 : Int) else 0) = p2 at *
  generalize (if s = 1 then (0 : Int) else 2) = p3 at *
  generalize (if 0 ≤ x % 4096 + s * (y % 4096 + c) ∧ x % 4096 + s * (y % 4096 + c) < 4096 then (0 : Int) else 16) = p4 at *
  generalize (if -32768 ≤ sgn x + s * (sgn y + c) ∧ sgn x + s * (sgn y + c) < 32768 then (0 : Int) else 4) = p5 at *
  generalize (if x + s * (y + c) = v then (0 : Int) else 1) = p6 at *
  lia
theorem wd_word {m : List Int} (hm : m.length = 64) (hb : AllB m) (x : Int) : Word (wd m x) := by
  have h1 := mg_byte hm hb x; have h2 := mg_byte hm hb (x + 1)
  have := h1.1; have := h1.2; have := h2.1; have := h2.2
  unfold Word wd; lia
theorem rd_byte1 {a v : Int} (ha : Byte a) (hv : Byte v) : Byte (a / 16 * 16 + v % 16) := by have := ha.1; have := ha.2; have := hv.1; have := hv.2; unfold Byte; lia
theorem rd_byte2 {a v : Int} (ha : Byte a) (hv : Byte v) : Byte (a % 16 * 16 + v / 16) := by have := ha.1; have := ha.2; have := hv.1; have := hv.2; unfold Byte; lia
theorem rd_byte3 {a v : Int} (ha : Byte a) (hv : Byte v) : Byte (a / 16 * 16 + v / 16) := by have := ha.1; have := ha.2; have := hv.1; have := hv.2; unfold Byte; lia
theorem rd_byte4 {a v : Int} (ha : Byte a) (hv : Byte v) : Byte (v % 16 * 16 + a % 16) := by have := ha.1; have := ha.2; have := hv.1; have := hv.2; unfold Byte; lia
theorem word_mod (x : Int) : Word (x % 65536) := by unfold Word; lia
theorem word_hi1 {v : Int} (h : Word v) : Byte (v / 256) := by have := h.1; have := h.2; unfold Byte; lia
theorem getP_word {s : St} (W : Wf s) : ∀ p : Nat, Word (getP s p)
  | 0 => word_hi W.b0 W.b1
  | 1 => word_hi W.b2 W.b3
  | 2 => word_hi W.b4 W.b5
  | _ + 3 => W.wsp
theorem Wf.pc {s : St} (W : Wf s) {p : Int} (h : Word p) : Wf { s with pc := p } := ⟨W.b0, W.b1, W.b2, W.b3, W.b4, W.b5, W.b6, W.b7, W.wsp, h, W.bi, W.bf, W.i2, W.ml, W.mb⟩
theorem Wf.setR {s : St} (W : Wf s) {v : Int} (h : Byte v) : ∀ y : Nat, Wf (setR s v y)
  | 0 => ⟨h, W.b1, W.b2, W.b3, W.b4, W.b5, W.b6, W.b7, W.wsp, W.wpc, W.bi, W.bf, W.i2, W.ml, W.mb⟩
  | 1 => ⟨W.b0, h, W.b2, W.b3, W.b4, W.b5, W.b6, W.b7, W.wsp, W.wpc, W.bi, W.bf, W.i2, W.ml, W.mb⟩
  | 2 => ⟨W.b0, W.b1, h, W.b3, W.b4, W.b5, W.b6, W.b7, W.wsp, W.wpc, W.bi, W.bf, W.i2, W.ml, W.mb⟩
  | 3 => ⟨W.b0, W.b1, W.b2, h, W.b4, W.b5, W.b6, W.b7, W.wsp, W.wpc, W.bi, W.bf, W.i2, W.ml, W.mb⟩
  | 4 => ⟨W.b0, W.b1, W.b2, W.b3, h, W.b5, W.b6, W.b7, W.wsp, W.wpc, W.bi, W.bf, W.i2, W.ml, W.mb⟩
  | 5 => ⟨W.b0, W.b1, W.b2, W.b3, W.b4, h, W.b6, W.b7, W.wsp, W.wpc, W.bi, W.bf, W.i2, W.ml, W.mb⟩
  | 6 => W
  | _ + 7 => ⟨W.b0, W.b1, W.b2, W.b3, W.b4, W.b5, W.b6, h, W.wsp, W.wpc, W.bi, W.bf, W.i2, W.ml, W.mb⟩
theorem Wf.setP {s : St} (W : Wf s) {v : Int} : ∀ p : Nat, Wf (setP s v p)
  | 0 => ⟨byte_hi _, byte_lo _, W.b2, W.b3, W.b4, W.b5, W.b6, W.b7, W.wsp, W.wpc, W.bi, W.bf, W.i2, W.ml, W.mb⟩
  | 1 => ⟨W.b0, W.b1, byte_hi _, byte_lo _, W.b4, W.b5, W.b6, W.b7, W.wsp, W.wpc, W.bi, W.bf, W.i2, W.ml, W.mb⟩
  | 2 => ⟨W.b0, W.b1, W.b2, W.b3, byte_hi _, byte_lo _, W.b6, W.b7, W.wsp, W.wpc, W.bi, W.bf, W.i2, W.ml, W.mb⟩
  | _ + 3 => ⟨W.b0, W.b1, W.b2, W.b3, W.b4, W.b5, W.b6, W.b7, word_mod _, W.wpc, W.bi, W.bf, W.i2, W.ml, W.mb⟩
theorem Wf.r6 {s : St} (W : Wf s) {v : Int} (h : Byte v) : Wf { s with r6 := v } := ⟨W.b0, W.b1, W.b2, W.b3, W.b4, W.b5, h, W.b7, W.wsp, W.wpc, W.bi, W.bf, W.i2, W.ml, W.mb⟩
theorem Wf.r7 {s : St} (W : Wf s) {v : Int} (h : Byte v) : Wf { s with r7 := v } := ⟨W.b0, W.b1, W.b2, W.b3, W.b4, W.b5, W.b6, h, W.wsp, W.wpc, W.bi, W.bf, W.i2, W.ml, W.mb⟩
theorem Wf.mem {s : St} (W : Wf s) {x v : Int} (h : Byte v) : Wf { s with m := ms s.m x v } := ⟨W.b0, W.b1, W.b2, W.b3, W.b4, W.b5, W.b6, W.b7, W.wsp, W.wpc, W.bi, W.bf, W.i2, ms_len.trans W.ml, ms_byte W.mb h⟩
section
variable {i0 i1 i2 : Int} {s : St}
theorem wf_in (h0 : Byte i0) (h1 : Byte i1) (h2 : Byte i2) (W : Wf s) (y : Nat) : Wf (dueIn [i0, i1, i2] y s) := by
  have bi := ig_byte h0 h1 h2 s.pt
  exact Wf.setR (s := { s with pt := s.pt + 1, r6 := _ }) ⟨W.b0, W.b1, W.b2, W.b3, W.b4, W.b5, in_byte bi, W.b7, W.wsp, W.wpc, W.bi, W.bf, W.i2, W.ml, W.mb⟩ bi y
theorem wf_out (W : Wf s) (y : Nat) : Wf (dueOut y s) := ⟨W.b0, W.b1, W.b2, W.b3, W.b4, W.b5, W.b6, W.b7, W.wsp, W.wpc, W.bi, W.bf, W.i2, W.ml, W.mb⟩
theorem wf_sum (W : Wf s) (y : Nat) : Wf (dueSum y s) := by
  unfold dueSum
  cases odd y
  · exact (Wf.setP W 2).r6 (add_byte _ _ _ _)
  · exact (Wf.setP W 2).r6 (add_byte _ _ _ _)
theorem wf_load (W : Wf s) (y : Nat) : Wf (dueLoad y s) := by
  unfold dueLoad
  cases odd y
  · have h := getP_word W (half y)
    exact Wf.mem (s := { s with pc := (s.pc + 2) % 65536, m := ms s.m (wd s.m s.pc) (getP s (half y) % 256) }) (Wf.mem (s := { s with pc := (s.pc + 2) % 65536 }) (W.pc (word_mod _)) (byte_lo _)) (word_hi1 h)
  · exact Wf.setP (W.pc (word_mod _)) _
theorem wf_neg (W : Wf s) : Wf (dueNeg s) := ⟨W.b0, W.b1, W.b2, W.b3, W.b4, W.b5, neg_byte W.b7, byte_lo _, W.wsp, W.wpc, W.bi, W.bf, W.i2, W.ml, W.mb⟩
theorem wf_ret (W : Wf s) : Wf (dueRet s) := ⟨W.b0, W.b1, W.b2, W.b3, W.b4, W.b5, W.b6, W.b7, word_mod _, wd_word W.ml W.mb _, W.bi, W.bf, W.i2, W.ml, W.mb⟩
theorem wf_im (W : Wf s) (y : Nat) (hy : y < 8) : Wf (dueIm y s) := by
  rcases (by lia : y = 0 ∨ y = 1 ∨ y = 2 ∨ y = 3 ∨ y = 4 ∨ y = 5 ∨ y = 6 ∨ y = 7) with rfl | rfl | rfl | rfl | rfl | rfl | rfl | rfl
  all_goals exact ⟨W.b0, W.b1, W.b2, W.b3, W.b4, W.b5, W.b6, W.b7, W.wsp, W.wpc, W.bi, W.bf, W.i2, W.ml, W.mb⟩
theorem wf_spec (W : Wf s) (y : Nat) (hy : y < 8) : Wf (dueSpec y s) := by
  have bm := mg_byte W.ml W.mb (s.r4 * 256 + s.r5)
  rcases (by lia : y = 0 ∨ y = 1 ∨ y = 2 ∨ y = 3 ∨ y = 4 ∨ y = 5 ∨ y = 6 ∨ y = 7) with rfl | rfl | rfl | rfl | rfl | rfl | rfl | rfl
  · exact ⟨W.b0, W.b1, W.b2, W.b3, W.b4, W.b5, W.b6, W.b7, W.wsp, W.wpc, W.b7, W.bf, W.i2, W.ml, W.mb⟩
  · exact ⟨W.b0, W.b1, W.b2, W.b3, W.b4, W.b5, W.b6, W.b7, W.wsp, W.wpc, W.bi, W.b7, W.i2, W.ml, W.mb⟩
  · exact ⟨W.b0, W.b1, W.b2, W.b3, W.b4, W.b5, load_byte W.bi W.i2, W.bi, W.wsp, W.wpc, W.bi, W.bf, W.i2, W.ml, W.mb⟩
  · exact ⟨W.b0, W.b1, W.b2, W.b3, W.b4, W.b5, load_byte W.bf W.i2, W.bf, W.wsp, W.wpc, W.bi, W.bf, W.i2, W.ml, W.mb⟩
  · exact ⟨W.b0, W.b1, W.b2, W.b3, W.b4, W.b5, in_byte (rd_byte1 W.b7 bm), rd_byte1 W.b7 bm, W.wsp, W.wpc, W.bi, W.bf, W.i2, ms_len.trans W.ml, ms_byte W.mb (rd_byte2 W.b7 bm)⟩
  · exact ⟨W.b0, W.b1, W.b2, W.b3, W.b4, W.b5, in_byte (rd_byte3 W.b7 bm), rd_byte3 W.b7 bm, W.wsp, W.wpc, W.bi, W.bf, W.i2, ms_len.trans W.ml, ms_byte W.mb (rd_byte4 W.b7 bm)⟩
  · exact W
  · exact W
theorem wf_blk (h0 : Byte i0) (h1 : Byte i1) (h2 : Byte i2) (W : Wf s) (y z : Nat) (hz : z < 4) : Wf (blk [i0, i1, i2] y z s).1 := by
  have bm := mg_byte W.ml W.mb (s.r4 * 256 + s.r5)
  have bi := ig_byte h0 h1 h2 s.pt
  rcases (by lia : z = 0 ∨ z = 1 ∨ z = 2 ∨ z = 3) with rfl | rfl | rfl | rfl
  · exact ⟨byte_hi _, byte_lo _, byte_hi _, byte_lo _, byte_hi _, byte_lo _, move_byte _ _ _ _, W.b7, W.wsp, W.wpc, W.bi, W.bf, W.i2, ms_len.trans W.ml, ms_byte W.mb bm⟩
  · exact ⟨byte_hi _, byte_lo _, W.b2, W.b3, byte_hi _, byte_lo _, seek_byte _ _ _ _, W.b7, W.wsp, W.wpc, W.bi, W.bf, W.i2, W.ml, W.mb⟩
  · exact ⟨byte_lo _, W.b1, W.b2, W.b3, byte_hi _, byte_lo _, port_byte _ bi (byte_lo _), W.b7, W.wsp, W.wpc, W.bi, W.bf, W.i2, ms_len.trans W.ml, ms_byte W.mb bi⟩
  · exact ⟨byte_lo _, W.b1, W.b2, W.b3, byte_hi _, byte_lo _, port_byte _ bm (byte_lo _), W.b7, W.wsp, W.wpc, W.bi, W.bf, W.i2, W.ml, W.mb⟩
theorem wf_due1 (h0 : Byte i0) (h1 : Byte i1) (h2 : Byte i2) (W : Wf s) (y z : Nat) (hy : y < 8) (hz : z < 8) : Wf (due1 [i0, i1, i2] y z s).1 := by
  rcases (by lia : z = 0 ∨ z = 1 ∨ z = 2 ∨ z = 3 ∨ z = 4 ∨ z = 5 ∨ z = 6 ∨ z = 7) with rfl | rfl | rfl | rfl | rfl | rfl | rfl | rfl
  · exact wf_in h0 h1 h2 W y
  · exact wf_out W y
  · exact wf_sum W y
  · exact wf_load W y
  · exact wf_neg W
  · exact wf_ret W
  · exact wf_im W y hy
  · exact wf_spec W y hy
theorem wf_blkS {p : St × Bool} (W : Wf p.1) (y : Nat) : Wf (blkS y p).1 := by
  unfold blkS
  split
  · split
    · exact W.pc (word_mod _)
    · exact W
  · split
    · exact W.pc (word_mod _)
    · exact W
  · exact W
theorem setR_outs (s : St) (v : Int) : ∀ y : Nat, (setR s v y).outs = s.outs
  | 0 => rfl
  | 1 => rfl
  | 2 => rfl
  | 3 => rfl
  | 4 => rfl
  | 5 => rfl
  | 6 => rfl
  | _ + 7 => rfl
theorem setP_outs (s : St) (v : Int) : ∀ y : Nat, (setP s v y).outs = s.outs
  | 0 => rfl
  | 1 => rfl
  | 2 => rfl
  | _ + 3 => rfl
noncomputable def More (s s' : St) : Prop := s'.outs = s.outs ∨ ∃ x y : Int, s'.outs = s.outs ++ [.tup [.int x, .int y]]
theorem More.ok {s s' : St} (h : More s s') (ho : OutsOK s.outs) : OutsOK s'.outs := by
  rcases h with h | ⟨x, y, h⟩
  · rw [h]; exact ho
  · rw [h]; exact outs_snoc ho x y
theorem More.len {s s' : St} (h : More s s') : s'.outs.length ≤ s.outs.length + 1 := by
  rcases h with h | ⟨x, y, h⟩ <;> rw [h]
  · lia
  · simp
theorem more_due1 (ins : List Int) (y z : Nat) (hy : y < 8) (hz : z < 8) : More s (due1 ins y z s).1 := by
  rcases (by lia : z = 0 ∨ z = 1 ∨ z = 2 ∨ z = 3 ∨ z = 4 ∨ z = 5 ∨ z = 6 ∨ z = 7) with rfl | rfl | rfl | rfl | rfl | rfl | rfl | rfl
  · exact .inl (setR_outs _ _ y)
  · exact .inr ⟨_, _, rfl⟩
  · refine .inl ?_
    show (dueSum y s).outs = _
    unfold dueSum
    cases odd y <;> rfl
  · refine .inl ?_
    show (dueLoad y s).outs = _
    unfold dueLoad
    cases odd y
    · rfl
    · exact setP_outs _ _ _
  · exact .inl rfl
  · exact .inl rfl
  · refine .inl ?_
    rcases (by lia : y = 0 ∨ y = 1 ∨ y = 2 ∨ y = 3 ∨ y = 4 ∨ y = 5 ∨ y = 6 ∨ y = 7) with rfl | rfl | rfl | rfl | rfl | rfl | rfl | rfl <;> rfl
  · refine .inl ?_
    rcases (by lia : y = 0 ∨ y = 1 ∨ y = 2 ∨ y = 3 ∨ y = 4 ∨ y = 5 ∨ y = 6 ∨ y = 7) with rfl | rfl | rfl | rfl | rfl | rfl | rfl | rfl <;> rfl
theorem blkS_outs (p : St × Bool) (y : Nat) : (blkS y p).1.outs = p.1.outs := by
  unfold blkS
  split
  · split <;> rfl
  · split <;> rfl
  · rfl
theorem more_blk (ins : List Int) (y z : Nat) (hz : z < 4) : More s (blkS y (blk ins y z s)).1 := by
  unfold More
  rw [blkS_outs]
  rcases (by lia : z = 0 ∨ z = 1 ∨ z = 2 ∨ z = 3) with rfl | rfl | rfl | rfl
  · exact .inl rfl
  · exact .inl rfl
  · exact .inl rfl
  · exact .inr ⟨_, _, rfl⟩
theorem due1_no21 (ins : List Int) (y z : Nat) (hy : y < 8) (hz : z < 8) : (due1 ins y z s).2 ≠ 21 := by
  rcases (by lia : z = 0 ∨ z = 1 ∨ z = 2 ∨ z = 3 ∨ z = 4 ∨ z = 5 ∨ z = 6 ∨ z = 7) with rfl | rfl | rfl | rfl | rfl | rfl | rfl | rfl
  · exact (by decide : (12 : Int) ≠ 21)
  · exact (by decide : (12 : Int) ≠ 21)
  · exact (by decide : (15 : Int) ≠ 21)
  · exact (by decide : (20 : Int) ≠ 21)
  · exact (by decide : (8 : Int) ≠ 21)
  · exact (by decide : (14 : Int) ≠ 21)
  · exact (by decide : (8 : Int) ≠ 21)
  · rcases (by lia : y = 0 ∨ y = 1 ∨ y = 2 ∨ y = 3 ∨ y = 4 ∨ y = 5 ∨ y = 6 ∨ y = 7) with rfl | rfl | rfl | rfl | rfl | rfl | rfl | rfl
    all_goals first | exact (by decide : (9 : Int) ≠ 21) | exact (by decide : (18 : Int) ≠ 21) | exact (by decide : (8 : Int) ≠ 21)
theorem blkS_21 {p : St × Bool} (y : Nat) (hy : 4 ≤ y) (hz : y < 8) (h : (blkS y p).2 = 21) : (blkS y p).1.pc = (p.1.pc - 2) % 65536 := by
  rcases (by lia : y = 4 ∨ y = 5 ∨ y = 6 ∨ y = 7) with rfl | rfl | rfl | rfl
  · exact absurd (show (16 : Int) = 21 from h) (by decide)
  · exact absurd (show (16 : Int) = 21 from h) (by decide)
  · cases e : p.2
    · rw [blkS6f e] at h; exact absurd (show (16 : Int) = 21 from h) (by decide)
    · rw [blkS6t e]
  · cases e : p.2
    · rw [blkS7f e] at h; exact absurd (show (16 : Int) = 21 from h) (by decide)
    · rw [blkS7t e]
theorem blk_pc (ins : List Int) (y z : Nat) (hz : z < 4) : (blk ins y z s).1.pc = s.pc := by
  rcases (by lia : z = 0 ∨ z = 1 ∨ z = 2 ∨ z = 3) with rfl | rfl | rfl | rfl <;> rfl
end
noncomputable def Du (g : Nat → O) (i0 i1 i2 c : Int) (plan : V) : Prop := ∀ s : St, Wf s → OutsOK s.outs → s.outs.length ≤ 900 → ∃ (s' : St) (n : Int), Wf s' ∧ More s s' ∧
  (∀ Q : V → List O → Prop, Q (.int n) (HH g [i0, i1, i2] s' s s []) → truncF fn__law_due [.obj 5, .int c] (HH g [i0, i1, i2] s s s []) Q) ∧
  (∀ Q : V → List O → Prop, Q (.int n) (HH g [i0, i1, i2] s' s' s []) → truncF fn_do_ed [.obj 11, .obj 24, .obj 28, .int c] (HH g [i0, i1, i2] s' s s []) Q) ∧
  (∀ Q : V → List O → Prop, Q (.int n) (HH g [i0, i1, i2] s' s' s' []) → truncF fn_do_ed_plan [plan, .obj 18, .obj 25, .obj 32] (HH g [i0, i1, i2] s' s' s []) Q) ∧
  (n = 21 → s'.pc = (s.pc - 2) % 65536)
section
variable {g : Nat → O} {i0 i1 i2 : Int} {s s' : St} {n : Int} {args : List V} {f : PF}
theorem cutD (hg : ∀ k, closedO 34 (g k)) (ho : OutsOK s.outs) (ho' : OutsOK s'.outs)
    (h : ∀ Q : V → List O → Prop, (∀ G', Q (.int n) (HH g [i0, i1, i2] s' s s G')) → f args (HH g [i0, i1, i2] s s s []) Q) (Q : V → List O → Prop) (hq : Q (.int n) (HH g [i0, i1, i2] s' s s [])) :
    truncF f args (HH g [i0, i1, i2] s s s []) Q := by
  unfold truncF
  exact h _ fun G' => ⟨trivial, clo_HH hg ho' ho ho, hq⟩
theorem cutA (hg : ∀ k, closedO 34 (g k)) (ho : OutsOK s.outs) (ho' : OutsOK s'.outs)
    (h : ∀ Q : V → List O → Prop, Q (.int n) (HH g [i0, i1, i2] s' s' s []) → f args (HH g [i0, i1, i2] s' s s []) Q) (Q : V → List O → Prop) (hq : Q (.int n) (HH g [i0, i1, i2] s' s' s [])) :
    truncF f args (HH g [i0, i1, i2] s' s s []) Q := by
  unfold truncF
  exact h _ ⟨trivial, clo_HH hg ho' ho' ho, hq⟩
theorem cutB (hg : ∀ k, closedO 34 (g k)) (ho : OutsOK s.outs) (ho' : OutsOK s'.outs)
    (h : ∀ Q : V → List O → Prop, Q (.int n) (HH g [i0, i1, i2] s' s' s' []) → f args (HH g [i0, i1, i2] s' s' s []) Q) (Q : V → List O → Prop) (hq : Q (.int n) (HH g [i0, i1, i2] s' s' s' [])) :
    truncF f args (HH g [i0, i1, i2] s' s' s []) Q := by
  unfold truncF
  exact h _ ⟨trivial, clo_HH hg ho' ho' ho', hq⟩
theorem du1_0 (hg : ∀ k, closedO 34 (g k)) (h0 : Byte i0) (h1 : Byte i1) (h2 : Byte i2) (y : Nat) (hy : y < 8) : Du g i0 i1 i2 (64 + 8 * y + 0) (planA y 0) := fun s W ho hl =>
  have M : More s (due1 [i0, i1, i2] y 0 s).1 := more_due1 _ y 0 hy (by decide)
  ⟨(due1 [i0, i1, i2] y 0 s).1, (due1 [i0, i1, i2] y 0 s).2, wf_due1 h0 h1 h2 W y 0 hy (by decide), M,
    cutD hg ho (M.ok ho) (fun Q h => d_one0 y hy W h0 h1 h2 (by lia) hg ho ho ho h),
    cutA hg ho (M.ok ho) (fun Q h => a_one0 y hy W h0 h1 h2 (by lia) h),
    cutB hg ho (M.ok ho) (fun Q h => b_one0 y hy W h0 h1 h2 (by lia) h), fun e => absurd e (due1_no21 _ y 0 hy (by decide))⟩
theorem du1_1 (hg : ∀ k, closedO 34 (g k)) (h0 : Byte i0) (h1 : Byte i1) (h2 : Byte i2) (y : Nat) (hy : y < 8) : Du g i0 i1 i2 (64 + 8 * y + 1) (planA y 1) := fun s W ho hl =>
  have M : More s (due1 [i0, i1, i2] y 1 s).1 := more_due1 _ y 1 hy (by decide)
  ⟨(due1 [i0, i1, i2] y 1 s).1, (due1 [i0, i1, i2] y 1 s).2, wf_due1 h0 h1 h2 W y 1 hy (by decide), M,
    cutD hg ho (M.ok ho) (fun Q h => d_one1 y hy W h0 h1 h2 (by lia) hg ho ho ho h),
    cutA hg ho (M.ok ho) (fun Q h => a_one1 y hy W h0 h1 h2 (by lia) h),
    cutB hg ho (M.ok ho) (fun Q h => b_one1 y hy W h0 h1 h2 (by lia) h), fun e => absurd e (due1_no21 _ y 1 hy (by decide))⟩
theorem du1_2 (hg : ∀ k, closedO 34 (g k)) (h0 : Byte i0) (h1 : Byte i1) (h2 : Byte i2) (y : Nat) (hy : y < 8) : Du g i0 i1 i2 (64 + 8 * y + 2) (planA y 2) := fun s W ho hl =>
  have M : More s (due1 [i0, i1, i2] y 2 s).1 := more_due1 _ y 2 hy (by decide)
  ⟨(due1 [i0, i1, i2] y 2 s).1, (due1 [i0, i1, i2] y 2 s).2, wf_due1 h0 h1 h2 W y 2 hy (by decide), M,
    cutD hg ho (M.ok ho) (fun Q h => d_one2 y hy W h0 h1 h2 (by lia) hg ho ho ho h),
    cutA hg ho (M.ok ho) (fun Q h => a_one2 y hy W h0 h1 h2 (by lia) h),
    cutB hg ho (M.ok ho) (fun Q h => b_one2 y hy W h0 h1 h2 (by lia) h), fun e => absurd e (due1_no21 _ y 2 hy (by decide))⟩
theorem du1_3 (hg : ∀ k, closedO 34 (g k)) (h0 : Byte i0) (h1 : Byte i1) (h2 : Byte i2) (y : Nat) (hy : y < 8) : Du g i0 i1 i2 (64 + 8 * y + 3) (planA y 3) := fun s W ho hl =>
  have M : More s (due1 [i0, i1, i2] y 3 s).1 := more_due1 _ y 3 hy (by decide)
  ⟨(due1 [i0, i1, i2] y 3 s).1, (due1 [i0, i1, i2] y 3 s).2, wf_due1 h0 h1 h2 W y 3 hy (by decide), M,
    cutD hg ho (M.ok ho) (fun Q h => d_one3 y hy W h0 h1 h2 (by lia) hg ho ho ho h),
    cutA hg ho (M.ok ho) (fun Q h => a_one3 y hy W h0 h1 h2 (by lia) h),
    cutB hg ho (M.ok ho) (fun Q h => b_one3 y hy W h0 h1 h2 (by lia) h), fun e => absurd e (due1_no21 _ y 3 hy (by decide))⟩
theorem du1_4 (hg : ∀ k, closedO 34 (g k)) (h0 : Byte i0) (h1 : Byte i1) (h2 : Byte i2) (y : Nat) (hy : y < 8) : Du g i0 i1 i2 (64 + 8 * y + 4) (planA y 4) := fun s W ho hl =>
  have M : More s (due1 [i0, i1, i2] y 4 s).1 := more_due1 _ y 4 hy (by decide)
  ⟨(due1 [i0, i1, i2] y 4 s).1, (due1 [i0, i1, i2] y 4 s).2, wf_due1 h0 h1 h2 W y 4 hy (by decide), M,
    cutD hg ho (M.ok ho) (fun Q h => d_one4 y hy W h0 h1 h2 (by lia) hg ho ho ho h),
    cutA hg ho (M.ok ho) (fun Q h => a_one4 y hy W h0 h1 h2 (by lia) h),
    cutB hg ho (M.ok ho) (fun Q h => b_one4 y hy W h0 h1 h2 (by lia) h), fun e => absurd e (due1_no21 _ y 4 hy (by decide))⟩
theorem du1_5 (hg : ∀ k, closedO 34 (g k)) (h0 : Byte i0) (h1 : Byte i1) (h2 : Byte i2) (y : Nat) (hy : y < 8) : Du g i0 i1 i2 (64 + 8 * y + 5) (planA y 5) := fun s W ho hl =>
  have M : More s (due1 [i0, i1, i2] y 5 s).1 := more_due1 _ y 5 hy (by decide)
  ⟨(due1 [i0, i1, i2] y 5 s).1, (due1 [i0, i1, i2] y 5 s).2, wf_due1 h0 h1 h2 W y 5 hy (by decide), M,
    cutD hg ho (M.ok ho) (fun Q h => d_one5 y hy W h0 h1 h2 (by lia) hg ho ho ho h),
    cutA hg ho (M.ok ho) (fun Q h => a_one5 y hy W h0 h1 h2 (by lia) h),
    cutB hg ho (M.ok ho) (fun Q h => b_one5 y hy W h0 h1 h2 (by lia) h), fun e => absurd e (due1_no21 _ y 5 hy (by decide))⟩
theorem du1_6 (hg : ∀ k, closedO 34 (g k)) (h0 : Byte i0) (h1 : Byte i1) (h2 : Byte i2) (y : Nat) (hy : y < 8) : Du g i0 i1 i2 (64 + 8 * y + 6) (planA y 6) := fun s W ho hl =>
  have M : More s (due1 [i0, i1, i2] y 6 s).1 := more_due1 _ y 6 hy (by decide)
  ⟨(due1 [i0, i1, i2] y 6 s).1, (due1 [i0, i1, i2] y 6 s).2, wf_due1 h0 h1 h2 W y 6 hy (by decide), M,
    cutD hg ho (M.ok ho) (fun Q h => d_one6 y hy W h0 h1 h2 (by lia) hg ho ho ho h),
    cutA hg ho (M.ok ho) (fun Q h => a_one6 y hy W h0 h1 h2 (by lia) h),
    cutB hg ho (M.ok ho) (fun Q h => b_one6 y hy W h0 h1 h2 (by lia) h), fun e => absurd e (due1_no21 _ y 6 hy (by decide))⟩
theorem du1_7 (hg : ∀ k, closedO 34 (g k)) (h0 : Byte i0) (h1 : Byte i1) (h2 : Byte i2) (y : Nat) (hy : y < 8) : Du g i0 i1 i2 (64 + 8 * y + 7) (planA y 7) := fun s W ho hl =>
  have M : More s (due1 [i0, i1, i2] y 7 s).1 := more_due1 _ y 7 hy (by decide)
  ⟨(due1 [i0, i1, i2] y 7 s).1, (due1 [i0, i1, i2] y 7 s).2, wf_due1 h0 h1 h2 W y 7 hy (by decide), M,
    cutD hg ho (M.ok ho) (fun Q h => d_one7 y hy W h0 h1 h2 (by lia) hg ho ho ho h),
    cutA hg ho (M.ok ho) (fun Q h => a_one7 y hy W h0 h1 h2 (by lia) h),
    cutB hg ho (M.ok ho) (fun Q h => b_one7 y hy W h0 h1 h2 (by lia) h), fun e => absurd e (due1_no21 _ y 7 hy (by decide))⟩
theorem du2_0 (hg : ∀ k, closedO 34 (g k)) (h0 : Byte i0) (h1 : Byte i1) (h2 : Byte i2) (y : Nat) (hy : 4 ≤ y) (hz : y < 8) : Du g i0 i1 i2 (128 + 8 * y + 0) (planB y 0) := fun s W ho hl =>
  have M : More s (blkS y (blk [i0, i1, i2] y 0 s)).1 := more_blk _ y 0 (by decide)
  ⟨(blkS y (blk [i0, i1, i2] y 0 s)).1, (blkS y (blk [i0, i1, i2] y 0 s)).2, wf_blkS (wf_blk h0 h1 h2 W y 0 (by decide)) y, M,
    cutD hg ho (M.ok ho) (fun Q h => d_due0 y hy hz W h0 h1 h2 (by lia) hg ho ho ho h),
    cutA hg ho (M.ok ho) (fun Q h => a_blk0 y hy hz W h0 h1 h2 (by lia) h),
    cutB hg ho (M.ok ho) (fun Q h => b_blk0 y hy hz W h0 h1 h2 (by lia) h), fun e => (blkS_21 y hy hz e).trans (by rw [blk_pc _ y 0 (by decide)])⟩
theorem du2_1 (hg : ∀ k, closedO 34 (g k)) (h0 : Byte i0) (h1 : Byte i1) (h2 : Byte i2) (y : Nat) (hy : 4 ≤ y) (hz : y < 8) : Du g i0 i1 i2 (128 + 8 * y + 1) (planB y 1) := fun s W ho hl =>
  have M : More s (blkS y (blk [i0, i1, i2] y 1 s)).1 := more_blk _ y 1 (by decide)
  ⟨(blkS y (blk [i0, i1, i2] y 1 s)).1, (blkS y (blk [i0, i1, i2] y 1 s)).2, wf_blkS (wf_blk h0 h1 h2 W y 1 (by decide)) y, M,
    cutD hg ho (M.ok ho) (fun Q h => d_due1 y hy hz W h0 h1 h2 (by lia) hg ho ho ho h),
    cutA hg ho (M.ok ho) (fun Q h => a_blk1 y hy hz W h0 h1 h2 (by lia) h),
    cutB hg ho (M.ok ho) (fun Q h => b_blk1 y hy hz W h0 h1 h2 (by lia) h), fun e => (blkS_21 y hy hz e).trans (by rw [blk_pc _ y 1 (by decide)])⟩
theorem du2_2 (hg : ∀ k, closedO 34 (g k)) (h0 : Byte i0) (h1 : Byte i1) (h2 : Byte i2) (y : Nat) (hy : 4 ≤ y) (hz : y < 8) : Du g i0 i1 i2 (128 + 8 * y + 2) (planB y 2) := fun s W ho hl =>
  have M : More s (blkS y (blk [i0, i1, i2] y 2 s)).1 := more_blk _ y 2 (by decide)
  ⟨(blkS y (blk [i0, i1, i2] y 2 s)).1, (blkS y (blk [i0, i1, i2] y 2 s)).2, wf_blkS (wf_blk h0 h1 h2 W y 2 (by decide)) y, M,
    cutD hg ho (M.ok ho) (fun Q h => d_due2 y hy hz W h0 h1 h2 (by lia) hg ho ho ho h),
    cutA hg ho (M.ok ho) (fun Q h => a_blk2 y hy hz W h0 h1 h2 (by lia) h),
    cutB hg ho (M.ok ho) (fun Q h => b_blk2 y hy hz W h0 h1 h2 (by lia) h), fun e => (blkS_21 y hy hz e).trans (by rw [blk_pc _ y 2 (by decide)])⟩
theorem du2_3 (hg : ∀ k, closedO 34 (g k)) (h0 : Byte i0) (h1 : Byte i1) (h2 : Byte i2) (y : Nat) (hy : 4 ≤ y) (hz : y < 8) : Du g i0 i1 i2 (128 + 8 * y + 3) (planB y 3) := fun s W ho hl =>
  have M : More s (blkS y (blk [i0, i1, i2] y 3 s)).1 := more_blk _ y 3 (by decide)
  ⟨(blkS y (blk [i0, i1, i2] y 3 s)).1, (blkS y (blk [i0, i1, i2] y 3 s)).2, wf_blkS (wf_blk h0 h1 h2 W y 3 (by decide)) y, M,
    cutD hg ho (M.ok ho) (fun Q h => d_due3 y hy hz W h0 h1 h2 (by lia) hg ho ho ho h),
    cutA hg ho (M.ok ho) (fun Q h => a_blk3 y hy hz W h0 h1 h2 (by lia) h),
    cutB hg ho (M.ok ho) (fun Q h => b_blk3 y hy hz W h0 h1 h2 (by lia) h), fun e => (blkS_21 y hy hz e).trans (by rw [blk_pc _ y 3 (by decide)])⟩
end
set_option maxHeartbeats 200000
set_option maxHeartbeats 2000000
section
variable {g : Nat → O} {i0 i1 i2 : Int} {d a b : St} {G : List O} {Q : V → List O → Prop}
theorem d_none {c : Int} (h0 : 0 ≤ c) (h1 : c < 256) (hx : c / 64 ≠ 1) (hn : ¬ (c / 64 = 2 ∧ 3 < c / 8 % 8 ∧ c % 8 < 4)) (h : Q (.int 8) (HH g [i0, i1, i2] d a b G)) : fn__law_due [.obj 5, .int c] (HH g [i0, i1, i2] d a b G) Q := by
  have ex : (c.fdiv 64) = c / 64 := fdiv_pos _ (by decide)
  have ey : ((c.fdiv 8).fmod 8) = c / 8 % 8 := by rw [fdiv_pos _ (by decide), fmod_pos _ (by decide)]
  have ez : (c.fmod 8) = c % 8 := fmod_pos _ (by decide)
  have nx : ((c.fdiv 64) != 1) = true := by rw [ex]; simpa using hx
  by_cases p1 : c / 64 = 2
  · have q1 : ((c.fdiv 64) == 2) = true := by rw [ex, p1]; rfl
    by_cases p2 : 3 < c / 8 % 8
    · have q2 : decide (3 < ((c.fdiv 8).fmod 8)) = true := by rw [ey]; exact decide_eq_true p2
      have q3 : decide ((c.fmod 8) < 4) = false := by rw [ez]; exact decide_eq_false (fun k => hn ⟨p1, p2, k⟩)
      unfold fn__law_due; walk_at "ev"; walk_at "wh"; rw [q1]; walk_at "ev"; walk_at "wh"; rw [q2]; walk_at "ev"; walk_at "wh"; rw [q3]; walk_at "ev"; walk_at "wh"; rw [nx]; walk_at "ev"; exact h
    · have q2 : decide (3 < ((c.fdiv 8).fmod 8)) = false := by rw [ey]; exact decide_eq_false p2
      unfold fn__law_due; walk_at "ev"; walk_at "wh"; rw [q1]; walk_at "ev"; walk_at "wh"; rw [q2]; walk_at "ev"; walk_at "wh"; rw [nx]; walk_at "ev"; exact h
  · have q1 : ((c.fdiv 64) == 2) = false := by rw [ex]; simpa using p1
    unfold fn__law_due; walk_at "ev"; walk_at "wh"; rw [q1]; walk_at "ev"; walk_at "wh"; rw [nx]; walk_at "ev"; exact h
theorem a_none {c : Int} (h0 : 0 ≤ c) (h1 : c < 256) (hx : c / 64 ≠ 1) (hn : ¬ (c / 64 = 2 ∧ 3 < c / 8 % 8 ∧ c % 8 < 4)) (h : Q (.int 8) (HH g [i0, i1, i2] d a b G)) : fn_do_ed [.obj 11, .obj 24, .obj 28, .int c] (HH g [i0, i1, i2] d a b G) Q := by
  have ex : (c.fdiv (2 ^ Int.toNat 6)) = c / 64 := by rw [p6, fdiv_pos _ (by decide)]
  have ey : (Builtin.bitAnd (c.fdiv (2 ^ Int.toNat 3)) 7) = c / 8 % 8 := by rw [p3, bitAnd_m3, fdiv_pos _ (by decide)]
  have ez : (Builtin.bitAnd c 7) = c % 8 := bitAnd_m3 _
  have nx : ((c.fdiv (2 ^ Int.toNat 6)) != 1) = true := by rw [ex]; simpa using hx
  by_cases p1 : c / 64 = 2
  · have q1 : ((c.fdiv (2 ^ Int.toNat 6)) == 2) = true := by rw [ex, p1]; rfl
    by_cases p2 : 3 < c / 8 % 8
    · have q2 : decide (3 < (Builtin.bitAnd (c.fdiv (2 ^ Int.toNat 3)) 7)) = true := by rw [ey]; exact decide_eq_true p2
      have q3 : decide ((Builtin.bitAnd c 7) < 4) = false := by rw [ez]; exact decide_eq_false (fun k => hn ⟨p1, p2, k⟩)
      unfold fn_do_ed; walk_at "ev"; walk_at "wh"; rw [q1]; walk_at "ev"; walk_at "wh"; rw [q2]; walk_at "ev"; walk_at "wh"; rw [q3]; walk_at "ev"; walk_at "wh"; rw [nx]; walk_at "ev"; exact h
    · have q2 : decide (3 < (Builtin.bitAnd (c.fdiv (2 ^ Int.toNat 3)) 7)) = false := by rw [ey]; exact decide_eq_false p2
      unfold fn_do_ed; walk_at "ev"; walk_at "wh"; rw [q1]; walk_at "ev"; walk_at "wh"; rw [q2]; walk_at "ev"; walk_at "wh"; rw [nx]; walk_at "ev"; exact h
  · have q1 : ((c.fdiv (2 ^ Int.toNat 6)) == 2) = false := by rw [ex]; simpa using p1
    unfold fn_do_ed; walk_at "ev"; walk_at "wh"; rw [q1]; walk_at "ev"; walk_at "wh"; rw [nx]; walk_at "ev"; exact h
theorem du_none (hg : ∀ k, closedO 34 (g k)) {c : Int} (h0 : 0 ≤ c) (h1 : c < 256) (hx : c / 64 ≠ 1) (hn : ¬ (c / 64 = 2 ∧ 3 < c / 8 % 8 ∧ c % 8 < 4)) : Du g i0 i1 i2 c (.tup [.str 18, .tup [], .int 8]) := fun s W ho hl =>
  ⟨s, 8, W, .inl rfl, cutD hg ho ho (fun Q h => d_none h0 h1 hx hn (h [])), cutA hg ho ho (fun Q h => a_none h0 h1 hx hn h), cutB hg ho ho (fun Q h => b_nop h), fun e => absurd e (by decide)⟩
theorem planOf1 (y z : Nat) (hy : y < 8) (hz : z < 8) : planOf (64 + 8 * y + z) = planA y z := by
  unfold planOf
  rw [show (64 + 8 * y + z) / 64 = 1 by lia, show (64 + 8 * y + z) / 8 % 8 = y by omega, show (64 + 8 * y + z) % 8 = z by lia]; rfl
theorem planOf2 (y z : Nat) (hy : 4 ≤ y) (hy' : y < 8) (hz : z < 4) : planOf (128 + 8 * y + z) = planB y z := by
  unfold planOf
  rw [show (128 + 8 * y + z) / 64 = 2 by lia, show (128 + 8 * y + z) / 8 % 8 = y by omega, show (128 + 8 * y + z) % 8 = z by lia, (Nat.blt_eq).mpr (show 3 < y by lia), (Nat.blt_eq).mpr hz]; rfl
theorem du_all (hg : ∀ k, closedO 34 (g k)) (h0 : Byte i0) (h1 : Byte i1) (h2 : Byte i2) (c : Nat) (hc : c < 256) : Du g i0 i1 i2 (c : Int) (planOf c) := by
  by_cases p : c / 64 = 1
  · obtain ⟨y, z, hy, hz, rfl⟩ : ∃ y z : Nat, y < 8 ∧ z < 8 ∧ c = 64 + 8 * y + z := ⟨c / 8 % 8, c % 8, by lia, by lia, by lia⟩
    rw [planOf1 y z hy hz, show ((64 + 8 * y + z : Nat) : Int) = 64 + 8 * (y : Int) + (z : Int) by lia]
    clear p hc
    rcases (by lia : z = 0 ∨ z = 1 ∨ z = 2 ∨ z = 3 ∨ z = 4 ∨ z = 5 ∨ z = 6 ∨ z = 7) with rfl | rfl | rfl | rfl | rfl | rfl | rfl | rfl
    · exact du1_0 hg h0 h1 h2 y hy
    · exact du1_1 hg h0 h1 h2 y hy
    · exact du1_2 hg h0 h1 h2 y hy
    · exact du1_3 hg h0 h1 h2 y hy
    · exact du1_4 hg h0 h1 h2 y hy
    · exact du1_5 hg h0 h1 h2 y hy
    · exact du1_6 hg h0 h1 h2 y hy
    · exact du1_7 hg h0 h1 h2 y hy
  · by_cases q : c / 64 = 2 ∧ 3 < c / 8 % 8 ∧ c % 8 < 4
    · obtain ⟨y, z, hy, hy', hz, rfl⟩ : ∃ y z : Nat, 4 ≤ y ∧ y < 8 ∧ z < 4 ∧ c = 128 + 8 * y + z := ⟨c / 8 % 8, c % 8, by lia, by lia, by lia, by lia⟩
      rw [planOf2 y z hy hy' hz, show ((128 + 8 * y + z : Nat) : Int) = 128 + 8 * (y : Int) + (z : Int) by lia]
      clear p q hc
      rcases (by lia : z = 0 ∨ z = 1 ∨ z = 2 ∨ z = 3) with rfl | rfl | rfl | rfl
      · exact du2_0 hg h0 h1 h2 y hy hy'
      · exact du2_1 hg h0 h1 h2 y hy hy'
      · exact du2_2 hg h0 h1 h2 y hy hy'
      · exact du2_3 hg h0 h1 h2 y hy hy'
    · have e1 : Nat.beq (c / 64) 1 = false := by cases e : Nat.beq (c / 64) 1; rfl; exact absurd (Nat.eq_of_beq_eq_true e) p
      have e2 : (Nat.beq (c / 64) 2 && (Nat.blt 3 (c / 8 % 8) && Nat.blt (c % 8) 4)) = false := by
        cases e : (Nat.beq (c / 64) 2 && (Nat.blt 3 (c / 8 % 8) && Nat.blt (c % 8) 4))
        · rfl
        · rw [Bool.and_eq_true, Bool.and_eq_true, Nat.blt_eq, Nat.blt_eq] at e
          exact absurd ⟨Nat.eq_of_beq_eq_true e.1, e.2.1, e.2.2⟩ q
      have e : planOf c = (.tup [.str 18, .tup [], .int 8]) := by unfold planOf; rw [e1, e2]; rfl
      rw [e]
      exact du_none hg (by lia) (by lia) (by lia) (by lia)
end
set_option maxHeartbeats 200000
set_option maxHeartbeats 2000000
@[irreducible] noncomputable def ps_A : PS := (sCons (weakS (sAssign (pTup (plCons (pCall fn__law_cpu (plCons (pLoc 3) plNil)) (plCons (pCall fn__law_cpu (plCons (pLoc 3) plNil)) (plCons (pCall listF (plCons (pSub (pLoc 3) (pV (.str 17))) plNil)) (plCons (pCall listF (plCons (pSub (pLoc 3) (pV (.str 17))) plNil)) plNil))))) (tTup 4 (tsCons (tLoc 4) (tsCons (tLoc 5) (tsCons (tLoc 6) (tsCons (tLoc 7) tsNil))))))) (sCons (sSwap 2 (pTup (plCons (pCall nw_Ports (plCons (pCall listF (plCons (pSub (pLoc 3) (pV (.str 14))) plNil)) plNil)) (plCons (pCall nw_Ports (plCons (pCall listF (plCons (pSub (pLoc 3) (pV (.str 14))) plNil)) plNil)) plNil))) (tsCons (tLoc 9) (tsCons (tLoc 8) tsNil))) (sCons (truncS (sAssign (pSub (pCall fn_ed_plans plNil) (pLoc 2)) (tLoc 10))) (sCons (weakS (sFor (pItRange 10) (tLoc 11) ps_turn)) (sCons (sRet (pV (.bool true))) sNil)))))
@[irreducible] noncomputable def ps_B : PS := (sCons (sAssign (pTup (plCons (pComp (srcOf 1 [(Str.ofString ".0", .local), (Str.ofString "at", .local), (Str.ofString "_law_take", .globalImplicit), (Str.ofString "box", .free)]) (pItRange 8) (tLoc 1) (pCall fn__law_take (plCons (pLoc 3) (plCons (pV (.int 256)) plNil)))) (plCons (pComp (srcOf 1 [(Str.ofString ".0", .local), (Str.ofString "at", .local), (Str.ofString "_law_take", .globalImplicit), (Str.ofString "box", .free)]) (pItRange 3) (tLoc 1) (pCall fn__law_take (plCons (pLoc 3) (plCons (pV (.int 256)) plNil)))) plNil))) (tTup 2 (tsCons (tSub (pLoc 3) (pV (.str 0))) (tsCons (tSub (pLoc 3) (pV (.str 14))) tsNil)))) (sCons (sAssign (pComp (srcOf 1 [(Str.ofString ".0", .local), (Str.ofString "at", .local), (Str.ofString "_law_take", .globalImplicit), (Str.ofString "box", .free)]) (pItRange 64) (tLoc 1) (pCall fn__law_take (plCons (pLoc 3) (plCons (pV (.int 256)) plNil)))) (tSub (pLoc 3) (pV (.str 17)))) (sCons (sAssign (pComp (srcOf 1 [(Str.ofString ".0", .local), (Str.ofString "many", .local), (Str.ofString "_law_take", .globalImplicit), (Str.ofString "box", .free)]) (pItTup (pTup (plCons (pV (.int 65536)) (plCons (pV (.int 65536)) (plCons (pV (.int 256)) (plCons (pV (.int 256)) plNil)))))) (tLoc 1) (pCall fn__law_take (plCons (pLoc 3) (plCons (pLoc 1) plNil)))) (tTupL 4 (tsCons (tSub (pLoc 3) (pV (.str 4))) (tsCons (tSub (pLoc 3) (pV (.str 5))) (tsCons (tSub (pLoc 3) (pV (.str 6))) (tsCons (tSub (pLoc 3) (pV (.str 7))) tsNil)))))) (sCons (sAssign (pTup (plCons (pCall fn__law_take (plCons (pLoc 1) (plCons (pV (.int 2)) plNil))) (plCons (pCall fn__law_take (plCons (pLoc 1) (plCons (pV (.int 2)) plNil))) (plCons (pCall fn__law_take (plCons (pLoc 1) (plCons (pV (.int 3)) plNil))) plNil)))) (tTup 3 (tsCons (tSub (pLoc 3) (pV (.str 8))) (tsCons (tSub (pLoc 3) (pV (.str 9))) (tsCons (tSub (pLoc 3) (pV (.str 10))) tsNil))))) (sCons (sIf (bCmp .GtE (pLoc 2) (pV (.int 160))) (sCons (sAssign (pIf (bCmp .Lt (pBin .Mod (pLoc 2) (pV (.int 8))) (pV (.int 2))) (pTup (plCons (pV (.int 0)) (plCons (pBin .Add (pV (.int 1)) (pBin .Mod (pSub (pSub (pLoc 3) (pV (.str 0))) (pV (.int 1))) (pV (.int 9)))) plNil))) (pTup (plCons (pBin .Add (pV (.int 1)) (pBin .Mod (pSub (pSub (pLoc 3) (pV (.str 0))) (pV (.int 0))) (pV (.int 9)))) (plCons (pSub (pSub (pLoc 3) (pV (.str 0))) (pV (.int 1))) plNil)))) (tTup 2 (tsCons (tSub (pSub (pLoc 3) (pV (.str 0))) (pV (.int 0))) (tsCons (tSub (pSub (pLoc 3) (pV (.str 0))) (pV (.int 1))) tsNil)))) sNil) sNil) ps_A)))))
noncomputable def ps_C (l : Addr) (xs : List Int) : PS := (sCons (sAssign (pCall (fn__law_box l xs) (plCons (pLoc 0) plNil)) (tLoc 1)) (sCons (sSwap 2 (pTup (plCons (pCall fn__law_take (plCons (pLoc 1) (plCons (pV (.int 256)) plNil))) (plCons (pDict2 15 16 (pV (.int 0)) (pList plNil)) plNil))) (tsCons (tLoc 3) (tsCons (tLoc 2) tsNil))) (sCons (sIf (bCmp .Gt (pCall fn__law_take (plCons (pLoc 1) (plCons (pV (.int 4)) plNil))) (pV (.int 0))) (sCons (sAssign (pIf (bCmp .Lt (pLoc 2) (pV (.int 160))) (pBin .Add (pV (.int 64)) (pBin .Mod (pLoc 2) (pV (.int 64)))) (pBin .Add (pBin .Add (pV (.int 160)) (pBin .Mult (pBin .Mod (pBin .FloorDiv (pLoc 2) (pV (.int 8))) (pV (.int 4))) (pV (.int 8)))) (pBin .Mod (pLoc 2) (pV (.int 4))))) (tLoc 2)) sNil) sNil) ps_B)))
theorem ps_law_C (l : Addr) (xs : List Int) : ps_law l xs = ps_C l xs := by
  with_unfolding_all rfl
noncomputable def LA (l : Addr) (c : Int) : List (Option V) := [some (.raw (.ref l)), some (.obj 2), some (.int c), some (.obj 5), none, none, none, none, none, none, none, none, none, none, none, none, none, none, none, none, none, none, none, none, none]
noncomputable def BX (o0 : O) (ys : List Int) (seed : Int) (T : List O) : List O := o0 :: .app (ys.map .int) :: .list [.obj 1, .int seed] :: T
structure Bx (ys : List Int) (seed : Int) : Prop where
  ge : 0 ≤ seed
  lt : seed < 1000003
  len : ys.length ≤ 24
noncomputable def h10 (o0 o1 o2 o3 o9 ro : O) (i0 i1 i2 sp pc ii rf f1 f2 md : Int) (m : List Int) : List O := [o0, o1, o2, o3, .app [], dictO 0 sp pc ii rf f1 f2 md, ro, .app [.int i0, .int i1, .int i2], .app (m.map .int), o9]
local macro_rules | `(tactic| walk_at "nx") => `(tactic| try dsimp only [BX, LA, h10])
local macro_rules | `(tactic| walk_at "evq") => `(tactic| (walk_at "nmP"; repeat (walk_at "st"; walk_at "nmP")))
theorem nports_i {args : List V} {H : List O} {Q : V → List O → Prop} (h : newF 52 fn_Ports_init args H Q) : nw_Ports args H Q := by
  unfold nw_Ports; exact ⟨h⟩
theorem pinit_i {args : List V} {H : List O} {Q : V → List O → Prop} (h : defN 2 2 ps_Ports_init args H Q) : fn_Ports_init args H Q := by
  unfold fn_Ports_init; exact ⟨h⟩
theorem planL_get {c : Nat} (hc : c < 256) : planL[c]? = some (planOf c) := by
  rw [planL_eq, List.getElem?_map, List.getElem?_range hc]; rfl
mutual
noncomputable def cloB : V → Bool
  | .obj _ => false
  | .tup vs => cloBL vs
  | _ => true
noncomputable def cloBL : List V → Bool
  | [] => true
  | v :: r => cloB v && cloBL r
end
mutual
theorem cloB_s (k : Nat) : ∀ v, cloB v = true → closedV k v
  | .obj _, h => Bool.noConfusion h
  | .tup vs, h => cloBL_s k vs h
  | .int _, _ => trivial
  | .bool _, _ => trivial
  | .str _, _ => trivial
  | .none, _ => trivial
  | .raw _, _ => trivial
theorem cloBL_s (k : Nat) : ∀ vs, cloBL vs = true → closedL k vs
  | [], _ => trivial
  | v :: r, h => ⟨cloB_s k v (Bool.and_eq_true_iff.mp h).1, cloBL_s k r (Bool.and_eq_true_iff.mp h).2⟩
end
theorem cloB_all : ((List.range 256).all fun c => cloB (planOf c)) = true := by kernel_rfl
theorem plan_closed (k : Nat) {c : Nat} (hc : c < 256) : closedV k (planOf c) := cloB_s k _ (List.all_eq_true.mp cloB_all c (List.mem_range.mpr hc))
section
variable {g : Nat → O} {i0 i1 i2 : Int} {l : Addr} {Qn : List (Option V) → List O → Prop} {Qr : V → List O → Prop}
theorem loop_ok {c : Int} {plan : V} (hg : ∀ k, closedO 34 (g k)) (hpl : closedV 34 plan) (du : Du g i0 i1 i2 c plan) (hret : ∀ H, Qr (.bool true) H) (hend : ∀ L H, Qn L H) :
    ∀ (items : List V) (s : St) (tv av sv : Option V), (∀ v ∈ items, ∃ i : Int, v = .int i) → Wf s → OutsOK s.outs → s.outs.length + items.length ≤ 900 →
      forS (tLoc 11) ps_turn (fun _ => True) items (LL l c plan tv av sv) (HH g [i0, i1, i2] s s s []) Qn Qr
  | [], s, tv, av, sv, hi, W, ho, hl => forS_n (hend _ _)
  | v :: r, s, tv, av, sv, hi, W, ho, hl => by
    obtain ⟨i, rfl⟩ := hi v (List.mem_cons_self ..)
    rw [List.length_cons] at hl
    obtain ⟨s', n, W', M, hD, hA, hB, hpc⟩ := du s W ho (by lia)
    refine forS_c ?_
    refine turn (tv := i) (av := av) (sv := sv) (l := l) hg (M.ok ho) hpl hD hA hB hpc hret fun _ => ⟨trivial, ?_⟩
    have := M.len
    exact loop_ok hg hpl du hret hend r { s' with pc := s.pc } _ _ _ (fun u hu => hi u (List.mem_cons_of_mem _ hu)) (W'.pc W.wpc) (M.ok ho) (by show s'.outs.length + _ ≤ _; lia)
noncomputable def ggL (o0 o1 o2 o3 o9 : O) : List O := [o0, o1, o2, o3, z8, z8, z8, z8, z8, o9, z8, z8, .app [.int 0], z8, .app [.int 0], z8, z8, z8, z8, .app [.int 0], z8, .app [.int 0]]
noncomputable def gg (o0 o1 o2 o3 o9 : O) (k : Nat) : O := ((ggL o0 o1 o2 o3 o9)[k]?).getD z8
theorem clo_getD {l : List O} (h : ∀ o ∈ l, closedO 34 o) (k : Nat) : closedO 34 (l[k]?.getD z8) := by
  cases e : l[k]? with
  | none => exact trivial
  | some o => exact h o (List.mem_of_getElem? e)
theorem gg_closed {o0 o1 o2 o3 o9 : O} (h0 : closedO 34 o0) (h1 : closedO 34 o1) (h2 : closedO 34 o2) (h3 : closedO 34 o3) (h9 : closedO 34 o9) : ∀ k, closedO 34 (gg o0 o1 o2 o3 o9 k) :=
  have z : closedO 34 z8 := trivial
  have p : closedO 34 (.app [.int 0]) := ⟨trivial, trivial⟩
  clo_getD (List.forall_mem_cons.mpr ⟨h0, List.forall_mem_cons.mpr ⟨h1, List.forall_mem_cons.mpr ⟨h2, List.forall_mem_cons.mpr ⟨h3, by
    simp only [List.forall_mem_cons, List.not_mem_nil, false_imp_iff, implies_true, and_true]; exact ⟨z, z, z, z, z, h9, z, z, p, z, p, z, z, z, z, p, z, p⟩⟩⟩⟩⟩)
theorem stA {c : Int} {o0 o1 o2 o3 o9 ro : O} {r0 r1 r2 r3 r4 r5 r6 r7 sp pc ii rf f1 f2 md : Int} {m : List Int} (hc0 : 0 ≤ c) (hc1 : c < 256)
    (k0 : closedO 34 o0) (k1 : closedO 34 o1) (k2 : closedO 34 o2) (k3 : closedO 34 o3) (k9 : closedO 34 o9) (hro : WeakO ro (.nums [r0, r1, r2, r3, r4, r5, r6, r7]))
    (h0 : Byte i0) (h1 : Byte i1) (h2 : Byte i2) (W : Wf ⟨r0, r1, r2, r3, r4, r5, r6, r7, sp, pc, ii, rf, f1, f2, md, 0, m, []⟩) (hret : ∀ H, Qr (.bool true) H) :
    ps_A (LA l c) (h10 o0 o1 o2 o3 o9 ro i0 i1 i2 sp pc ii rf f1 f2 md m) Qn Qr := by
  obtain ⟨n, rfl⟩ : ∃ n : Nat, c = n := ⟨c.toNat, by lia⟩
  have hn : n < 256 := by lia
  have ml : m.length = 64 := W.ml
  have bm : Nat.ble m.length 100000 = true := by rw [ml]; rfl
  have hg := gg_closed k0 k1 k2 k3 k9
  unfold ps_A
  walk_at "evq"
  refine ⟨[o0, o1, o2, o3, .app [], dictO 0 sp pc ii rf f1 f2 md, .nums [r0, r1, r2, r3, r4, r5, r6, r7], .nums [i0, i1, i2], .nums m, o9],
    .cons (.refl _) (.cons (.refl _) (.cons (.refl _) (.cons (.refl _) (.cons (.refl _) (.cons (.refl _) (.cons hro (.cons (.appNums [i0, i1, i2]) (.cons (.appNums m) (.refl _))))))))), ?_⟩
  walk_at "evq"
  refine lcpu_i ?_
  walk_at "evq"
  refine ncpu_i ?_
  walk_at "evq"
  refine cinit_i ?_
  walk_at "evq"
  refine lcpu_i ?_
  walk_at "evq"
  refine ncpu_i ?_
  walk_at "evq"
  refine cinit_i ?_
  walk_at "evq"
  walk_at "wh"
  rw [bm]
  walk_at "evq"
  walk_at "wh"
  rw [bm]
  walk_at "evq"
  refine nports_i ?_
  walk_at "evq"
  refine pinit_i ?_
  walk_at "evq"
  refine nports_i ?_
  walk_at "evq"
  refine pinit_i ?_
  walk_at "evq"
  refine pl_ed_plans (g := gg o0 o1 o2 o3 o9) (ins := [i0, i1, i2]) (d := ⟨r0, r1, r2, r3, r4, r5, r6, r7, sp, pc, ii, rf, f1, f2, md, 0, m, []⟩) (a := ⟨r0, r1, r2, r3, r4, r5, r6, r7, sp, pc, ii, rf, f1, f2, md, 0, m, []⟩) (b := ⟨r0, r1, r2, r3, r4, r5, r6, r7, sp, pc, ii, rf, f1, f2, md, 0, m, []⟩) (fun n0 n2 n3 n4 n5 n6 n7 n8 n9 => ?_)
  walk_at "evq"
  walk_at "wh"
  rw [show Nat.blt n 4611686018427387904 = true by rw [Nat.blt_eq]; lia]
  walk_at "evq"
  walk_at "wh"
  rw [planL_get hn]
  walk_at "evq"
  refine And.intro ?_ ?_
  · exact ⟨trivial, (by decide : 2 < 34), trivial, (by decide : 5 < 34), (by decide : 11 < 34), (by decide : 18 < 34), (by decide : 24 < 34), (by decide : 25 < 34), (by decide : 28 < 34), (by decide : 32 < 34), plan_closed 34 hn, trivial⟩
  · refine And.intro ?_ ?_
    · exact clo_HH (g := gg o0 o1 o2 o3 o9) (ins := [i0, i1, i2]) (d := ⟨r0, r1, r2, r3, r4, r5, r6, r7, sp, pc, ii, rf, f1, f2, md, 0, m, []⟩) (a := ⟨r0, r1, r2, r3, r4, r5, r6, r7, sp, pc, ii, rf, f1, f2, md, 0, m, []⟩) (b := ⟨r0, r1, r2, r3, r4, r5, r6, r7, sp, pc, ii, rf, f1, f2, md, 0, m, []⟩) hg ⟨[], rfl⟩ ⟨[], rfl⟩ ⟨[], rfl⟩
    · walk_at "evq"
      refine ⟨_, WeakL.refl _, ?_⟩
      walk_at "evq"
      exact loop_ok (g := gg o0 o1 o2 o3 o9) (i0 := i0) (i1 := i1) (i2 := i2) hg (plan_closed 34 hn) (du_all hg h0 h1 h2 n hn) hret (fun L H => by walk_at "evq"; exact hret _) (rangeVs 10) ⟨r0, r1, r2, r3, r4, r5, r6, r7, sp, pc, ii, rf, f1, f2, md, 0, m, []⟩ none none none
        (fun v hv => by
          unfold rangeVs at hv
          obtain ⟨j, _, rfl⟩ := List.mem_map.mp hv
          exact ⟨_, rfl⟩) W ⟨[], rfl⟩ (by show 0 + (rangeVs 10).length ≤ 900; decide)
theorem c_take {many : Int} {o0 : O} {ys : List Int} {seed : Int} {T : List O} {Q : V → List O → Prop} (hm : 0 < many) (B : Bx ys seed)
    (h : ∀ (v : Int) (ys' : List Int) (seed' : Int), Bx ys' seed' → 0 ≤ v → v < many → Q (.int v) (BX o0 ys' seed' T)) : fn__law_take [.obj 2, .int many] (BX o0 ys seed T) Q := by
  have hs0 := B.ge
  have hs1 := B.lt
  have hl := B.len
  unfold fn__law_take
  refine Box.mk ?_
  cases ys with
  | nil =>
    have e1 := fmod_pos (seed * 4099 + 12301) (n := 1000003) (by decide)
    walk_at "evq"
    refine h _ [] _ ⟨?_, ?_, Nat.zero_le _⟩ ?_ ?_
    · rw [e1]; lia
    · rw [e1]; lia
    · exact Int.fmod_nonneg_of_pos _ hm
    · exact Int.fmod_lt_of_pos _ hm
  | cons y r =>
    rw [List.length_cons] at hl
    have hr : (r.map V.int).length ≤ 1000 := by rw [List.length_map]; lia
    have hr2 : (V.int y :: r.map V.int).length < 2 ^ 62 := by rw [List.length_cons]; lia
    walk_at "evq"
    walk_at "wh"
    rw [show decide (0 < (((r.map V.int).length + 1 : Nat) : Int)) = true from decide_eq_true (by lia)]
    walk_at "evq"
    exact h _ r seed ⟨hs0, hs1, by lia⟩ (Int.fmod_nonneg_of_pos _ hm) (Int.fmod_lt_of_pos _ hm)
theorem comp_get (o0 : O) (ys : List Int) (seed : Int) (T : List O) (o : O) {D : Nat} (hD : D = T.length + 3) : (BX o0 ys seed (T ++ [o]))[D]? = some o := by
  subst hD
  show (T ++ [o])[T.length]? = some o
  simp
theorem comp_set (o0 : O) (ys : List Int) (seed : Int) (T : List O) (o o' : O) {D : Nat} (hD : D = T.length + 3) : (BX o0 ys seed (T ++ [o])).set D o' = BX o0 ys seed (T ++ [o']) := by
  subst hD
  show _ :: _ :: _ :: (T ++ [o]).set T.length o' = _ :: _ :: _ :: _
  rw [List.set_append_right _ _ (Nat.le_refl _), Nat.sub_self]; rfl
theorem comp_take {o0 : O} {many : Int} (hm : 0 < many) {T : List O} {D : Nat} (hD : D = T.length + 3) {Q : List O → Prop} : ∀ (items : List V) (acc ys : List Int) (seed : Int) (a b c : Option V), Bx ys seed → acc.length + items.length ≤ 1000 → (∀ v ∈ acc, 0 ≤ v ∧ v < many) →
    (∀ (vs ys' : List Int) (seed' : Int), Bx ys' seed' → vs.length = acc.length + items.length → (∀ v ∈ vs, 0 ≤ v ∧ v < many) → Q (BX o0 ys' seed' (T ++ [.app (vs.map .int)]))) →
    compS (tLoc 1) (pCall fn__law_take (plCons (pLoc 3) (plCons (pV (.int many)) plNil))) (fun _ => True) D items (acc.map .int) [a, b, c, some (.obj 2)] (BX o0 ys seed (T ++ [.app (acc.map .int)])) Q
  | [], acc, ys, seed, a, b, c, B, hl, ha, h => compS_n (h acc ys seed B rfl ha)
  | v :: r, acc, ys, seed, a, b, c, B, hl, ha, h => by
    rw [List.length_cons] at hl
    refine compS_c ?_
    refine c_take hm B fun u ys' seed' B' u0 u1 => ⟨⟨?_, comp_get _ _ _ _ _ hD, trivial, ?_⟩⟩
    · rw [List.length_map]; lia
    · rw [comp_set _ _ _ _ _ _ hD, show List.map V.int acc ++ [.int u] = (acc ++ [u]).map .int by rw [List.map_append]; rfl]
      refine comp_take hm hD r (acc ++ [u]) ys' seed' a (some v) c B' (by rw [List.length_append]; show acc.length + 1 + _ ≤ _; lia) ?_ ?_
      · intro w hw
        rcases List.mem_append.mp hw with k | k
        · exact ha w k
        · rcases List.mem_singleton.mp k with rfl; exact ⟨u0, u1⟩
      · intro vs ys2 seed2 B2 hvl hv
        exact h vs ys2 seed2 B2 (by simp only [List.length_append, List.length_cons, List.length_nil] at *; lia) hv
theorem lenS {n : Nat} {vs : List Int} (h : vs.length = n + 1) : ∃ a r, vs = a :: r ∧ r.length = n := by
  cases vs with
  | nil => exact Nat.noConfusion h
  | cons a r => exact ⟨a, r, rfl, Nat.succ.inj h⟩
theorem len3 {vs : List Int} (h : vs.length = 3) : ∃ a b c, vs = [a, b, c] := by
  obtain ⟨a, r1, rfl, h1⟩ := lenS h
  obtain ⟨b, r2, rfl, h2⟩ := lenS h1
  obtain ⟨c, r3, rfl, h3⟩ := lenS h2
  exact ⟨a, b, c, by rw [List.eq_nil_of_length_eq_zero h3]⟩
theorem len8 {vs : List Int} (h : vs.length = 8) : ∃ a b c d e f g i, vs = [a, b, c, d, e, f, g, i] := by
  obtain ⟨a, r1, rfl, h1⟩ := lenS h
  obtain ⟨b, r2, rfl, h2⟩ := lenS h1
  obtain ⟨c, r3, rfl, h3⟩ := lenS h2
  obtain ⟨d, r4, rfl, h4⟩ := lenS h3
  obtain ⟨e, r5, rfl, h5⟩ := lenS h4
  obtain ⟨f, g, i, rfl⟩ := len3 h5
  exact ⟨a, b, c, d, e, f, g, i, rfl⟩
theorem closedInts (k : Nat) (xs : List Int) : closedL k (xs.map .int) := by
  induction xs with
  | nil => exact trivial
  | cons x r ih => exact ⟨trivial, ih⟩
theorem stB {c : Int} {o0 o3 : O} {ys : List Int} {seed : Int} (hc0 : 0 ≤ c) (hc1 : c < 256) (k0 : closedO 34 o0) (k3 : closedO 34 o3) (B : Bx ys seed) (hret : ∀ H, Qr (.bool true) H) :
    ps_B (LA l c) (BX o0 ys seed [o3, .app [], .dict [(15, .int 0), (16, .obj 4)]]) Qn Qr := by
  unfold ps_B
  walk_at "evq"
  refine comp_take (T := [o3, .app [], .dict [(15, .int 0), (16, .obj 4)]]) (by decide) rfl (rangeVs 8) [] ys seed none none none B (by decide) (fun v hv => by cases hv) (fun vs ys1 seed1 B1 hl1 hv1 => ?_)
  obtain ⟨r0, r1, r2, r3, r4, r5, r6, r7, rfl⟩ := len8 hl1
  walk_at "evq"
  refine comp_take (T := [o3, .app [], .dict [(15, .int 0), (16, .obj 4)], .app [.int r0, .int r1, .int r2, .int r3, .int r4, .int r5, .int r6, .int r7]]) (by decide) rfl (rangeVs 3) [] ys1 seed1 none none none B1 (by decide) (fun v hv => by cases hv) (fun vs2 ys2 seed2 B2 hl2 hv2 => ?_)
  obtain ⟨i0, i1, i2, rfl⟩ := len3 hl2
  walk_at "evq"
  refine comp_take (T := [o3, .app [], .dict [(15, .int 0), (16, .obj 4), (0, .obj 6), (14, .obj 7)], .app [.int r0, .int r1, .int r2, .int r3, .int r4, .int r5, .int r6, .int r7], .app [.int i0, .int i1, .int i2]]) (by decide) rfl (rangeVs 64) [] ys2 seed2 none none none B2 (by decide) (fun v hv => by cases hv) (fun m ys3 seed3 B3 hl3 hv3 => ?_)
  have ml : m.length = 64 := hl3
  walk_at "evq"; repeat ((first | refine compS_c ?_ | refine compS_n ?_); walk_at "evq")
  refine c_take (by decide) B3 fun sp ys4 seed4 B4 sp0 sp1 => ?_
  walk_at "evq"; repeat ((first | refine compS_c ?_ | refine compS_n ?_); walk_at "evq")
  refine c_take (by decide) B4 fun pc ys5 seed5 B5 pc0 pc1 => ?_
  walk_at "evq"; repeat ((first | refine compS_c ?_ | refine compS_n ?_); walk_at "evq")
  refine c_take (by decide) B5 fun ii ys6 seed6 B6 ii0 ii1 => ?_
  walk_at "evq"; repeat ((first | refine compS_c ?_ | refine compS_n ?_); walk_at "evq")
  refine c_take (by decide) B6 fun rf ys7 seed7 B7 rf0 rf1 => ?_
  walk_at "evq"; repeat ((first | refine compS_c ?_ | refine compS_n ?_); walk_at "evq")
  refine c_take (by decide) B7 fun f1 ys8 seed8 B8 f10 f11 => ?_
  walk_at "evq"
  refine c_take (by decide) B8 fun f2 ys9 seed9 B9 f20 f21 => ?_
  walk_at "evq"
  refine c_take (by decide) B9 fun md ysa seeda Ba md0 md1 => ?_
  walk_at "evq"
  have W : ∀ a b : Int, Byte a → Byte b → Wf ⟨a, b, r2, r3, r4, r5, r6, r7, sp, pc, ii, rf, f1, f2, md, 0, m, []⟩ := fun a b ha hb =>
    ⟨ha, hb, hv1 r2 (by simp), hv1 r3 (by simp), hv1 r4 (by simp), hv1 r5 (by simp), hv1 r6 (by simp), hv1 r7 (by simp), ⟨sp0, sp1⟩, ⟨pc0, pc1⟩, ⟨ii0, ii1⟩, ⟨rf0, rf1⟩, (by show f2 = 0 ∨ f2 = 1; lia), ml, hv3⟩
  have a0 : Byte r0 := hv1 r0 (by simp)
  have a1 : Byte r1 := hv1 r1 (by simp)
  have e1 := fmod_pos r1 (n := 9) (by decide)
  have e0 := fmod_pos r0 (n := 9) (by decide)
  have kk : ∀ (ro : O) (a b : Int), WeakO ro (.nums [a, b, r2, r3, r4, r5, r6, r7]) → Byte a → Byte b →
      ps_A (LA l c) (h10 o0 (.app (ysa.map .int)) (.list [.obj 1, .int seeda]) o3 (.app [.int sp, .int pc, .int ii, .int rf]) ro i0 i1 i2 sp pc ii rf f1 f2 md m) Qn Qr := fun ro a b hro ha hb =>
    stA hc0 hc1 k0 (closedInts _ _) ⟨(by decide : 1 < 34), trivial, trivial⟩ k3 ⟨trivial, trivial, trivial, trivial, trivial⟩ hro (hv2 i0 (by simp)) (hv2 i1 (by simp)) (hv2 i2 (by simp)) (W a b ha hb) hret
  refine cond_s (fun q => ?_) (fun q => ?_)
  · walk_at "evq"
    refine cond_s (fun q2 => ?_) (fun q2 => ?_)
    · walk_at "evq"
      exact kk (.list ([0, 1 + r1.fmod 9, r2, r3, r4, r5, r6, r7].map .int)) 0 (1 + r1.fmod 9) (.listNums _) ⟨by decide, by decide⟩ (by unfold Byte; lia)
    · walk_at "evq"
      exact kk (.list ([1 + r0.fmod 9, r1, r2, r3, r4, r5, r6, r7].map .int)) (1 + r0.fmod 9) r1 (.listNums _) (by unfold Byte; lia) a1
  · walk_at "evq"
    exact kk (.app ([r0, r1, r2, r3, r4, r5, r6, r7].map .int)) r0 r1 (.appNums _) a0 a1
noncomputable def boxBody : PS := (sCons (sAssign (pBin .Mod (pBin .Add (pBin .Mult (pSub (pLoc 2) (pV (.int 1))) (pV (.int 37))) (pCall absF (plCons (pCall intF (plCons (pLoc 1) plNil)) plNil))) (pV (.int 1000003))) (tSub (pLoc 2) (pV (.int 1)))) sNil)
noncomputable def LB (l : Addr) (x : Option V) : List (Option V) := [some (.raw (.ref l)), x, some (.obj 2), none, none]
theorem comp_abs {w : List Int} {Q : List O → Prop} : ∀ (zs acc : List Int) (a b c d : Option V), acc.length + zs.length ≤ 1000 →
    (∀ vs : List Int, vs.length = acc.length + zs.length → Q [.nums w, .app (vs.map .int)]) →
    compS (tLoc 1) (pCall absF (plCons (pCall intF (plCons (pLoc 1) plNil)) plNil)) (depList 0 (w.map .int)) 1 (zs.map .int) (acc.map .int) [a, b, c, d] [.nums w, .app (acc.map .int)] Q
  | [], acc, a, b, c, d, hl, h => compS_n (h acc rfl)
  | z :: r, acc, a, b, c, d, hl, h => by
    rw [List.length_cons] at hl
    have e1 : (acc.map V.int).length ≤ 1000 := by rw [List.length_map]; lia
    refine compS_c ?_
    refine Box.mk (Box.mk ⟨e1, rfl, ⟨_, rfl, rfl⟩, ?_⟩)
    rw [show List.map V.int acc ++ [.int (if z < 0 then -z else z)] = (acc ++ [if z < 0 then -z else z]).map .int by rw [List.map_append]; rfl]
    refine comp_abs r (acc ++ [if z < 0 then -z else z]) a (some (.int z)) c d (by simp only [List.length_append, List.length_cons, List.length_nil] at *; lia) fun vs hv => h vs ?_
    simp only [List.length_append, List.length_cons, List.length_nil] at *; lia
theorem loop_box {w ys : List Int} {l : Addr} {Qn : List (Option V) → List O → Prop} {Qr : V → List O → Prop} : ∀ (zs : List Int) (seed : Int) (x : Option V), 0 ≤ seed → seed < 1000003 →
    (∀ (seed' : Int) (x' : Option V), 0 ≤ seed' → seed' < 1000003 → Qn (LB l x') [.nums w, .app (ys.map .int), .list [.obj 1, .int seed'], .nums w]) →
    forS (tLoc 1) boxBody (depList 3 (w.map .int)) (zs.map .int) (LB l x) [.nums w, .app (ys.map .int), .list [.obj 1, .int seed], .nums w] Qn Qr
  | [], seed, x, h0, h1, h => forS_n (h seed x h0 h1)
  | z :: r, seed, x, h0, h1, h => by
    refine forS_c ?_
    have e1 := fmod_pos (seed * 37 + (if z < 0 then -z else z)) (n := 1000003) (by decide)
    unfold boxBody
    walk_at "evq"
    exact loop_box r _ (some (.int z)) (by rw [e1]; lia) (by rw [e1]; lia) h
theorem c_box {l : Addr} {xs : List Int} {Q : V → List O → Prop} (h : ∀ ys seed, Bx ys seed → Q (.obj 2) (BX (.nums (xs.take 24)) ys seed [.nums (xs.take 24)])) : fn__law_box l xs [.raw (.ref l)] [] Q := by
  have hl : (xs.take 24).length ≤ 24 := by rw [List.length_take]; lia
  have hm : ((xs.take 24).map V.int).length ≤ 1000 := by rw [List.length_map]; lia
  unfold fn__law_box
  walk_at "evq"
  refine comp_abs (xs.take 24) [] none none none none (by rw [List.length_nil]; lia) (fun ys hy => ?_)
  rw [List.length_nil, Nat.zero_add] at hy
  walk_at "evq"
  refine ⟨[.nums (xs.take 24), .app (ys.map .int), .list [.obj 1, .int 19]], .cons (.refl _) (.cons (.refl _) (.cons (.appList _) (.refl _))), ?_⟩
  walk_at "evq"
  refine loop_box (l := l) (xs.take 24) 19 none (by decide) (by decide) (fun seed x s0 s1 => ?_)
  walk_at "evq"
  exact h ys seed ⟨s0, s1, by lia⟩
theorem stC {xs : List Int} (hret : ∀ H, Qr (.bool true) H) : ps_C l xs [some (.raw (.ref l)), none, none, none, none, none, none, none, none, none, none, none, none, none, none, none, none, none, none, none, none, none, none, none, none] [] Qn Qr := by
  unfold ps_C
  walk_at "evq"
  refine c_box (fun ys seed B => ?_)
  walk_at "evq"
  refine c_take (by decide) B fun c ys1 seed1 B1 c0 c1 => ?_
  walk_at "evq"
  refine c_take (by decide) B1 fun v ys2 seed2 B2 v0 v1 => ?_
  walk_at "evq"
  have kk : ∀ c' : Int, 0 ≤ c' → c' < 256 → ps_B (LA l c') (BX (.nums (xs.take 24)) ys2 seed2 [.nums (xs.take 24), .app [], .dict [(15, .int 0), (16, .obj 4)]]) Qn Qr := fun c' h0 h1 => stB h0 h1 trivial trivial B2 hret
  have f1 := fmod_pos c (n := 64) (by decide)
  have f2 := fdiv_pos c (n := 8) (by decide)
  have f3 := fmod_pos (c.fdiv 8) (n := 4) (by decide)
  have f4 := fmod_pos c (n := 4) (by decide)
  refine cond_s (fun q => ?_) (fun q => ?_)
  · walk_at "evq"
    refine cond_s (fun q2 => ?_) (fun q2 => ?_)
    · walk_at "evq"
      exact kk _ (by lia) (by lia)
    · walk_at "evq"
      exact kk _ (by lia) (by lia)
  · walk_at "evq"
    exact kk c c0 c1
theorem law_fine {xs : List Int} (hret : ∀ H, Qr (.bool true) H) : ps_law l xs (initL nl_law.length [.raw (.ref l)]) [] Qn Qr := by
  rw [ps_law_C]
  exact stC hret
end
set_option maxHeartbeats 200000
set_option maxHeartbeats 4000000
theorem law_call {w : World} {h₀ : Heap} (B : Base w h₀) {l : Addr} {vals : List Value} {xs : List Int} (hl : h₀.IsList l vals.toArray) (hi : IntsAre vals xs) (hlen : vals.length ≤ 1048576) :
    SFc PR w h₀ 7 (.ref 546) (defSem [Str.ofString "script"] nl_law (ps_law l xs)) :=
  SFc.ofDefLC (names := nl_law.drop 2) (body := bodyOf (hSt 103)) (nl_law.map fun p => enc p.1) (B.K 546 (hO "function" (.func (fData (hSt 103) (Str.ofString "law") mE 545))) (by kernel_rfl)) rfl B.lim (codeRec_of B.K (by kernel_rfl)) (by kernel_rfl) (by kernel_rfl) (by kernel_rfl) (by kernel_rfl) (by kernel_rfl) (fun v => by kernel_rfl) (by kernel_rfl) (by kernel_rfl) (by kernel_rfl) (by kernel_rfl) (by kernel_rfl) (by kernel_rfl)
    fun env c F hc => (ss_law B hl hi hlen env c F hc).h
end Mine
open PySem PySem.W PyProof.Rows
theorem PySem.Challenge.cw_nz0579_01_holds : PySem.Challenge.rw_nz0579_01.Holds := by
  refine Mine.hd ?_
  intro w s₀ s₁ mg mb G Y fa o pm cd doc dV kV ho hd hcd hD hmg hg args vals as hpre hlay hrd hwl hlo
  have KX := kIn_of Y
  refine Ground.open G ?_
  intro T B D TE TW
  have BB : Mine.Base w s₁.heap := ⟨KX, T.nolimit, ⟨mg, T.g⟩, ⟨mb, T.b, T.builtins⟩⟩
  have e546 := mg_of KX T.g (n := PySem.Str.ofString "law") (v := Value.ref 546) (by kernel_rfl)
  have nmL : Mine.hDf.1.name = PySem.Str.ofString "law" := by kernel_rfl
  rw [nmL] at hmg
  rw [hmg] at e546
  clear ho hd hcd hD hmg D TE TW B Y G
  wrow_args hpre hlay hrd hwl hlo
  rename_i xs _ _ _ _ _ _ _ l vals _ hL _ _ _ hI _ hcond _
  cases e546
  have hlen : vals.length ≤ 1048576 := by
    have := hI.length
    lia
  refine (Mine.law_call BB hL hI hlen).v callerA [.raw (.ref l)] [.ref l] [] [] [] s₁ (fun v H => v = .bool true) _ _ ?_ (Mine.Rel.start _) (.cons (.raw _) .nil) ?_ ?_
  · exact ⟨rfl, by decide +kernel, by decide +kernel⟩
  · exact Mine.law_fine fun H => rfl
  · intro v H' ρ' val h' tk' ev R x hv
    subst ev
    cases hv
    exact GoodW.toG ⟨.inl ⟨.bool true, .bool true, [], rfl, fun _ => rfl, .bool true, by kernel_rfl, fun _ => ⟨List.nodup_nil, fun a ha => nomatch ha⟩⟩, R.keep, rfl, hg⟩
set_option maxHeartbeats 200000
