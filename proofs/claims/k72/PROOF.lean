import PyProof.Rows.All
import Wide.All
import OpenK.AllK
import Wide.FinOn
import HandS.ForMost
import HandS.Deep
import HandS.IsInst
import HandS.DictComp
import HandS.Zip
import HandS.TupAny
import HandS.Wide
import HandS.Rev
import HandS.Flow
import HandS.Style
import HandS.Walk
import HandS.Exc
import HandS.ExcInit
import KE.LtData
import HandS.TupMul
import HandS.DictEq
import PyProof.StrOps2
import KE.OsSortAny
import KE.SortData
import KE.LtSeq
import HandS.Call
import HandS.List
import HandS.Set
import HandS.SetFor
import HandS.Strs
import HandS.ExcValue
import PyProof.TupleOfSeq
import HandS.More
import HandS.WordsDict
import PyProof.ReprRoads
import PyProof.Rows.StrMeet
import HandS.RaiseMore
import HandS.Small
import HandS.Iter
import KE.GoesMore
import KE.GoesEnum
import PyProof.DictUpdate
import HandS.Words
import HandS.Ends
import HandS.EndBits
import KE.KRevSl
import PyProof.TupleOfStr
import PyProof.Rows.RegFStrParts
import HandS.Records
import HandS.NoneIn
import HandS.Conv
import PyProof.StrWalks
import HandS.ExcOwn
import HandS.TryOnly
import KE.DataFind
import HandS.ExcIs
import HandS.ExcSuper
import KE.KExcSuper
import HandS.ExcField
import HandS.ListEq
import KE.DataEq
import KE.KEqDict
import KE.KEqNest
import KE.KExcIs
import HandS.Defaults
import PySem.Challenge.RW_nestedholds_k72_errors_created
set_option Elab.async false
section
set_option Elab.async false
set_option linter.all false
set_option maxRecDepth 100000
set_option maxHeartbeats 1000000
namespace Pv
open PySem PySem.Spec PyProof.Rows L2

abbrev D := PyData
abbrev St := L2.St
abbrev Fr' := PySem.W.Frag

def isDct : HO → Prop
  | .dK _ => True
  | .dT _ => True
  | _ => False
def Le (F H : Hp) : Prop := ∀ b o, F b = some o → H b = some o ∨ (isDct o ∧ ∃ od, H b = some (.frz od o))
theorem Le.refl (F : Hp) : Le F F := fun _ _ h => .inl h
theorem Le.of {F H : Hp} (h : Same F H) : Le F H := fun b o e => .inl (h b o e)
theorem Le.post {F G H : Hp} (h : Le F G) (k : Same G H) : Le F H := fun b o e => by
  rcases h b o e with e | ⟨m, od, e⟩
  · exact .inl (k _ _ e)
  · exact .inr ⟨m, od, k _ _ e⟩
theorem Le.rd {F H : Hp} (h : Le F H) {a : Addr} {u : HO} (r : Rd F a u) : Rd H a u := by
  rcases r with r | ⟨od, r⟩
  · rcases h a u r with e | ⟨_, od, e⟩
    · exact .inl e
    · exact .inr ⟨od, e⟩
  · rcases h a _ r with e | ⟨m, _⟩
    · exact .inr ⟨od, e⟩
    · exact m.elim
theorem Le.sql {K : Fr'} {F H : Hp} (h : Le F H) {a : Addr} {xs : List V} (r : SqL K F a xs) : SqL K H a xs := by
  rcases r with r | r
  · exact .inl (h.rd r)
  · exact .inr r
theorem Le.sqt {K : Fr'} {F H : Hp} (h : Le F H) {a : Addr} {xs : List V} (r : SqT K F a xs) : SqT K H a xs := by
  rcases r with r | r
  · exact .inl (h.rd r)
  · exact .inr r
theorem Le.lst {F H : Hp} (h : Le F H) {a : Addr} {xs : List V} (r : F a = some (.lst xs)) : H a = some (.lst xs) := by
  rcases h a _ r with e | ⟨m, _⟩
  · exact e
  · exact m.elim
theorem Le.none {F H : Hp} (h : Le F H) {a : Addr} (e : H a = none) : F a = none := by
  cases q : F a with
  | none => rfl
  | some o =>
    rcases h a o q with z | ⟨_, od, z⟩ <;> (rw [e] at z; cases z)

def Strong (K : Fr') (F : Hp) (a : Addr) (xs : List V) : Prop := (∃ o, F a = some (.frz o (.tup xs)) ∧ o.dict = none) ∨ ∃ o, K.lookup a = some o ∧ o.dict = none
def needS : List D → Bool
  | [] => true
  | .tuple _ :: _ => true
  | _ => false
def TupOk (K : Fr') (F : Hp) (a : Addr) (xs : List V) (ds : List D) : Prop := SqT K F a xs ∧ (needS ds = true → Strong K F a xs)
theorem Le.strong {K : Fr'} {F H : Hp} (h : Le F H) {a : Addr} {xs : List V} (r : Strong K F a xs) : Strong K H a xs := by
  rcases r with ⟨o, e, hd⟩ | r
  · rcases h a _ e with q | ⟨m, _⟩
    · exact .inl ⟨o, q, hd⟩
    · exact m.elim
  · exact .inr r
theorem Le.tok {K : Fr'} {F H : Hp} (h : Le F H) {a : Addr} {xs : List V} {ds : List D} (r : TupOk K F a xs ds) : TupOk K H a xs ds := ⟨h.sqt r.1, fun z => h.strong (r.2 z)⟩

def keyD : Key → D
  | .inl i => .int i
  | .inr x => .str x

def excD (x : Str) : D := .dict [(.list [], .str x)]
def isX : D → Bool
  | .dict ((.list _, _) :: _) => true
  | _ => false
def ExV (C a : Addr) : HO := .ext fun h => ∃ (oe : Obj) (vs : Array Value), h.get? a = some oe ∧ Zc (.ref C) none oe ∧ oe.data = .fields vs
theorem Le.ext {F H : Hp} (h : Le F H) {a : Addr} {φ : Heap → Prop} (r : F a = some (.ext φ)) : H a = some (.ext φ) := by
  rcases h a _ r with e | ⟨m, _⟩
  · exact e
  · exact m.elim
mutual
inductive Rp (K : Fr') (F : Hp) : V → D → Prop
  | non : Rp K F .non .none
  | bl (b : Bool) : Rp K F (.bl b) (.bool b)
  | int (i : Int) : Rp K F (.int i) (.int i)
  | str (x : Str) : Rp K F (.str x) (.str x)
  | lst {a : Addr} {xs : List V} {ds : List D} : F a = some (.lst xs) → RpA K F xs ds → Rp K F (.ref a) (.list ds)
  | tup {a : Addr} {xs : List V} {ds : List D} : TupOk K F a xs ds → RpA K F xs ds → Rp K F (.ref a) (.tuple ds)
  | dic {a : Addr} {kvs : List (Key × V)} {es : List (D × D)} : Rd F a (.dK kvs) → RpD K F kvs es → Rp K F (.ref a) (.dict es)
  | exc {a C : Addr} {x : Str} : F a = some (ExV C a) → PySem.W.nsIn K mainGlobals x = some (some (.ref C)) → Rp K F (.ref a) (.dict [(.list [], .str x)])
  | exl {a C dx : Addr} {x f : Str} {v : V} {d : D} : F a = some (exo a C (some dx)) → F dx = some (exd dx [(f, v)]) → PySem.W.nsIn K mainGlobals x = some (some (.ref C)) → Rp K F v d → Rp K F (.ref a) (.dict [(.list [], .str x), (.list [.str f], d)])
inductive RpA (K : Fr') (F : Hp) : List V → List D → Prop
  | nil : RpA K F [] []
  | cons {v : V} {vs : List V} {d : D} {ds : List D} : Rp K F v d → RpA K F vs ds → RpA K F (v :: vs) (d :: ds)
inductive RpD (K : Fr') (F : Hp) : List (Key × V) → List (D × D) → Prop
  | nil : RpD K F [] []
  | cons {k : Key} {v : V} {kvs : List (Key × V)} {d : D} {es : List (D × D)} : Rp K F v d → RpD K F kvs es → RpD K F ((k, v) :: kvs) ((keyD k, d) :: es)
end

mutual
theorem Rp.mono {K : Fr'} {F H : Hp} (h : Le F H) : ∀ {v : V} {d : D}, Rp K F v d → Rp K H v d
  | _, _, .non => .non
  | _, _, .bl b => .bl b
  | _, _, .int i => .int i
  | _, _, .str x => .str x
  | _, _, .lst s r => .lst (h.lst s) (RpA.mono h r)
  | _, _, .tup s r => .tup (h.tok s) (RpA.mono h r)
  | _, _, .dic s r => .dic (h.rd s) (RpD.mono h r)
  | _, _, .exc s n => .exc (h.ext s) n
  | _, _, .exl s t n r => .exl (h.ext s) (h.ext t) n (Rp.mono h r)
theorem RpA.mono {K : Fr'} {F H : Hp} (h : Le F H) : ∀ {vs : List V} {ds : List D}, RpA K F vs ds → RpA K H vs ds
  | _, _, .nil => .nil
  | _, _, .cons r t => .cons (Rp.mono h r) (RpA.mono h t)
theorem RpD.mono {K : Fr'} {F H : Hp} (h : Le F H) : ∀ {vs : List (Key × V)} {ds : List (D × D)}, RpD K F vs ds → RpD K H vs ds
  | _, _, .nil => .nil
  | _, _, .cons r t => .cons (Rp.mono h r) (RpD.mono h t)
end
theorem RpA.length {K : Fr'} {F : Hp} : ∀ {vs : List V} {ds : List D}, RpA K F vs ds → vs.length = ds.length
  | _, _, .nil => rfl
  | _, _, .cons _ t => congrArg (· + 1) (RpA.length t)
theorem RpA.get {K : Fr'} {F : Hp} : ∀ {vs : List V} {ds : List D}, RpA K F vs ds → ∀ (i : Nat) (d : D), ds[i]? = some d → ∃ v, vs[i]? = some v ∧ Rp K F v d
  | _, _, .nil, i, d, e => by simp at e
  | _, _, .cons r t, 0, d, e => by simp at e; subst e; exact ⟨_, rfl, r⟩
  | _, _, .cons r t, i + 1, d, e => by
    obtain ⟨v, h1, h2⟩ := RpA.get t i d (by simpa using e)
    exact ⟨v, by simpa using h1, h2⟩
theorem RpA.get' {K : Fr'} {F : Hp} : ∀ {vs : List V} {ds : List D}, RpA K F vs ds → ∀ (i : Nat) (v : V), vs[i]? = some v → ∃ d, ds[i]? = some d ∧ Rp K F v d
  | _, _, .nil, i, d, e => by simp at e
  | _, _, .cons r t, 0, d, e => by simp at e; subst e; exact ⟨_, rfl, r⟩
  | _, _, .cons r t, i + 1, d, e => by
    obtain ⟨v, h1, h2⟩ := RpA.get' t i d (by simpa using e)
    exact ⟨v, by simpa using h1, h2⟩
theorem RpA.append {K : Fr'} {F : Hp} : ∀ {vs us : List V} {ds es : List D}, RpA K F vs ds → RpA K F us es → RpA K F (vs ++ us) (ds ++ es)
  | _, _, _, _, .nil, r => r
  | _, _, _, _, .cons r t, q => .cons r (RpA.append t q)
theorem RpA.drop {K : Fr'} {F : Hp} : ∀ {vs : List V} {ds : List D} (n : Nat), RpA K F vs ds → RpA K F (vs.drop n) (ds.drop n)
  | _, _, 0, r => r
  | _, _, _ + 1, .nil => .nil
  | _, _, n + 1, .cons _ t => RpA.drop n t
theorem RpA.take {K : Fr'} {F : Hp} : ∀ {vs : List V} {ds : List D} (n : Nat), RpA K F vs ds → RpA K F (vs.take n) (ds.take n)
  | _, _, 0, r => by simp; exact .nil
  | _, _, _ + 1, .nil => .nil
  | _, _, n + 1, .cons r t => .cons r (RpA.take n t)
theorem RpA.set {K : Fr'} {F : Hp} {v : V} {d : D} (q : Rp K F v d) : ∀ {vs : List V} {ds : List D} (i : Nat), RpA K F vs ds → RpA K F (vs.set i v) (ds.set i d)
  | _, _, _, .nil => .nil
  | _, _, 0, .cons _ t => .cons q t
  | _, _, i + 1, .cons r t => .cons r (RpA.set q i t)
theorem RpA.reverse {K : Fr'} {F : Hp} : ∀ {vs : List V} {ds : List D}, RpA K F vs ds → RpA K F vs.reverse ds.reverse
  | _, _, .nil => .nil
  | _, _, .cons r t => by rw [List.reverse_cons, List.reverse_cons]; exact RpA.append (RpA.reverse t) (.cons r .nil)
theorem RpD.length {K : Fr'} {F : Hp} : ∀ {vs : List (Key × V)} {ds : List (D × D)}, RpD K F vs ds → vs.length = ds.length
  | _, _, .nil => rfl
  | _, _, .cons _ t => congrArg (· + 1) (RpD.length t)

mutual
def plain : D → Bool
  | .list ds => plainA ds
  | .tuple ds => plainA ds
  | .dict _ => false
  | _ => true
def plainA : List D → Bool
  | [] => true
  | d :: ds => plain d && plainA ds
end
mutual
theorem Rp.dp {K : Fr'} {F : Hp} : ∀ {v : V} {d : D}, Rp K F v d → plain d = true → Dp K F v d
  | _, _, .non, _ => .non
  | _, _, .bl b, _ => .bl b
  | _, _, .int i, _ => .int i
  | _, _, .str x, _ => .str x
  | _, _, .lst s r, h => .lst (.inl (.inl s)) (RpA.dp r (by simpa [plain] using h))
  | _, _, .tup s r, h => .tup s.1 (RpA.dp r (by simpa [plain] using h))
  | _, _, .dic s r, h => by simp [plain] at h
  | _, _, .exc s n, h => by simp [plain] at h
  | _, _, .exl s t n r, h => by simp [plain] at h
theorem RpA.dp {K : Fr'} {F : Hp} : ∀ {vs : List V} {ds : List D}, RpA K F vs ds → plainA ds = true → DpAll K F vs ds
  | _, _, .nil, _ => .nil
  | _, _, .cons r t, h => by
    simp only [plainA, Bool.and_eq_true] at h
    exact .cons (Rp.dp r h.1) (RpA.dp t h.2)
end

inductive Cell
  | val (d : D)
  | own (d : D)
  | byr (d : D)
  | scr (ds : List D)
def Cell.d : Cell → D
  | .val d => d
  | .own d => d
  | .byr d => d
  | .scr ds => .list ds
def Cell.owned : Cell → Bool
  | .val _ => false
  | .own _ => true
  | .byr _ => true
  | .scr _ => false
abbrev Ro := List (Option Cell)

def OwnO (K : Fr') (F : Hp) : Option HO → D → Prop
  | some (.lst xs), .list ds => RpA K F xs ds
  | some (.dK kvs), .dict es => RpD K F kvs es
  | _, _ => False
theorem OwnO.mono {K : Fr'} {F G : Hp} (h : Le F G) {o : Option HO} {d : D} (q : OwnO K F o d) : OwnO K G o d := by
  unfold OwnO at q ⊢
  split at q
  · exact q.mono h
  · exact q.mono h
  · exact q.elim
theorem OwnO.mut {K : Fr'} {F : Hp} {o : Option HO} {d : D} (q : OwnO K F o d) : Mut o ∧ ∃ u, o = some u := by
  unfold OwnO at q
  split at q
  · exact ⟨trivial, _, rfl⟩
  · exact ⟨trivial, _, rfl⟩
  · exact q.elim
def OwnV (K : Fr') (W F H : Hp) (v : V) (d : D) : Prop := ∃ a, v = .ref a ∧ W a = none ∧ F a = none ∧ OwnO K F (H a) d
def CellOk (K : Fr') (W F H : Hp) : Cell → V → Prop
  | .val d, v => Rp K F v d
  | .own d, v => OwnV K W F H v d
  | .byr d, v => OwnV K W F H v d
  | .scr ds, v => ∃ a xs, v = .ref a ∧ SqL K F a xs ∧ RpA K F xs ds

def Dis (W F : Hp) : Prop := ∀ b, W b ≠ Option.none → F b = Option.none ∨ ∃ o u, W b = some (.frz o u)
structure Rel (K : Fr') (P : List (Nat × Addr)) (W F H : Hp) (σ : St) (ρ : Ro) : Prop where
  fh : Le F H
  wh : Same W H
  len : σ.length = ρ.length
  cell : ∀ (i : Nat) (c : Cell), ρ[i]? = some (some c) → ∃ v, σ[i]? = some (some v) ∧ CellOk K W F H c v
  inj : ∀ (i j : Nat) (c e : Cell) (a : Addr), i ≠ j → ρ[i]? = some (some c) → ρ[j]? = some (some e) → c.owned = true → e.owned = true → σ[i]? = some (some (.ref a)) → σ[j]? = some (some (.ref a)) → False
  pin : ∀ p ∈ P, σ[p.1]? = some (some (.ref p.2)) ∧ ∃ d, ρ[p.1]? = some (some (.byr d))
  dis : Dis W F

structure Ext (W F F' : Hp) : Prop where
  same : Same F F'
  off : ∀ b, W b ≠ none → F' b = F b
theorem Ext.refl (W F : Hp) : Ext W F F := ⟨Same.refl F, fun _ _ => rfl⟩
theorem Ext.trans {W F F1 F2 : Hp} (h : Ext W F F1) (k : Ext W F1 F2) : Ext W F F2 := ⟨h.same.trans k.same, fun b e => (k.off b e).trans (h.off b e)⟩

inductive Rv
  | val (d : D)
  | fr (d : D)
  | at (i : Nat)
def RvOk (K : Fr') (W F H : Hp) (σ : St) (ρ : Ro) : Rv → V → Prop
  | .val d, v => Rp K F v d
  | .fr d, v => OwnV K W F H v d ∧ ∀ (i : Nat) (c : Cell), ρ[i]? = some (some c) → c.owned = true → σ[i]? ≠ some (some v)
  | .at i, v => σ[i]? = some (some v)
def notX (d : D) : Option D := if isX d = true then none else some d
@[simp] theorem notX_l (ds : List D) : notX (.list ds) = some (.list ds) := rfl
@[simp] theorem notX_t (ds : List D) : notX (.tuple ds) = some (.tuple ds) := rfl
@[simp] theorem notX_s (x : Str) : notX (.str x) = some (.str x) := rfl
@[simp] theorem notX_i (j : Int) : notX (.int j) = some (.int j) := rfl
@[simp] theorem notX_b (b : Bool) : notX (.bool b) = some (.bool b) := rfl
@[simp] theorem notX_n : notX .none = some .none := rfl
@[simp] theorem notX_d0 : notX (.dict []) = some (.dict []) := rfl
theorem notX_of {d : D} (h : isX d = false) : notX d = some d := by unfold notX; rw [h]; rfl
theorem notX_eq {d e : D} (h : notX d = some e) : d = e ∧ isX e = false := by
  unfold notX at h
  split at h
  · cases h
  · rename_i q; cases h; exact ⟨rfl, by simpa using q⟩
theorem RpD.noX {K : Fr'} {F : Hp} : ∀ {vs : List (Key × V)} {ds : List (D × D)}, RpD K F vs ds → isX (.dict ds) = false
  | _, _, .nil => rfl
  | _, _, .cons (k := k) r t => by cases k <;> rfl
theorem OwnO.noX {K : Fr'} {F : Hp} {o : Option HO} {d : D} (q : OwnO K F o d) : isX d = false := by
  unfold OwnO at q
  split at q
  · rfl
  · exact q.noX
  · exact q.elim
def look (ρ : Ro) : Rv → Option D
  | .val d => notX d
  | .fr d => some d
  | .at i => match ρ[i]? with
    | some (some (.val d)) => notX d
    | some (some (.own d)) => some d
    | some (some (.byr d)) => some d
    | _ => none
def settle : Rv → Rv
  | .fr d => .val d
  | r => r
def frz (ρ : Ro) : Rv → Option (D × Ro)
  | .val d => some (d, ρ)
  | .fr d => some (d, ρ)
  | .at i => match ρ[i]? with
    | some (some (.val d)) => some (d, ρ)
    | some (some (.own d)) => some (d, ρ.set i (some (.val d)))
    | _ => none

def Lk (K : Fr') (F H : Hp) (v : V) (d : D) : Prop := (Rp K F v d ∧ isX d = false) ∨ ∃ a, v = .ref a ∧ OwnO K F (H a) d

section
variable {K : Fr'} {P : List (Nat × Addr)} {W F H F' H' : Hp} {σ : St} {ρ ρ' : Ro} {v : V} {d : D} {r : Rv} {c : Cell}

theorem CellOk.lkv (h : CellOk K W F H (.val d) v) (x : isX d = false) : Lk K F H v d := .inl ⟨h, x⟩
theorem CellOk.lko (h : CellOk K W F H (.own d) v) : Lk K F H v d := by
  obtain ⟨a, e, _, _, q⟩ := h; exact .inr ⟨a, e, q⟩
theorem CellOk.lkb (h : CellOk K W F H (.byr d) v) : Lk K F H v d := by
  obtain ⟨a, e, _, _, q⟩ := h; exact .inr ⟨a, e, q⟩
theorem Rel.lk (R : Rel K P W F H σ ρ) (h : RvOk K W F H σ ρ r v) (e : look ρ r = some d) : Lk K F H v d := by
  cases r with
  | val z =>
    obtain ⟨e1, e2⟩ := notX_eq e
    subst e1
    exact .inl ⟨h, e2⟩
  | fr z => cases e; obtain ⟨⟨a, ea, _, _, q⟩, _⟩ := h; exact .inr ⟨a, ea, q⟩
  | «at» i =>
    unfold look at e
    simp only at e
    have this : σ[i]? = some (some v) := h
    split at e
    · rename_i c hc
      obtain ⟨e1, e2⟩ := notX_eq e
      subst e1
      obtain ⟨u, hu, hk⟩ := R.cell i _ hc
      rw [this] at hu; cases hu
      exact hk.lkv e2
    · rename_i c hc
      cases e
      obtain ⟨u, hu, hk⟩ := R.cell i _ hc
      rw [this] at hu; cases hu
      exact hk.lko
    · rename_i c hc
      cases e
      obtain ⟨u, hu, hk⟩ := R.cell i _ hc
      rw [this] at hu; cases hu
      exact hk.lkb
    · cases e
theorem Lk.rp (h : Le F H) (l : Lk K F H v d) : Rp K H v d := by
  rcases l with ⟨l, _⟩ | ⟨a, rfl, q⟩
  · exact l.mono h
  · unfold OwnO at q
    split at q
    · rename_i xs ds e
      exact .lst e (q.mono h)
    · rename_i kvs es e
      exact .dic (.inl e) (q.mono h)
    · exact q.elim
theorem Lk.list {ds : List D} (h : Le F H) (l : Lk K F H v (.list ds)) : ∃ a xs, v = .ref a ∧ H a = some (.lst xs) ∧ RpA K F xs ds := by
  rcases l with ⟨l, hx⟩ | ⟨a, rfl, q⟩
  · cases l with
    | lst s r => exact ⟨_, _, rfl, h.lst s, r⟩
  · unfold OwnO at q
    split at q
    · rename_i xs ds e hq
      cases hq
      exact ⟨a, xs, rfl, e, q⟩
    · rename_i hq; cases hq
    · exact q.elim
theorem Lk.tuple {ds : List D} (h : Le F H) (l : Lk K F H v (.tuple ds)) : ∃ a xs, v = .ref a ∧ SqT K H a xs ∧ RpA K F xs ds ∧ Rp K F v (.tuple ds) := by
  rcases l with ⟨l, hx⟩ | ⟨a, rfl, q⟩
  · cases l with
    | tup s r => exact ⟨_, _, rfl, h.sqt s.1, r, .tup s r⟩
  · unfold OwnO at q
    split at q
    · rename_i hq; cases hq
    · rename_i hq; cases hq
    · exact q.elim
theorem Lk.dict {es : List (D × D)} (h : Le F H) (l : Lk K F H v (.dict es)) : ∃ a kvs, v = .ref a ∧ Rd H a (.dK kvs) ∧ RpD K F kvs es := by
  rcases l with ⟨l, hx⟩ | ⟨a, rfl, q⟩
  · cases l with
    | dic s r => exact ⟨_, _, rfl, h.rd s, r⟩
    | exc s n => cases hx
    | exl s t n r => cases hx
  · unfold OwnO at q
    split at q
    · rename_i hq; cases hq
    · rename_i kvs es e hq
      cases hq
      exact ⟨a, kvs, rfl, .inl e, q⟩
    · exact q.elim
theorem Lk.int {i : Int} (l : Lk K F H v (.int i)) : v = .int i := by
  rcases l with ⟨l, hx⟩ | ⟨a, rfl, q⟩
  · cases l; rfl
  · unfold OwnO at q; split at q <;> first | (rename_i hq; cases hq) | exact q.elim
theorem Lk.str {i : Str} (l : Lk K F H v (.str i)) : v = .str i := by
  rcases l with ⟨l, hx⟩ | ⟨a, rfl, q⟩
  · cases l; rfl
  · unfold OwnO at q; split at q <;> first | (rename_i hq; cases hq) | exact q.elim
theorem Lk.bool {i : Bool} (l : Lk K F H v (.bool i)) : v = .bl i := by
  rcases l with ⟨l, hx⟩ | ⟨a, rfl, q⟩
  · cases l; rfl
  · unfold OwnO at q; split at q <;> first | (rename_i hq; cases hq) | exact q.elim
theorem Lk.none (l : Lk K F H v .none) : v = .non := by
  rcases l with ⟨l, hx⟩ | ⟨a, rfl, q⟩
  · cases l; rfl
  · unfold OwnO at q; split at q <;> first | (rename_i hq; cases hq) | exact q.elim

structure Grow (F H F' H' : Hp) : Prop where
  hs : Same H H'
  fs : Same F F'
  off : ∀ b, H b ≠ none → F' b = F b
  le : Le F' H'
theorem Grow.refl (h : Le F H) : Grow F H F H := ⟨Same.refl H, Same.refl F, fun _ _ => rfl, h⟩
theorem Same.ne {H H' : Hp} (h : Same H H') {b : Addr} (e : H b ≠ Option.none) : H' b ≠ Option.none := by
  cases q : H b with
  | none => exact absurd q e
  | some o => rw [h b o q]; exact fun z => nomatch z
theorem Grow.ext (g : Grow F H F' H') (w : Same W H) : Ext W F F' := ⟨g.fs, fun b e => g.off b (Same.ne w e)⟩
theorem Rel.grow (R : Rel K P W F H σ ρ) (g : Grow F H F' H') : Rel K P W F' H' σ ρ where
  fh := g.le
  wh := R.wh.trans g.hs
  len := R.len
  cell := fun i c e => by
    obtain ⟨v, hv, hc⟩ := R.cell i c e
    refine ⟨v, hv, ?_⟩
    cases c with
    | val d => exact Rp.mono (Le.of g.fs) hc
    | own d =>
      obtain ⟨a, ea, hw, hf, q⟩ := hc
      obtain ⟨_, u, hu⟩ := q.mut
      exact ⟨a, ea, hw, by rw [g.off a (by rw [hu]; exact fun z => nomatch z)]; exact hf, by rw [g.hs a u hu, ← hu]; exact q.mono (Le.of g.fs)⟩
    | byr d =>
      obtain ⟨a, ea, hw, hf, q⟩ := hc
      obtain ⟨_, u, hu⟩ := q.mut
      exact ⟨a, ea, hw, by rw [g.off a (by rw [hu]; exact fun z => nomatch z)]; exact hf, by rw [g.hs a u hu, ← hu]; exact q.mono (Le.of g.fs)⟩
    | scr ds => obtain ⟨a, xs, ea, s, r⟩ := hc; exact ⟨a, xs, ea, (Le.of g.fs).sql s, r.mono (Le.of g.fs)⟩
  inj := R.inj
  pin := R.pin
  dis := fun b e => (R.dis b e).imp (fun z => (g.off b (Same.ne R.wh e)).trans z) id

theorem Rel.lessW {W' : Hp} (h : Same W W') (R : Rel K P W' F H σ ρ) : Rel K P W F H σ ρ where
  fh := R.fh
  wh := h.trans R.wh
  len := R.len
  cell := fun i c e => by
    have k : ∀ a, W' a = Option.none → W a = Option.none := fun a e => by
      cases q : W a with
      | none => rfl
      | some u => rw [h a u q] at e; cases e
    obtain ⟨v, hv, hc⟩ := R.cell i c e
    refine ⟨v, hv, ?_⟩
    cases c with
    | val d => exact hc
    | own d => obtain ⟨b, eb, hw, q⟩ := hc; exact ⟨b, eb, k b hw, q⟩
    | byr d => obtain ⟨b, eb, hw, q⟩ := hc; exact ⟨b, eb, k b hw, q⟩
    | scr ds => exact hc
  inj := R.inj
  pin := R.pin
  dis := fun b e => by
    obtain ⟨u, hu⟩ := Option.ne_none_iff_exists'.mp e
    have := h b u hu
    rcases R.dis b (by rw [this]; exact fun z => nomatch z) with q | ⟨o, u', q⟩
    · exact .inl q
    · right; rw [this] at q; cases q; exact ⟨o, u', hu⟩
theorem Ext.less {W W' F F' : Hp} (h : Same W W') (x : Ext W' F F') : Ext W F F' := ⟨x.same, fun b e => x.off b (Same.ne h e)⟩
def frzAt (F H : Hp) (a : Addr) : Hp := fun b => if b = a then H a else F b
theorem frzAt_same {a : Addr} : frzAt F H a a = H a := if_pos rfl
theorem frzAt_ne {a b : Addr} (h : b ≠ a) : frzAt F H a b = F b := if_neg h
theorem frzAt_ext {a : Addr} (hw : W a = none) (hf : F a = none) : Ext W F (frzAt F H a) where
  same := fun b o e => by
    rw [frzAt_ne (ne_of_none e hf)]; exact e
  off := fun b e => by
    refine frzAt_ne fun z => ?_
    subst z; exact e hw
theorem frzAt_le {a : Addr} (h : Le F H) : Le (frzAt F H a) H := fun b o e => by
  by_cases hb : b = a
  · subst hb; rw [frzAt_same] at e; exact .inl e
  · rw [frzAt_ne hb] at e; exact h b o e
theorem OwnO.rp {a : Addr} (q : OwnO K F (H a) d) (h : Same F (frzAt F H a)) : Rp K (frzAt F H a) (.ref a) d := by
  unfold OwnO at q
  split at q
  · rename_i xs ds e
    exact .lst (by rw [frzAt_same]; exact e) (q.mono (Le.of h))
  · rename_i kvs es e
    exact .dic (.inl (by rw [frzAt_same]; exact e)) (q.mono (Le.of h))
  · exact q.elim
theorem Rel.frzAt (R : Rel K P W F H σ ρ) {a : Addr} (hw : W a = Option.none) (hf : F a = Option.none)
    (hn : ∀ (i : Nat) (c : Cell), ρ[i]? = some (some c) → c.owned = true → σ[i]? ≠ some (some (.ref a))) : Rel K P W (frzAt F H a) H σ ρ where
  fh := frzAt_le R.fh
  wh := R.wh
  len := R.len
  cell := fun i c e => by
    obtain ⟨v, hv, hc⟩ := R.cell i c e
    refine ⟨v, hv, ?_⟩
    have sm := (frzAt_ext (H := H) hw hf).same
    cases c with
    | val d => exact Rp.mono (Le.of sm) hc
    | own d =>
      obtain ⟨b, eb, hwb, hfb, q⟩ := hc
      have hne : b ≠ a := fun z => hn i _ e rfl (by rw [hv, eb, z])
      exact ⟨b, eb, hwb, by rw [frzAt_ne hne]; exact hfb, q.mono (Le.of sm)⟩
    | byr d =>
      obtain ⟨b, eb, hwb, hfb, q⟩ := hc
      have hne : b ≠ a := fun z => hn i _ e rfl (by rw [hv, eb, z])
      exact ⟨b, eb, hwb, by rw [frzAt_ne hne]; exact hfb, q.mono (Le.of sm)⟩
    | scr ds => obtain ⟨a, xs, ea, s, r⟩ := hc; exact ⟨a, xs, ea, (Le.of sm).sql s, r.mono (Le.of sm)⟩
  inj := R.inj
  pin := R.pin
  dis := fun b e => (R.dis b e).imp (fun z => (frzAt_ne (fun z => e (by rw [z]; exact hw))).trans z) id
theorem set_get {i j : Nat} {c : Option Cell} {e : Cell} (h : (ρ.set i c)[j]? = some (some e)) : (j = i ∧ c = some e) ∨ (j ≠ i ∧ ρ[j]? = some (some e)) := by
  by_cases hj : j = i
  · subst hj
    left
    refine ⟨rfl, ?_⟩
    rw [List.getElem?_set_self'] at h
    cases q : ρ[j]? with
    | none => rw [q] at h; cases h
    | some z => rw [q] at h; simpa using h
  · right
    refine ⟨hj, ?_⟩
    rw [List.getElem?_set_ne (fun z => hj z.symm)] at h
    exact h
theorem Rel.settle (R : Rel K P W F H σ ρ) (h : RvOk K W F H σ ρ r v) : ∃ F', Ext W F F' ∧ Rel K P W F' H σ ρ ∧ RvOk K W F' H σ ρ (settle r) v := by
  cases r with
  | val d => exact ⟨F, Ext.refl _ _, R, h⟩
  | «at» i => exact ⟨F, Ext.refl _ _, R, h⟩
  | fr d =>
    obtain ⟨⟨a, ea, hw, hf, q⟩, hn⟩ := h
    subst ea
    exact ⟨_, frzAt_ext hw hf, R.frzAt hw hf hn, q.rp (frzAt_ext hw hf).same⟩
theorem Rel.cellFrz (R : Rel K P W F H σ ρ) {i : Nat} (hc : ρ[i]? = some (some (.own d))) (hv : σ[i]? = some (some v)) :
    ∃ F', Ext W F F' ∧ Rel K P W F' H σ (ρ.set i (some (.val d))) ∧ Rp K F' v d := by
  obtain ⟨u, hu, a, ea, hw, hf, q⟩ := R.cell i _ hc
  rw [hv] at hu; cases hu
  subst ea
  have sm := (frzAt_ext (H := H) hw hf).same
  have rp : Rp K (Pv.frzAt F H a) (.ref a) d := q.rp sm
  refine ⟨Pv.frzAt F H a, frzAt_ext hw hf, ?_, rp⟩
  constructor
  · exact frzAt_le R.fh
  · exact R.wh
  · rw [List.length_set]; exact R.len
  · intro j c e
    rcases set_get e with ⟨rfl, z⟩ | ⟨hj, z⟩
    · cases z; exact ⟨_, hv, rp⟩
    · obtain ⟨w, hw', hk⟩ := R.cell j c z
      refine ⟨w, hw', ?_⟩
      cases c with
      | val d => exact Rp.mono (Le.of sm) hk
      | own d =>
        obtain ⟨b, eb, hwb, hfb, qb⟩ := hk
        have hne : b ≠ a := fun y => R.inj i j _ _ a (fun y => hj y.symm) hc z rfl rfl hv (by rw [hw', eb, y])
        exact ⟨b, eb, hwb, by rw [frzAt_ne hne]; exact hfb, qb.mono (Le.of sm)⟩
      | byr d =>
        obtain ⟨b, eb, hwb, hfb, qb⟩ := hk
        have hne : b ≠ a := fun y => R.inj i j _ _ a (fun y => hj y.symm) hc z rfl rfl hv (by rw [hw', eb, y])
        exact ⟨b, eb, hwb, by rw [frzAt_ne hne]; exact hfb, qb.mono (Le.of sm)⟩
      | scr ds => obtain ⟨b, xs, eb, s, r⟩ := hk; exact ⟨b, xs, eb, (Le.of sm).sql s, r.mono (Le.of sm)⟩
  · intro j k c e b hjk h1 h2 o1 o2 s1 s2
    rcases set_get h1 with ⟨rfl, z⟩ | ⟨hj, z⟩
    · cases z; cases o1
    · rcases set_get h2 with ⟨rfl, z2⟩ | ⟨hk, z2⟩
      · cases z2; cases o2
      · exact R.inj j k c e b hjk z z2 o1 o2 s1 s2
  · intro p hp
    obtain ⟨h1, d', h2⟩ := R.pin p hp
    refine ⟨h1, d', ?_⟩
    have : p.1 ≠ i := fun z => by rw [z, hc] at h2; cases h2
    rw [List.getElem?_set_ne (fun z => this z.symm)]; exact h2
  · exact fun b e => (R.dis b e).imp (fun z => (frzAt_ne (fun z => e (by rw [z]; exact hw))).trans z) id
theorem Rel.frz (R : Rel K P W F H σ ρ) (h : RvOk K W F H σ ρ r v) (e : frz ρ r = some (d, ρ')) : ∃ F', Ext W F F' ∧ Rel K P W F' H σ ρ' ∧ Rp K F' v d := by
  cases r with
  | val z => cases e; exact ⟨F, Ext.refl _ _, R, h⟩
  | fr z =>
    cases e
    obtain ⟨⟨a, ea, hw, hf, q⟩, hn⟩ := h
    subst ea
    exact ⟨_, frzAt_ext hw hf, R.frzAt hw hf hn, q.rp (frzAt_ext hw hf).same⟩
  | «at» i =>
    unfold Pv.frz at e
    simp only at e
    split at e
    · rename_i z hc
      cases e
      obtain ⟨u, hu, hk⟩ := R.cell i _ hc
      have : σ[i]? = some (some v) := h
      rw [this] at hu; cases hu
      exact ⟨F, Ext.refl _ _, R, hk⟩
    · rename_i z hc
      cases e
      exact R.cellFrz hc h
    · cases e
end
end Pv
end
section
set_option Elab.async false
set_option linter.all false
set_option maxRecDepth 100000
set_option maxHeartbeats 1000000
namespace Pv
open PySem PySem.Spec PyProof.Rows L2

def Post (K : Fr') (F H : Hp) (Q : VK) : D × Bool → Prop
  | (z, false) => ∀ v F' H', Grow F H F' H' → Rp K F' v z → Q v H'
  | (z, true) => ∀ p F' H', Grow F H F' H' → H p = none → F' p = none → OwnO K F' (H' p) z → Q (.ref p) H'
def mkR : D × Bool → Rv
  | (z, false) => .val z
  | (z, true) => .fr z
section
variable {K : Fr'} {P : List (Nat × Addr)} {W F H F' H' : Hp} {σ : St} {ρ ρ' : Ro} {v : V} {d : D} {r : Rv} {c : Cell} {Q : VK} {zb : D × Bool}
theorem post_of (R : Rel K P W F H σ ρ) (q : ∀ v H' F', Ext W F F' → Rel K P W F' H' σ ρ → RvOk K W F' H' σ ρ (mkR zb) v → Q v H') : Post K F H Q zb := by
  obtain ⟨z, b⟩ := zb
  cases b with
  | false => exact fun v F' H' g rp => q v H' F' (g.ext R.wh) (R.grow g) rp
  | true =>
    intro p F' H' g hp hf o
    refine q _ H' F' (g.ext R.wh) (R.grow g) ⟨⟨p, rfl, ?_, hf, o⟩, fun i c e ow es => ?_⟩
    · cases e : W p with
      | none => rfl
      | some u => have := R.wh p u e; rw [hp] at this; cases this
    · obtain ⟨v', hv, hk⟩ := R.cell i c e
      rw [es] at hv
      cases hv
      have : ∃ a, V.ref p = .ref a ∧ ∃ u, H a = some u := by
        cases c with
        | val d => cases ow
        | own d => obtain ⟨a, ea, _, _, o⟩ := hk; exact ⟨a, ea, o.mut.2⟩
        | byr d => obtain ⟨a, ea, _, _, o⟩ := hk; exact ⟨a, ea, o.mut.2⟩
        | scr ds => cases ow
      obtain ⟨a, ea, u, hu⟩ := this
      cases ea
      rw [hp] at hu; cases hu
theorem Post.old (h : Le F H) (rp : Rp K F v d) (q : Post K F H Q (d, false)) : Q v H := q v F H (Grow.refl h) rp
theorem Post.lk (h : Le F H) (hd : Mut (H' 0) → True) (rp : Rp K F v d) (q : Post K F H Q (d, false)) : Q v H := q.old h rp
theorem Grow.both (h : Le F H) {p : Addr} (hp : H p = none) (o : HO) : Grow F H (upd F p o) (upd H p o) where
  hs := fun b u e => by rw [upd_ne (ne_of_none e hp)]; exact e
  fs := fun b u e => by rw [upd_ne (ne_of_none e (h.none hp))]; exact e
  off := fun b e => upd_ne fun z => e (by rw [z]; exact hp)
  le := fun b u e => by
    by_cases hb : b = p
    · subst hb; rw [upd_same] at e ⊢; exact .inl e
    · rw [upd_ne hb] at e ⊢; exact h b u e
theorem Grow.heap (h : Le F H) {p : Addr} (hp : H p = none) (o : HO) : Grow F H F (upd H p o) where
  hs := fun b u e => by rw [upd_ne (ne_of_none e hp)]; exact e
  fs := Same.refl F
  off := fun b e => rfl
  le := h.post fun b u e => by rw [upd_ne (ne_of_none e hp)]; exact e
theorem Post.tup {xs : List V} {ds : List D} (h : Le F H) (r : RpA K F xs ds) (q : Post K F H Q (.tuple ds, false)) : ∀ p o, H p = none → o.dict = none → Q (.ref p) (upd H p (.frz o (.tup xs))) := fun p o hp ho =>
  q _ _ _ (Grow.both h hp _) (.tup ⟨.inl (.inr ⟨o, upd_same⟩), fun _ => .inl ⟨o, upd_same, ho⟩⟩ (r.mono (Le.of (Grow.both h hp _).fs)))
theorem Post.tupW {xs : List V} {ds : List D} (hw : needS ds = false) (h : Le F H) (r : RpA K F xs ds) (q : Post K F H Q (.tuple ds, false)) : ∀ p, H p = none → Q (.ref p) (upd H p (.tup xs)) := fun p hp =>
  q _ _ _ (Grow.both h hp _) (.tup ⟨.inl (.inl upd_same), fun z => by rw [hw] at z; cases z⟩ (r.mono (Le.of (Grow.both h hp _).fs)))
theorem Post.lst {xs : List V} {ds : List D} (h : Le F H) (r : RpA K F xs ds) (q : Post K F H Q (.list ds, true)) : ∀ p, H p = none → Q (.ref p) (upd H p (.lst xs)) := fun p hp =>
  q _ _ _ (Grow.heap h hp _) hp (h.none hp) (by rw [upd_same]; exact r)
theorem Post.dct {xs : List (Key × V)} {es : List (D × D)} (h : Le F H) (r : RpD K F xs es) (q : Post K F H Q (.dict es, true)) : ∀ p, H p = none → Q (.ref p) (upd H p (.dK xs)) := fun p hp =>
  q _ _ _ (Grow.heap h hp _) hp (h.none hp) (by rw [upd_same]; exact r)
end

abbrev SemE := Ro → Option (Rv × Ro)
abbrev SemT := Ro → Option (Bool × Ro)
abbrev SemA := Ro → Option (List D × Ro)
abbrev SemP := Ro → Option (List Rv × Ro)
def tD (K : Fr') (f : SemE) : TE := fun σ H Q => ∃ P W F ρ r ρ', Rel K P W F H σ ρ ∧ f ρ = some (r, ρ') ∧ ∀ v H' F', Ext W F F' → Rel K P W F' H' σ ρ' → RvOk K W F' H' σ ρ' r v → Q v H'
def tDT (K : Fr') (f : SemT) : TT := fun σ H Q => ∃ P W F ρ b ρ', Rel K P W F H σ ρ ∧ f ρ = some (b, ρ') ∧ ∀ H' F', Ext W F F' → Rel K P W F' H' σ ρ' → Q b H'
def tDA (K : Fr') (f : SemA) : TA := fun σ H Q => ∃ P W F ρ ds ρ', Rel K P W F H σ ρ ∧ f ρ = some (ds, ρ') ∧ ∀ vs H' F', Ext W F F' → Rel K P W F' H' σ ρ' → RpA K F' vs ds → Q vs H'
def tDP (K : Fr') (f : SemP) : TA := fun σ H Q => ∃ P W F ρ rs ρ', Rel K P W F H σ ρ ∧ f ρ = some (rs, ρ') ∧ ∀ vs H' F', Ext W F F' → Rel K P W F' H' σ ρ' → Paired (fun v r => ∀ d, look ρ' r = some d → Lk K F' H' v d) vs rs → Q vs H'

structure DE (X : Cx) (e : Expr) (f : SemE) : Prop where
  pe : PE X e (tD X.K f)
structure DT (X : Cx) (e : Expr) (f : SemT) : Prop where
  pt : PT X e (tDT X.K f)
structure DA (X : Cx) (es : List Expr) (f : SemA) : Prop where
  pa : PA X es (tDA X.K f)
structure DP (X : Cx) (es : List Expr) (f : SemP) : Prop where
  pa : PA X es (tDP X.K f)
theorem _root_.L2.PE.pvi {X : Cx} {e : Expr} {t t' : TE} (h : PE X e t) (i : ∀ σ H Q, t' σ H Q → t σ H Q) : PE X e t' := ⟨fun pins s σ H Q I q => h.run pins s σ H Q I (i σ H Q q)⟩
theorem _root_.L2.PT.pvi {X : Cx} {e : Expr} {t t' : TT} (h : PT X e t) (i : ∀ σ H Q, t' σ H Q → t σ H Q) : PT X e t' := ⟨fun pins s σ H Q I q => h.run pins s σ H Q I (i σ H Q q)⟩
theorem _root_.L2.PA.pvi {X : Cx} {e : List Expr} {t t' : TA} (h : PA X e t) (i : ∀ σ H Q, t' σ H Q → t σ H Q) : PA X e t' := ⟨fun pos pins s σ H Q I q => h.run pos pins s σ H Q I (i σ H Q q)⟩
theorem _root_.L2.PW.pvi {X : Cx} {e : Expr} {t t' : TT} (h : PW X e t) (i : ∀ σ H Q, t' σ H Q → t σ H Q) : PW X e t' := ⟨fun whole pins s σ H Q I q => h.run whole pins s σ H Q I (i σ H Q q)⟩

def sVar (i : Nat) : SemE := fun ρ => match ρ[i]? with
  | some (some (.val d)) => some (.val d, ρ)
  | some (some (.own _)) => some (.at i, ρ)
  | some (some (.byr _)) => some (.at i, ρ)
  | _ => none
def sC (d : D) : SemE := fun ρ => some (.val d, ρ)
section
variable {X : Cx}
theorem de_var {i : Nat} {x : Str} {pos : Pos} (h : PE X (.Name x pos) (tVar i)) : DE X (.Name x pos) (sVar i) := by
  refine ⟨h.pvi fun σ H Q q => ?_⟩
  obtain ⟨P, W, F, ρ, r, ρ', R, e, q⟩ := q
  unfold sVar at e
  split at e
  · rename_i d hc
    cases e
    obtain ⟨v, hv, hk⟩ := R.cell i _ hc
    exact ⟨v, hv, q v H F (Ext.refl _ _) R hk⟩
  · rename_i c hc
    cases e
    obtain ⟨v, hv, hk⟩ := R.cell i _ hc
    exact ⟨v, hv, q v H F (Ext.refl _ _) R hv⟩
  · rename_i c hc
    cases e
    obtain ⟨v, hv, hk⟩ := R.cell i _ hc
    exact ⟨v, hv, q v H F (Ext.refl _ _) R hv⟩
  · cases e
theorem de_c {e : Expr} {v : V} {d : D} (h : PE X e (tC v)) (k : ∀ F : Hp, Rp X.K F v d) : DE X e (sC d) := by
  refine ⟨h.pvi fun σ H Q q => ?_⟩
  obtain ⟨P, W, F, ρ, r, ρ', R, e, q⟩ := q
  cases e
  exact q v H F (Ext.refl _ _) R (k F)
theorem de_int {i : Int} {j pos} : DE X (.Constant (.int i) j pos) (sC (.int i)) := de_c pe_int fun _ => .int i
theorem de_str {i : Str} {j pos} : DE X (.Constant (.str i) j pos) (sC (.str i)) := de_c pe_str fun _ => .str i
theorem de_bool {i : Bool} {j pos} : DE X (.Constant (.bool i) j pos) (sC (.bool i)) := de_c pe_bl fun _ => .bl i
theorem de_none {j pos} : DE X (.Constant .none j pos) (sC .none) := de_c pe_non fun _ => .non

def sNil : SemA := fun ρ => some ([], ρ)
def sCons (f : SemE) (g : SemA) : SemA := fun ρ => (f ρ).bind fun (r, ρ1) => (frz ρ1 r).bind fun (d, ρ2) => (g ρ2).bind fun (ds, ρ3) => some (d :: ds, ρ3)
theorem da_nil : DA X [] sNil := by
  refine ⟨pa_nil.pvi fun σ H Q q => ?_⟩
  obtain ⟨P, W, F, ρ, r, ρ', R, e, q⟩ := q
  cases e
  exact q [] H F (Ext.refl _ _) R .nil
theorem da_cons {e : Expr} {es : List Expr} {f : SemE} {g : SemA} (a : DE X e f) (b : DA X es g) (hs : starEach (e :: es) X.env = (false, eval e X.env) :: starEach es X.env := by rfl) : DA X (e :: es) (sCons f g) := by
  refine ⟨(pa_cons a.pe b.pa hs).pvi fun σ H Q q => ?_⟩
  obtain ⟨P, W, F, ρ, ds, ρ', R, e, q⟩ := q
  simp only [sCons, Option.bind_eq_some_iff, Prod.exists] at e
  obtain ⟨r, ρ1, e1, d, ρ2, e2, ds', ρ3, e3, e4⟩ := e
  cases e4
  refine ⟨P, W, F, ρ, r, ρ1, R, e1, fun v H1 F1 x1 R1 o1 => ?_⟩
  obtain ⟨F2, x2, R2, rp⟩ := R1.frz o1 e2
  refine ⟨P, W, F2, ρ2, ds', ρ', R2, e3, fun vs H3 F3 x3 R3 rs => ?_⟩
  exact q _ H3 F3 ((x1.trans x2).trans x3) R3 (.cons (rp.mono (Le.of x3.same)) rs)
def pNil : SemP := fun ρ => some ([], ρ)
def pCons (f : SemE) (g : SemP) : SemP := fun ρ => (f ρ).bind fun (r, ρ1) => (g ρ1).bind fun (ds, ρ3) => some (settle r :: ds, ρ3)
theorem dp_nil : DP X [] pNil := by
  refine ⟨pa_nil.pvi fun σ H Q q => ?_⟩
  obtain ⟨P, W, F, ρ, r, ρ', R, e, q⟩ := q
  cases e
  exact q [] H F (Ext.refl _ _) R .nil
theorem lk_later {K : Fr'} {P : List (Nat × Addr)} {W F H F' H' : Hp} {σ : St} {ρ ρ' : Ro} {v : V} {r : Rv} (h : RvOk K W F H σ ρ (settle r) v) (x : Same F F') (R : Rel K P W F' H' σ ρ') : ∀ d, look ρ' (settle r) = some d → Lk K F' H' v d := by
  intro d e
  refine R.lk ?_ e
  cases r with
  | val z => exact Rp.mono (Le.of x) h
  | fr z => exact Rp.mono (Le.of x) h
  | «at» i => exact h
theorem dp_cons {e : Expr} {es : List Expr} {f : SemE} {g : SemP} (a : DE X e f) (b : DP X es g) (hs : starEach (e :: es) X.env = (false, eval e X.env) :: starEach es X.env := by rfl) : DP X (e :: es) (pCons f g) := by
  refine ⟨(pa_cons a.pe b.pa hs).pvi fun σ H Q q => ?_⟩
  obtain ⟨P, W, F, ρ, ds, ρ', R, e, q⟩ := q
  simp only [pCons, Option.bind_eq_some_iff, Prod.exists] at e
  obtain ⟨r, ρ1, e1, ds', ρ3, e3, e4⟩ := e
  cases e4
  refine ⟨P, W, F, ρ, r, ρ1, R, e1, fun v H1 F1 x1 R1 o1 => ?_⟩
  obtain ⟨F2, x2, R2, o2⟩ := R1.settle o1
  refine ⟨P, W, F2, ρ1, ds', ρ', R2, e3, fun vs H3 F3 x3 R3 rs => ?_⟩
  exact q _ H3 F3 ((x1.trans x2).trans x3) R3 (.cons (lk_later o2 x3.same R3) rs)

def tTupS (t : TA) : TE := fun σ H Q => t σ H fun xs H1 => xs.length ≤ sizeLine ∧ ∀ p o, H1 p = none → o.dict = none → Q (.ref p) (upd H1 p (.frz o (.tup xs)))
theorem new_tupS {X : Cx} {pins : List (Addr × Obj)} {σ : St} {H : Hp} {s : Shared} {Q : VK} (I : Inv X pins σ H s) {xs : List V} {us : List Value} (r : Vals xs us) (hz : xs.length ≤ sizeLine) (q : ∀ p o, H p = none → o.dict = none → Q (.ref p) (upd H p (.frz o (.tup xs)))) :
    EP X pins σ Q (.ref s.heap.objs.size) { s with heap := s.heap.push { cls := .type "tuple", data := .seq us.toArray } } := by
  refine ⟨.ref s.heap.objs.size, _, I.laid (t' := s.toks) (o := .frz { cls := .type "tuple", data := .seq us.toArray } (.tup xs)) (fun b u e => Heap.get?_push_of_some _ e) (Nat.le_refl _) ?_, rfl, q _ _ (I.hok.fresh (Nat.le_refl _)) rfl⟩
  exact ⟨Heap.get?_push_size _ rfl, hz, us, r, IsTup.new _ _⟩
theorem pe_tupS {X : Cx} {es : List Expr} {t : TA} {x1 pos} (h : PA X es t) : PE X (.Tuple es x1 pos) (tTupS t) := by
  refine ⟨fun pins s σ H Q I hq => ?_⟩
  refine wpAny_Tuple_spliced (thn (h.run pos pins s σ H _ I hq) fun us s1 ⟨xs, H1, I1, r, z, q⟩ => ⟨by rw [← r.length]; exact z, ?_⟩)
  exact new_tupS I1 r z q
def sTup (f : SemA) : SemE := fun ρ => (f ρ).bind fun (ds, ρ1) => if ds.length ≤ sizeLine then some (.val (.tuple ds), ρ1) else none
def sLst (f : SemA) : SemE := fun ρ => (f ρ).bind fun (ds, ρ1) => if ds.length ≤ sizeLine then some (.fr (.list ds), ρ1) else none
theorem de_tup {es : List Expr} {f : SemA} {x1 pos} (a : DA X es f) : DE X (.Tuple es x1 pos) (sTup f) := by
  refine ⟨(pe_tupS a.pa).pvi fun σ H Q q => ?_⟩
  obtain ⟨P, W, F, ρ, r, ρ', R, e, q⟩ := q
  simp only [sTup, Option.bind_eq_some_iff, Prod.exists] at e
  obtain ⟨ds, ρ1, e1, e2⟩ := e
  split at e2
  · cases e2
    refine ⟨P, W, F, ρ, ds, ρ', R, e1, fun vs H1 F1 x1 R1 rs => ⟨by rw [rs.length]; assumption, ?_⟩⟩
    exact Post.tup R1.fh rs (post_of R1 fun v H' F' x2 R2 o => q v H' F' (x1.trans x2) R2 o)
  · cases e2
theorem de_lst {es : List Expr} {f : SemA} {pos} (a : DA X es f) : DE X (.List es pos) (sLst f) := by
  refine ⟨(pe_lst a.pa).pvi fun σ H Q q => ?_⟩
  obtain ⟨P, W, F, ρ, r, ρ', R, e, q⟩ := q
  simp only [sLst, Option.bind_eq_some_iff, Prod.exists] at e
  obtain ⟨ds, ρ1, e1, e2⟩ := e
  split at e2
  · cases e2
    refine ⟨P, W, F, ρ, ds, ρ', R, e1, fun vs H1 F1 x1 R1 rs => ⟨by rw [rs.length]; assumption, ?_⟩⟩
    exact Post.lst R1.fh rs (post_of (zb := (.list ds, true)) R1 fun v H' F' x2 R2 o => q v H' F' (x1.trans x2) R2 o)
  · cases e2

abbrev Op2 := D → D → Option (D × Bool)
abbrev OpN := List D → Option (D × Bool)
def rS (K : Fr') (f : Op2) : R2 := fun x y H Q => ∃ F d e zb, Le F H ∧ Lk K F H x d ∧ Lk K F H y e ∧ f d e = some zb ∧ Post K F H Q zb
def rCS (K : Fr') (f : OpN) : List V → Hp → VK → Prop := fun xs H Q => ∃ F ds zb, Le F H ∧ Paired (Lk K F H) xs ds ∧ f ds = some zb ∧ Post K F H Q zb
def sOp (op : Op2) (f g : SemE) : SemE := fun ρ => (f ρ).bind fun (r1, ρ1) => (g ρ1).bind fun (r2, ρ2) => (look ρ2 (settle r1)).bind fun d => (look ρ2 (settle r2)).bind fun e => (op d e).bind fun zb => some (mkR zb, ρ2)
theorem sOp_ok {K : Fr'} {op : Op2} {f g : SemE} {σ : St} {H : Hp} {Q : VK} (q : tD K (sOp op f g) σ H Q) : tOp (rS K op) (tD K f) (tD K g) σ H Q := by
  obtain ⟨P, W, F, ρ, r, ρ', R, e, q⟩ := q
  simp only [sOp, Option.bind_eq_some_iff, Prod.exists] at e
  obtain ⟨r1, ρ1, e1, r2, ρ2, e2, d, e3, e', e4, z, b, e5, e6⟩ := e
  cases e6
  refine ⟨P, W, F, ρ, r1, ρ1, R, e1, fun v H1 F1 x1 R1 o1 => ?_⟩
  obtain ⟨F2, x2, R2, o2⟩ := R1.settle o1
  refine ⟨P, W, F2, ρ1, r2, ρ', R2, e2, fun u H3 F3 x3 R3 o3 => ?_⟩
  obtain ⟨F4, x4, R4, o4⟩ := R3.settle o3
  refine ⟨F4, d, e', (z, b), R4.fh, lk_later o2 (x3.trans x4).same R4 d e3, R4.lk o4 e4, e5, ?_⟩
  exact post_of R4 fun v H' F' x5 R5 o => q v H' F' ((((x1.trans x2).trans x3).trans x4).trans x5) R5 o
theorem de_op {op : Operator} {o : Op2} {a b : Expr} {f g : SemE} {pos : Pos} (ho : OpR X (binaryOp op) (rS X.K o)) (ha : DE X a f) (hb : DE X b g) : DE X (.BinOp a op b pos) (sOp o f g) :=
  ⟨(pe_op ho ha.pe hb.pe).pvi fun _ _ _ => sOp_ok⟩
theorem de_cmp {op : CmpOp} {o : Op2} {a b : Expr} {f g : SemE} {pos : Pos} (ho : OpR X (compareOp op) (rS X.K o)) (ha : DE X a f) (hb : DE X b g) (hm : behindInMarks op b = false) : DE X (.Compare a [op] [b] pos) (sOp o f g) :=
  ⟨(pe_cmpR ho ha.pe hb.pe hm).pvi fun _ _ _ => sOp_ok⟩
def asB : D → Option Bool
  | .bool b => some b
  | _ => none
def sTest (f : SemE) : SemT := fun ρ => (f ρ).bind fun (r, ρ1) => (look ρ1 r).bind fun d => (asB d).bind fun b => some (b, ρ1)
theorem asB_eq {d : D} {b : Bool} (h : asB d = some b) : d = .bool b := by
  unfold asB at h
  split at h
  · cases h; rfl
  · cases h
theorem sTest_ok {K : Fr'} {f : SemE} {σ : St} {H : Hp} {Q : Bool → Hp → Prop} (q : tDT K (sTest f) σ H Q) : tD K f σ H fun x H' => ∃ k, x = .bl k ∧ Q k H' := by
  obtain ⟨P, W, F, ρ, b, ρ', R, e, q⟩ := q
  simp only [sTest, Option.bind_eq_some_iff, Prod.exists] at e
  obtain ⟨r, ρ1, e1, d, e2, k, e3, e4⟩ := e
  cases e4
  refine ⟨P, W, F, ρ, r, _, R, e1, fun v H1 F1 x1 R1 o1 => ⟨b, ?_, q H1 F1 x1 R1⟩⟩
  have l := R1.lk o1 e2
  rw [asB_eq e3] at l
  exact l.bool
theorem dt_cmp {op : CmpOp} {o : Op2} {a b : Expr} {f g : SemE} {pos : Pos} (ho : OpR X (compareOp op) (rS X.K o)) (ha : DE X a f) (hb : DE X b g) (hm : behindInMarks op b = false) : DT X (.Compare a [op] [b] pos) (sTest (sOp o f g)) := by
  refine ⟨(pt_cmpR ho ha.pe hb.pe hm).pvi fun σ H Q q => ?_⟩
  exact sOp_ok (sTest_ok q)
def sChain (op op' : Op2) (f g h : SemE) : SemE := fun ρ => (f ρ).bind fun (r1, ρ1) => (g ρ1).bind fun (r2, ρ2) => (look ρ2 (settle r1)).bind fun d => (look ρ2 (settle r2)).bind fun e => (op d e).bind fun zb => (asB zb.1).bind fun k => if zb.2 = true then none else if k = true then (h ρ2).bind fun (r3, ρ3) => (look ρ3 (settle r2)).bind fun e' => (look ρ3 (settle r3)).bind fun w => (op' e' w).bind fun zb' => some (mkR zb', ρ3) else some (.val (.bool false), ρ2)
def truth : D → Option Bool
  | .none => some false
  | .bool b => some b
  | .int i => some (i != 0)
  | .str x => if x.length ≤ sizeLine then some ((x.length : Int) != 0) else none
  | .list ds => some (!ds.isEmpty)
  | .tuple ds => some (!ds.isEmpty)
  | .dict _ => none
def sTruth (f : SemE) : SemT := fun ρ => (f ρ).bind fun (r, ρ1) => (look ρ1 r).bind fun d => (truth d).bind fun b => some (b, ρ1)
theorem RpA.isEmpty {K : Fr'} {F : Hp} {vs : List V} {ds : List D} (r : RpA K F vs ds) : vs.isEmpty = ds.isEmpty := by cases r <;> rfl
theorem tru_lk {K : Fr'} {F H : Hp} {v : V} {d : D} {k : Bool} (h : Le F H) (l : Lk K F H v d) (e : truth d = some k) : TruV K v H k := by
  cases d with
  | none => rw [l.none]; cases e; exact rfl
  | bool b => rw [l.bool]; cases e; exact rfl
  | int i => rw [l.int]; cases e; exact rfl
  | str x =>
    rw [l.str]
    unfold truth at e
    simp only at e
    split at e
    · cases e; exact ⟨by assumption, rfl⟩
    · cases e
  | list ds =>
    obtain ⟨a, xs, rfl, s, r⟩ := l.list h
    cases e
    exact .inl ⟨xs, .inl (.inl s), by rw [r.isEmpty]⟩
  | tuple ds =>
    obtain ⟨a, xs, rfl, s, r, _⟩ := l.tuple h
    cases e
    exact .inr (.inl ⟨xs, s, by rw [r.isEmpty]⟩)
  | dict es => cases e
theorem dt_truth {a : Expr} {f : SemE} (ha : DE X a f) (he : ∀ whole, isTrue a X.env whole = (do let v ← whole; standAt a.pos; holding [v] (truthy v)) := by intro _; rfl) : DT X a (sTruth f) := by
  refine ⟨(pt_truth ha.pe he).pvi fun σ H Q q => ?_⟩
  obtain ⟨P, W, F, ρ, b, ρ', R, e, q⟩ := q
  simp only [sTruth, Option.bind_eq_some_iff, Prod.exists] at e
  obtain ⟨r, ρ1, e1, d, e2, k, e3, e4⟩ := e
  cases e4
  exact ⟨P, W, F, ρ, r, _, R, e1, fun v H1 F1 x1 R1 o1 => ⟨b, tru_lk R1.fh (R1.lk o1 e2) e3, q H1 F1 x1 R1⟩⟩
structure DW (X : Cx) (e : Expr) (f : SemT) : Prop where
  pw : PW X e (tDT X.K f)
def sAnd (f g : SemT) : SemT := fun ρ => (f ρ).bind fun (b, ρ1) => if b = true then g ρ1 else some (false, ρ1)
def sOr (f g : SemT) : SemT := fun ρ => (f ρ).bind fun (b, ρ1) => if b = true then some (true, ρ1) else g ρ1
def sNot (f : SemT) : SemT := fun ρ => (f ρ).bind fun (b, ρ1) => some (!b, ρ1)
theorem dw_or1 {a : Expr} {f : SemT} {pos : Pos} (h : DT X a f) : DW X (.BoolOp .Or [a] pos) f := ⟨pw_or1 h.pt⟩
theorem dw_or {a b : Expr} {rest : List Expr} {f g : SemT} {pos : Pos} (h : DT X a f) (k : DW X (.BoolOp .Or (b :: rest) pos) g) : DW X (.BoolOp .Or (a :: b :: rest) pos) (sOr f g) := by
  refine ⟨(pw_or h.pt k.pw).pvi fun σ H Q q => ?_⟩
  obtain ⟨P, W, F, ρ, b, ρ', R, e, q⟩ := q
  simp only [sOr, Option.bind_eq_some_iff, Prod.exists] at e
  obtain ⟨c, ρ1, e1, e2⟩ := e
  refine ⟨P, W, F, ρ, c, ρ1, R, e1, fun H1 F1 x1 R1 => ?_⟩
  cases c with
  | true =>
    simp only [if_true] at e2 ⊢
    cases e2
    exact q H1 F1 x1 R1
  | false =>
    simp only [Bool.false_eq_true, if_false] at e2 ⊢
    exact ⟨P, W, F1, ρ1, b, ρ', R1, e2, fun H2 F2 x2 R2 => q H2 F2 (x1.trans x2) R2⟩
theorem DW.dt {e : Expr} {f : SemT} (h : DW X e f) : DT X e f := ⟨h.pw.pt⟩
theorem dt_not {a : Expr} {f : SemT} {pos : Pos} (h : DT X a f) : DT X (.UnaryOp .Not a pos) (sNot f) := by
  refine ⟨(pt_not h.pt).pvi fun σ H Q q => ?_⟩
  obtain ⟨P, W, F, ρ, b, ρ', R, e, q⟩ := q
  simp only [sNot, Option.bind_eq_some_iff, Prod.exists] at e
  obtain ⟨c, ρ1, e1, e2⟩ := e
  cases e2
  exact ⟨P, W, F, ρ, c, _, R, e1, q⟩
def sIf (c : SemT) (f g : SemE) : SemE := fun ρ => (c ρ).bind fun (b, ρ1) => if b = true then f ρ1 else g ρ1
def sAndV (f g : SemE) : SemE := fun ρ => (sTest f ρ).bind fun (b, ρ1) => if b = true then g ρ1 else some (.val (.bool false), ρ1)
def sOrV (f g : SemE) : SemE := fun ρ => (sTest f ρ).bind fun (b, ρ1) => if b = true then some (.val (.bool true), ρ1) else g ρ1
def sNotV (f : SemE) : SemE := fun ρ => (sTest f ρ).bind fun (b, ρ1) => some (.val (.bool !b), ρ1)
theorem de_ix {o : Op2} {a b : Expr} {f g : SemE} {pos : Pos} (hr : IxR X (rS X.K o)) (ha : DE X a f) (hb : DE X b g) (hs : PlainIx b := by intro _ _; rfl) : DE X (.Subscript a b pos) (sOp o f g) :=
  ⟨(pe_ix hr ha.pe hb.pe hs).pvi fun _ _ _ => sOp_ok⟩
structure DO (X : Cx) (e : Option Expr) (f : Ro → Option (Option Int × Ro)) : Prop where
  po : PO X e fun σ H Q => ∃ P W F ρ b ρ', Rel X.K P W F H σ ρ ∧ f ρ = some (b, ρ') ∧ ∀ H' F', Ext W F F' → Rel X.K P W F' H' σ ρ' → Q b H'
def asI : D → Option Int
  | .int i => some i
  | _ => none
theorem asI_eq {d : D} {b : Int} (h : asI d = some b) : d = .int b := by
  unfold asI at h
  split at h
  · cases h; rfl
  · cases h
def oNone : Ro → Option (Option Int × Ro) := fun ρ => some (none, ρ)
def oSome (f : SemE) : Ro → Option (Option Int × Ro) := fun ρ => (f ρ).bind fun (r, ρ1) => (look ρ1 r).bind fun d => (asI d).bind fun i => some (some i, ρ1)
def sSl (o : D → Option Int → Option Int → Option (D × Bool)) (f : SemE) (l h : Ro → Option (Option Int × Ro)) : SemE := fun ρ => (f ρ).bind fun (r, ρ1) => (l ρ1).bind fun (lo, ρ2) => (h ρ2).bind fun (hi, ρ3) => (look ρ3 (settle r)).bind fun d => (o d lo hi).bind fun zb => some (mkR zb, ρ3)
def looks (ρ : Ro) : List Rv → Option (List D)
  | [] => some []
  | r :: rs => (look ρ r).bind fun d => (looks ρ rs).bind fun ds => some (d :: ds)
theorem looks_ok {K : Fr'} {F H : Hp} {ρ : Ro} : ∀ {rs : List Rv} {vs : List V} {ds : List D}, Paired (fun v r => ∀ d, look ρ r = some d → Lk K F H v d) vs rs → looks ρ rs = some ds → Paired (Lk K F H) vs ds
  | _, _, _, .nil, e => by cases e; exact .nil
  | _, _, _, .cons r t, e => by
    simp only [looks, Option.bind_eq_some_iff] at e
    obtain ⟨d, e1, ds, e2, e3⟩ := e
    cases e3
    exact .cons (r d e1) (looks_ok t e2)
def sCB (o : OpN) (f : SemP) : SemE := fun ρ => (f ρ).bind fun (rs, ρ1) => (looks ρ1 rs).bind fun ds => (o ds).bind fun zb => some (mkR zb, ρ1)
theorem sCB_ok {K : Fr'} {o : OpN} {f : SemP} {σ : St} {H : Hp} {Q : VK} (q : tD K (sCB o f) σ H Q) : tCB (rCS K o) (tDP K f) σ H Q := by
  obtain ⟨P, W, F, ρ, r, ρ', R, e, q⟩ := q
  simp only [sCB, Option.bind_eq_some_iff, Prod.exists] at e
  obtain ⟨rs, ρ1, e1, ds, e2, z, b, e3, e4⟩ := e
  cases e4
  refine ⟨P, W, F, ρ, rs, _, R, e1, fun vs H1 F1 x1 R1 ls => ?_⟩
  exact ⟨F1, ds, (z, b), R1.fh, looks_ok ls e2, e3, post_of R1 fun v H' F' x2 R2 o => q v H' F' (x1.trans x2) R2 o⟩
theorem de_callB {x : Str} {id : String} {o : OpN} {e : Expr} {es : List Expr} {f : SemP} {p pos : Pos} (hc : CallR X (.builtin id) (rCS X.K o)) (hg : Gl X x) (hm : X.mg x = none) (hv : bootBuiltins x = some (.builtin id)) (ha : DP X (e :: es) f) (hn : x ≠ "__name__" := by decide) (hdb : (x == ("__debug__" : Str)) = false := by decide)
    (he : starEach (e :: es) X.env = (false, eval e X.env) :: starEach es X.env := by rfl) (hpl : (backTo pos (starEach es X.env)).any (·.1) = false := by rfl) : DE X (.Call (.Name x p) (e :: es) [] pos) (sCB o f) :=
  ⟨(pe_callB hc hg hm hv ha.pa hn hdb he hpl).pvi fun _ _ _ => sCB_ok⟩
theorem de_callTy {x : Str} {T : String} {o : OpN} {e : Expr} {es : List Expr} {f : SemP} {p pos : Pos} (hc : CallR X (.type T) (rCS X.K o)) (hg : Gl X x) (hm : X.mg x = none) (hv : bootBuiltins x = some (.type T)) (ha : DP X (e :: es) f) (hn : x ≠ "__name__" := by decide) (hdb : (x == ("__debug__" : Str)) = false := by decide)
    (he : starEach (e :: es) X.env = (false, eval e X.env) :: starEach es X.env := by rfl) (hpl : (backTo pos (starEach es X.env)).any (·.1) = false := by rfl) : DE X (.Call (.Name x p) (e :: es) [] pos) (sCB o f) :=
  ⟨(pe_callTy hc hg hm hv ha.pa hn hdb he hpl).pvi fun _ _ _ => sCB_ok⟩
end
end Pv
end
section
set_option Elab.async false
set_option linter.all false
set_option maxRecDepth 100000
set_option maxHeartbeats 1000000
namespace Pv
open PySem PySem.Spec PyProof.Rows L2

inductive Out
  | nx (ρ : Ro)
  | rt (r : Rv) (ρ : Ro)
  | bk (ρ : Ro)
  | ct (ρ : Ro)
abbrev SemS := Ro → Option Out
def OutQ (K : Fr') (P : List (Nat × Addr)) (W F : Hp) (D : Ends) : Out → Prop
  | .nx ρ => ∀ σ H F', Ext W F F' → Rel K P W F' H σ ρ → D.nx σ H
  | .bk ρ => ∀ σ H F', Ext W F F' → Rel K P W F' H σ ρ → D.bk σ H
  | .ct ρ => ∀ σ H F', Ext W F F' → Rel K P W F' H σ ρ → D.ct σ H
  | .rt r ρ => ∀ v σ H F', Ext W F F' → Rel K P W F' H σ ρ → RvOk K W F' H σ ρ r v → D.rt v H
theorem OutQ.ext {K : Fr'} {P : List (Nat × Addr)} {W F F1 : Hp} {D : Ends} {o : Out} (h : OutQ K P W F D o) (x : Ext W F F1) : OutQ K P W F1 D o := by
  cases o with
  | nx ρ => exact fun σ H F' y R => h σ H F' (x.trans y) R
  | bk ρ => exact fun σ H F' y R => h σ H F' (x.trans y) R
  | ct ρ => exact fun σ H F' y R => h σ H F' (x.trans y) R
  | rt r ρ => exact fun v σ H F' y R o => h v σ H F' (x.trans y) R o
def tDS (K : Fr') (f : SemS) : TS := fun D σ H => ∃ P W F ρ o, Rel K P W F H σ ρ ∧ f ρ = some o ∧ OutQ K P W F D o
structure DS (X : Cx) (st : Stmt) (f : SemS) : Prop where
  ps : PS X st (tDS X.K f)
structure DSs (X : Cx) (st : List Stmt) (f : SemS) : Prop where
  ps : PSs X st (tDS X.K f)
theorem _root_.L2.PS.pvi {X : Cx} {e : Stmt} {t t' : TS} (h : PS X e t) (i : ∀ D σ H, t' D σ H → t D σ H) : PS X e t' := ⟨fun pins s σ H D I q => h.run pins s σ H D I (i D σ H q)⟩
theorem _root_.L2.PSs.pvi {X : Cx} {e : List Stmt} {t t' : TS} (h : PSs X e t) (i : ∀ D σ H, t' D σ H → t D σ H) : PSs X e t' := ⟨fun pins s σ H D I q => h.run pins s σ H D I (i D σ H q)⟩

section
variable {X : Cx}
def sNx : SemS := fun ρ => some (.nx ρ)
def sStuck : SemS := fun _ => none
def thenS : Out → SemS → Option Out
  | .nx ρ, g => g ρ
  | o, _ => some o
def sSeq (f g : SemS) : SemS := fun ρ => (f ρ).bind fun o => thenS o g
theorem dss_nil : DSs X [] sNx := ⟨pss_nil.pvi fun D σ H ⟨P, W, F, ρ, o, R, e, q⟩ => by cases e; exact q σ H F (Ext.refl _ _) R⟩
theorem dss_one {st : Stmt} {f : SemS} (h : DS X st f) : DSs X [st] f := ⟨pss_one h.ps⟩
theorem dss_cons {st : Stmt} {rest : List Stmt} {f g : SemS} (h : DS X st f) (k : DSs X rest g) : DSs X (st :: rest) (sSeq f g) := by
  refine ⟨(pss_cons h.ps k.ps).pvi fun D σ H q => ?_⟩
  obtain ⟨P, W, F, ρ, o, R, e, q⟩ := q
  simp only [sSeq, Option.bind_eq_some_iff] at e
  obtain ⟨o1, e1, e2⟩ := e
  refine ⟨P, W, F, ρ, o1, R, e1, ?_⟩
  cases o1 with
  | nx ρ1 => exact fun σ1 H1 F1 x1 R1 => ⟨P, W, F1, ρ1, o, R1, e2, q.ext x1⟩
  | bk ρ1 => cases e2; exact q
  | ct ρ1 => cases e2; exact q
  | rt r ρ1 => cases e2; exact q

def slotOk (ρ : Ro) (i : Nat) : Bool := match ρ[i]? with
  | none => false
  | some (some (.byr _)) => false
  | some (some (.scr _)) => false
  | _ => true
def store (i : Nat) (r : Rv) (ρ : Ro) : Option Ro := if slotOk ρ i = true then (match r with
  | .val d => some (ρ.set i (some (.val d)))
  | .fr d => some (ρ.set i (some (.own d)))
  | .at j => (frz ρ (.at j)).bind fun (d, ρ2) => some (ρ2.set i (some (.val d)))) else none
theorem slot_pin {K : Fr'} {P : List (Nat × Addr)} {W F H : Hp} {σ : St} {ρ : Ro} (R : Rel K P W F H σ ρ) {i : Nat} (h : slotOk ρ i = true) : ∀ p ∈ P, p.1 ≠ i := fun p hp z => by
  obtain ⟨_, d, e⟩ := R.pin p hp
  rw [z] at e
  unfold slotOk at h
  rw [e] at h
  cases h
theorem Rel.setVal {K : Fr'} {P : List (Nat × Addr)} {W F H : Hp} {σ : St} {ρ : Ro} {i : Nat} {v : V} {d : D} (R : Rel K P W F H σ ρ) (hp : ∀ p ∈ P, p.1 ≠ i) (rp : Rp K F v d) (hi : i < ρ.length) :
    Rel K P W F H (σ.set i (some v)) (ρ.set i (some (.val d))) where
  fh := R.fh
  wh := R.wh
  len := by rw [List.length_set, List.length_set]; exact R.len
  cell := fun j c e => by
    rcases set_get e with ⟨rfl, z⟩ | ⟨hj, z⟩
    · cases z
      exact ⟨v, by rw [List.getElem?_set_self (by rw [R.len]; exact hi)], rp⟩
    · obtain ⟨w, hw, hk⟩ := R.cell j c z
      exact ⟨w, by rw [List.getElem?_set_ne (fun y => hj y.symm)]; exact hw, hk⟩
  inj := fun j k c e a hjk h1 h2 o1 o2 s1 s2 => by
    rcases set_get h1 with ⟨rfl, z⟩ | ⟨hj, z⟩
    · cases z; cases o1
    · rcases set_get h2 with ⟨rfl, z2⟩ | ⟨hk, z2⟩
      · cases z2; cases o2
      · rw [List.getElem?_set_ne (fun y => hj y.symm)] at s1
        rw [List.getElem?_set_ne (fun y => hk y.symm)] at s2
        exact R.inj j k c e a hjk z z2 o1 o2 s1 s2
  pin := fun p q => by
    obtain ⟨h1, d', h2⟩ := R.pin p q
    refine ⟨by rw [List.getElem?_set_ne (fun y => hp p q y.symm)]; exact h1, d', by rw [List.getElem?_set_ne (fun y => hp p q y.symm)]; exact h2⟩
  dis := R.dis
theorem Rel.setOwn {K : Fr'} {P : List (Nat × Addr)} {W F H : Hp} {σ : St} {ρ : Ro} {i : Nat} {v : V} {d : D} (R : Rel K P W F H σ ρ) (hp : ∀ p ∈ P, p.1 ≠ i) (ho : RvOk K W F H σ ρ (.fr d) v) (hi : i < ρ.length) :
    Rel K P W F H (σ.set i (some v)) (ρ.set i (some (.own d))) where
  fh := R.fh
  wh := R.wh
  len := by rw [List.length_set, List.length_set]; exact R.len
  cell := fun j c e => by
    rcases set_get e with ⟨rfl, z⟩ | ⟨hj, z⟩
    · cases z
      exact ⟨v, by rw [List.getElem?_set_self (by rw [R.len]; exact hi)], ho.1⟩
    · obtain ⟨w, hw, hk⟩ := R.cell j c z
      exact ⟨w, by rw [List.getElem?_set_ne (fun y => hj y.symm)]; exact hw, hk⟩
  inj := fun j k c e a hjk h1 h2 o1 o2 s1 s2 => by
    rcases set_get h1 with ⟨rfl, z⟩ | ⟨hj, z⟩
    · rcases set_get h2 with ⟨rfl, z2⟩ | ⟨hk, z2⟩
      · exact hjk rfl
      · rw [List.getElem?_set_self (by rw [R.len]; exact hi)] at s1
        rw [List.getElem?_set_ne (fun y => hk y.symm)] at s2
        cases s1
        exact ho.2 k e z2 o2 s2
    · rcases set_get h2 with ⟨rfl, z2⟩ | ⟨hk, z2⟩
      · rw [List.getElem?_set_self (by rw [R.len]; exact hi)] at s2
        rw [List.getElem?_set_ne (fun y => hj y.symm)] at s1
        cases s2
        exact ho.2 j c z o1 s1
      · rw [List.getElem?_set_ne (fun y => hj y.symm)] at s1
        rw [List.getElem?_set_ne (fun y => hk y.symm)] at s2
        exact R.inj j k c e a hjk z z2 o1 o2 s1 s2
  pin := fun p q => by
    obtain ⟨h1, d', h2⟩ := R.pin p q
    refine ⟨by rw [List.getElem?_set_ne (fun y => hp p q y.symm)]; exact h1, d', by rw [List.getElem?_set_ne (fun y => hp p q y.symm)]; exact h2⟩
  dis := R.dis
theorem slot_lt {ρ : Ro} {i : Nat} (h : slotOk ρ i = true) : i < ρ.length := by
  unfold slotOk at h
  cases e : ρ[i]? with
  | none => rw [e] at h; cases h
  | some c => exact (List.getElem?_eq_some_iff.mp e).1
theorem frz_len {ρ ρ' : Ro} {r : Rv} {d : D} (e : frz ρ r = some (d, ρ')) : ρ'.length = ρ.length := by
  unfold frz at e
  split at e
  · cases e; rfl
  · cases e; rfl
  · split at e
    · cases e; rfl
    · cases e; rw [List.length_set]
    · cases e
theorem Rel.store {K : Fr'} {P : List (Nat × Addr)} {W F H : Hp} {σ : St} {ρ ρ' : Ro} {i : Nat} {v : V} {r : Rv} (R : Rel K P W F H σ ρ) (ho : RvOk K W F H σ ρ r v) (e : store i r ρ = some ρ') :
    ∃ F', Ext W F F' ∧ Rel K P W F' H (σ.set i (some v)) ρ' := by
  unfold Pv.store at e
  split at e
  · rename_i hs
    have hp := slot_pin R hs
    have hl := slot_lt hs
    cases r with
    | val d => cases e; exact ⟨F, Ext.refl _ _, R.setVal hp ho hl⟩
    | fr d => cases e; exact ⟨F, Ext.refl _ _, R.setOwn hp ho hl⟩
    | «at» j =>
      simp only [Option.bind_eq_some_iff, Prod.exists] at e
      obtain ⟨d, ρ2, e1, e2⟩ := e
      cases e2
      obtain ⟨F', x, R', rp⟩ := R.frz ho e1
      exact ⟨F', x, R'.setVal hp rp (by rw [frz_len e1]; exact hl)⟩
  · cases e
def sSet (i : Nat) (f : SemE) : SemS := fun ρ => (f ρ).bind fun (r, ρ1) => (store i r ρ1).bind fun ρ2 => some (.nx ρ2)
theorem sSet_ok {K : Fr'} {i : Nat} {f : SemE} {D : Ends} {σ : St} {H : Hp} (q : tDS K (sSet i f) D σ H) : tAsg (tD K f) (gName i) D σ H := by
  obtain ⟨P, W, F, ρ, o, R, e, q⟩ := q
  simp only [sSet, Option.bind_eq_some_iff, Prod.exists] at e
  obtain ⟨r, ρ1, e1, ρ2, e2, e3⟩ := e
  cases e3
  refine ⟨P, W, F, ρ, r, ρ1, R, e1, fun v H1 F1 x1 R1 o1 => ?_⟩
  obtain ⟨F2, x2, R2⟩ := R1.store o1 e2
  exact q _ H1 F2 (x1.trans x2) R2
theorem ds_set {i : Nat} {x : Str} {e : Expr} {f : SemE} {pos pos' : Pos} (h : PS X (.Assign [.Name x pos'] e pos) (tAsg (tD X.K f) (gName i))) : DS X (.Assign [.Name x pos'] e pos) (sSet i f) :=
  ⟨h.pvi fun _ _ _ => sSet_ok⟩

abbrev SemG := D → Ro → Option Ro
abbrev SemGs := List D → Ro → Option Ro
def Off (vs : List Nat) (σ σ' : St) : Prop := σ'.length = σ.length ∧ ∀ j, j ∉ vs → σ'[j]? = σ[j]?
theorem Off.refl (vs : List Nat) (σ : St) : Off vs σ σ := ⟨rfl, fun _ _ => rfl⟩
theorem Off.trans {vs us : List Nat} {σ σ1 σ2 : St} (a : Off vs σ σ1) (b : Off us σ1 σ2) : Off (vs ++ us) σ σ2 :=
  ⟨b.1.trans a.1, fun j h => (b.2 j fun z => h (List.mem_append_right _ z)).trans (a.2 j fun z => h (List.mem_append_left _ z))⟩
def tDG (K : Fr') (vs : List Nat) (g : SemG) : TG := fun v σ H Q => ∃ P W F ρ d ρ', Rel K P W F H σ ρ ∧ Rp K F v d ∧ g d ρ = some ρ' ∧ ∀ σ' H' F', Ext W F F' → Rel K P W F' H' σ' ρ' → Off vs σ σ' → Q σ' H'
def tDGs (K : Fr') (vs : List Nat) (g : SemGs) : TGs := fun us σ H Q => ∃ P W F ρ ds ρ', Rel K P W F H σ ρ ∧ RpA K F us ds ∧ g ds ρ = some ρ' ∧ ∀ σ' H' F', Ext W F F' → Rel K P W F' H' σ' ρ' → Off vs σ σ' → Q σ' H'
structure DG (X : Cx) (e : Expr) (vs : List Nat) (g : SemG) : Prop where
  pg : PG X e (tDG X.K vs g)
structure DGs (X : Cx) (e : List Expr) (vs : List Nat) (g : SemGs) : Prop where
  pg : PGs X e (tDGs X.K vs g)
theorem _root_.L2.PG.pvi {X : Cx} {e : Expr} {t t' : TG} (h : PG X e t) (i : ∀ v σ H Q, t' v σ H Q → t v σ H Q) : PG X e t' := ⟨fun pins s σ H v u Q I r q => h.run pins s σ H v u Q I r (i v σ H Q q)⟩
theorem _root_.L2.PGs.pvi {X : Cx} {e : List Expr} {t t' : TGs} (h : PGs X e t) (i : ∀ v σ H Q, t' v σ H Q → t v σ H Q) : PGs X e t' := ⟨fun pins s σ H v u Q I r q => h.run pins s σ H v u Q I r (i v σ H Q q)⟩
def gN (i : Nat) : SemG := fun d ρ => store i (.val d) ρ
def gsNil : SemGs := fun ds ρ => match ds with
  | [] => some ρ
  | _ => none
def gsCons (g : SemG) (h : SemGs) : SemGs := fun ds ρ => match ds with
  | d :: ds => (g d ρ).bind fun ρ1 => h ds ρ1
  | [] => none
def gT (n : Nat) (g : SemGs) : SemG := fun d ρ => match d with
  | .tuple ds => if ds.length = n then g ds ρ else none
  | _ => none
theorem dg_name {i : Nat} {x : Str} {pos : Pos} (h : PG X (.Name x pos) (gName i)) : DG X (.Name x pos) [i] (gN i) := by
  refine ⟨h.pvi fun v σ H Q q => ?_⟩
  obtain ⟨P, W, F, ρ, d, ρ', R, rp, e, q⟩ := q
  obtain ⟨F2, x2, R2⟩ := R.store (r := .val d) rp e
  exact q _ H F2 x2 R2 ⟨by rw [List.length_set], fun j hj => List.getElem?_set_ne (fun z => hj (by rw [z]; exact List.mem_singleton.mpr rfl))⟩
theorem dgs_nil : DGs X [] [] gsNil := by
  refine ⟨pgs_nil.pvi fun v σ H Q q => ?_⟩
  obtain ⟨P, W, F, ρ, d, ρ', R, rp, e, q⟩ := q
  cases rp with
  | nil => cases e; exact ⟨rfl, q _ H F (Ext.refl _ _) R (Off.refl _ _)⟩
  | cons r t => cases e
theorem dgs_cons {e : Expr} {es : List Expr} {g : SemG} {h : SemGs} {vs us : List Nat} (a : DG X e vs g) (b : DGs X es us h) (hs : (assignEach (e :: es) X.env).map (·.2) = assign e X.env :: (assignEach es X.env).map (·.2) := by rfl) : DGs X (e :: es) (vs ++ us) (gsCons g h) := by
  refine ⟨(pgs_cons a.pg b.pg hs).pvi fun v σ H Q q => ?_⟩
  obtain ⟨P, W, F, ρ, d, ρ', R, rp, e, q⟩ := q
  cases rp with
  | nil => cases e
  | @cons v vs d ds r t =>
    simp only [gsCons, Option.bind_eq_some_iff] at e
    obtain ⟨ρ1, e1, e2⟩ := e
    refine ⟨v, vs, rfl, P, W, F, ρ, d, ρ1, R, r, e1, fun σ1 H1 F1 x1 R1 f1 => ?_⟩
    exact ⟨P, W, F1, ρ1, ds, ρ', R1, t.mono (Le.of x1.same), e2, fun σ2 H2 F2 x2 R2 f2 => q σ2 H2 F2 (x1.trans x2) R2 (f1.trans f2)⟩
theorem dg_tup {es : List Expr} {k n : Nat} {g : SemGs} {vs : List Nat} {pos : Pos} (h : DGs X es vs g) (hc : X.calm = true) (hn : (assignEach es X.env).length = n := by rfl) (hst : (assignEach es X.env).findIdx? (·.1) = none := by rfl) : DG X (.Tuple es k pos) vs (gT n g) := by
  refine ⟨(pg_tup hc h.pg hn hst).pvi fun v σ H Q q => ?_⟩
  obtain ⟨P, W, F, ρ, d, ρ', R, rp, e, q⟩ := q
  unfold gT at e
  split at e
  · rename_i ds
    split at e
    · rename_i hl
      cases rp with
      | tup s r => exact ⟨_, _, rfl, R.fh.sqt s.1, by rw [r.length]; exact hl, P, W, F, ρ, ds, ρ', R, r, e, q⟩
    · cases e
  · cases e
def sAsg (f : SemE) (g : SemG) : SemS := fun ρ => (f ρ).bind fun (r, ρ1) => (frz ρ1 r).bind fun (d, ρ2) => (g d ρ2).bind fun ρ3 => some (.nx ρ3)
theorem ds_asg {tg e : Expr} {f : SemE} {g : SemG} {vs : List Nat} {pos : Pos} (he : DE X e f) (hg : DG X tg vs g) (hs : swapsWithSole [tg] e pos.line X.env = pure false := by rfl) (hw : swappedStores [tg] e X.env = pure none := by rfl)
    (h1 : (assignEach [tg] X.env).map (·.2) = [assign tg X.env] := by rfl) : DS X (.Assign [tg] e pos) (sAsg f g) := by
  refine ⟨(ps_asg he.pe hg.pg hs hw h1).pvi fun D σ H q => ?_⟩
  obtain ⟨P, W, F, ρ, o, R, e, q⟩ := q
  simp only [sAsg, Option.bind_eq_some_iff, Prod.exists] at e
  obtain ⟨r, ρ1, e1, d, ρ2, e2, ρ3, e3, e4⟩ := e
  cases e4
  refine ⟨P, W, F, ρ, r, ρ1, R, e1, fun v H1 F1 x1 R1 o1 => ?_⟩
  obtain ⟨F2, x2, R2, rp⟩ := R1.frz o1 e2
  exact ⟨P, W, F2, ρ2, d, ρ3, R2, rp, e3, fun σ3 H3 F3 x3 R3 _ => q σ3 H3 F3 ((x1.trans x2).trans x3) R3⟩

def sRet (f : SemE) : SemS := fun ρ => (f ρ).bind fun (r, ρ1) => match r with
  | .at i => (match ρ1[i]? with
    | some (some (.own d)) => some (.rt (.fr d) (ρ1.set i none))
    | some (some (.val d)) => some (.rt (.val d) ρ1)
    | _ => none)
  | r => some (.rt r ρ1)
theorem Rel.clear {K : Fr'} {P : List (Nat × Addr)} {W F H : Hp} {σ : St} {ρ : Ro} {i : Nat} (R : Rel K P W F H σ ρ) (hp : ∀ p ∈ P, p.1 ≠ i) : Rel K P W F H σ (ρ.set i none) where
  fh := R.fh
  wh := R.wh
  len := by rw [List.length_set]; exact R.len
  cell := fun j c e => by
    rcases set_get e with ⟨rfl, z⟩ | ⟨hj, z⟩
    · cases z
    · exact R.cell j c z
  inj := fun j k c e a hjk h1 h2 o1 o2 s1 s2 => by
    rcases set_get h1 with ⟨rfl, z⟩ | ⟨hj, z⟩
    · cases z
    · rcases set_get h2 with ⟨rfl, z2⟩ | ⟨hk, z2⟩
      · cases z2
      · exact R.inj j k c e a hjk z z2 o1 o2 s1 s2
  pin := fun p q => by
    obtain ⟨h1, d', h2⟩ := R.pin p q
    exact ⟨h1, d', by rw [List.getElem?_set_ne (fun y => hp p q y.symm)]; exact h2⟩
  dis := R.dis
theorem ds_ret {e : Expr} {f : SemE} {pos : Pos} (he : DE X e f) : DS X (.Return (some e) pos) (sRet f) := by
  refine ⟨(ps_ret he.pe).pvi fun D σ H q => ?_⟩
  obtain ⟨P, W, F, ρ, o, R, e, q⟩ := q
  simp only [sRet, Option.bind_eq_some_iff, Prod.exists] at e
  obtain ⟨r, ρ1, e1, e2⟩ := e
  refine ⟨P, W, F, ρ, r, ρ1, R, e1, fun v H1 F1 x1 R1 o1 => ?_⟩
  cases r with
  | val d => cases e2; exact q v σ H1 F1 x1 R1 o1
  | fr d => cases e2; exact q v σ H1 F1 x1 R1 o1
  | «at» i =>
    simp only at e2
    split at e2
    · rename_i d hc
      cases e2
      obtain ⟨u, hu, hk⟩ := R1.cell i _ hc
      have hv : σ[i]? = some (some v) := o1
      rw [hv] at hu; cases hu
      have hp : ∀ p ∈ P, p.1 ≠ i := fun p hp z => by
        obtain ⟨_, d', h2⟩ := R1.pin p hp
        rw [z, hc] at h2; cases h2
      refine q v σ H1 F1 x1 (R1.clear hp) ⟨hk, fun j c e ow es => ?_⟩
      rcases set_get e with ⟨rfl, z⟩ | ⟨hj, z⟩
      · cases z
      · obtain ⟨a, ea, _⟩ := hk
        subst ea
        exact R1.inj j i c _ a hj z hc ow rfl es hv
    · rename_i d hc
      cases e2
      obtain ⟨u, hu, hk⟩ := R1.cell i _ hc
      have hv : σ[i]? = some (some v) := o1
      rw [hv] at hu; cases hu
      exact q v σ H1 F1 x1 R1 hk
    · cases e2
def sRetN : SemS := fun ρ => some (.rt (.val .none) ρ)
def sExpr (f : SemE) : SemS := fun ρ => (f ρ).bind fun (_, ρ1) => some (.nx ρ1)
theorem ds_expr {e : Expr} {f : SemE} {pos : Pos} (he : DE X e f) (hs : swapsWith e none pos.line X.env = pure false := by rfl) : DS X (.Expr e pos) (sExpr f) := by
  refine ⟨(ps_expr he.pe hs).pvi fun D σ H q => ?_⟩
  obtain ⟨P, W, F, ρ, o, R, e, q⟩ := q
  simp only [sExpr, Option.bind_eq_some_iff, Prod.exists] at e
  obtain ⟨r, ρ1, e1, e2⟩ := e
  cases e2
  exact ⟨P, W, F, ρ, r, ρ1, R, e1, fun v H1 F1 x1 R1 o1 => q σ H1 F1 x1 R1⟩
def sIfS (c : SemT) (f g : SemS) : SemS := fun ρ => (c ρ).bind fun (b, ρ1) => if b = true then f ρ1 else g ρ1
theorem ds_if {c : Expr} {a b : List Stmt} {h : SemT} {f g : SemS} {pos : Pos} (hc : DT X c h) (ha : DSs X a f) (hb : DSs X b g) : DS X (.If c a b pos) (sIfS h f g) := by
  refine ⟨(ps_if hc.pt ha.ps hb.ps).pvi fun D σ H q => ?_⟩
  obtain ⟨P, W, F, ρ, o, R, e, q⟩ := q
  simp only [sIfS, Option.bind_eq_some_iff, Prod.exists] at e
  obtain ⟨b, ρ1, e1, e2⟩ := e
  refine ⟨P, W, F, ρ, b, ρ1, R, e1, fun H1 F1 x1 R1 => ?_⟩
  cases b with
  | true =>
    simp only [if_true] at e2 ⊢
    exact ⟨P, W, F1, ρ1, o, R1, e2, q.ext x1⟩
  | false =>
    simp only [Bool.false_eq_true, if_false] at e2 ⊢
    exact ⟨P, W, F1, ρ1, o, R1, e2, q.ext x1⟩

theorem RvOk.lessW {K : Fr'} {W W' F H : Hp} {σ : St} {ρ : Ro} {r : Rv} {v : V} (h : Same W W') (o : RvOk K W' F H σ ρ r v) : RvOk K W F H σ ρ r v := by
  cases r with
  | val d => exact o
  | «at» i => exact o
  | fr d =>
    obtain ⟨⟨a, ea, hw, q⟩, hn⟩ := o
    refine ⟨⟨a, ea, ?_, q⟩, hn⟩
    cases e : W a with
    | none => rfl
    | some u => rw [h a u e] at hw; cases hw
def SameZ (W H : Hp) : Prop := ∀ b o u, W b = some (.frz o u) → H b = some (.frz o u)
structure WalkD (K : Fr') (W F : Hp) (J : It) (ds : List D) : Prop where
  ex : ∃ G Y, Walk J ds.length G Y ∧ (∀ F' H, Same F F' → Le F' H → SameZ W H → G H) ∧
    ∀ (i : Nat) (d : D) (F' H H' : Hp) (x : V), Same F F' → Le F' H → ds[i]? = some d → Y i H x H' → ∃ F2, Grow F' H F2 H' ∧ Rp K F2 x d
abbrev SemI := Ro → Option (List D × Ro)
def tDI (K : Fr') (f : SemI) : TI := fun σ H R => ∃ P W F ρ ds ρ', Rel K P W F H σ ρ ∧ f ρ = some (ds, ρ') ∧ ∀ J H' W' F', Same W W' → Ext W F F' → Rel K P W' F' H' σ ρ' → WalkD K W' F' J ds → R J H'
structure DI (X : Cx) (tg iter : Expr) (f : SemI) : Prop where
  pi : PI X tg iter (tDI X.K f)
theorem _root_.L2.PI.pvi {X : Cx} {tg e : Expr} {t t' : TI} (h : PI X tg e t) (i : ∀ σ H Q, t' σ H Q → t σ H Q) : PI X tg e t' := ⟨fun pins s σ H Q I q => h.run pins s σ H Q I (i σ H Q q)⟩
def forL (g : SemG) (b : SemS) : List D → Ro → Option Out
  | [], ρ => some (.nx ρ)
  | d :: ds, ρ => (g d ρ).bind fun ρ1 => (b ρ1).bind fun o => (match o with
      | .nx ρ2 => forL g b ds ρ2
      | .ct ρ2 => forL g b ds ρ2
      | .bk ρ2 => some (.nx ρ2)
      | .rt r ρ2 => some (.rt r ρ2))
def sFor (it : SemI) (g : SemG) (b : SemS) : SemS := fun ρ => (it ρ).bind fun (ds, ρ1) => forL g b ds ρ1
theorem ds_for {tg iter : Expr} {body : List Stmt} {it : SemI} {g : SemG} {b : SemS} {vs : List Nat} {pos : Pos} (hi : DI X tg iter it) (hg : DG X tg vs g) (hb : DSs X body b) (hp : PassesOwn (model X.prog X.w) X.A X.env X.xe) (hc : X.calm = true)
    (hs : ∀ x, foldedSetIterable iter X.env x = pure x := by intro _; rfl) : DS X (.For tg iter body [] pos) (sFor it g b) := by
  refine ⟨(ps_for hp hc hi.pi hg.pg hb.ps hs).pvi fun D σ H q => ?_⟩
  obtain ⟨P, W, F, ρ, o, R, e, q⟩ := q
  simp only [sFor, Option.bind_eq_some_iff, Prod.exists] at e
  obtain ⟨ds, ρ1, e1, e2⟩ := e
  refine ⟨P, W, F, ρ, ds, ρ1, R, e1, fun J H1 W1 F1 sw x1 R1 w => ?_⟩
  obtain ⟨G, Y, w, hG, hY⟩ := w.ex
  refine for_it w (fun i σ H => ∃ F2 ρ2, Ext W1 F1 F2 ∧ Rel X.K P W1 F2 H σ ρ2 ∧ forL g b (ds.drop i) ρ2 = some o) ⟨F1, ρ1, Ext.refl _ _, R1, by simpa using e2⟩ (fun i σ H hi ⟨F2, ρ2, x2, R2, _⟩ => hG F2 H x2.same R2.fh fun b o u e => R2.wh b _ e) ?_ ?_
  · rintro i x σ H H' hi ⟨F2, ρ2, x2, R2, e3⟩ y
    have hd : ds[i]? = some ds[i] := List.getElem?_eq_getElem hi
    obtain ⟨F3, g3, rp⟩ := hY i _ F2 H H' x x2.same R2.fh hd y
    rw [List.drop_eq_getElem_cons hi] at e3
    simp only [forL, Option.bind_eq_some_iff] at e3
    obtain ⟨ρ3, e4, o1, e5, e6⟩ := e3
    have x3 := x2.trans (g3.ext R2.wh)
    refine ⟨P, W1, F3, ρ2, ds[i], ρ3, R2.grow g3, rp, e4, fun σ4 H4 F4 x4 R4 _ => ?_⟩
    refine ⟨P, W1, F4, ρ3, o1, R4, e5, ?_⟩
    cases o1 with
    | nx ρ5 => exact fun σ5 H5 F5 x5 R5 => ⟨F5, ρ5, (x3.trans x4).trans x5, R5, e6⟩
    | ct ρ5 => exact fun σ5 H5 F5 x5 R5 => ⟨F5, ρ5, (x3.trans x4).trans x5, R5, e6⟩
    | bk ρ5 => cases e6; exact fun σ5 H5 F5 x5 R5 => q σ5 H5 F5 (x1.trans ((x3.trans x4).trans x5 |>.less sw)) (R5.lessW sw)
    | rt r ρ5 => cases e6; exact fun v σ5 H5 F5 x5 R5 o5 => q v σ5 H5 F5 (x1.trans ((x3.trans x4).trans x5 |>.less sw)) (R5.lessW sw) (o5.lessW sw)
  · rintro σ H ⟨F2, ρ2, x2, R2, e3⟩
    rw [List.drop_length] at e3
    cases e3
    exact q σ H F2 (x1.trans (x2.less sw)) (R2.lessW sw)
def asL : D → Option (List D)
  | .list ds => some ds
  | _ => none
def asT : D → Option (List D)
  | .tuple ds => some ds
  | _ => none
def iL (f : SemE) : SemI := fun ρ => (f ρ).bind fun (r, ρ1) => (frz ρ1 r).bind fun (d, ρ2) => (asL d).bind fun ds => some (ds, ρ2)
def iT (f : SemE) : SemI := fun ρ => (f ρ).bind fun (r, ρ1) => (frz ρ1 r).bind fun (d, ρ2) => (asT d).bind fun ds => some (ds, ρ2)
theorem asL_eq {d : D} {b : List D} (h : asL d = some b) : d = .list b := by
  unfold asL at h
  split at h
  · cases h; rfl
  · cases h
theorem asT_eq {d : D} {b : List D} (h : asT d = some b) : d = .tuple b := by
  unfold asT at h
  split at h
  · cases h; rfl
  · cases h
theorem walkD_list {K : Fr'} {W F : Hp} {a : Addr} {xs : List V} {ds : List D} (s : F a = some (.lst xs)) (r : RpA K F xs ds) : WalkD K W F (Itl K a) ds := by
  refine ⟨_, _, r.length ▸ walk_list (K := K) (a := a) (xs := xs), fun F' H x l _ => .inl (.inl (l.lst (x _ _ s))), ?_⟩
  rintro i d F' H H' x sm l hd ⟨rfl, e⟩
  obtain ⟨v, hv, rp⟩ := r.get i d hd
  rw [e] at hv; cases hv
  exact ⟨F', Grow.refl l, rp.mono (Le.of sm)⟩
theorem walkD_tup {K : Fr'} {W F : Hp} {a : Addr} {xs : List V} {ds : List D} (s : SqT K F a xs) (r : RpA K F xs ds) : WalkD K W F (Itt K a) ds := by
  refine ⟨_, _, r.length ▸ walk_tup (K := K) (a := a) (xs := xs), fun F' H x l _ => l.sqt ((Le.of x).sqt s), ?_⟩
  rintro i d F' H H' x sm l hd ⟨rfl, e⟩
  obtain ⟨v, hv, rp⟩ := r.get i d hd
  rw [e] at hv; cases hv
  exact ⟨F', Grow.refl l, rp.mono (Le.of sm)⟩
theorem di_list {tg e : Expr} {f : SemE} (h : DE X e f) (p : PI X tg e (iList X.K (tD X.K f))) : DI X tg e (iL f) := by
  refine ⟨p.pvi fun σ H Q q => ?_⟩
  obtain ⟨P, W, F, ρ, ds, ρ', R, e, q⟩ := q
  simp only [iL, Option.bind_eq_some_iff, Prod.exists] at e
  obtain ⟨r, ρ1, e1, d, ρ2, e2, ds', e3, e4⟩ := e
  cases e4
  refine ⟨P, W, F, ρ, r, ρ1, R, e1, fun v H1 F1 x1 R1 o1 => ?_⟩
  obtain ⟨F2, x2, R2, rp⟩ := R1.frz o1 e2
  rw [asL_eq e3] at rp
  cases rp with
  | lst s r => exact ⟨_, rfl, ⟨_, .inl (.inl (R2.fh.lst s))⟩, q _ H1 W F2 (Same.refl W) (x1.trans x2) R2 (walkD_list s r)⟩
theorem di_tup {tg e : Expr} {f : SemE} (h : DE X e f) (p : PI X tg e (iTup X.K (tD X.K f))) : DI X tg e (iT f) := by
  refine ⟨p.pvi fun σ H Q q => ?_⟩
  obtain ⟨P, W, F, ρ, ds, ρ', R, e, q⟩ := q
  simp only [iT, Option.bind_eq_some_iff, Prod.exists] at e
  obtain ⟨r, ρ1, e1, d, ρ2, e2, ds', e3, e4⟩ := e
  cases e4
  refine ⟨P, W, F, ρ, r, ρ1, R, e1, fun v H1 F1 x1 R1 o1 => ?_⟩
  obtain ⟨F2, x2, R2, rp⟩ := R1.frz o1 e2
  rw [asT_eq e3] at rp
  cases rp with
  | tup s r => exact ⟨_, rfl, ⟨_, R2.fh.sqt s.1⟩, q _ H1 W F2 (Same.refl W) (x1.trans x2) R2 (walkD_tup s.1 r)⟩
def small62 (i : Int) : Bool := decide (-(2 ^ 62) ≤ i) && decide (i < 2 ^ 62)
def rng (lo : Int) (n : Nat) : List D := (List.range n).map fun i => .int (lo + (i : Nat))
def iR1 (f : SemP) : SemI := fun ρ => (f ρ).bind fun (rs, ρ1) => (looks ρ1 rs).bind fun ds => match ds with
  | [.int j] => if small62 j = true then some (rng 0 j.toNat, ρ1) else none
  | _ => none
def iR2 (f : SemP) : SemI := fun ρ => (f ρ).bind fun (rs, ρ1) => (looks ρ1 rs).bind fun ds => match ds with
  | [.int i, .int j] => if (small62 i && small62 j) = true then some (rng i (j - i).toNat, ρ1) else none
  | _ => none
theorem walkD_rng {K : Fr'} {W F : Hp} {lo : Int} {n : Nat} : WalkD K W F (Itr lo n) (rng lo n) := by
  have hl : (rng lo n).length = n := by unfold rng; rw [List.length_map, List.length_range]
  refine ⟨_, _, (by rw [hl]; exact walk_range (lo := lo) (n := n)), fun _ _ _ _ _ => trivial, ?_⟩
  rintro i d F' H H' x sm l hd ⟨rfl, e⟩
  subst e
  unfold rng at hd
  rw [List.getElem?_map] at hd
  cases hr : (List.range n)[i]? with
  | none => rw [hr] at hd; cases hd
  | some j =>
    rw [hr] at hd
    have hj : j = i := by
      rw [List.getElem?_eq_some_iff] at hr
      obtain ⟨h1, h2⟩ := hr
      rw [List.getElem_range] at h2
      exact h2.symm
    subst hj
    cases hd
    exact ⟨F', Grow.refl l, .int _⟩
theorem di_range1 {tg a : Expr} {f : SemP} {p0 pos : Pos} (h : DP X [a] f) (p : PI X tg (.Call (.Name "range" p0) [a] [] pos) (iRng1 (tDP X.K f))) : DI X tg (.Call (.Name "range" p0) [a] [] pos) (iR1 f) := by
  refine ⟨p.pvi fun σ H Q q => ?_⟩
  obtain ⟨P, W, F, ρ, ds, ρ', R, e, q⟩ := q
  simp only [iR1, Option.bind_eq_some_iff, Prod.exists] at e
  obtain ⟨rs, ρ1, e1, es, e2, e3⟩ := e
  split at e3
  · rename_i j
    split at e3
    · rename_i hj
      cases e3
      refine ⟨P, W, F, ρ, rs, _, R, e1, fun vs H1 F1 x1 R1 ls => ?_⟩
      have k := looks_ok ls e2
      cases k with
      | cons l t =>
        cases t
        rw [l.int]
        unfold small62 at hj
        simp only [Bool.and_eq_true, decide_eq_true_eq] at hj
        exact ⟨j, rfl, hj.1, hj.2, q _ H1 W F1 (Same.refl W) x1 R1 walkD_rng⟩
    · cases e3
  · cases e3
end
end Pv
end
section
set_option Elab.async false
set_option linter.all false
set_option maxRecDepth 100000
set_option maxHeartbeats 1000000
namespace Pv
open PySem PySem.Spec PyProof.Rows L2

theorem Ext.un {W F F' : Hp} {a : Addr} {o : HO} (x : Ext (upd W a o) F F') : Ext W F F' := ⟨x.same, fun b e => x.off b (by
  by_cases hb : b = a
  · subst hb; rw [upd_same]; exact fun z => nomatch z
  · rw [upd_ne hb]; exact e)⟩
theorem upd_none {W : Hp} {a b : Addr} {o : HO} (h : upd W a o b = none) : b ≠ a ∧ W b = none := by
  by_cases hb : b = a
  · subst hb; rw [upd_same] at h; cases h
  · rw [upd_ne hb] at h; exact ⟨hb, h⟩
section
variable {K : Fr'} {P : List (Nat × Addr)} {W F H F' H' : Hp} {σ σ' : St} {ρ ρ' : Ro} {v : V} {d : D} {r : Rv} {c : Cell} {a : Addr} {o : HO}
theorem CellOk.w {W1 : Hp} (h : CellOk K W F H c v) (k : ∀ b, W b = none → (∃ u, H b = some u) → W1 b = none) : CellOk K W1 F H c v := by
  cases c with
  | val d => exact h
  | own d => obtain ⟨b, e, hw, hf, q⟩ := h; exact ⟨b, e, k b hw q.mut.2, hf, q⟩
  | byr d => obtain ⟨b, e, hw, hf, q⟩ := h; exact ⟨b, e, k b hw q.mut.2, hf, q⟩
  | scr ds => exact h
theorem Rel.protect (R : Rel K P W F H σ ρ) (ha : H a = some o) (hfa : F a = none) (hn : ∀ (i : Nat) (c : Cell), ρ[i]? = some (some c) → c.owned = true → σ[i]? ≠ some (some (.ref a))) : Rel K P (upd W a o) F H σ ρ where
  fh := R.fh
  wh := fun b u e => by
    by_cases hb : b = a
    · subst hb; rw [upd_same] at e; cases e; exact ha
    · rw [upd_ne hb] at e; exact R.wh b u e
  len := R.len
  cell := fun i c e => by
    obtain ⟨v, hv, hk⟩ := R.cell i c e
    refine ⟨v, hv, ?_⟩
    cases c with
    | val d => exact hk
    | own d => obtain ⟨b, eb, hw, hf, q⟩ := hk; exact ⟨b, eb, by rw [upd_ne (fun z => hn i _ e rfl (by rw [hv, eb, z]))]; exact hw, hf, q⟩
    | byr d => obtain ⟨b, eb, hw, hf, q⟩ := hk; exact ⟨b, eb, by rw [upd_ne (fun z => hn i _ e rfl (by rw [hv, eb, z]))]; exact hw, hf, q⟩
    | scr ds => exact hk
  inj := R.inj
  pin := R.pin
  dis := fun b e => by
    by_cases hb : b = a
    · rw [hb]; exact .inl hfa
    · rw [upd_ne hb] at e ⊢; exact R.dis b e
theorem Rel.unprotect (R : Rel K P (upd W a o) F H σ ρ) (hw : W a = none) : Rel K P W F H σ ρ where
  fh := R.fh
  wh := fun b u e => R.wh b u (by rw [upd_ne (ne_of_none e hw)]; exact e)
  len := R.len
  cell := fun i c e => by
    obtain ⟨v, hv, hk⟩ := R.cell i c e
    exact ⟨v, hv, hk.w fun b hb _ => (upd_none hb).2⟩
  inj := R.inj
  pin := R.pin
  dis := fun b e => by
    have hb : b ≠ a := fun z => e (by rw [z]; exact hw)
    have := R.dis b (by rw [upd_ne hb]; exact e)
    rw [upd_ne hb] at this
    exact this
theorem Rel.noown (R : Rel K P (upd W a o) F H σ ρ) : ∀ (i : Nat) (c : Cell), ρ[i]? = some (some c) → c.owned = true → σ[i]? ≠ some (some (.ref a)) := fun i c e ow es => by
  obtain ⟨v, hv, hk⟩ := R.cell i c e
  rw [es] at hv; cases hv
  cases c with
  | val d => cases ow
  | own d => obtain ⟨b, eb, hw, _⟩ := hk; cases eb; exact (upd_none hw).1 rfl
  | byr d => obtain ⟨b, eb, hw, _⟩ := hk; cases eb; exact (upd_none hw).1 rfl
  | scr ds => cases ow
theorem Rel.kept {o' : HO} (R : Rel K P (upd W a o) F H σ ρ) (hf : F a = none) : Rel K P (upd W a o') F (upd H a o') σ ρ where
  fh := fun b u e => by
    rw [upd_ne (ne_of_none e hf)]; exact R.fh b u e
  wh := fun b u e => by
    by_cases hb : b = a
    · subst hb; rw [upd_same] at e ⊢; exact e
    · rw [upd_ne hb] at e ⊢; exact R.wh b u (by rw [upd_ne hb]; exact e)
  len := R.len
  cell := fun i c e => by
    obtain ⟨v, hv, hk⟩ := R.cell i c e
    refine ⟨v, hv, ?_⟩
    cases c with
    | val d => exact hk
    | own d =>
      obtain ⟨b, eb, hw, hfb, q⟩ := hk
      obtain ⟨h1, h2⟩ := upd_none hw
      exact ⟨b, eb, by rw [upd_ne h1]; exact h2, hfb, by rw [upd_ne h1]; exact q⟩
    | byr d =>
      obtain ⟨b, eb, hw, hfb, q⟩ := hk
      obtain ⟨h1, h2⟩ := upd_none hw
      exact ⟨b, eb, by rw [upd_ne h1]; exact h2, hfb, by rw [upd_ne h1]; exact q⟩
    | scr ds => exact hk
  inj := R.inj
  pin := R.pin
  dis := fun b e => by
    by_cases hb : b = a
    · rw [hb]; exact .inl hf
    · have := R.dis b (by rw [upd_ne hb] at e ⊢; exact e)
      rw [upd_ne hb] at this ⊢
      exact this
theorem Rel.slots (R : Rel K P W F H σ ρ) (hl : σ'.length = σ.length) (hs : ∀ (i : Nat) (c : Cell), ρ[i]? = some (some c) → σ'[i]? = σ[i]?) : Rel K P W F H σ' ρ where
  fh := R.fh
  wh := R.wh
  len := hl.trans R.len
  cell := fun i c e => by
    obtain ⟨v, hv, hk⟩ := R.cell i c e
    exact ⟨v, by rw [hs i c e]; exact hv, hk⟩
  inj := fun j k c e b hjk h1 h2 o1 o2 s1 s2 => R.inj j k c e b hjk h1 h2 o1 o2 (by rw [← hs j c h1]; exact s1) (by rw [← hs k e h2]; exact s2)
  pin := fun p q => by
    obtain ⟨h1, d', h2⟩ := R.pin p q
    exact ⟨by rw [hs _ _ h2]; exact h1, d', h2⟩
  dis := R.dis
theorem Rel.fewer (R : Rel K P W F H σ ρ) (hl : ρ'.length = ρ.length) (hs : ∀ (i : Nat) (c : Cell), ρ'[i]? = some (some c) → ρ[i]? = some (some c)) (hp : ∀ p ∈ P, ρ'[p.1]? = ρ[p.1]?) : Rel K P W F H σ ρ' where
  fh := R.fh
  wh := R.wh
  len := R.len.trans hl.symm
  cell := fun i c e => R.cell i c (hs i c e)
  inj := fun j k c e b hjk h1 h2 o1 o2 s1 s2 => R.inj j k c e b hjk (hs _ _ h1) (hs _ _ h2) o1 o2 s1 s2
  pin := fun p q => by
    obtain ⟨h1, d', h2⟩ := R.pin p q
    exact ⟨h1, d', by rw [hp p q]; exact h2⟩
  dis := R.dis
end
def wipeR (ρ : Ro) : List Nat → Ro
  | [] => ρ
  | v :: vs => (wipeR ρ vs).set v none
theorem wipeR_len (ρ : Ro) : ∀ vs, (wipeR ρ vs).length = ρ.length
  | [] => rfl
  | v :: vs => by unfold wipeR; rw [List.length_set, wipeR_len ρ vs]
theorem wipeR_in {ρ : Ro} {i : Nat} {c : Cell} : ∀ {vs : List Nat}, (wipeR ρ vs)[i]? = some (some c) → i ∉ vs ∧ ρ[i]? = some (some c)
  | [], h => ⟨List.not_mem_nil, h⟩
  | v :: vs, h => by
    unfold wipeR at h
    rcases set_get h with ⟨rfl, z⟩ | ⟨hj, z⟩
    · cases z
    · obtain ⟨h1, h2⟩ := wipeR_in z
      exact ⟨fun z => (List.mem_cons.mp z).elim hj h1, h2⟩
theorem wipeR_off {ρ : Ro} {i : Nat} : ∀ {vs : List Nat}, i ∉ vs → (wipeR ρ vs)[i]? = ρ[i]?
  | [], h => rfl
  | v :: vs, h => by
    unfold wipeR
    rw [List.getElem?_set_ne (fun z => h (by rw [z]; exact List.mem_cons_self)), wipeR_off (fun z => h (List.mem_cons_of_mem _ z))]
theorem wipe_off {σ : St} {i : Nat} : ∀ {vs : List Nat}, i ∉ vs → (wipe σ vs)[i]? = σ[i]?
  | [], h => rfl
  | v :: vs, h => by
    unfold wipe
    rw [List.getElem?_set_ne (fun z => h (by rw [z]; exact List.mem_cons_self)), wipe_off (fun z => h (List.mem_cons_of_mem _ z))]
theorem wipe_in {σ : St} {i : Nat} : ∀ {vs : List Nat}, i ∈ vs → i < σ.length → (wipe σ vs)[i]? = some none
  | [], h, _ => by cases h
  | v :: vs, h, hl => by
    unfold wipe
    by_cases hv : v = i
    · subst hv; rw [List.getElem?_set_self (by rw [wipe_length]; exact hl)]
    · rw [List.getElem?_set_ne hv]
      exact wipe_in ((List.mem_cons.mp h).elim (fun z => absurd z.symm hv) id) hl
theorem wipe_eq {σ σ' : St} {vs us : List Nat} (o : Off us σ σ') (hu : ∀ i ∈ us, i ∈ vs) : wipe σ' vs = wipe σ vs := by
  apply List.ext_getElem?
  intro i
  by_cases hi : i ∈ vs
  · by_cases hl : i < σ.length
    · rw [wipe_in hi hl, wipe_in hi (by rw [o.1]; exact hl)]
    · rw [List.getElem?_eq_none (by rw [wipe_length, o.1]; omega), List.getElem?_eq_none (by rw [wipe_length]; omega)]
  · rw [wipe_off hi, wipe_off hi]
    exact o.2 i fun z => hi (hu i z)
def clearAt (ρ : Ro) (vs : List Nat) : Bool := vs.all fun i => match ρ[i]? with
  | some (some _) => false
  | _ => true
theorem clear_at {ρ : Ro} {vs : List Nat} (h : clearAt ρ vs = true) {i : Nat} {c : Cell} (e : ρ[i]? = some (some c)) : i ∉ vs := fun z => by
  unfold clearAt at h
  rw [List.all_eq_true] at h
  have := h i z
  rw [e] at this
  cases this
theorem pin_off {K : Fr'} {P : List (Nat × Addr)} {W F H : Hp} {σ : St} {ρ : Ro} {vs : List Nat} (R : Rel K P W F H σ ρ) (h : clearAt ρ vs = true) : ∀ p ∈ P, p.1 ∉ vs := fun p hp => by
  obtain ⟨_, d, e⟩ := R.pin p hp
  exact clear_at h e

section
variable (g : SemG) (t : SemT) (el : SemE) (vs : List Nat)
def lcL : List D → Nat → Ro → Option (List D × Ro)
  | [], _, ρ => some ([], ρ)
  | d :: ds, n, ρ => (g d ρ).bind fun ρ1 => (t ρ1).bind fun (b, ρ2) => if b = true then (el ρ2).bind fun (r, ρ3) => (frz ρ3 r).bind fun (z, ρ4) => if n < sizeLine then (lcL ds (n + 1) (wipeR ρ4 vs)).bind fun (zs, ρ5) => some (z :: zs, ρ5) else none
    else lcL ds n (wipeR ρ2 vs)
def sLc (it : SemI) : SemE := fun ρ => (it ρ).bind fun (ds, ρ1) => if clearAt ρ1 vs = true then (lcL g t el vs ds 0 ρ1).bind fun (zs, ρ2) => some (.fr (.list zs), ρ2) else none
end
structure DTs (X : Cx) (ifs : List Expr) (f : SemT) : Prop where
  pt : PTs X ifs (tDT X.K f)
def sYes : SemT := fun ρ => some (true, ρ)
section
variable {X : Cx}
theorem dts_nil : DTs X [] sYes := ⟨⟨fun pins s σ H Q I ⟨P, W, F, ρ, b, ρ', R, e, q⟩ => pts_nil.run pins s σ H Q I (by cases e; exact q H F (Ext.refl _ _) R)⟩⟩
theorem dts_one {c : Expr} {f : SemT} (h : DT X c f) : DTs X [c] f := ⟨pts_one h.pt⟩
theorem Rel.wiped {K : Fr'} {P : List (Nat × Addr)} {W F H : Hp} {σ σ2 : St} {ρ : Ro} {vs : List Nat} (R : Rel K P W F H σ2 ρ) (hw : wipe σ2 vs = wipe σ vs) (hp : ∀ p ∈ P, p.1 ∉ vs) : Rel K P W F H σ (wipeR ρ vs) := by
  have hl : σ.length = σ2.length := by rw [← wipe_length σ vs, ← hw, wipe_length]
  refine (R.fewer (wipeR_len ρ vs) (fun i c e => (wipeR_in e).2) fun p q => wipeR_off (hp p q)).slots hl fun i c e => ?_
  have hi := (wipeR_in e).1
  rw [← wipe_off (σ := σ) hi, ← hw, wipe_off hi]
theorem wipe_wipe {σ : St} {vs : List Nat} : wipe (wipe σ vs) vs = wipe σ vs := by
  apply List.ext_getElem?
  intro i
  by_cases hi : i ∈ vs
  · by_cases hl : i < σ.length
    · rw [wipe_in hi hl, wipe_in hi (by rw [wipe_length]; exact hl)]
    · rw [List.getElem?_eq_none (by rw [wipe_length, wipe_length]; omega), List.getElem?_eq_none (by rw [wipe_length]; omega)]
  · rw [wipe_off hi]
theorem clear_wipeR {ρ : Ro} {vs : List Nat} : clearAt (wipeR ρ vs) vs = true := by
  unfold clearAt
  rw [List.all_eq_true]
  intro i hi
  split
  · rename_i c e
    exact absurd hi (wipeR_in e).1
  · rfl
theorem Rel.toWipe {K : Fr'} {P : List (Nat × Addr)} {W F H : Hp} {σ : St} {ρ : Ro} {vs : List Nat} (R : Rel K P W F H σ ρ) (h : clearAt ρ vs = true) : Rel K P W F H (wipe σ vs) ρ :=
  R.slots (wipe_length σ vs) fun i c e => wipe_off (clear_at h e)
theorem sLc_ok {K : Fr'} {it : SemI} {g : SemG} {t : SemT} {el : SemE} {us vs : List Nat} (hu : ∀ i ∈ us, i ∈ vs) {σ : St} {H : Hp} {Q : VK} (q : tD K (sLc g t el vs it) σ H Q) : tLc (tDI K it) (tDG K us g) (tDT K t) (tD K el) vs σ H Q := by
  obtain ⟨P, W, F, ρ, r, ρ', R, e, q⟩ := q
  simp only [sLc, Option.bind_eq_some_iff, Prod.exists] at e
  obtain ⟨ds, ρ1, e1, e2⟩ := e
  split at e2
  case isFalse => cases e2
  rename_i hclr
  simp only [Option.bind_eq_some_iff, Prod.exists] at e2
  obtain ⟨zs, ρ2, e2, e3⟩ := e2
  cases e3
  refine ⟨P, W, F, ρ, ds, ρ1, R, e1, fun J H1 W1 F1 sw x1 R1 w => ?_⟩
  intro D hD
  obtain ⟨G, Y, w, hG, hY⟩ := w.ex
  have hWD : W1 D = none := by
    cases e : W1 D with
    | none => rfl
    | some u => have := R1.wh D u e; rw [hD] at this; cases this
  have hFD := R1.fh.none hD
  have hp := pin_off R1 hclr
  refine lc_it w (fun i H => ∃ F2 ρ2 acc xs rest, Ext W1 F1 F2 ∧ Rel K P (upd W1 D (.lst xs)) F2 H σ ρ2 ∧ F2 D = none ∧ clearAt ρ2 vs = true ∧ RpA K F2 xs acc ∧ zs = acc ++ rest ∧ lcL g t el vs (ds.drop i) acc.length ρ2 = some (rest, ρ')) ?_ ?_ ?_ ?_
  · refine ⟨F1, ρ1, [], [], zs, Ext.refl _ _, ?_, hFD, hclr, .nil, rfl, by simpa using e2⟩
    have R2 := R1.grow (Grow.heap R1.fh hD (.lst []))
    refine R2.protect upd_same hFD fun i c e ow es => ?_
    obtain ⟨v, hv, hk⟩ := R1.cell i c e
    rw [es] at hv; cases hv
    cases c with
    | val d => cases ow
    | own d => obtain ⟨b, eb, _, _, o⟩ := hk; cases eb; rw [hD] at o; exact o
    | byr d => obtain ⟨b, eb, _, _, o⟩ := hk; cases eb; rw [hD] at o; exact o
    | scr ds => cases ow
  · rintro i H hi ⟨F2, ρ2, acc, xs, rest, x2, R2, _⟩
    exact hG F2 H x2.same R2.fh (fun b o u e => R2.wh b _ (by rw [upd_ne (ne_of_none e hWD)]; exact e))
  · rintro i x H H' hi ⟨F2, ρ2, acc, xs, rest, x2, R2, hFD2, hclr2, rxs, ez, e3⟩ y
    have hd : ds[i]? = some ds[i] := List.getElem?_eq_getElem hi
    obtain ⟨F3, g3, rp⟩ := hY i _ F2 H H' x x2.same R2.fh hd y
    rw [List.drop_eq_getElem_cons hi] at e3
    simp only [lcL, Option.bind_eq_some_iff, Prod.exists] at e3
    obtain ⟨ρ3, e4, b, ρ4, e5, e6⟩ := e3
    have R3 := (R2.grow g3).toWipe hclr2
    have x3 := g3.ext R2.wh
    refine ⟨P, _, F3, ρ2, ds[i], ρ3, R3, rp, e4, fun σ4 H4 F4 x4 R4 of4 => ?_⟩
    have hw4 : wipe σ4 vs = wipe σ vs := (wipe_eq of4 hu).trans wipe_wipe
    refine ⟨hw4, P, _, F4, ρ3, b, ρ4, R4, e5, fun H5 F5 x5 R5 => ?_⟩
    cases b with
    | false =>
      simp only [Bool.false_eq_true, if_false] at e6 ⊢
      have x25 := (x3.trans x4).trans x5
      refine ⟨F5, wipeR ρ4 vs, acc, xs, rest, (x2.trans x25.un), R5.wiped hw4 hp, ?_, clear_wipeR, rxs.mono (Le.of x25.same), ez, e6⟩
      rw [x25.off D (by rw [upd_same]; exact fun z => nomatch z)]; exact hFD2
    | true =>
      simp only [if_true, Option.bind_eq_some_iff, Prod.exists] at e6 ⊢
      obtain ⟨r, ρ5, e7, z, ρ6, e8, e9⟩ := e6
      split at e9
      case isFalse => cases e9
      rename_i hlen
      simp only [Option.bind_eq_some_iff, Prod.exists] at e9
      obtain ⟨zs', ρ7, e9, e10⟩ := e9
      cases e10
      refine ⟨P, _, F5, ρ4, r, ρ5, R5, e7, fun v H6 F6 x6 R6 o6 => ?_⟩
      obtain ⟨F7, x7, R7, rp7⟩ := R6.frz o6 e8
      have x27 := (((x3.trans x4).trans x5).trans x6).trans x7
      have hF7 : F7 D = none := by rw [x27.off D (by rw [upd_same]; exact fun z => nomatch z)]; exact hFD2
      refine ⟨xs, R7.wh D _ upd_same, by rw [rxs.length]; exact hlen, F7, wipeR ρ6 vs, acc ++ [z], xs ++ [v], zs', x2.trans x27.un, (R7.kept hF7).wiped hw4 hp, hF7, clear_wipeR, (rxs.mono (Le.of x27.same)).append (.cons rp7 .nil), by rw [ez, List.append_assoc]; rfl, by rw [List.length_append]; exact e9⟩
  · rintro H ⟨F2, ρ2, acc, xs, rest, x2, R2, hFD2, hclr2, rxs, ez, e3⟩
    rw [List.drop_length] at e3
    cases e3
    rw [List.append_nil] at ez
    subst ez
    have own : OwnO K F2 (H D) (.list zs) := by
      rw [R2.wh D _ upd_same]
      exact rxs
    exact q _ H F2 (x1.trans (x2.less sw)) ((R2.unprotect hWD).lessW sw) (RvOk.lessW sw (r := .fr _) ⟨⟨D, rfl, hWD, hFD2, own⟩, R2.noown⟩)
theorem de_lc {elt tg iter : Expr} {ifs : List Expr} {scope : Scope} {own : List (Str × Nat)} {pos : Pos} {it : SemI} {g : SemG} {t : SemT} {el : SemE} {us : List Nat} (hi : DI X tg iter it) (ok : BlkOk X.N X.env.scope scope own)
    (hg : ∀ (s : Shared) (H : Hp) (C : Addr) (cl : List (Str × Addr)) (fp : List Addr), DG (X.blk s H scope (compEnvC scope cl C X.env) fp) tg us g) (ht : ∀ (s : Shared) (H : Hp) (C : Addr) (cl : List (Str × Addr)) (fp : List Addr), DTs (X.blk s H scope (compEnvC scope cl C X.env) fp) ifs t)
    (he : ∀ (s : Shared) (H : Hp) (C : Addr) (cl : List (Str × Addr)) (fp : List Addr), DE (X.blk s H scope (compEnvC scope cl C X.env) fp) elt el) (hu : ∀ i ∈ us, i ∈ own.map (·.2)) (hc : X.calm = true) (hN : X.N.Nodup) (hs : ∀ x, foldedSetIterable iter X.env x = pure x := by intro _; rfl) :
    DE X (.ListComp elt [⟨tg, iter, ifs, 0⟩] scope pos) (sLc g t el (own.map (·.2)) it) := by
  refine ⟨(pe_lc (g := tDG X.K us g) (tt := tDT X.K t) (te := tD X.K el) hc hN hi.pi ok (fun s H C cl fp => (hg s H C cl fp).pg) (fun s H C cl fp => (ht s H C cl fp).pt) (fun s H C cl fp => (he s H C cl fp).pe) hs).pvi fun σ H Q q => sLc_ok hu q⟩
end
end Pv
end
section
set_option Elab.async false
set_option linter.all false
set_option maxRecDepth 100000
set_option maxHeartbeats 1000000
namespace Pv
open PySem PySem.Spec PyProof.Rows L2

inductive Md
  | v | r | s
  deriving DecidableEq
def rvals : List Md → List V → List V
  | .r :: ms, x :: vs => x :: rvals ms vs
  | .v :: ms, _ :: vs => rvals ms vs
  | .s :: ms, _ :: vs => rvals ms vs
  | _, _ => []
def ArgsOk (K : Fr') (W F H : Hp) : List Md → List V → List D → Prop
  | [], [], [] => True
  | .v :: ms, x :: vs, d :: ds => Rp K F x d ∧ ArgsOk K W F H ms vs ds
  | .r :: ms, x :: vs, d :: ds => OwnV K W F H x d ∧ x ∉ rvals ms vs ∧ ArgsOk K W F H ms vs ds
  | .s :: ms, x :: vs, d :: ds => (∃ es a xs, d = .list es ∧ x = .ref a ∧ SqL K F a xs ∧ RpA K F xs es) ∧ ArgsOk K W F H ms vs ds
  | _, _, _ => False
def cells : List Md → List D → Option Ro
  | [], [] => some []
  | .v :: ms, d :: ds => (cells ms ds).map (some (.val d) :: ·)
  | .r :: ms, d :: ds => (cells ms ds).map (some (.byr d) :: ·)
  | .s :: ms, .list es :: ds => (cells ms ds).map (some (.scr es) :: ·)
  | _, _ => none
def backsOf : List Md → Ro → Option (List D)
  | [], _ => some []
  | .r :: ms, some (.byr d) :: ρ => (backsOf ms ρ).map (d :: ·)
  | .v :: ms, _ :: ρ => backsOf ms ρ
  | .s :: ms, _ :: ρ => backsOf ms ρ
  | _, _ => none
def resOf : Rv → Option (D × Bool)
  | .val d => some (d, false)
  | .fr d => some (d, true)
  | .at _ => none
abbrev Fn := List D → Option ((D × Bool) × List D)
def endOf (ms : List Md) : Out → Option ((D × Bool) × List D)
  | .rt r ρ => (resOf r).bind fun z => (backsOf ms ρ).bind fun bs => some (z, bs)
  | .nx ρ => (backsOf ms ρ).bind fun bs => some ((.none, false), bs)
  | _ => none
def fnOf (n : Nat) (ms : List Md) (b : SemS) : Fn := fun ds => (cells ms ds).bind fun cs => (b (cs ++ List.replicate (n - ms.length) none)).bind (endOf ms)
def ResOk (K : Fr') (W F H : Hp) (rv : List V) : D × Bool → V → Prop
  | (z, false), v => Rp K F v z
  | (z, true), v => OwnV K W F H v z ∧ v ∉ rv
def spF (K : Fr') (ms : List Md) (fn : Fn) : Sp := fun vs H Q _ => ∃ W F ds z bs, Le F H ∧ Same W H ∧ Dis W F ∧ ArgsOk K W F H ms vs ds ∧ fn ds = some (z, bs) ∧
  ∀ v H' F', Ext W F F' → Le F' H' → Same W H' → Paired (OwnV K W F' H') (rvals ms vs) bs → ResOk K W F' H' (rvals ms vs) z v → Q v H'
structure FnG (P : Program) (w : World) (K : Fr') (mg : Str → Option Value) (base : Heap) (C : CXT) (k : Nat) (f : Addr) (fd : FuncData) (ps : List Str) (sp : Sp) : Prop where
  len : ∀ xs H Q E, sp xs H Q E → xs.length = ps.length
  run : ∀ (A : Around) (fs : List Env) (s : Shared) (H : Hp) (ar : Args) (us : List Value) (xs : List V) (Q : VK) (E : XK), Room k A → A.guards = some [] → Env0 P w K mg base A fs s H →
    BindsTo s fd ar (ps.zip us) → Vals xs us → sp xs H Q E → codeAny (model P w) A (.call (.ref f) ar) (CR C fs P w H s Q E) s
abbrev FnD (P : Program) (w : World) (K : Fr') (mg : Str → Option Value) (base : Heap) (k : Nat) (f : Addr) (fd : FuncData) (ps : List Str) (ms : List Md) (fn : Fn) : Prop := FnG P w K mg base CX0 k f fd ps (spF K ms fn)
theorem FnG.mono {P : Program} {w : World} {K : Fr'} {mg : Str → Option Value} {base : Heap} {C : CXT} {j k : Nat} {f : Addr} {fd : FuncData} {ps : List Str} {sp : Sp} (F : FnG P w K mg base C j f fd ps sp) (h : j ≤ k) : FnG P w K mg base C k f fd ps sp :=
  ⟨F.len, fun A fs s H ar us xs Q E r => F.run A fs s H ar us xs Q E (r.mono h)⟩
theorem fnG_of {C : CXT} {P : Program} {w : World} {K : Fr'} {mg : Str → Option Value} {base : Heap} {k : Nat} {f : Addr} {fd : FuncData} {x qual : Str} {st : Stmt} {N ps : List Str} {sp : Sp} (F : Fun K x qual st f fd) (S : FnScope N ps (defScope st))
    (len : ∀ xs H Q E, sp xs H Q E → xs.length = ps.length)
    (body : ∀ (cdv : Value) (A : Around) (fs : List Env) (s : Shared) (H : Hp) (xs : List V) (Q : VK) (E : XK), Room k (A.deeper (envOfC qual (defScope st) s.heap.objs.size f cdv)) → A.guards = some [] → sp xs H Q E →
      ∃ t, PSs (cxOf C P w K mg base N qual (defScope st) f cdv A fs s H E) (defBody st) t ∧ t { nx := fun _ H1 => Q .non H1, rt := Q } (L2.start N xs) H) :
    FnG P w K mg base C (k + 1) f fd ps sp := by
  obtain ⟨oc, od, kV, doc, pm, an, cdv, ct, osl, rfl, lk, cd⟩ := F.ex
  constructor
  · exact len
  intro A fs s H ar us xs Q E room gd env bnd vals prom
  have eqn := len _ _ _ _ prom
  have old : ∀ b o, base.get? b = some o → s.heap.get? b = some o := fun b o q => (env.bs b o q).1
  have KX := env.mod.kin.keeps old
  have nolim := env.mod.nolimit.keeps old
  refine codeAny_call_function room.depth (KX _ _ lk) rfl S.co S.gen rfl (PySem.W.codeRec_of KX cd) (bnd _ _ _ _ ?_)
  refine wpAny_newFunctionEnv_cells S.kind (fun y hy => ?_) fun env1 he s1 x1 => ?_
  · obtain ⟨n, v⟩ := y
    rcases S.par n (List.of_mem_zip hy).1 with q | q
    · exact Or.inl q
    · exact Or.inr ⟨q, PySem.W.cellsFrom_some _ _ _ (Or.inl q)⟩
  cases he
  refine ⟨nolim.keeps x1.toInCall.keep, codeAny_func ?_⟩
  obtain ⟨t, der, rd⟩ := body cdv A fs s H xs Q E (room.deeper _) gd prom
  refine wpAny_mono (der.run [] s1 _ H _ (inv_start S room.hd env eqn vals x1) rd) ?_ fun _ _ q => q
  intro fl s2 q
  cases fl with
  | next => obtain ⟨σ1, H1, J, q⟩ := q; exact ⟨.non, H1, J.os, J.bare, J.base, J.hok, rfl, q⟩
  | ret u => obtain ⟨v, σ1, H1, J, rv, q⟩ := q; exact ⟨v, H1, J.os, J.bare, J.base, J.hok, rv, q⟩
  | brk => obtain ⟨_, _, _, q⟩ := q; exact q.elim
  | cont => obtain ⟨_, _, _, q⟩ := q; exact q.elim
theorem run_g {X : Cx} {C : CXT} {k : Nat} {f : Addr} {fd : FuncData} {ps : List Str} {sp : Sp} {E : XK} {pins : List (Addr × Obj)} {σ : L2.St} {H : Hp} {s : Shared} {Q : VK} {us ds : List Value} {xs dvs : List V} (F : FnG X.prog X.w X.K X.mg X.base C k f fd ps sp)
    (room : Room k X.A) (gd : X.A.guards = some []) (bnd : Binds X.K fd ps ds) (dv : Vals dvs ds) (pass : Passes C X E) (I : Inv X pins σ H s) (vals : Vals xs us) (prom : sp (xs ++ dvs) H Q E) : wpAny (model X.prog X.w) X.A (call (.ref f) us) (EP X pins σ Q) X.xe s := by
  have both : Vals (xs ++ dvs) (us ++ ds) := vals.append dv
  have eqn : (us ++ ds).length = ps.length := (both.length).symm.trans (F.len _ _ _ _ prom)
  refine wpAny_call (codeAny_mono (F.run X.A X.stack s H ⟨us, []⟩ _ _ Q E room gd I.env0 (bnd s us I.kIn eqn) both prom) ?_)
  intro r s1 q
  cases r with
  | error e => exact pass pins σ H s e s1 I q
  | ok fl => cases fl with
    | ret u => exact I.after q
    | next => exact q.elim
    | brk => exact q.elim
    | cont => exact q.elim
theorem pe_callG {X : Cx} {C : CXT} {k : Nat} {f : Addr} {fd : FuncData} {ps : List Str} {sp : Sp} {E : XK} {ds : List Value} {dvs : List V} {x : Str} {e : Expr} {es : List Expr} {p pos : Pos} {t : TA} (F : FnG X.prog X.w X.K X.mg X.base C k f fd ps sp)
    (room : Room k X.A) (gd : X.A.guards = some []) (gl : Gl X x) (hm : X.mg x = some (.ref f)) (kp : PySem.W.keepIn X.K (.ref f) = true) (bnd : Binds X.K fd ps ds) (dv : Vals dvs ds) (pass : Passes C X E) (pa : PA X (e :: es) t)
    (hdb : (x == ("__debug__" : Str)) = false) (st : starEach (e :: es) X.env = (false, eval e X.env) :: starEach es X.env) (pl : (backTo pos (starEach es X.env)).any (·.1) = false) :
    PE X (.Call (.Name x p) (e :: es) [] pos) (tCall sp dvs E t) := by
  constructor
  intro pins s σ H Q I h
  refine wpAny_Call_Name_kw (ld_glob I gl hm ?_ hdb)
  refine PySem.W.callWith_K (h₀ := X.base) I.ok.mod.kin kp (thn (pa.run pos pins s σ H _ I h) ?_) st pl
  rintro us s1 ⟨xs, H1, I1, r, q⟩
  exact ⟨I1.kIn, run_g F room gd bnd dv pass I1 r q⟩
section
variable {K : Fr'} {W F H : Hp}
theorem args_len : ∀ {ms : List Md} {vs : List V} {ds : List D}, ArgsOk K W F H ms vs ds → vs.length = ms.length
  | [], [], [], _ => rfl
  | .v :: ms, x :: vs, d :: ds, h => congrArg (· + 1) (args_len h.2)
  | .r :: ms, x :: vs, d :: ds, h => congrArg (· + 1) (args_len h.2.2)
  | .s :: ms, x :: vs, d :: ds, h => congrArg (· + 1) (args_len h.2)
theorem cells_len : ∀ {ms : List Md} {ds : List D} {cs : Ro}, cells ms ds = some cs → cs.length = ms.length
  | [], [], cs, h => by cases h; rfl
  | .v :: ms, d :: ds, cs, h => by
    simp only [cells, Option.map_eq_some_iff] at h
    obtain ⟨c, h1, rfl⟩ := h
    exact congrArg (· + 1) (cells_len h1)
  | .r :: ms, d :: ds, cs, h => by
    simp only [cells, Option.map_eq_some_iff] at h
    obtain ⟨c, h1, rfl⟩ := h
    exact congrArg (· + 1) (cells_len h1)
  | .s :: ms, .list es :: ds, cs, h => by
    simp only [cells, Option.map_eq_some_iff] at h
    obtain ⟨c, h1, rfl⟩ := h
    exact congrArg (· + 1) (cells_len h1)
theorem args_cell : ∀ {ms : List Md} {vs : List V} {ds : List D} {cs : Ro}, ArgsOk K W F H ms vs ds → cells ms ds = some cs → ∀ (i : Nat) (c : Cell), cs[i]? = some (some c) → ∃ v, vs[i]? = some v ∧ CellOk K W F H c v ∧ (c.owned = true → v ∈ rvals ms vs)
  | [], [], [], cs, _, h, i, c, e => by cases h; simp at e
  | .v :: ms, x :: vs, d :: ds, cs, a, h, i, c, e => by
    simp only [cells, Option.map_eq_some_iff] at h
    obtain ⟨cs', h1, rfl⟩ := h
    cases i with
    | zero => simp at e; subst e; exact ⟨x, rfl, a.1, fun z => by cases z⟩
    | succ i =>
      obtain ⟨v, h2, h3, h4⟩ := args_cell a.2 h1 i c (by simpa using e)
      exact ⟨v, by simpa using h2, h3, h4⟩
  | .r :: ms, x :: vs, d :: ds, cs, a, h, i, c, e => by
    simp only [cells, Option.map_eq_some_iff] at h
    obtain ⟨cs', h1, rfl⟩ := h
    cases i with
    | zero => simp at e; subst e; exact ⟨x, rfl, a.1, fun _ => List.mem_cons_self⟩
    | succ i =>
      obtain ⟨v, h2, h3, h4⟩ := args_cell a.2.2 h1 i c (by simpa using e)
      exact ⟨v, by simpa using h2, h3, fun z => List.mem_cons_of_mem _ (h4 z)⟩
  | .s :: ms, x :: vs, .list es :: ds, cs, a, h, i, c, e => by
    simp only [cells, Option.map_eq_some_iff] at h
    obtain ⟨cs', h1, rfl⟩ := h
    cases i with
    | zero =>
      simp at e; subst e
      obtain ⟨⟨es', b, xs, z, e2, s, r⟩, _⟩ := a
      cases z
      exact ⟨x, rfl, ⟨b, xs, e2, s, r⟩, fun z => by cases z⟩
    | succ i =>
      obtain ⟨v, h2, h3, h4⟩ := args_cell a.2 h1 i c (by simpa using e)
      exact ⟨v, by simpa using h2, h3, h4⟩
theorem args_inj : ∀ {ms : List Md} {vs : List V} {ds : List D} {cs : Ro}, ArgsOk K W F H ms vs ds → cells ms ds = some cs → ∀ (i j : Nat) (c e : Cell) (v : V), i < j → cs[i]? = some (some c) → cs[j]? = some (some e) → c.owned = true → e.owned = true → vs[i]? = some v → vs[j]? = some v → False
  | [], [], [], cs, _, h, i, j, c, e, v, _, e1, _, _, _, _, _ => by cases h; simp at e1
  | .v :: ms, x :: vs, d :: ds, cs, a, h, i, j, c, e, v, hij, e1, e2, o1, o2, s1, s2 => by
    simp only [cells, Option.map_eq_some_iff] at h
    obtain ⟨cs', h1, rfl⟩ := h
    cases i with
    | zero => simp at e1; subst e1; cases o1
    | succ i =>
      cases j with
      | zero => omega
      | succ j => exact args_inj a.2 h1 i j c e v (by omega) (by simpa using e1) (by simpa using e2) o1 o2 (by simpa using s1) (by simpa using s2)
  | .r :: ms, x :: vs, d :: ds, cs, a, h, i, j, c, e, v, hij, e1, e2, o1, o2, s1, s2 => by
    simp only [cells, Option.map_eq_some_iff] at h
    obtain ⟨cs', h1, rfl⟩ := h
    cases j with
    | zero => omega
    | succ j =>
      cases i with
      | zero =>
        simp at s1; subst s1
        obtain ⟨v', h2, _, h4⟩ := args_cell a.2.2 h1 j e (by simpa using e2)
        have : vs[j]? = some x := by simpa using s2
        rw [this] at h2; cases h2
        exact a.2.1 (h4 o2)
      | succ i => exact args_inj a.2.2 h1 i j c e v (by omega) (by simpa using e1) (by simpa using e2) o1 o2 (by simpa using s1) (by simpa using s2)
  | .s :: ms, x :: vs, .list es :: ds, cs, a, h, i, j, c, e, v, hij, e1, e2, o1, o2, s1, s2 => by
    simp only [cells, Option.map_eq_some_iff] at h
    obtain ⟨cs', h1, rfl⟩ := h
    cases i with
    | zero => simp at e1; subst e1; cases o1
    | succ i =>
      cases j with
      | zero => omega
      | succ j => exact args_inj a.2 h1 i j c e v (by omega) (by simpa using e1) (by simpa using e2) o1 o2 (by simpa using s1) (by simpa using s2)
def pinsOf : Nat → List Md → List V → List (Nat × Addr)
  | i, .r :: ms, .ref a :: vs => (i, a) :: pinsOf (i + 1) ms vs
  | i, .r :: ms, _ :: vs => pinsOf (i + 1) ms vs
  | i, .v :: ms, _ :: vs => pinsOf (i + 1) ms vs
  | i, .s :: ms, _ :: vs => pinsOf (i + 1) ms vs
  | _, _, _ => []
theorem args_pin : ∀ {ms : List Md} {vs : List V} {ds : List D} {cs : Ro} (k : Nat), ArgsOk K W F H ms vs ds → cells ms ds = some cs → ∀ p ∈ pinsOf k ms vs, ∃ i, p.1 = k + i ∧ vs[i]? = some (.ref p.2) ∧ ∃ d, cs[i]? = some (some (.byr d))
  | [], [], [], cs, k, _, h, p, hp => by cases hp
  | .v :: ms, x :: vs, d :: ds, cs, k, a, h, p, hp => by
    simp only [cells, Option.map_eq_some_iff] at h
    obtain ⟨cs', h1, rfl⟩ := h
    obtain ⟨i, e1, e2, d', e3⟩ := args_pin (k + 1) a.2 h1 p (by simpa [pinsOf] using hp)
    exact ⟨i + 1, by omega, by simpa using e2, d', by simpa using e3⟩
  | .r :: ms, x :: vs, d :: ds, cs, k, a, h, p, hp => by
    simp only [cells, Option.map_eq_some_iff] at h
    obtain ⟨cs', h1, rfl⟩ := h
    obtain ⟨b, rfl, _⟩ := a.1
    simp only [pinsOf, List.mem_cons] at hp
    rcases hp with rfl | hp
    · exact ⟨0, rfl, rfl, d, rfl⟩
    · obtain ⟨i, e1, e2, d', e3⟩ := args_pin (k + 1) a.2.2 h1 p hp
      exact ⟨i + 1, by omega, by simpa using e2, d', by simpa using e3⟩
  | .s :: ms, x :: vs, .list es :: ds, cs, k, a, h, p, hp => by
    simp only [cells, Option.map_eq_some_iff] at h
    obtain ⟨cs', h1, rfl⟩ := h
    obtain ⟨i, e1, e2, d', e3⟩ := args_pin (k + 1) a.2 h1 p (by simpa [pinsOf] using hp)
    exact ⟨i + 1, by omega, by simpa using e2, d', by simpa using e3⟩
theorem get_pad {α : Type} {l : List α} {k i : Nat} {c : α} (h : (l.map some ++ List.replicate k none)[i]? = some (some c)) : l[i]? = some c := by
  rw [List.getElem?_append] at h
  split at h
  · rw [List.getElem?_map] at h
    cases e : l[i]? with
    | none => rw [e] at h; cases h
    | some z => rw [e] at h; simpa using h
  · rw [List.getElem?_replicate] at h
    split at h
    · cases h
    · cases h
theorem get_padR {l : Ro} {k i : Nat} {c : Cell} (h : (l ++ List.replicate k none)[i]? = some (some c)) : l[i]? = some (some c) := by
  rw [List.getElem?_append] at h
  split at h
  · exact h
  · rw [List.getElem?_replicate] at h
    split at h
    · cases h
    · cases h
theorem pad_get {α : Type} {l : List α} {k i : Nat} {c : α} (h : l[i]? = some c) : (l.map some ++ List.replicate k none)[i]? = some (some c) := by
  have hl := (List.getElem?_eq_some_iff.mp h).1
  rw [List.getElem?_append_left (by rw [List.length_map]; exact hl), List.getElem?_map, h]
  rfl
theorem pad_getR {l : Ro} {k i : Nat} {c : Option Cell} (h : l[i]? = some c) : (l ++ List.replicate k none)[i]? = some c := by
  have hl := (List.getElem?_eq_some_iff.mp h).1
  rw [List.getElem?_append_left hl, h]
theorem rel_start {ms : List Md} {vs : List V} {ds : List D} {cs : Ro} {k : Nat} (hF : Le F H) (hW : Same W H) (hD : Dis W F) (a : ArgsOk K W F H ms vs ds) (h : cells ms ds = some cs) :
    Rel K (pinsOf 0 ms vs) W F H (vs.map some ++ List.replicate k none) (cs ++ List.replicate k none) where
  fh := hF
  wh := hW
  len := by rw [List.length_append, List.length_append, List.length_map, args_len a, cells_len h, List.length_replicate, List.length_replicate]
  cell := fun i c e => by
    obtain ⟨v, h1, h2, _⟩ := args_cell a h i c (get_padR e)
    exact ⟨v, pad_get h1, h2⟩
  inj := fun i j c e b hij h1 h2 o1 o2 s1 s2 => by
    rcases Nat.lt_or_gt_of_ne hij with q | q
    · exact args_inj a h i j c e _ q (get_padR h1) (get_padR h2) o1 o2 (get_pad s1) (get_pad s2)
    · exact args_inj a h j i e c _ q (get_padR h2) (get_padR h1) o2 o1 (get_pad s2) (get_pad s1)
  pin := fun p hp => by
    obtain ⟨i, e1, e2, d, e3⟩ := args_pin 0 a h p hp
    have : p.1 = i := by omega
    rw [this]
    exact ⟨pad_get e2, d, pad_getR e3⟩
  dis := hD
theorem backs_ok {P : List (Nat × Addr)} {F' H' : Hp} {σ : St} {ρ : Ro} (R : Rel K P W F' H' σ ρ) : ∀ {ms : List Md} {vs : List V} {ds bs : List D} (k : Nat), ArgsOk K W F H ms vs ds → (∀ p ∈ pinsOf k ms vs, p ∈ P) → backsOf ms (ρ.drop k) = some bs → Paired (OwnV K W F' H') (rvals ms vs) bs
  | [], [], [], bs, k, _, _, e => by cases e; exact .nil
  | .v :: ms, x :: vs, d :: ds, bs, k, a, hp, e => by
    cases q : ρ.drop k with
    | nil => rw [q] at e; cases e
    | cons c r =>
      rw [q] at e
      have hd : ρ.drop (k + 1) = r := by rw [← List.drop_drop, q]; rfl
      exact backs_ok R (ms := ms) (k + 1) a.2 (fun p z => hp p (by simpa [pinsOf] using z)) (by rw [hd]; exact e)
  | .s :: ms, x :: vs, d :: ds, bs, k, a, hp, e => by
    cases q : ρ.drop k with
    | nil => rw [q] at e; cases e
    | cons c r =>
      rw [q] at e
      have hd : ρ.drop (k + 1) = r := by rw [← List.drop_drop, q]; rfl
      exact backs_ok R (ms := ms) (k + 1) a.2 (fun p z => hp p (by simpa [pinsOf] using z)) (by rw [hd]; exact e)
  | .r :: ms, x :: vs, d :: ds, bs, k, a, hp, e => by
    obtain ⟨b, rfl, _⟩ := a.1
    cases q : ρ.drop k with
    | nil => rw [q] at e; cases e
    | cons c r =>
      rw [q] at e
      have hd : ρ.drop (k + 1) = r := by rw [← List.drop_drop, q]; rfl
      have hk : ρ[k]? = some c := by
        have : (ρ.drop k)[0]? = some c := by rw [q]; rfl
        rwa [List.getElem?_drop] at this
      obtain ⟨h1, d', h2⟩ := R.pin (k, b) (hp _ (by simp [pinsOf]))
      simp only at h1 h2
      rw [hk] at h2
      cases h2
      simp only [backsOf, Option.map_eq_some_iff] at e
      obtain ⟨bs', e1, rfl⟩ := e
      obtain ⟨v, hv, hc⟩ := R.cell k _ hk
      rw [h1] at hv; cases hv
      exact .cons hc (backs_ok R (k + 1) a.2.2 (fun p z => hp p (by simp only [pinsOf, List.mem_cons]; exact .inr z)) (by rw [hd]; exact e1))
theorem rvals_pin : ∀ {ms : List Md} {vs : List V} {ds : List D} {v : V} (k : Nat), ArgsOk K W F H ms vs ds → v ∈ rvals ms vs → ∃ a i, v = .ref a ∧ (i, a) ∈ pinsOf k ms vs
  | [], [], [], v, k, _, h => by cases h
  | .v :: ms, x :: vs, d :: ds, v, k, a, h => by
    obtain ⟨b, i, e, m⟩ := rvals_pin (k + 1) a.2 h
    exact ⟨b, i, e, by simpa [pinsOf] using m⟩
  | .s :: ms, x :: vs, d :: ds, v, k, a, h => by
    obtain ⟨b, i, e, m⟩ := rvals_pin (k + 1) a.2 h
    exact ⟨b, i, e, by simpa [pinsOf] using m⟩
  | .r :: ms, x :: vs, d :: ds, v, k, a, h => by
    obtain ⟨b, rfl, _⟩ := a.1
    rcases List.mem_cons.mp h with rfl | h
    · exact ⟨b, k, rfl, by simp [pinsOf]⟩
    · obtain ⟨c, i, e, m⟩ := rvals_pin (k + 1) a.2.2 h
      exact ⟨c, i, e, by simp only [pinsOf, List.mem_cons]; exact .inr m⟩
end

section
variable {P : Program} {w : World} {K : Fr'} {mg : Str → Option Value} {base : Heap}
theorem fnD_of {x qual : Str} {st : Stmt} {f : Addr} {fd : FuncData} {N ps : List Str} {k : Nat} {ms : List Md} {b : SemS} (F : Fun K x qual st f fd) (S : FnScope N ps (defScope st)) (hl : ps.length = ms.length)
    (hbody : ∀ (cdv : Value) (A : Around) (outer : List Env) (s : Shared) (H : Hp) (E : XK), Room k (A.deeper (envOfC qual (defScope st) s.heap.objs.size f cdv)) → A.guards = some [] → DSs (cxOf CX0 P w K mg base N qual (defScope st) f cdv A outer s H E).nox (defBody st) b) :
    FnD P w K mg base (k + 1) f fd ps ms (fnOf N.length ms b) := by
  refine fnG_of F S (fun vs H Q E h => ?_) (fun cdv A outer s H vs Q E hr gd h => ?_)
  · obtain ⟨W, F', ds, z, bs, _, _, _, a, _⟩ := h
    rw [args_len a, hl]
  refine ⟨_, (hbody cdv A outer s H E hr gd).ps.nox, ?_⟩
  obtain ⟨W, F', ds, z, bs, hF, hW, hD, a, e, q⟩ := h
  simp only [fnOf, Option.bind_eq_some_iff] at e
  obtain ⟨cs, e1, o, e2, e3⟩ := e
  have R0 := rel_start (k := N.length - ms.length) hF hW hD a e1
  refine ⟨pinsOf 0 ms vs, W, F', _, o, ?_, e2, ?_⟩
  · show Rel K _ W F' H (L2.start N vs) _
    unfold L2.start
    rw [args_len a]
    exact R0
  · cases o with
    | bk ρ => cases e3
    | ct ρ => cases e3
    | nx ρ =>
      simp only [endOf, Option.bind_eq_some_iff] at e3
      obtain ⟨bs', e4, e5⟩ := e3
      cases e5
      exact fun σ H1 F1 x1 R1 => q _ H1 F1 x1 R1.fh R1.wh (backs_ok R1 0 a (fun p hp => hp) e4) .non
    | rt r ρ =>
      simp only [endOf, Option.bind_eq_some_iff] at e3
      obtain ⟨z', e4, bs', e5, e6⟩ := e3
      cases e6
      refine fun v σ H1 F1 x1 R1 o1 => q v H1 F1 x1 R1.fh R1.wh (backs_ok R1 0 a (fun p hp => hp) e5) ?_
      cases r with
      | val d => cases e4; exact o1
      | «at» i => cases e4
      | fr d =>
        cases e4
        refine ⟨o1.1, fun hm => ?_⟩
        obtain ⟨b, i, rfl, hp⟩ := rvals_pin 0 a hm
        obtain ⟨h1, d', h2⟩ := R1.pin _ hp
        exact o1.2 i _ h2 rfl h1
end

abbrev SemM := Ro → Option (List Rv × Ro)
def frV : List Md → List Rv → List V → List V
  | .r :: ms, .fr _ :: rs, v :: vs => v :: frV ms rs vs
  | _ :: ms, _ :: rs, _ :: vs => frV ms rs vs
  | _, _, _ => []
def MOk (K : Fr') (W F H : Hp) (σ : St) (ρ : Ro) : List Md → List Rv → List V → Prop
  | [], [], [] => True
  | .v :: ms, .val d :: rs, v :: vs => Rp K F v d ∧ MOk K W F H σ ρ ms rs vs
  | .r :: ms, .at i :: rs, v :: vs => σ[i]? = some (some v) ∧ MOk K W F H σ ρ ms rs vs
  | .r :: ms, .fr d :: rs, v :: vs => OwnV K W F H v d ∧ (∀ (i : Nat) (c : Cell), ρ[i]? = some (some c) → c.owned = true → σ[i]? ≠ some (some v)) ∧ v ∉ frV ms rs vs ∧ MOk K W F H σ ρ ms rs vs
  | .s :: ms, .at i :: rs, v :: vs => σ[i]? = some (some v) ∧ MOk K W F H σ ρ ms rs vs
  | _, _, _ => False
def tDM (K : Fr') (ms : List Md) (f : SemM) : TA := fun σ H Q => ∃ P W F ρ rs ρ', Rel K P W F H σ ρ ∧ f ρ = some (rs, ρ') ∧ ∀ vs H' F', Ext W F F' → Rel K P W F' H' σ ρ' → (MOk K W F' H' σ ρ' ms rs vs) → Q vs H'
structure DM (X : Cx) (es : List Expr) (ms : List Md) (f : SemM) : Prop where
  pa : PA X es (tDM X.K ms f)
def mNil : SemM := fun ρ => some ([], ρ)
def mV (f : SemE) (g : SemM) : SemM := fun ρ => (f ρ).bind fun (r, ρ1) => (frz ρ1 r).bind fun (d, ρ2) => (g ρ2).bind fun (rs, ρ3) => some (.val d :: rs, ρ3)
def mR (f : SemE) (g : SemM) : SemM := fun ρ => (f ρ).bind fun (r, ρ1) => match r with
  | .val _ => none
  | r => (g ρ1).bind fun (rs, ρ3) => some (r :: rs, ρ3)
def mS (i : Nat) (g : SemM) : SemM := fun ρ => match ρ[i]? with
  | some (some (.scr _)) => (g ρ).bind fun (rs, ρ3) => some (.at i :: rs, ρ3)
  | _ => none
section
variable {X : Cx}
theorem dm_nil : DM X [] [] mNil := by
  refine ⟨pa_nil.pvi fun σ H Q q => ?_⟩
  obtain ⟨P, W, F, ρ, r, ρ', R, e, q⟩ := q
  cases e
  exact q [] H F (Ext.refl _ _) R trivial
theorem dm_v {e : Expr} {es : List Expr} {f : SemE} {ms : List Md} {g : SemM} (a : DE X e f) (b : DM X es ms g) (hs : starEach (e :: es) X.env = (false, eval e X.env) :: starEach es X.env := by rfl) : DM X (e :: es) (.v :: ms) (mV f g) := by
  refine ⟨(pa_cons a.pe b.pa hs).pvi fun σ H Q q => ?_⟩
  obtain ⟨P, W, F, ρ, ds, ρ', R, e, q⟩ := q
  simp only [mV, Option.bind_eq_some_iff, Prod.exists] at e
  obtain ⟨r, ρ1, e1, d, ρ2, e2, ds', ρ3, e3, e4⟩ := e
  cases e4
  refine ⟨P, W, F, ρ, r, ρ1, R, e1, fun v H1 F1 x1 R1 o1 => ?_⟩
  obtain ⟨F2, x2, R2, rp⟩ := R1.frz o1 e2
  refine ⟨P, W, F2, ρ2, ds', ρ', R2, e3, fun vs H3 F3 x3 R3 rs => ?_⟩
  exact q _ H3 F3 ((x1.trans x2).trans x3) R3 ⟨rp.mono (Le.of x3.same), rs⟩
theorem MOk.w {K : Fr'} {W W1 F H : Hp} {σ : St} {ρ : Ro} (h : ∀ a, W1 a = none → W a = none) : ∀ {ms : List Md} {rs : List Rv} {vs : List V}, MOk K W1 F H σ ρ ms rs vs → MOk K W F H σ ρ ms rs vs
  | [], [], [], _ => trivial
  | .v :: ms, .val d :: rs, v :: vs, a => ⟨a.1, MOk.w h a.2⟩
  | .r :: ms, .at i :: rs, v :: vs, a => ⟨a.1, MOk.w h a.2⟩
  | .r :: ms, .fr d :: rs, v :: vs, a => by
    obtain ⟨⟨b, e, hw, q⟩, h2, h3, h4⟩ := a
    exact ⟨⟨b, e, h b hw, q⟩, h2, h3, MOk.w h h4⟩
  | .s :: ms, .at i :: rs, v :: vs, a => ⟨a.1, MOk.w h a.2⟩
def mData (ρ : Ro) : List Md → List Rv → Option (List D)
  | [], [] => some []
  | .v :: ms, .val d :: rs => (mData ρ ms rs).map (d :: ·)
  | .r :: ms, .at i :: rs => (match ρ[i]? with
    | some (some (.own d)) => (mData ρ ms rs).map (d :: ·)
    | some (some (.byr d)) => (mData ρ ms rs).map (d :: ·)
    | _ => none)
  | .r :: ms, .fr d :: rs => (mData ρ ms rs).map (d :: ·)
  | .s :: ms, .at i :: rs => (match ρ[i]? with
    | some (some (.scr es)) => (mData ρ ms rs).map (.list es :: ·)
    | _ => none)
  | _, _ => none
def mIdx : List Md → List Rv → List Nat
  | .r :: ms, .at i :: rs => i :: mIdx ms rs
  | _ :: ms, _ :: rs => mIdx ms rs
  | _, _ => []
def setD (ρ : Ro) (i : Nat) (b : D) : Ro := match ρ[i]? with
  | some (some (.own _)) => ρ.set i (some (.own b))
  | some (some (.byr _)) => ρ.set i (some (.byr b))
  | _ => ρ
def mBack (ρ : Ro) : List Md → List Rv → List D → Ro
  | .r :: ms, .at i :: rs, b :: bs => setD (mBack ρ ms rs bs) i b
  | .r :: ms, .fr _ :: rs, _ :: bs => mBack ρ ms rs bs
  | .v :: ms, _ :: rs, bs => mBack ρ ms rs bs
  | .s :: ms, _ :: rs, bs => mBack ρ ms rs bs
  | _, _, _ => ρ
theorem rv_owned {K : Fr'} {W F H : Hp} {σ : St} {ρ : Ro} {v : V} : ∀ {ms : List Md} {rs : List Rv} {vs : List V} {ds : List D}, MOk K W F H σ ρ ms rs vs → mData ρ ms rs = some ds → v ∈ rvals ms vs →
    (∃ i ∈ mIdx ms rs, σ[i]? = some (some v) ∧ ∃ c, ρ[i]? = some (some c) ∧ c.owned = true) ∨ (v ∈ frV ms rs vs ∧ ∀ (i : Nat) (c : Cell), ρ[i]? = some (some c) → c.owned = true → σ[i]? ≠ some (some v))
  | [], [], [], _, _, _, h => by cases h
  | .v :: ms, .val d :: rs, x :: vs, ds, a, e, h => by
    simp only [mData, Option.map_eq_some_iff] at e
    obtain ⟨ds', e1, _⟩ := e
    exact rv_owned (ms := ms) (rs := rs) a.2 e1 h
  | .s :: ms, .at i :: rs, x :: vs, ds, a, e, h => by
    simp only [mData] at e
    split at e
    · simp only [Option.map_eq_some_iff] at e
      obtain ⟨ds', e1, _⟩ := e
      exact rv_owned (ms := ms) (rs := rs) a.2 e1 h
    · cases e
  | .r :: ms, .fr d :: rs, x :: vs, ds, a, e, h => by
    simp only [mData, Option.map_eq_some_iff] at e
    obtain ⟨ds', e1, _⟩ := e
    rcases List.mem_cons.mp h with rfl | h
    · exact .inr ⟨List.mem_cons_self, a.2.1⟩
    · rcases rv_owned (ms := ms) (rs := rs) a.2.2.2 e1 h with q | ⟨q1, q2⟩
      · exact .inl q
      · exact .inr ⟨List.mem_cons_of_mem _ q1, q2⟩
  | .r :: ms, .at i :: rs, x :: vs, ds, a, e, h => by
    simp only [mData] at e
    split at e
    · rename_i d hc
      simp only [Option.map_eq_some_iff] at e
      obtain ⟨ds', e1, _⟩ := e
      rcases List.mem_cons.mp h with rfl | h
      · exact .inl ⟨i, List.mem_cons_self, a.1, _, hc, rfl⟩
      · rcases rv_owned (ms := ms) (rs := rs) a.2 e1 h with ⟨j, hj, q⟩ | q
        · exact .inl ⟨j, List.mem_cons_of_mem _ hj, q⟩
        · exact .inr q
    · rename_i d hc
      simp only [Option.map_eq_some_iff] at e
      obtain ⟨ds', e1, _⟩ := e
      rcases List.mem_cons.mp h with rfl | h
      · exact .inl ⟨i, List.mem_cons_self, a.1, _, hc, rfl⟩
      · rcases rv_owned (ms := ms) (rs := rs) a.2 e1 h with ⟨j, hj, q⟩ | q
        · exact .inl ⟨j, List.mem_cons_of_mem _ hj, q⟩
        · exact .inr q
    · cases e

theorem frV_off {K : Fr'} {W F H : Hp} {σ : St} {ρ : Ro} : ∀ {ms : List Md} {rs : List Rv} {vs : List V}, MOk K W F H σ ρ ms rs vs → ∀ v ∈ frV ms rs vs, ∃ a, v = .ref a ∧ W a = none
  | [], [], [], _, v, h => by cases h
  | .v :: ms, .val d :: rs, x :: vs, a, v, h => frV_off (ms := ms) (rs := rs) a.2 v h
  | .s :: ms, .at i :: rs, x :: vs, a, v, h => frV_off (ms := ms) (rs := rs) a.2 v h
  | .r :: ms, .at i :: rs, x :: vs, a, v, h => frV_off (ms := ms) (rs := rs) a.2 v h
  | .r :: ms, .fr d :: rs, x :: vs, a, v, h => by
    rcases List.mem_cons.mp h with rfl | h
    · obtain ⟨b, e, hw, _⟩ := a.1; exact ⟨b, e, hw⟩
    · exact frV_off (ms := ms) (rs := rs) a.2.2.2 v h
theorem dm_r {e : Expr} {es : List Expr} {f : SemE} {ms : List Md} {g : SemM} (a : DE X e f) (b : DM X es ms g) (hs : starEach (e :: es) X.env = (false, eval e X.env) :: starEach es X.env := by rfl) : DM X (e :: es) (.r :: ms) (mR f g) := by
  refine ⟨(pa_cons a.pe b.pa hs).pvi fun σ H Q q => ?_⟩
  obtain ⟨P, W, F, ρ, ds, ρ', R, e, q⟩ := q
  simp only [mR, Option.bind_eq_some_iff, Prod.exists] at e
  obtain ⟨r, ρ1, e1, e2⟩ := e
  refine ⟨P, W, F, ρ, r, ρ1, R, e1, fun v H1 F1 x1 R1 o1 => ?_⟩
  cases r with
  | val d => cases e2
  | «at» i =>
    simp only [Option.bind_eq_some_iff, Prod.exists] at e2
    obtain ⟨rs, ρ3, e3, e4⟩ := e2
    cases e4
    exact ⟨P, W, F1, ρ1, rs, ρ', R1, e3, fun vs H3 F3 x3 R3 m => q _ H3 F3 (x1.trans x3) R3 ⟨o1, m⟩⟩
  | fr d =>
    simp only [Option.bind_eq_some_iff, Prod.exists] at e2
    obtain ⟨rs, ρ3, e3, e4⟩ := e2
    cases e4
    obtain ⟨⟨a, ea, hw, hf, ow⟩, hn⟩ := o1
    obtain ⟨_, u, hu⟩ := ow.mut
    subst ea
    refine ⟨P, upd W a u, F1, ρ1, rs, ρ', R1.protect hu hf hn, e3, fun vs H3 F3 x3 R3 m => ?_⟩
    have hF3 : F3 a = none := by rw [x3.off a (by rw [upd_same]; exact fun z => nomatch z)]; exact hf
    refine q _ H3 F3 (x1.trans x3.un) (R3.unprotect hw) ⟨⟨a, rfl, hw, hF3, ?_⟩, R3.noown, fun z => ?_, m.w fun b hb => (upd_none hb).2⟩
    · rw [R3.wh a u upd_same, ← hu]; exact ow.mono (Le.of x3.same)
    · obtain ⟨b, eb, hb⟩ := frV_off m _ z
      cases eb
      exact (upd_none hb).1 rfl
theorem dm_s {i : Nat} {x : Str} {p : Pos} {es : List Expr} {ms : List Md} {g : SemM} (a : PE X (.Name x p) (tVar i)) (b : DM X es ms g) (hs : starEach (.Name x p :: es) X.env = (false, eval (.Name x p) X.env) :: starEach es X.env := by rfl) : DM X (.Name x p :: es) (.s :: ms) (mS i g) := by
  refine ⟨(pa_cons a b.pa hs).pvi fun σ H Q q => ?_⟩
  obtain ⟨P, W, F, ρ, ds, ρ', R, e, q⟩ := q
  simp only [mS] at e
  split at e
  · rename_i es hc
    simp only [Option.bind_eq_some_iff, Prod.exists] at e
    obtain ⟨rs, ρ3, e3, e4⟩ := e
    cases e4
    obtain ⟨v, hv, hk⟩ := R.cell i _ hc
    exact ⟨v, hv, P, W, F, ρ, rs, ρ', R, e3, fun vs H3 F3 x3 R3 m => q _ H3 F3 x3 R3 ⟨hv, m⟩⟩
  · cases e

def sCall (ms : List Md) (fn : Fn) (f : SemM) : SemE := fun ρ => (f ρ).bind fun (rs, ρ1) => if (mIdx ms rs).Nodup then (mData ρ1 ms rs).bind fun ds => (fn ds).bind fun (z, bs) => some (mkR z, mBack ρ1 ms rs bs) else none
open Classical in
noncomputable def keepW (W H : Hp) (σ : St) (ρ : Ro) (rv : List V) : Hp := fun b => if (∃ (i : Nat) (c : Cell), ρ[i]? = some (some c) ∧ c.owned = true ∧ σ[i]? = some (some (.ref b))) ∧ V.ref b ∉ rv then H b else W b
section
variable {K : Fr'} {P : List (Nat × Addr)} {W F H F' H' : Hp} {σ : St} {ρ : Ro} {rv : List V} {a : Addr}
theorem keepW_in (h : ∃ (i : Nat) (c : Cell), ρ[i]? = some (some c) ∧ c.owned = true ∧ σ[i]? = some (some (.ref a))) (h2 : V.ref a ∉ rv) : keepW W H σ ρ rv a = H a := if_pos ⟨h, h2⟩
theorem keepW_rv (h : V.ref a ∈ rv) : keepW W H σ ρ rv a = W a := if_neg fun z => z.2 h
theorem keepW_same (h : Same W H) : Same (keepW W H σ ρ rv) H := fun b o e => by
  unfold keepW at e
  split at e
  · exact e
  · exact h b o e
theorem keepW_none (R : Rel K P W F H σ ρ) (h : keepW W H σ ρ rv a = none) : W a = none ∧ ((∃ (i : Nat) (c : Cell), ρ[i]? = some (some c) ∧ c.owned = true ∧ σ[i]? = some (some (.ref a))) → V.ref a ∈ rv) := by
  unfold keepW at h
  split at h
  · rename_i z
    obtain ⟨⟨i, c, h1, h2, h3⟩, h4⟩ := z
    obtain ⟨v, hv, hk⟩ := R.cell i c h1
    rw [h3] at hv; cases hv
    have : ∃ u, H a = some u := by
      cases c with
      | val d => cases h2
      | own d => obtain ⟨b, eb, _, _, o⟩ := hk; cases eb; exact o.mut.2
      | byr d => obtain ⟨b, eb, _, _, o⟩ := hk; cases eb; exact o.mut.2
      | scr ds => cases h2
    obtain ⟨u, hu⟩ := this
    rw [hu] at h; cases h
  · rename_i z
    refine ⟨h, fun q => ?_⟩
    by_cases hm : V.ref a ∈ rv
    · exact hm
    · exact absurd ⟨q, hm⟩ z
theorem keepW_dis (R : Rel K P W F H σ ρ) : Dis (keepW W H σ ρ rv) F := fun b e => by
  unfold keepW at e ⊢
  split at e
  · next z =>
    obtain ⟨⟨i, c, h1, h2, h3⟩, _⟩ := z
    obtain ⟨v, hv, hk⟩ := R.cell i c h1
    rw [h3] at hv
    cases hv
    cases c with
    | val _ => cases h2
    | scr _ => cases h2
    | own _ => obtain ⟨a, ea, _, hf, _⟩ := hk; cases ea; exact .inl hf
    | byr _ => obtain ⟨a, ea, _, hf, _⟩ := hk; cases ea; exact .inl hf
  · next z => rw [if_neg z]; exact R.dis b e
theorem keepW_ext (w : Same W H) (x : Ext (keepW W H σ ρ rv) F F') : Ext W F F' := ⟨x.same, fun b e => x.off b (by
  unfold keepW
  split
  · exact Same.ne w e
  · exact e)⟩
theorem mok_args (R : Rel K P W F H σ ρ) : ∀ {ms : List Md} {rs : List Rv} {vs : List V} {ds : List D} (W' : Hp), MOk K W F H σ ρ ms rs vs → mData ρ ms rs = some ds → (mIdx ms rs).Nodup → (∀ a, V.ref a ∈ rvals ms vs → W' a = W a) → ArgsOk K W' F H ms vs ds
  | [], [], [], ds, W', _, e, _, _ => by cases e; trivial
  | .v :: ms, .val d :: rs, v :: vs, ds, W', m, e, nd, hw => by
    simp only [mData, Option.map_eq_some_iff] at e
    obtain ⟨ds', e1, rfl⟩ := e
    exact ⟨m.1, mok_args R (ms := ms) (rs := rs) W' m.2 e1 nd hw⟩
  | .s :: ms, .at i :: rs, v :: vs, ds, W', m, e, nd, hw => by
    simp only [mData] at e
    split at e
    · rename_i es hc
      simp only [Option.map_eq_some_iff] at e
      obtain ⟨ds', e1, rfl⟩ := e
      obtain ⟨u, hu, a, xs, ea, s, r⟩ := R.cell i _ hc
      rw [m.1] at hu; cases hu
      exact ⟨⟨es, a, xs, rfl, ea, s, r⟩, mok_args R (ms := ms) (rs := rs) W' m.2 e1 nd hw⟩
    · cases e
  | .r :: ms, .fr d :: rs, v :: vs, ds, W', m, e, nd, hw => by
    simp only [mData, Option.map_eq_some_iff] at e
    obtain ⟨ds', e1, rfl⟩ := e
    obtain ⟨⟨a, ea, hwa, hf, o⟩, hn, hfr, m2⟩ := m
    subst ea
    refine ⟨⟨a, rfl, by rw [hw a List.mem_cons_self]; exact hwa, hf, o⟩, fun z => ?_, mok_args R (ms := ms) (rs := rs) W' m2 e1 nd fun b hb => hw b (List.mem_cons_of_mem _ hb)⟩
    rcases rv_owned (ms := ms) (rs := rs) m2 e1 z with ⟨j, hj, s, c, hc, ow⟩ | ⟨q, _⟩
    · exact hn j c hc ow s
    · exact hfr q
  | .r :: ms, .at i :: rs, v :: vs, ds, W', m, e, nd, hw => by
    have go : ∀ (c : Cell) (d : D) (ds' : List D), ρ[i]? = some (some c) → c.owned = true → OwnV K W F H v d → mData ρ ms rs = some ds' → ArgsOk K W' F H (.r :: ms) (v :: vs) (d :: ds') := fun c d ds' hc ow hk e1 => by
      obtain ⟨a, ea, hwa, hf, o⟩ := hk
      subst ea
      have nd' := List.nodup_cons.mp nd
      refine ⟨⟨a, rfl, by rw [hw a List.mem_cons_self]; exact hwa, hf, o⟩, fun z => ?_, mok_args R (ms := ms) (rs := rs) W' m.2 e1 nd'.2 fun b hb => hw b (List.mem_cons_of_mem _ hb)⟩
      rcases rv_owned (ms := ms) (rs := rs) m.2 e1 z with ⟨j, hj, s, c', hc', ow'⟩ | ⟨q, hn⟩
      · exact R.inj i j c c' a (fun y => nd'.1 (by rw [y]; exact hj)) hc hc' ow ow' m.1 s
      · exact hn i c hc ow m.1
    simp only [mData] at e
    split at e
    · rename_i d hc
      simp only [Option.map_eq_some_iff] at e
      obtain ⟨ds', e1, rfl⟩ := e
      obtain ⟨u, hu, hk⟩ := R.cell i _ hc
      rw [m.1] at hu; cases hu
      exact go _ d ds' hc rfl hk e1
    · rename_i d hc
      simp only [Option.map_eq_some_iff] at e
      obtain ⟨ds', e1, rfl⟩ := e
      obtain ⟨u, hu, hk⟩ := R.cell i _ hc
      rw [m.1] at hu; cases hu
      exact go _ d ds' hc rfl hk e1
    · cases e
theorem setD_get {i j : Nat} {b : D} {c : Cell} (h : (setD ρ i b)[j]? = some (some c)) :
    (j = i ∧ ((c = .own b ∧ ∃ d, ρ[i]? = some (some (.own d))) ∨ (c = .byr b ∧ ∃ d, ρ[i]? = some (some (.byr d))))) ∨ (ρ[j]? = some (some c) ∧ (j = i → c.owned = false)) := by
  unfold setD at h
  split at h
  · rename_i d e
    rcases set_get h with ⟨rfl, z⟩ | ⟨hj, z⟩
    · cases z; exact .inl ⟨rfl, .inl ⟨rfl, d, e⟩⟩
    · exact .inr ⟨z, fun y => absurd y hj⟩
  · rename_i d e
    rcases set_get h with ⟨rfl, z⟩ | ⟨hj, z⟩
    · cases z; exact .inl ⟨rfl, .inr ⟨rfl, d, e⟩⟩
    · exact .inr ⟨z, fun y => absurd y hj⟩
  · rename_i n1 n2
    refine .inr ⟨h, fun y => ?_⟩
    subst y
    cases c with
    | val d => rfl
    | own d => exact absurd h (n1 d)
    | byr d => exact absurd h (n2 d)
    | scr ds => rfl
theorem setD_len {i : Nat} {b : D} : (setD ρ i b).length = ρ.length := by
  unfold setD
  split
  · rw [List.length_set]
  · rw [List.length_set]
  · rfl
theorem mBack_len : ∀ {ms : List Md} {rs : List Rv} {bs : List D}, (mBack ρ ms rs bs).length = ρ.length
  | [], _, _ => by simp [mBack]
  | .r :: ms, [], _ => by simp [mBack]
  | .v :: ms, [], _ => by simp [mBack]
  | .s :: ms, [], _ => by simp [mBack]
  | .r :: ms, .at i :: rs, [] => by simp [mBack]
  | .r :: ms, .at i :: rs, b :: bs => by simp only [mBack]; rw [setD_len]; exact mBack_len
  | .r :: ms, .fr d :: rs, [] => by simp [mBack]
  | .r :: ms, .fr d :: rs, b :: bs => by simp only [mBack]; exact mBack_len
  | .r :: ms, .val d :: rs, bs => by cases bs <;> simp [mBack]
  | .v :: ms, r :: rs, bs => by simp only [mBack]; exact mBack_len
  | .s :: ms, r :: rs, bs => by simp only [mBack]; exact mBack_len
theorem mBack_byr {i : Nat} {d : D} (h : ρ[i]? = some (some (.byr d))) : ∀ {ms : List Md} {rs : List Rv} {bs : List D}, ∃ d', (mBack ρ ms rs bs)[i]? = some (some (.byr d'))
  | [], _, _ => ⟨d, by simp [mBack, h]⟩
  | .r :: ms, [], _ => ⟨d, by simp [mBack, h]⟩
  | .v :: ms, [], _ => ⟨d, by simp [mBack, h]⟩
  | .s :: ms, [], _ => ⟨d, by simp [mBack, h]⟩
  | .r :: ms, .at j :: rs, [] => ⟨d, by simp [mBack, h]⟩
  | .r :: ms, .at j :: rs, b :: bs => by
    obtain ⟨d', e⟩ := mBack_byr h (ms := ms) (rs := rs) (bs := bs)
    simp only [mBack]
    unfold setD
    by_cases hj : j = i
    · subst hj
      rw [e]
      exact ⟨b, by simp only; rw [List.getElem?_set_self (List.getElem?_eq_some_iff.mp e).1]⟩
    · split
      · exact ⟨d', by rw [List.getElem?_set_ne hj]; exact e⟩
      · exact ⟨d', by rw [List.getElem?_set_ne hj]; exact e⟩
      · exact ⟨d', e⟩
  | .r :: ms, .fr _ :: rs, [] => ⟨d, by simp [mBack, h]⟩
  | .r :: ms, .fr _ :: rs, b :: bs => by simp only [mBack]; exact mBack_byr h
  | .r :: ms, .val _ :: rs, bs => by cases bs <;> exact ⟨d, by simp [mBack, h]⟩
  | .v :: ms, r :: rs, bs => by simp only [mBack]; exact mBack_byr h
  | .s :: ms, r :: rs, bs => by simp only [mBack]; exact mBack_byr h
theorem mBack_get {T : V → D → Prop} : ∀ {ms : List Md} {rs : List Rv} {vs : List V} {bs ds : List D}, MOk K W F H σ ρ ms rs vs → mData ρ ms rs = some ds → (mIdx ms rs).Nodup → Paired T (rvals ms vs) bs → ∀ (j : Nat) (c : Cell), (mBack ρ ms rs bs)[j]? = some (some c) →
    (∃ v b, j ∈ mIdx ms rs ∧ σ[j]? = some (some v) ∧ T v b ∧ ((c = .own b ∧ ∃ d, ρ[j]? = some (some (.own d))) ∨ (c = .byr b ∧ ∃ d, ρ[j]? = some (some (.byr d))))) ∨ (j ∉ mIdx ms rs ∧ ρ[j]? = some (some c))
  | [], [], [], bs, ds, _, _, _, _, j, c, h => .inr ⟨List.not_mem_nil, by simpa [mBack] using h⟩
  | .v :: ms, .val d :: rs, v :: vs, bs, ds, m, e, nd, p, j, c, h => by
    simp only [mData, Option.map_eq_some_iff] at e
    obtain ⟨ds', e1, _⟩ := e
    exact mBack_get (ms := ms) (rs := rs) (vs := vs) m.2 e1 nd p j c h
  | .s :: ms, .at i :: rs, v :: vs, bs, ds, m, e, nd, p, j, c, h => by
    simp only [mData] at e
    split at e
    · simp only [Option.map_eq_some_iff] at e
      obtain ⟨ds', e1, _⟩ := e
      exact mBack_get (ms := ms) (rs := rs) (vs := vs) m.2 e1 nd p j c h
    · cases e
  | .r :: ms, .fr d :: rs, v :: vs, bs, ds, m, e, nd, p, j, c, h => by
    simp only [mData, Option.map_eq_some_iff] at e
    obtain ⟨ds', e1, _⟩ := e
    cases p with
    | cons t p => exact mBack_get (ms := ms) (rs := rs) (vs := vs) m.2.2.2 e1 nd p j c h
  | .r :: ms, .at i :: rs, v :: vs, bs, ds, m, e, nd, p, j, c, h => by
    have e' : ∃ ds', mData ρ ms rs = some ds' ∧ ∃ c, ρ[i]? = some (some c) ∧ c.owned = true := by
      simp only [mData] at e
      split at e
      · rename_i d hc
        simp only [Option.map_eq_some_iff] at e
        obtain ⟨ds', e1, _⟩ := e
        exact ⟨ds', e1, _, hc, rfl⟩
      · rename_i d hc
        simp only [Option.map_eq_some_iff] at e
        obtain ⟨ds', e1, _⟩ := e
        exact ⟨ds', e1, _, hc, rfl⟩
      · cases e
    obtain ⟨ds', e1, ci, hci, owi⟩ := e'
    have nd' := List.nodup_cons.mp nd
    cases p with
    | @cons _ b _ bs t p =>
      have ih := mBack_get (ms := ms) (rs := rs) (vs := vs) m.2 e1 nd'.2 p
      rcases setD_get h with ⟨rfl, q⟩ | ⟨q, hq⟩
      · refine .inl ⟨v, b, List.mem_cons_self, m.1, t, ?_⟩
        have back : ∀ c', (mBack ρ ms rs bs)[j]? = some (some c') → ρ[j]? = some (some c') := fun c' z => by
          rcases ih j c' z with ⟨_, _, h1, _⟩ | ⟨_, h2⟩
          · exact absurd h1 nd'.1
          · exact h2
        rcases q with ⟨q1, d, q2⟩ | ⟨q1, d, q2⟩
        · exact .inl ⟨q1, d, back _ q2⟩
        · exact .inr ⟨q1, d, back _ q2⟩
      · rcases ih j c q with ⟨v', b', h1, h2, h3, h4⟩ | ⟨h1, h2⟩
        · exact .inl ⟨v', b', List.mem_cons_of_mem _ h1, h2, h3, h4⟩
        · refine .inr ⟨fun z => ?_, h2⟩
          rcases List.mem_cons.mp z with z | z
          · have := hq z
            rw [z, hci] at h2
            cases h2
            rw [owi] at this; cases this
          · exact h1 z
theorem rel_back {ms : List Md} {rs : List Rv} {vs : List V} {bs ds : List D} (R : Rel K P W F H σ ρ) (m : MOk K W F H σ ρ ms rs vs) (e : mData ρ ms rs = some ds) (nd : (mIdx ms rs).Nodup)
    (x : Ext (keepW W H σ ρ (rvals ms vs)) F F') (l : Le F' H') (s : Same (keepW W H σ ρ (rvals ms vs)) H') (p : Paired (OwnV K (keepW W H σ ρ (rvals ms vs)) F' H') (rvals ms vs) bs) : Rel K P W F' H' σ (mBack ρ ms rs bs) where
  fh := l
  wh := fun b o eb => by
    by_cases h : keepW W H σ ρ (rvals ms vs) b = W b
    · exact s b o (by rw [h]; exact eb)
    · have h2 : keepW W H σ ρ (rvals ms vs) b = H b := by
        unfold keepW at h ⊢
        split
        · rfl
        · rename_i z; exact absurd (if_neg z) h
      exact s b o (by rw [h2]; exact R.wh b o eb)
  len := by rw [mBack_len]; exact R.len
  cell := fun j c hc => by
    rcases mBack_get m e nd p j c hc with ⟨v, b, hj, hv, t, q⟩ | ⟨hj, q⟩
    · refine ⟨v, hv, ?_⟩
      obtain ⟨a, ea, hw, hf, o⟩ := t
      have hwa := (keepW_none R hw).1
      rcases q with ⟨rfl, _⟩ | ⟨rfl, _⟩
      · exact ⟨a, ea, hwa, hf, o⟩
      · exact ⟨a, ea, hwa, hf, o⟩
    · obtain ⟨v, hv, hk⟩ := R.cell j c q
      refine ⟨v, hv, ?_⟩
      have own : ∀ d, c.owned = true → OwnV K W F H v d → OwnV K W F' H' v d := fun d ow ⟨a, ea, hw, hf, o⟩ => by
        subst ea
        have hnr : V.ref a ∉ rvals ms vs := fun z => by
          rcases rv_owned m e z with ⟨i, hi, s', c', hc', ow'⟩ | ⟨_, hn⟩
          · exact R.inj i j c' c a (fun y => hj (by rw [← y]; exact hi)) hc' q ow' ow s' hv
          · exact hn j c q ow hv
        have hkw := keepW_in (W := W) (H := H) (rv := rvals ms vs) ⟨j, c, q, ow, hv⟩ hnr
        obtain ⟨_, u, hu⟩ := o.mut
        refine ⟨a, rfl, hw, by rw [x.off a (by rw [hkw, hu]; exact fun z => nomatch z)]; exact hf, ?_⟩
        rw [s a u (by rw [hkw]; exact hu), ← hu]
        exact o.mono (Le.of x.same)
      cases c with
      | val d => exact Rp.mono (Le.of x.same) hk
      | own d => exact own d rfl hk
      | byr d => exact own d rfl hk
      | scr ds => obtain ⟨a, xs, ea, s', r⟩ := hk; exact ⟨a, xs, ea, (Le.of x.same).sql s', r.mono (Le.of x.same)⟩
  inj := fun i j c e' a hij h1 h2 o1 o2 s1 s2 => by
    have was : ∀ (k : Nat) (c : Cell), (mBack ρ ms rs bs)[k]? = some (some c) → c.owned = true → ∃ c', ρ[k]? = some (some c') ∧ c'.owned = true := fun k c hc ow => by
      rcases mBack_get m e nd p k c hc with ⟨v, b, hj, hv, t, q⟩ | ⟨hj, q⟩
      · rcases q with ⟨_, d, q⟩ | ⟨_, d, q⟩
        · exact ⟨_, q, rfl⟩
        · exact ⟨_, q, rfl⟩
      · exact ⟨c, q, ow⟩
    obtain ⟨c1, h1', o1'⟩ := was i c h1 o1
    obtain ⟨c2, h2', o2'⟩ := was j e' h2 o2
    exact R.inj i j c1 c2 a hij h1' h2' o1' o2' s1 s2
  pin := fun q hq => by
    obtain ⟨h1, d, h2⟩ := R.pin q hq
    obtain ⟨d', h3⟩ := mBack_byr h2 (ms := ms) (rs := rs) (bs := bs)
    exact ⟨h1, d', h3⟩
  dis := fun b e => (R.dis b e).imp (fun z => ((keepW_ext R.wh x).off b e).trans z) id
end
theorem sCall_ok {K : Fr'} {ms : List Md} {fn : Fn} {f : SemM} {σ : St} {H : Hp} {Q : VK} {E : XK} (q : tD K (sCall ms fn f) σ H Q) : tCall (spF K ms fn) [] E (tDM K ms f) σ H Q := by
  obtain ⟨P, W, F, ρ, r, ρ', R, e, q⟩ := q
  simp only [sCall, Option.bind_eq_some_iff, Prod.exists] at e
  obtain ⟨rs, ρ1, e1, e2⟩ := e
  split at e2
  case isFalse => cases e2
  rename_i nd
  simp only [Option.bind_eq_some_iff, Prod.exists] at e2
  obtain ⟨ds, e3, z, b, bs, e4, e5⟩ := e2
  cases e5
  refine ⟨P, W, F, ρ, rs, ρ1, R, e1, fun vs H1 F1 x1 R1 m => ?_⟩
  show spF K ms fn (vs ++ []) H1 Q E
  rw [List.append_nil]
  refine ⟨keepW W H1 σ ρ1 (rvals ms vs), F1, ds, (z, b), bs, R1.fh, keepW_same R1.wh, keepW_dis R1, mok_args R1 _ m e3 nd fun a ha => keepW_rv ha, e4, fun v H' F' x l s p res => ?_⟩
  have R2 := rel_back R1 m e3 nd x l s p
  refine q v H' F' (x1.trans (keepW_ext R1.wh x)) R2 ?_
  cases b with
  | false => exact res
  | true =>
    obtain ⟨⟨a, ea, hw, hf, o⟩, hn⟩ := res
    subst ea
    obtain ⟨h1, h2⟩ := keepW_none R1 hw
    refine ⟨⟨a, rfl, h1, hf, o⟩, fun i c hc ow es => ?_⟩
    have : ∃ c', ρ1[i]? = some (some c') ∧ c'.owned = true := by
      rcases mBack_get m e3 nd p i c hc with ⟨v, b, hj, hv, t, q⟩ | ⟨hj, q⟩
      · rcases q with ⟨_, d, q⟩ | ⟨_, d, q⟩
        · exact ⟨_, q, rfl⟩
        · exact ⟨_, q, rfl⟩
      · exact ⟨c, q, ow⟩
    obtain ⟨c', hc', ow'⟩ := this
    exact hn (h2 ⟨i, c', hc', ow', es⟩)
section
variable {CX : CXT} {k : Nat} {f : Addr} {fd : FuncData} {ps : List Str} {x : Str} {p pos : Pos} {e : Expr} {es : List Expr} {ms : List Md} {fn : Fn} {g : SemM}
theorem de_call (F : FnD X.prog X.w X.K X.mg X.base k f fd ps ms fn) (hr : Room k X.A) (gd : X.A.guards = some []) (hg : Gl X x) (hm : X.mg x = some (.ref f)) (hk : PySem.W.keepIn X.K (.ref f) = true) (hb : Binds X.K fd ps [])
    (ha : DM X (e :: es) ms g) (hdb : (x == ("__debug__" : Str)) = false := by decide) (he : starEach (e :: es) X.env = (false, eval e X.env) :: starEach es X.env := by rfl) (hpl : (backTo pos (starEach es X.env)).any (·.1) = false := by rfl) :
    DE X (.Call (.Name x p) (e :: es) [] pos) (sCall ms fn g) :=
  ⟨(pe_callG F hr gd hg hm hk hb .nil pass0 ha.pa hdb he hpl).pvi fun _ _ _ => sCall_ok⟩
end
end
end Pv
end
section
set_option Elab.async false
set_option linter.all false
set_option maxRecDepth 100000
set_option maxHeartbeats 1000000
namespace Pv
open PySem PySem.Spec PyProof.Rows L2

section
variable {X : Cx} {K : Fr'} {F H : Hp} {Q : VK} {v x y : V} {d : D}

def addF : Op2
  | .int i, .int j => some (.int (i + j), false)
  | .str a, .str b => if a.length + b.length ≤ sizeLine then some (.str (a ++ b), false) else none
  | .list xs, .list ys => if xs.length + ys.length ≤ sizeLine then some (.list (xs ++ ys), true) else none
  | .tuple xs, .tuple ys => if xs.length + ys.length ≤ sizeLine then some (.tuple (xs ++ ys), false) else none
  | _, _ => none
def rCatS (K : PySem.W.Frag) : R2 := fun x y H Q => ∃ a b xs ys, x = .ref a ∧ y = .ref b ∧ SqT K H a xs ∧ SqT K H b ys ∧ xs.length + ys.length ≤ sizeLine ∧
  (xs = [] → Q (.ref b) H) ∧ (xs ≠ [] → ys = [] → Q (.ref a) H) ∧ (xs ≠ [] → ys ≠ [] → ∀ p o, H p = none → o.dict = none → Q (.ref p) (upd H p (.frz o (.tup (xs ++ ys)))))
theorem op_catS {X : Cx} : OpR X (binaryOp .Add) (rCatS X.K) := by
  intro pins s σ H x y v u Q I rx ry h
  obtain ⟨a, b, xs, ys, rfl, rfl, ha, hb, hz, q0, q1, q2⟩ := h
  cases rx
  cases ry
  obtain ⟨its, r1, p1, _⟩ := I.tuple ha
  obtain ⟨its2, r2, p2, _⟩ := I.tuple hb
  by_cases hx : xs = []
  · subst hx
    cases r1
    exact cat_tup0 p1 p2 ⟨.ref b, H, I, rfl, q0 rfl⟩
  · refine HT.cat_tup p1 p2 (fun z => hx (r1.nil_iff.mp z)) (fun z => ⟨.ref a, H, I, rfl, q1 hx (r2.nil_iff.mp z)⟩) (fun z => ?_) (by rw [← r1.length, ← r2.length]; exact hz)
    exact new_tupS I (r1.append r2) (by rw [List.length_append]; exact hz) (q2 hx fun w => z (r2.nil_iff.mpr w))
theorem or_add : OpR X (binaryOp .Add) (rS X.K addF) := by
  intro pins s σ H x y v u Q I rx ry h
  obtain ⟨F, d, e, zb, l, hd, he, hz, q⟩ := h
  unfold addF at hz
  split at hz
  · cases hz
    exact op_add pins s σ H x y v u Q I rx ry ⟨_, _, hd.int, he.int, q.old l (.int _)⟩
  · split at hz
    · cases hz
      exact op_add_str pins s σ H x y v u Q I rx ry ⟨_, _, hd.str, he.str, by assumption, q.old l (.str _)⟩
    · cases hz
  · split at hz
    · cases hz
      obtain ⟨a, xs, e1, h1, r1⟩ := hd.list l
      obtain ⟨b, ys, e2, h2, r2⟩ := he.list l
      exact op_cat pins s σ H x y v u Q I rx ry ⟨a, b, xs, ys, e1, e2, h1, h2, by rw [r1.length, r2.length]; assumption, Post.lst l (r1.append r2) q⟩
    · cases hz
  · split at hz
    · cases hz
      obtain ⟨a, xs, e1, h1, r1, p1⟩ := hd.tuple l
      obtain ⟨b, ys, e2, h2, r2, p2⟩ := he.tuple l
      subst e1 e2
      refine op_catS pins s σ H _ _ v u Q I rx ry ⟨a, b, xs, ys, rfl, rfl, h1, h2, by rw [r1.length, r2.length]; assumption, fun z => ?_, fun _ z => ?_, fun _ _ => Post.tup l (r1.append r2) q⟩
      · subst z; cases r1; exact q.old l p2
      · subst z; cases r2; rw [List.append_nil] at q; exact q.old l p1
    · cases hz
  · cases hz
def subF : Op2
  | .int i, .int j => some (.int (i - j), false)
  | _, _ => none
theorem or_sub : OpR X (binaryOp .Sub) (rS X.K subF) := by
  intro pins s σ H x y v u Q I rx ry h
  obtain ⟨F, d, e, zb, l, hd, he, hz, q⟩ := h
  unfold subF at hz
  split at hz
  · cases hz
    exact op_sub pins s σ H x y v u Q I rx ry ⟨_, _, hd.int, he.int, q.old l (.int _)⟩
  · cases hz
def mulOk (i j : Int) : Bool := decide (i.natAbs.log2 + j.natAbs.log2 < 1000000)
def repS (x : Str) (k : Int) : Str := if (k == 1 || x.length == 0) = true then x else ⟨(List.replicate k.toNat x.cps).foldl (· ++ ·) #[]⟩
def mulF : Op2
  | .int i, .int j => if mulOk i j = true then some (.int (i * j), false) else none
  | .list xs, .int k => if -(2 ^ 63) ≤ k ∧ k < 2 ^ 63 ∧ xs.length * k.toNat ≤ sizeLine then some (.list (List.replicate k.toNat xs).flatten, true) else none
  | .tuple xs, .int k => if xs ≠ [] ∧ 2 ≤ k ∧ k ≤ 1000 ∧ xs.length ≤ 1000 ∧ needS (List.replicate k.toNat xs).flatten = false then some (.tuple (List.replicate k.toNat xs).flatten, false) else none
  | .str x, .int k => if 1 ≤ k ∧ k ≤ 1000 ∧ x.length ≤ 1000 ∧ (repS x k).length ≤ sizeLine then some (.str (repS x k), false) else none
  | _, _ => none
theorem op_rep_str : OpR X (binaryOp .Mult) (fun x y H Q => ∃ i k, x = V.str i ∧ y = V.int k ∧ 1 ≤ k ∧ k ≤ 1000 ∧ i.length ≤ 1000 ∧ (repS i k).length ≤ sizeLine ∧ Q (.str (repS i k)) H) := by
  intro pins s σ H x y v u Q I rx ry h
  obtain ⟨i, k, rfl, rfl, h1, h2, h3, h4, q⟩ := h
  obtain ⟨t, rfl⟩ := rx
  obtain ⟨t', rfl⟩ := ry
  have hk : ¬ k < 1 := by omega
  have hm : i.length * k.toNat ≤ 1000 * 1000 := Nat.mul_le_mul h3 (by omega)
  refine PySem.P.mul_str (by rw [decide_eq_false (by omega), decide_eq_false (by omega)]; rfl) (fun _ _ hg => ?_) (fun _ _ => ?_) ?_
  · have e1 : (1000 : Int) ≤ (2 ^ 63 - 1) / k := Int.le_ediv_of_mul_le (by omega) (by omega)
    omega
  · refine decide_eq_false ?_
    have : 1000 * 1000 ≤ sizeLine := by decide
    omega
  · rw [if_neg hk]
    unfold repS at q h4
    split
    · next hc =>
      rw [if_pos hc] at q
      exact ⟨.str i, H, I, ⟨_, rfl⟩, q⟩
    · next hc =>
      rw [if_neg hc] at q h4
      exact ⟨h4, ⟨.str _, H, I.tok _, ⟨_, rfl⟩, q⟩⟩
theorem RpA.rep {vs : List V} {ds : List D} (r : RpA K F vs ds) : ∀ n, RpA K F (List.replicate n vs).flatten (List.replicate n ds).flatten
  | 0 => .nil
  | n + 1 => by rw [List.replicate_succ, List.replicate_succ, List.flatten_cons, List.flatten_cons]; exact r.append (RpA.rep r n)
theorem or_mul : OpR X (binaryOp .Mult) (rS X.K mulF) := by
  intro pins s σ H x y v u Q I rx ry h
  obtain ⟨F, d, e, zb, l, hd, he, hz, q⟩ := h
  unfold mulF at hz
  split at hz
  · split at hz
    · rename_i hm
      cases hz
      exact op_mulW pins s σ H x y v u Q I rx ry ⟨_, _, hd.int, he.int, (by unfold mulOk at hm; have hm := of_decide_eq_true hm; exact hm), q.old l (.int _)⟩
    · cases hz
  · split at hz
    · rename_i hm
      cases hz
      obtain ⟨a, xs, e1, h1, r1⟩ := hd.list l
      exact op_rep pins s σ H x y v u Q I rx ry ⟨a, _, xs, e1, he.int, h1, hm.1, hm.2.1, by rw [r1.length]; exact hm.2.2, Post.lst l (r1.rep _) q⟩
    · cases hz
  · split at hz
    · rename_i hm
      cases hz
      obtain ⟨a, xs, e1, h1, r1⟩ := hd.tuple l
      exact op_repT pins s σ H x y v u Q I rx ry ⟨a, _, xs, e1, he.int, h1, fun e => hm.1 (by subst e; cases r1.1; rfl), hm.2.1, hm.2.2.1, by rw [r1.1.length]; exact hm.2.2.2.1, Post.tupW hm.2.2.2.2 l (r1.1.rep _) q⟩
    · cases hz
  · split at hz
    · rename_i hm
      cases hz
      exact op_rep_str pins s σ H x y v u Q I rx ry ⟨_, _, hd.str, he.int, hm.1, hm.2.1, hm.2.2.1, hm.2.2.2, q.old l (.str _)⟩
    · cases hz
  · cases hz
def divF : Op2
  | .int i, .int j => if 0 < j ∧ j.natAbs.log2 < 9000 then some (.int (i / j), false) else none
  | _, _ => none
theorem or_div : OpR X (binaryOp .FloorDiv) (rS X.K divF) := by
  intro pins s σ H x y v u Q I rx ry h
  obtain ⟨F, d, e, zb, l, hd, he, hz, q⟩ := h
  unfold divF at hz
  split at hz
  · split at hz
    · rename_i hm
      cases hz
      exact op_fdivW pins s σ H x y v u Q I rx ry ⟨_, _, hd.int, he.int, hm, q.old l (.int _)⟩
    · cases hz
  · cases hz
def modF : Op2
  | .int i, .int j => if 0 < j then some (.int (i % j), false) else none
  | _, _ => none
theorem or_mod : OpR X (binaryOp .Mod) (rS X.K modF) := by
  intro pins s σ H x y v u Q I rx ry h
  obtain ⟨F, d, e, zb, l, hd, he, hz, q⟩ := h
  unfold modF at hz
  split at hz
  · split at hz
    · rename_i hm
      cases hz
      exact op_mod pins s σ H x y v u Q I rx ry ⟨_, _, hd.int, he.int, hm, q.old l (.int _)⟩
    · cases hz
  · cases hz
def powF : Op2
  | .int i, .int j => if 0 ≤ j ∧ j ≤ 1000000 ∧ i.natAbs < 2 ^ 64 then some (.int (i ^ j.toNat), false) else none
  | _, _ => none
theorem or_pow : OpR X (binaryOp .Pow) (rS X.K powF) := by
  intro pins s σ H x y v u Q I rx ry h
  obtain ⟨F, d, e, zb, l, hd, he, hz, q⟩ := h
  unfold powF at hz
  split at hz
  · split at hz
    · rename_i hm
      cases hz
      exact op_pow pins s σ H x y v u Q I rx ry ⟨_, _, hd.int, he.int, hm, q.old l (.int _)⟩
    · cases hz
  · cases hz

def keyOf : D → Option Key
  | .int i => some (.inl i)
  | .str x => some (.inr x)
  | _ => none
theorem keyOf_kV {k : Key} (h : Lk K F H v d) (e : keyOf d = some k) : v = kV k := by
  unfold keyOf at e
  split at e
  · cases e; exact h.int
  · cases e; exact h.str
  · cases e
def eqS (x y : Str) : Bool := x.cps.toList == y.cps.toList
theorem eqS_iff {x y : Str} : eqS x y = true ↔ x = y := by
  unfold eqS
  rw [beq_iff_eq]
  exact ⟨fun h => PySem.W.str_of_cps h, fun h => by rw [h]⟩
theorem eqS_dec (x y : Str) : eqS x y = decide (x = y) := by
  by_cases h : x = y
  · rw [decide_eq_true h]; exact eqS_iff.mpr h
  · rw [decide_eq_false h]; exact Bool.eq_false_iff.mpr fun z => h (eqS_iff.mp z)
def dkey (d : D) (k : Key) : Bool := match keyOf d, k with
  | some (.inl i), .inl j => i == j
  | some (.inr x), .inr y => eqS x y
  | _, _ => false
theorem keyOf_keyD (k : Key) : keyOf (keyD k) = some k := by cases k <;> rfl
theorem dkey_keyD (k0 k : Key) : dkey (keyD k0) k = decide (k0 = k) := by
  unfold dkey
  rw [keyOf_keyD]
  cases k0 with
  | inl i =>
    cases k with
    | inl j => show (i == j) = _; by_cases h : i = j <;> simp [h]
    | inr y => rfl
  | inr x =>
    cases k with
    | inl j => rfl
    | inr y => show eqS x y = _; rw [eqS_dec]; by_cases h : x = y <;> simp [h]
def dget (es : List (D × D)) (k : Key) : Option D := (es.find? fun p => dkey p.1 k).map (·.2)
theorem RpD.get {kvs : List (Key × V)} {es : List (D × D)} (r : RpD K F kvs es) (k : Key) : (valV kvs k = none ∧ dget es k = none) ∨ ∃ v d, valV kvs k = some v ∧ dget es k = some d ∧ Rp K F v d := by
  induction kvs generalizing es with
  | nil => cases r; exact .inl ⟨rfl, rfl⟩
  | cons p kvs ih =>
    cases r with
    | @cons k0 v0 _ d0 es r t =>
      by_cases h : k0 = k
      · subst h
        refine .inr ⟨v0, d0, valV_pos rfl, ?_, r⟩
        unfold dget
        rw [List.find?_cons_of_pos (by rw [dkey_keyD]; exact decide_eq_true rfl)]
        rfl
      · rw [valV_neg h]
        have : dget ((keyD k0, d0) :: es) k = dget es k := by
          unfold dget
          rw [List.find?_cons_of_neg (by rw [dkey_keyD]; simpa using h)]
        rw [this]
        exact ih t
theorem plain_canLay : ∀ d : D, d.canLay0 = true → plain d = true
  | .none, _ => rfl
  | .bool _, _ => rfl
  | .int _, _ => rfl
  | .str _, _ => rfl
  | .list xs, h => by simp only [plain]; exact go xs (by simpa [PyData.canLay0] using h)
  | .tuple xs, h => by simp only [plain]; exact go xs (by simpa [PyData.canLay0] using h)
  | .dict _, h => by simp [PyData.canLay0] at h
where go : ∀ ds : List D, PyData.canLayAll0 ds = true → plainA ds = true
  | [], _ => rfl
  | d :: ds, h => by
    simp only [PyData.canLayAll0, Bool.and_eq_true] at h
    simp only [plainA, Bool.and_eq_true]
    exact ⟨plain_canLay d h.1, go ds h.2⟩
theorem op_eq2 : OpR X (compareOp .Eq) (fun x y H Q => ∃ i j, x = V.str i ∧ y = V.str j ∧ Q (.bl (i == j)) H) := by
  intro pins s σ H x y v u Q I rx ry h
  obtain ⟨i, j, rfl, rfl, q⟩ := h
  exact op_eq pins s σ H _ _ v u Q I rx ry ⟨rfl, by rw [dec_str]; exact q⟩
theorem op_ne2 : OpR X (compareOp .NotEq) (fun x y H Q => ∃ i j, x = V.str i ∧ y = V.str j ∧ Q (.bl (!(i == j))) H) := by
  intro pins s σ H x y v u Q I rx ry h
  obtain ⟨i, j, rfl, rfl, q⟩ := h
  exact op_ne pins s σ H _ _ v u Q I rx ry ⟨rfl, by rw [dec_str]; exact q⟩
theorem eqS_beq0 (x y : Str) : (x == y) = (x.cps.toList == y.cps.toList) := (PyProof.Rows.toList_beq x y).symm
def dhit (fs : List (D × D)) (p : D × D) : Bool := match keyOf p.1 with
  | some k => (match dget fs k with
    | some d => PyData.eqv p.2 d
    | none => false)
  | none => false
def dEq (es fs : List (D × D)) : Option Bool := if (es.all (fun p => SeqAt.shaped p.2) && fs.all (fun p => SeqAt.shaped p.2)) = true then some (es.length == fs.length && es.all (dhit fs)) else none
theorem eqAt_shaped {A : Around} {s : Shared} {a b : Value} {da db : D} {as bs : List Addr} (ra : Reads s.heap a da as) (rb : Reads s.heap b db bs) (ha : SeqAt.shaped da = true) (hb : SeqAt.shaped db = true) (hu : A.units + 64 < cLine) : SeqAt.EqAt A s a b (PyData.eqv da db) :=
  SeqAt.eqAt_reads da db A s a b as bs ra rb (SeqAt.canLay_of_shaped ha) (SeqAt.canLay_of_shaped hb) (SeqAt.room_of_shaped ha hu)
theorem dget_mem {fs : List (D × D)} {k : Key} {d : D} (h : dget fs k = some d) : ∃ p ∈ fs, p.2 = d := by
  unfold dget at h
  rw [Option.map_eq_some_iff] at h
  obtain ⟨p, h1, h2⟩ := h
  exact ⟨p, List.mem_of_find?_eq_some h1, h2⟩
theorem hits_data {A : Around} {pins : List (Addr × Obj)} {σ : St} {s : Shared} {H : Hp} (I : Inv X pins σ H s) (hu : A.units + 64 < cLine) {ls : List (Key × V)} {vb : List (Key × Value)} {fs : List (D × D)} (rb : KV ls vb) (rl : RpD X.K H ls fs) (hf : ∀ p ∈ fs, SeqAt.shaped p.2 = true) {ks : List (Key × V)} {va : List (Key × Value)} (ra : KV ks va) :
    ∀ {es : List (D × D)}, RpD X.K H ks es → (∀ p ∈ es, SeqAt.shaped p.2 = true) → PySem.W.KeqHitsP X.prog X.w A s vb va (es.all (dhit fs)) := by
  unfold KV at ra
  induction ra with
  | nil => intro es r _; cases r; exact .nil
  | @cons p q ps qs h t ih =>
    intro es r he
    cases r with
    | @cons k v _ d es rv r =>
      obtain ⟨h1, h2⟩ := h
      obtain ⟨k2, v2⟩ := q
      have h1 : k = k2 := h1
      have h2 : RelV v v2 := h2
      subst h1
      rw [List.all_cons]
      have hd : dhit fs (keyD k, d) = (match dget fs k with
        | some e => PyData.eqv d e
        | none => false) := by unfold dhit; rw [keyOf_keyD]
      have rr := rb.val k
      rcases rl.get k with ⟨e1, e2⟩ | ⟨u, e, e1, e2, re⟩
      · rw [hd, e2, Bool.false_and]
        rw [e1] at rr
        cases e : valueAt vb k with
        | none => exact .miss e
        | some y => rw [e] at rr; exact rr.elim
      · rw [hd, e2]
        rw [e1] at rr
        obtain ⟨y, hy, ry⟩ := rr.some_of
        obtain ⟨pe, hpe, rfl⟩ := dget_mem e2
        have sd := he _ List.mem_cons_self
        have se := hf _ hpe
        obtain ⟨as, q1⟩ := Dp.reads I d v v2 (rv.dp (plain_canLay _ (SeqAt.canLay_of_shaped sd))) h2
        obtain ⟨bs, q2⟩ := Dp.reads I pe.2 u y (re.dp (plain_canLay _ (SeqAt.canLay_of_shaped se))) ry
        exact .hit hy (eqAt_shaped q1 q2 sd se hu).eqP (ih r fun p hm => he p (List.mem_cons_of_mem _ hm))
def eqF : Op2 := fun d e => match d, e with
  | .str a, .str b => some (.bool (a.cps.toList == b.cps.toList), false)
  | .dict es, .dict fs => (dEq es fs).map fun b => (.bool b, false)
  | d, e => if (SeqAt.shaped d && SeqAt.shaped e) = true then some (.bool (PyData.eqv d e), false) else none
def neF : Op2 := fun d e => match d, e with
  | .str a, .str b => some (.bool (!(a.cps.toList == b.cps.toList)), false)
  | d, e => if (SeqAt.shaped d && SeqAt.shaped e) = true then some (.bool (!PyData.eqv d e), false) else none
theorem or_eq (hu : X.A.units + 65 < cLine) : OpR X (compareOp .Eq) (rS X.K eqF) := by
  intro pins s σ H x y v u Q I rx ry h
  obtain ⟨F, d, e, zb, l, hd, he, hz, q⟩ := h
  unfold eqF at hz
  split at hz
  · cases hz
    exact op_eq2 pins s σ H x y v u Q I rx ry ⟨_, _, hd.str, he.str, by rw [eqS_beq0]; exact q.old l (.bl _)⟩
  · simp only [Option.map_eq_some_iff] at hz
    obtain ⟨b, hb, rfl⟩ := hz
    unfold dEq at hb
    split at hb
    · rename_i hs
      cases hb
      rw [Bool.and_eq_true] at hs
      obtain ⟨a, ks, rfl, ha, rk⟩ := hd.dict l
      obtain ⟨b, ls, rfl, hb, rl⟩ := he.dict l
      cases (show v = Value.ref a from rx)
      cases (show u = Value.ref b from ry)
      obtain ⟨_, ya, va, ra, da⟩ := dk_rd I.hok ha
      obtain ⟨_, yb, vb, rb, db⟩ := dk_rd I.hok hb
      refine PySem.W.rcP_dicts (knd := mixKind X.prog X.w) (r := _) ya yb da db (by omega) (fun _ => hits_data I (A := X.A.in1) (by show X.A.units + 1 + 64 < cLine; omega) rb (rl.mono l) (fun p hp => List.all_eq_true.mp hs.2 p hp) ra (rk.mono l) (fun p hp => List.all_eq_true.mp hs.1 p hp)) _ _ ?_
      have ev : va.length = _ := (ra.length.symm.trans rk.length)
      have ew : vb.length = _ := (rb.length.symm.trans rl.length)
      rw [ev, ew]
      exact ⟨.bl _, H, I, rfl, q.old l (.bl _)⟩
    · cases hb
  · split at hz
    · rename_i hs
      cases hz
      rw [Bool.and_eq_true] at hs
      exact op_eqD (by omega) pins s σ H x y v u Q I rx ry ⟨_, _, (hd.rp l).dp (plain_canLay _ (SeqAt.canLay_of_shaped hs.1)), (he.rp l).dp (plain_canLay _ (SeqAt.canLay_of_shaped hs.2)), hs.1, hs.2, q.old l (.bl _)⟩
    · cases hz
theorem or_ne (hu : X.A.units + 64 < cLine) : OpR X (compareOp .NotEq) (rS X.K neF) := by
  intro pins s σ H x y v u Q I rx ry h
  obtain ⟨F, d, e, zb, l, hd, he, hz, q⟩ := h
  unfold neF at hz
  split at hz
  · cases hz
    exact op_ne2 pins s σ H x y v u Q I rx ry ⟨_, _, hd.str, he.str, by rw [eqS_beq0]; exact q.old l (.bl _)⟩
  · split at hz
    · rename_i hs
      cases hz
      rw [Bool.and_eq_true] at hs
      exact op_neD hu pins s σ H x y v u Q I rx ry ⟨_, _, (hd.rp l).dp (plain_canLay _ (SeqAt.canLay_of_shaped hs.1)), (he.rp l).dp (plain_canLay _ (SeqAt.canLay_of_shaped hs.2)), hs.1, hs.2, q.old l (.bl _)⟩
    · cases hz
def ltF : Op2
  | .int i, .int j => some (.bool (decide (i < j)), false)
  | .str a, .str b => some (.bool (decide (a.cps.toList < b.cps.toList)), false)
  | _, _ => none
theorem or_lt : OpR X (compareOp .Lt) (rS X.K ltF) := by
  intro pins s σ H x y v u Q I rx ry h
  obtain ⟨F, d, e, zb, l, hd, he, hz, q⟩ := h
  unfold ltF at hz
  split at hz
  · cases hz
    exact op_lt pins s σ H x y v u Q I rx ry ⟨_, _, hd.int, he.int, q.old l (.bl _)⟩
  · cases hz
    exact op_lt_str pins s σ H x y v u Q I rx ry ⟨_, _, hd.str, he.str, q.old l (.bl _)⟩
  · cases hz
def leF : Op2
  | .int i, .int j => some (.bool (decide (i ≤ j)), false)
  | _, _ => none
def gtF : Op2
  | .int i, .int j => some (.bool (decide (j < i)), false)
  | _, _ => none
def geF : Op2
  | .int i, .int j => some (.bool (decide (j ≤ i)), false)
  | _, _ => none
theorem or_ge : OpR X (compareOp .GtE) (rS X.K geF) := by
  intro pins s σ H x y v u Q I rx ry h
  obtain ⟨F, d, e, zb, l, hd, he, hz, q⟩ := h
  unfold geF at hz
  split at hz
  · cases hz
    exact op_ge pins s σ H x y v u Q I rx ry ⟨_, _, hd.int, he.int, q.old l (.bl _)⟩
  · cases hz

def isNone : D → Bool
  | .none => true
  | _ => false
def isNotF : Op2
  | d, .none => some (.bool (!isNone d), false)
  | _, _ => none
theorem Lk.isNone (l : Le F H) (h : Lk K F H v d) : decide (v = .non) = Pv.isNone d := by
  have h := h.rp l
  cases h <;> first | rfl | exact decide_eq_false (fun z => nomatch z)
theorem or_isNot : OpR X (compareOp .IsNot) (rS X.K isNotF) := by
  intro pins s σ H x y v u Q I rx ry h
  obtain ⟨F, d, e, zb, l, hd, he, hz, q⟩ := h
  unfold isNotF at hz
  split at hz
  · cases hz
    refine op_notN pins s σ H x y v u Q I rx ry ⟨he.none, ?_⟩
    rw [hd.isNone l]
    exact q.old l (.bl _)
  · cases hz
def chars (s : Str) : List Nat := s.cps.toList
def inB : D → D → Option Bool
  | .str x, .str y => (match chars x with
    | [c] => some (decide (c ∈ chars y))
    | _ => none)
  | d, .list ds => if (SeqAt.shaped d && SeqAt.shaped (.list ds)) = true then some (ds.any fun z => PyData.eqv z d) else none
  | d, .tuple ds => if (SeqAt.shaped d && SeqAt.shaped (.tuple ds)) = true then some (ds.any fun z => PyData.eqv z d) else none
  | d, .dict es => (keyOf d).map fun k => (dget es k).isSome
  | _, _ => none
def inF : Op2 := fun d e => (inB d e).map fun b => (.bool b, false)
def notInF : Op2 := fun d e => (inB d e).map fun b => (.bool (!b), false)
theorem str_one {x : Str} {c : Nat} (h : chars x = [c]) : x = ⟨#[c]⟩ := by
  obtain ⟨a⟩ := x
  have : a.toList = [c] := h
  congr 1
  exact Array.ext' this
theorem or_in (hu : X.A.units + 65 < cLine) : OpR X (compareOp .In) (rS X.K inF) := by
  intro pins s σ H x y v u Q I rx ry h
  obtain ⟨F, d, e, zb, l, hd, he, hz, q⟩ := h
  simp only [inF, Option.map_eq_some_iff] at hz
  obtain ⟨b, hb, rfl⟩ := hz
  unfold inB at hb
  split at hb
  · rename_i x' y'
    split at hb
    · rename_i c hc
      cases hb
      have e1 := hd.str
      rw [str_one hc] at e1
      exact op_in_sign pins s σ H x y v u Q I rx ry ⟨c, _, e1, he.str, q.old l (.bl _)⟩
    · cases hb
  · rename_i ds
    split at hb
    · rename_i hs
      cases hb
      rw [Bool.and_eq_true] at hs
      exact op_inD hu pins s σ H x y v u Q I rx ry ⟨d, ds, (hd.rp l).dp (plain_canLay d (SeqAt.canLay_of_shaped hs.1)), (he.rp l).dp (plain_canLay _ (SeqAt.canLay_of_shaped hs.2)), hs.1, hs.2, q.old l (.bl _)⟩
    · cases hb
  · rename_i ds
    split at hb
    · rename_i hs
      cases hb
      rw [Bool.and_eq_true] at hs
      obtain ⟨as, r1⟩ := Dp.reads I d x v ((hd.rp l).dp (plain_canLay d (SeqAt.canLay_of_shaped hs.1))) rx
      obtain ⟨bs, r2⟩ := Dp.reads I (.tuple ds) y u ((he.rp l).dp (plain_canLay _ (SeqAt.canLay_of_shaped hs.2))) ry
      refine SeqAt.in_tuple_reads r2 r1 (by simpa [PyData.canLay0] using SeqAt.canLay_of_shaped hs.2) (SeqAt.canLay_of_shaped hs.1) (PyProof.Rows.room_in_shaped hs.1 hu) ?_
      exact ⟨.bl _, H, I, rfl, q.old l (.bl _)⟩
    · cases hb
  · rename_i es
    simp only [Option.map_eq_some_iff] at hb
    obtain ⟨k, hk, rfl⟩ := hb
    obtain ⟨a, kvs, rfl, rd, r⟩ := he.dict l
    cases ry
    have ek := keyOf_kV hd hk
    have g : DGet H a x (valV kvs k) := .inl ⟨kvs, k, rd, ek, rfl⟩
    have es' : (dget es k).isSome = (valV kvs k).isSome := by
      rcases r.get k with ⟨h1, h2⟩ | ⟨v', d', h1, h2, _⟩ <;> rw [h1, h2] <;> rfl
    rw [es'] at q
    exact d_in (by omega) I g rx fun s3 I3 => ⟨.bl _, H, I3, rfl, q.old l (.bl _)⟩
  · cases hb
def ixF : Op2
  | .list ds, .int i => (atI ds i).map fun d => (d, false)
  | .tuple ds, .int i => (atI ds i).map fun d => (d, false)
  | .str x, .int i => if x.length ≤ sizeLine then (atI (chars x) i).map fun c => (.str ⟨#[c]⟩, false) else none
  | _, _ => none
theorem RpA.at {vs : List V} {ds : List D} {i : Int} {d : D} (r : RpA K F vs ds) (e : atI ds i = some d) : ∃ v, atI vs i = some v ∧ Rp K F v d := by
  unfold atI at e ⊢
  rw [r.length]
  simp only [Option.bind_eq_some_iff] at e
  obtain ⟨j, e1, e2⟩ := e
  obtain ⟨v, hv, rp⟩ := r.get j d e2
  exact ⟨v, by rw [e1]; exact hv, rp⟩
theorem ir_ix : IxR X (rS X.K ixF) := by
  intro value slice pins s σ H x y v u Q I rx ry h hs
  obtain ⟨F, d, e, zb, l, hd, he, hz, q⟩ := h
  unfold ixF at hz
  split at hz
  · simp only [Option.map_eq_some_iff] at hz
    obtain ⟨z, e1, rfl⟩ := hz
    obtain ⟨a, xs, ex, h1, r1⟩ := hd.list l
    obtain ⟨w, hw, rp⟩ := r1.at e1
    exact ix_list value slice pins s σ H x y v u Q I rx ry ⟨a, xs, _, w, ex, he.int, .inl (.inl h1), hw, q.old l rp⟩ hs
  · simp only [Option.map_eq_some_iff] at hz
    obtain ⟨z, e1, rfl⟩ := hz
    obtain ⟨a, xs, ex, h1, r1, _⟩ := hd.tuple l
    obtain ⟨w, hw, rp⟩ := r1.at e1
    exact ix_tup value slice pins s σ H x y v u Q I rx ry ⟨a, xs, _, w, ex, he.int, h1, hw, q.old l rp⟩ hs
  · split at hz
    · simp only [Option.map_eq_some_iff] at hz
      obtain ⟨c, e1, rfl⟩ := hz
      exact ix_str value slice pins s σ H x y v u Q I rx ry ⟨_, _, c, hd.str, he.int, by assumption, e1, q.old l (.str _)⟩ hs
    · cases hz
  · cases hz
def cutD (ds : List D) (lo hi : Option Int) : List D := (ds.drop (HT.sIx ds.length 0 lo)).take (HT.sIx ds.length ds.length hi - HT.sIx ds.length 0 lo)
def slF : D → Option Int → Option Int → Option (D × Bool)
  | .list ds, lo, hi => some (.list (cutD ds lo hi), true)
  | .tuple ds, lo, hi => some (.tuple (cutD ds lo hi), false)
  | .str x, lo, hi => if x.length ≤ sizeLine then some (.str (cutS x lo hi), false) else none
  | _, _, _ => none
def kget : Op2
  | .dict es, d => (keyOf d).bind fun k => (dget es k).map fun z => (z, false)
  | _, _ => none
theorem de_dget {a b : Expr} {f g : SemE} {pos : Pos} (hu : X.A.units + 64 < cLine) (ha : DE X a f) (hb : DE X b g) (hs : NoSl b := by intro _ _; rfl) : DE X (.Subscript a b pos) (sOp kget f g) := by
  refine ⟨(pe_dget (by omega) ha.pe hb.pe hs).pvi fun σ H Q q => ?_⟩
  obtain ⟨P, W, F, ρ, r1, ρ1, R, e1, k⟩ := sOp_ok q
  refine ⟨P, W, F, ρ, r1, ρ1, R, e1, fun v H1 F1 x1 R1 o1 => ?_⟩
  obtain ⟨P', W', F', ρ', r2, ρ2, R', e2, k2⟩ := k v H1 F1 x1 R1 o1
  refine ⟨P', W', F', ρ', r2, ρ2, R', e2, fun u H3 F3 x3 R3 o3 => ?_⟩
  obtain ⟨F4, d, e, zb, l, hd, he, hz, q⟩ := k2 u H3 F3 x3 R3 o3
  unfold kget at hz
  split at hz
  · simp only [Option.bind_eq_some_iff, Option.map_eq_some_iff] at hz
    obtain ⟨key, hk, z, hg, rfl⟩ := hz
    obtain ⟨a, kvs, rfl, rd, r⟩ := hd.dict l
    rcases r.get key with ⟨_, h2⟩ | ⟨v', d', h1, h2, rp⟩
    · rw [h2] at hg; cases hg
    · rw [h2] at hg; cases hg
      exact ⟨a, v', rfl, .inl ⟨kvs, key, rd, keyOf_kV he hk, h1.symm⟩, q.old l rp⟩
  · cases hz
end
end Pv
end
section
set_option Elab.async false
set_option linter.all false
set_option autoImplicit false
set_option maxRecDepth 100000
set_option maxHeartbeats 2000000
namespace Pv
open PySem PySem.Calls PySem.W PySem.SeqAt PyProof.Rows
section
variable {A : Around} {s : Shared}
end
section
variable {prog : Program} {w : World} {A : Around} {E : Value → Shared → Prop} {s : Shared}
end
end Pv
end
section
set_option Elab.async false
set_option linter.all false
set_option maxRecDepth 100000
set_option maxHeartbeats 2000000
namespace Pv
open PySem PySem.Spec PyProof.Rows L2 PySem.W

def txt (e : Int × Value) : Str := match e.2 with
  | .str x _ => x
  | _ => Str.empty
def IsT (w : World) (e : Int × Value) : Prop := ∃ x t, e.2 = Value.str x t ∧ e.1 = hashStr w x
structure SetS (w : World) (h : Heap) (a : Addr) (xs : List Str) (es : Array (Int × Value)) (ep : Nat) (tb : SetTable) : Prop where
  at_ : ∃ o, h.get? a = some o ∧ o.ExactSet ∧ o.data = .set es ep tb
  good : ∀ e ∈ es.toList, IsT w e
  once : (es.toList.map txt).Nodup
  mem : ∀ x, x ∈ xs ↔ x ∈ es.toList.map txt
  few : es.size < scanBound
  fits : tb.fits es.size = true
  ris : Ris tb.place.toList
  led : w.params.followText "set-order" = true ∨ tb.led = true
theorem SetS.keep {w : World} {h h' : Heap} {a : Addr} {xs : List Str} {es : Array (Int × Value)} {ep : Nat} {tb : SetTable} (R : SetS w h a xs es ep tb) (k : ∀ o, h.get? a = some o → h'.get? a = some o) : SetS w h' a xs es ep tb :=
  ⟨let ⟨o, h1, h2⟩ := R.at_; ⟨o, k o h1, h2⟩, R.good, R.once, R.mem, R.few, R.fits, R.ris, R.led⟩
theorem SetS.congr {w : World} {h : Heap} {a : Addr} {xs ys : List Str} {es : Array (Int × Value)} {ep : Nat} {tb : SetTable} (R : SetS w h a xs es ep tb) (k : ∀ x, x ∈ ys ↔ x ∈ xs) : SetS w h a ys es ep tb :=
  ⟨R.at_, R.good, R.once, fun x => (k x).trans (R.mem x), R.few, R.fits, R.ris, R.led⟩
section
variable {P : Program} {w : World} {A : Around} {E : Value → Shared → Prop} {s : Shared} {a : Addr}

end
end Pv
end
section
set_option Elab.async false
set_option linter.all false
set_option maxRecDepth 100000
set_option maxHeartbeats 2000000
namespace Pv
open PySem PySem.Spec PyProof.Rows L2 PySem.W
section
variable {P : Program} {w : World} {A : Around} {E : Value → Shared → Prop} {s : Shared}

set_option maxHeartbeats 4000000 in
set_option maxHeartbeats 4000000 in
end
end Pv
end
section
set_option Elab.async false
set_option linter.all false
set_option maxRecDepth 100000
set_option maxHeartbeats 2000000
namespace Pv
open PySem PySem.Spec PyProof.Rows L2 PySem.W

section
variable {α : Type} (le : α → α → Bool)
def ins (x : α) : List α → List α
  | [] => [x]
  | y :: t => if le x y = true then x :: y :: t else y :: ins x t
def isort : List α → List α
  | [] => []
  | x :: r => ins le x (isort r)
variable (trans : ∀ x y z, le x y = true → le y z = true → le x z = true) (total : ∀ x y, (le x y || le y x) = true)
include trans total
end
section
variable {P : Program} {w : World} {A : Around} {E : Value → Shared → Prop} {s : Shared}
end

section
variable {X : Cx} {K : Fr'} {F H : Hp}
end
end Pv
end
section
set_option Elab.async false
set_option linter.all false
set_option maxRecDepth 100000
set_option maxHeartbeats 1000000
namespace Pv
open PySem PySem.Spec PyProof.Rows L2 PySem.W

theorem RpA.intsOf {K : Fr'} {F : Hp} : ∀ {xs : List V} {ds : List D} {ns : List Int}, RpA K F xs ds → ds = ns.map PyData.int → xs = ns.map V.int
  | _, _, [], .nil, _ => rfl
  | _, _, _ :: _, .nil, e => by cases e
  | _, _, [], .cons _ _, e => by cases e
  | _, _, _ :: _, .cons r t, e => by
    rw [List.map_cons] at e
    obtain ⟨e1, e2⟩ := List.cons.inj e
    subst e1
    cases r
    rw [List.map_cons, RpA.intsOf t e2]
theorem RpA.blsOf {K : Fr'} {F : Hp} : ∀ {xs : List V} {ds : List D} {ns : List Bool}, RpA K F xs ds → ds = ns.map PyData.bool → xs = ns.map V.bl
  | _, _, [], .nil, _ => rfl
  | _, _, _ :: _, .nil, e => by cases e
  | _, _, [], .cons _ _, e => by cases e
  | _, _, _ :: _, .cons r t, e => by
    rw [List.map_cons] at e
    obtain ⟨e1, e2⟩ := List.cons.inj e
    subst e1
    cases r
    rw [List.map_cons, RpA.blsOf t e2]
def asInts : List D → Option (List Int)
  | [] => some []
  | .int i :: r => (asInts r).map (i :: ·)
  | _ :: _ => none
theorem asInts_eq : ∀ {ds : List D} {ns : List Int}, asInts ds = some ns → ds = ns.map PyData.int
  | [], _, h => by cases h; rfl
  | d :: r, ns, h => by
    cases d with
    | int i =>
      simp only [asInts, Option.map_eq_some_iff] at h
      obtain ⟨a, e, rfl⟩ := h
      rw [List.map_cons, ← asInts_eq e]
    | _ => cases h
def asBls : List D → Option (List Bool)
  | [] => some []
  | .bool i :: r => (asBls r).map (i :: ·)
  | _ :: _ => none
theorem asBls_eq : ∀ {ds : List D} {ns : List Bool}, asBls ds = some ns → ds = ns.map PyData.bool
  | [], _, h => by cases h; rfl
  | d :: r, ns, h => by
    cases d with
    | bool i =>
      simp only [asBls, Option.map_eq_some_iff] at h
      obtain ⟨a, e, rfl⟩ := h
      rw [List.map_cons, ← asBls_eq e]
    | _ => cases h
theorem RpA.strsOf {K : Fr'} {F : Hp} : ∀ {xs : List V} {ds : List D} {ns : List Str}, RpA K F xs ds → ds = ns.map PyData.str → xs = ns.map V.str
  | _, _, [], .nil, _ => rfl
  | _, _, _ :: _, .nil, e => by cases e
  | _, _, [], .cons _ _, e => by cases e
  | _, _, _ :: _, .cons r t, e => by
    rw [List.map_cons] at e
    obtain ⟨e1, e2⟩ := List.cons.inj e
    subst e1
    cases r
    rw [List.map_cons, RpA.strsOf t e2]
def asStrs : List D → Option (List Str)
  | [] => some []
  | .str i :: r => (asStrs r).map (i :: ·)
  | _ :: _ => none
theorem RpD.keys {K : Fr'} {F : Hp} : ∀ {xs : List (Key × V)} {es : List (D × D)}, RpD K F xs es → RpA K F (xs.map fun kv => kV kv.1) (es.map (·.1))
  | _, _, .nil => .nil
  | _, _, .cons (k := k) r t => by
    cases k with
    | inl i => exact .cons (.int i) (RpD.keys t)
    | inr x => exact .cons (.str x) (RpD.keys t)

section
variable {X : Cx} {F H : Hp}
def lenF : OpN
  | [.list ds] => some (.int ds.length, false)
  | [.tuple ds] => some (.int ds.length, false)
  | [.dict es] => some (.int es.length, false)
  | [.str x] => if x.length ≤ sizeLine then some (.int x.length, false) else none
  | _ => none
theorem cr_len : CallR X (.builtin "len") (rCS X.K lenF) := by
  intro pins s σ H xs us Q I r h
  obtain ⟨F, ds, zb, l, ls, e, q⟩ := h
  match ds, ls, e with
  | [.list ds], .cons lk .nil, e =>
    cases e
    obtain ⟨a, vs, rfl, ha, rp⟩ := lk.list l
    refine call_len pins s σ H _ us Q I r ⟨_, vs.length, rfl, .inl ⟨vs, .inl (.inl ha), rfl⟩, ?_⟩
    rw [rp.length]
    exact q.old l (.int _)
  | [.tuple ds], .cons lk .nil, e =>
    cases e
    obtain ⟨a, vs, rfl, ha, rp, _⟩ := lk.tuple l
    refine call_len pins s σ H _ us Q I r ⟨_, vs.length, rfl, .inr ⟨vs, ha, rfl⟩, ?_⟩
    rw [rp.length]
    exact q.old l (.int _)
  | [.dict es], .cons lk .nil, e =>
    cases e
    obtain ⟨a, vs, rfl, ha, rp⟩ := lk.dict l
    obtain ⟨u, rfl, ru⟩ := vals1 r
    cases ru
    refine d_len I ha fun t s' I' => ⟨.int vs.length, H, I', ⟨t, rfl⟩, ?_⟩
    rw [rp.length]
    exact q.old l (.int _)
  | [.str x], .cons lk .nil, e =>
    simp only [lenF] at e
    split at e
    · next hz =>
      cases e
      rw [lk.str] at r
      exact call_len pins s σ H _ us Q I r ⟨_, x.length, rfl, ⟨hz, rfl⟩, q.old l (.int _)⟩
    · cases e
def intF : OpN
  | [.int i] => some (.int i, false)
  | [.bool b] => some (.int (if b then 1 else 0), false)
  | _ => none
theorem cr_int : CallR X (.type "int") (rCS X.K intF) := by
  intro pins s σ H xs us Q I r h
  obtain ⟨F, ds, zb, l, ls, e, q⟩ := h
  match ds, ls, e with
  | [.int i], .cons lk .nil, e => cases e; rw [lk.int] at r; exact call_int1 pins s σ H _ us Q I r (.inl ⟨i, rfl, q.old l (.int _)⟩)
  | [.bool i], .cons lk .nil, e => cases e; rw [lk.bool] at r; exact call_int1 pins s σ H _ us Q I r (.inr ⟨i, rfl, q.old l (.int _)⟩)
theorem max_of : ∀ (x : Int) (ns : List Int), (x :: ns).foldl max x ∈ x :: ns ∧ ∀ y ∈ x :: ns, y ≤ (x :: ns).foldl max x := by
  have go : ∀ (ns : List Int) (m : Int), (ns.foldl max m = m ∨ ns.foldl max m ∈ ns) ∧ m ≤ ns.foldl max m ∧ ∀ y ∈ ns, y ≤ ns.foldl max m := by
    intro ns
    induction ns with
    | nil => intro m; exact ⟨.inl rfl, Int.le_refl _, fun y h => by cases h⟩
    | cons a r ih =>
      intro m
      obtain ⟨h1, h2, h3⟩ := ih (max m a)
      rw [List.foldl_cons]
      refine ⟨?_, by omega, fun y hy => ?_⟩
      · rcases h1 with e | e
        · rw [e]
          by_cases c : m ≤ a
          · right; rw [Int.max_eq_right c]; exact List.mem_cons_self
          · left; exact Int.max_eq_left (by omega)
        · exact .inr (List.mem_cons_of_mem _ e)
      · rcases List.mem_cons.mp hy with e | e
        · subst e; omega
        · exact h3 y e
  intro x ns
  obtain ⟨h1, h2, h3⟩ := go (x :: ns) x
  refine ⟨?_, h3⟩
  rcases h1 with e | e
  · rw [e]; exact List.mem_cons_self
  · exact e
theorem min_of : ∀ (x : Int) (ns : List Int), (x :: ns).foldl min x ∈ x :: ns ∧ ∀ y ∈ x :: ns, (x :: ns).foldl min x ≤ y := by
  have go : ∀ (ns : List Int) (m : Int), (ns.foldl min m = m ∨ ns.foldl min m ∈ ns) ∧ ns.foldl min m ≤ m ∧ ∀ y ∈ ns, ns.foldl min m ≤ y := by
    intro ns
    induction ns with
    | nil => intro m; exact ⟨.inl rfl, Int.le_refl _, fun y h => by cases h⟩
    | cons a r ih =>
      intro m
      obtain ⟨h1, h2, h3⟩ := ih (min m a)
      rw [List.foldl_cons]
      refine ⟨?_, by omega, fun y hy => ?_⟩
      · rcases h1 with e | e
        · rw [e]
          by_cases c : m ≤ a
          · left; exact Int.min_eq_left c
          · right; rw [Int.min_eq_right (by omega)]; exact List.mem_cons_self
        · exact .inr (List.mem_cons_of_mem _ e)
      · rcases List.mem_cons.mp hy with e | e
        · subst e; omega
        · exact h3 y e
  intro x ns
  obtain ⟨h1, h2, h3⟩ := go (x :: ns) x
  refine ⟨?_, h3⟩
  rcases h1 with e | e
  · rw [e]; exact List.mem_cons_self
  · exact e
def intsF (f : Int → List Int → Int) : D → Option (D × Bool)
  | .list ds => (asInts ds).bind fun ns => match ns with
    | [] => none
    | x :: ns => some (.int (f x (x :: ns)), false)
  | _ => none
def maxF : OpN
  | [.int i, .int j] => some (.int (if j > i then j else i), false)
  | [.list ds] => intsF (fun x ns => ns.foldl max x) (.list ds)
  | _ => none
def minF : OpN
  | [.int i, .int j] => some (.int (if j < i then j else i), false)
  | [.list ds] => intsF (fun x ns => ns.foldl min x) (.list ds)
  | _ => none
theorem cr_maxD (hc : X.calm = true) : CallR X (.builtin "max") (rCS X.K maxF) := by
  intro pins s σ H xs us Q I r h
  obtain ⟨F, ds, zb, l, ls, e, q⟩ := h
  match ds, ls, e with
  | [.int i, .int j], .cons lk (.cons lk2 .nil), e => cases e; rw [lk.int, lk2.int] at r; exact call_max2 hc pins s σ H _ us Q I r ⟨i, j, rfl, q.old l (.int _)⟩
  | [.list ds], .cons lk .nil, e =>
    simp only [maxF, intsF, Option.bind_eq_some_iff] at e
    obtain ⟨ns, e1, e2⟩ := e
    cases ns with
    | nil => cases e2
    | cons x ns =>
      cases e2
      obtain ⟨a, vs, rfl, ha, rp⟩ := lk.list l
      have ev := rp.intsOf (asInts_eq e1)
      subst ev
      refine cr_max hc pins s σ H _ us Q I r ⟨a, x :: ns, rfl, .inl (.inl ha), Nat.succ_pos _, fun m hm hx => ?_⟩
      have e3 : m = (x :: ns).foldl max x := Int.le_antisymm ((max_of x ns).2 m hm) (hx _ (max_of x ns).1)
      rw [e3]
      exact q.old l (.int _)
theorem cr_minD (hc : X.calm = true) : CallR X (.builtin "min") (rCS X.K minF) := by
  intro pins s σ H xs us Q I r h
  obtain ⟨F, ds, zb, l, ls, e, q⟩ := h
  match ds, ls, e with
  | [.int i, .int j], .cons lk (.cons lk2 .nil), e => cases e; rw [lk.int, lk2.int] at r; exact call_min2 hc pins s σ H _ us Q I r ⟨i, j, rfl, q.old l (.int _)⟩
  | [.list ds], .cons lk .nil, e =>
    simp only [minF, intsF, Option.bind_eq_some_iff] at e
    obtain ⟨ns, e1, e2⟩ := e
    cases ns with
    | nil => cases e2
    | cons x ns =>
      cases e2
      obtain ⟨a, vs, rfl, ha, rp⟩ := lk.list l
      have ev := rp.intsOf (asInts_eq e1)
      subst ev
      refine cr_min hc pins s σ H _ us Q I r ⟨a, x :: ns, rfl, .inl (.inl ha), Nat.succ_pos _, fun m hm hx => ?_⟩
      have e3 : m = (x :: ns).foldl min x := Int.le_antisymm (hx _ (min_of x ns).1) ((min_of x ns).2 m hm)
      rw [e3]
      exact q.old l (.int _)
def allF : OpN
  | [.list ds] => (asBls ds).bind fun ns => some (.bool (ns.all id), false)
  | _ => none
def anyF : OpN
  | [.list ds] => (asBls ds).bind fun ns => some (.bool (ns.any id), false)
  | _ => none
theorem cr_allD (hc : X.calm = true) : CallR X (.builtin "all") (rCS X.K allF) := by
  intro pins s σ H xs us Q I r h
  obtain ⟨F, ds, zb, l, ls, e, q⟩ := h
  match ds, ls, e with
  | [.list ds], .cons lk .nil, e =>
    simp only [allF, Option.bind_eq_some_iff] at e
    obtain ⟨ns, e1, e2⟩ := e
    cases e2
    obtain ⟨a, vs, rfl, ha, rp⟩ := lk.list l
    have ev := rp.blsOf (asBls_eq e1)
    subst ev
    exact cr_all hc pins s σ H _ us Q I r ⟨a, ns, rfl, .inl (.inl ha), q.old l (.bl _)⟩
theorem cr_anyD (hc : X.calm = true) : CallR X (.builtin "any") (rCS X.K anyF) := by
  intro pins s σ H xs us Q I r h
  obtain ⟨F, ds, zb, l, ls, e, q⟩ := h
  match ds, ls, e with
  | [.list ds], .cons lk .nil, e =>
    simp only [anyF, Option.bind_eq_some_iff] at e
    obtain ⟨ns, e1, e2⟩ := e
    cases e2
    obtain ⟨a, vs, rfl, ha, rp⟩ := lk.list l
    have ev := rp.blsOf (asBls_eq e1)
    subst ev
    exact cr_any hc pins s σ H _ us Q I r ⟨a, ns, rfl, .inl (.inl ha), q.old l (.bl _)⟩
def tupleF : OpN
  | [.list ds] => some (.tuple ds, false)
  | [.tuple ds] => some (.tuple ds, false)
  | _ => none
def listF : OpN
  | [.list ds] => some (.list ds, true)
  | [.tuple ds] => some (.list ds, true)
  | [.dict es] => some (.list (es.map (·.1)), true)
  | _ => none
def dictF : OpN
  | [.dict es] => some (.dict es, true)
  | _ => none
def leS (a b : Str) : Bool := decide (a.cps.toList ≤ b.cps.toList)
abbrev sortS (ks : List Str) : List Str := isort leS ks
end
end Pv
end
section
set_option Elab.async false
set_option linter.all false
set_option maxRecDepth 100000
set_option maxHeartbeats 1000000
namespace Pv
open PySem PySem.Spec PyProof.Rows L2 PySem.W

section
variable {X : Cx}
def strsOf : D → Option (List Str)
  | .list ds => asStrs ds
  | .tuple ds => asStrs ds
  | _ => none
def sOfSet (g : List Str → Rv) (f : SemE) : SemE := fun ρ => (f ρ).bind fun (r, ρ1) => (look ρ1 (settle r)).bind fun d => (strsOf d).bind fun ys => if ys.length + 1 < scanBound then some (g ys, ρ1) else none
def tyName : D → String
  | .none => "NoneType"
  | .bool _ => "bool"
  | .int _ => "int"
  | .str _ => "str"
  | .list _ => "list"
  | .tuple _ => "tuple"
  | .dict _ => "dict"
def isiD (T : String) (d : D) : Bool := tyName d == T || (T == "int" && tyName d == "bool")
def sIsi (T : String) (f : SemE) : SemE := fun ρ => (f ρ).bind fun (r, ρ1) => (look ρ1 (settle r)).bind fun d => some (.val (.bool (isiD T d)), ρ1)
theorem rp_readsD {pins : List (Addr × Obj)} {σ : St} {s : Shared} {H : Hp} (I : Inv X pins σ H s) {a : Addr} {kvs : List (Key × V)} (ha : Rd H a (.dK kvs)) (hk : kvs = []) : ∃ as, Reads s.heap (.ref a) (.dict []) as ∧ sysModules ∉ as := by
  obtain ⟨z, hm, vs, rel, o, es, ep, ho, hx, hd, _, pr, _⟩ := dk_rd I.hok ha
  subst hk
  cases rel
  have e : es.toList = [] := by cases h : es.toList with
    | nil => rfl
    | cons x r => rw [h] at pr; cases pr
  refine ⟨_, .dict (kvs := []) (as := []) (bs := []) ho hx.1 hd (by rw [e]; exact .nil) (by rw [e]; exact .nil), fun h => ?_⟩
  simp only [List.append_nil, List.mem_singleton] at h
  rw [h] at hm
  simp at hm
def showOk (d : D) : Bool := (plain d || (match d with | .dict [] => true | _ => false)) && d.showable && decide (d.shown.length ≤ sizeLine) && decide (d.depth ≤ 64)
def strVal : D → Str
  | .str x => x
  | d => d.shown
def strF : OpN
  | [d] => if showOk d = true then some (.str (strVal d), false) else none
  | _ => none
theorem plain_noDict : ∀ d : D, plain d = true → d.hasDict = false
  | .none, _ => rfl
  | .bool _, _ => rfl
  | .int _, _ => rfl
  | .str _, _ => rfl
  | .list xs, h => by simp only [PyData.hasDict]; exact go xs (by simpa [plain] using h)
  | .tuple xs, h => by simp only [PyData.hasDict]; exact go xs (by simpa [plain] using h)
  | .dict _, h => by simp [plain] at h
where go : ∀ ds : List D, plainA ds = true → PyData.hasDictAll ds = false
  | [], _ => rfl
  | d :: ds, h => by
    simp only [plainA, Bool.and_eq_true] at h
    simp only [PyData.hasDictAll, Bool.or_eq_false_iff]
    exact ⟨plain_noDict d h.1, go ds h.2⟩
theorem cr_strD (gd : X.A.guards = some []) (hu : X.A.units + 100 < cLine) : CallR X (.type "str") (rCS X.K strF) := by
  intro pins s σ H xs us Q I r h
  obtain ⟨F, ds, zb, l, ls, e, q⟩ := h
  cases ls with
  | nil => cases e
  | @cons x d xs ds lk ln =>
  cases ln with
  | cons _ _ => cases e
  | nil =>
  simp only [strF] at e
  split at e
  · next ok =>
    cases e
    unfold showOk at ok
    simp only [Bool.and_eq_true, decide_eq_true_eq, Bool.or_eq_true] at ok
    obtain ⟨⟨⟨pl, sh⟩, len⟩, dep⟩ := ok
    have main : ∀ (d : D) (a : Addr) (as : List Addr), x = .ref a → Reads s.heap (.ref a) d as → d.showable = true → (d.hasDict = true → sysModules ∉ as) → d.shown.length ≤ sizeLine → d.depth ≤ 64 → Post X.K F H Q (.str d.shown, false) →
        wpAny (model X.prog X.w) X.A (call (.type "str") us) (EP X pins σ Q) X.xe s := by
      intro d a as e rd sh hd len dep q
      subst e
      rw [Vals.ref1 r]
      exact str_of_reads rd sh hd gd (by omega) (fun _ _ e => e) (fun h' u tk k => ⟨.str d.shown, H, I.kept k, ⟨u, rfl⟩, q.old l (.str _)⟩) len
    cases d with
    | none =>
      rw [lk.none] at r
      obtain ⟨u, rfl, r1⟩ := vals1 r
      cases r1
      exact PySem.P.str_of_none ⟨.str "None", H, I.tok _, ⟨_, rfl⟩, by have := q.old l (.str _); simpa [strVal, PyData.shown] using this⟩
    | bool b =>
      rw [lk.bool] at r
      obtain ⟨u, rfl, r1⟩ := vals1 r
      cases r1
      exact PySem.P.str_of_bool ⟨.str (if b then "True" else "False"), H, I.tok _, ⟨_, rfl⟩, by have := q.old l (.str _); simpa [strVal, PyData.shown] using this⟩
    | int i =>
      rw [lk.int] at r
      exact call_str_int pins s σ H _ us Q I r ⟨i, rfl, by simpa [PyData.showable] using sh, by have := q.old l (.str _); simpa [strVal, PyData.shown] using this⟩
    | str x =>
      rw [lk.str] at r
      exact SkE.call_str_str pins s σ H _ us Q I r ⟨x, rfl, q.old l (.str _)⟩
    | list ds =>
      obtain ⟨a, vs, rfl, _, _⟩ := lk.list l
      have hp : plain (.list ds) = true := by simpa using pl
      obtain ⟨as, rd⟩ := Dp.reads I _ _ (.ref a) ((lk.rp l).dp hp) rfl
      exact main _ a as rfl rd sh (fun z => by rw [plain_noDict _ hp] at z; cases z) len dep q
    | tuple ds =>
      obtain ⟨a, vs, rfl, _, _⟩ := lk.tuple l
      have hp : plain (.tuple ds) = true := by simpa using pl
      obtain ⟨as, rd⟩ := Dp.reads I _ _ (.ref a) ((lk.rp l).dp hp) rfl
      exact main _ a as rfl rd sh (fun z => by rw [plain_noDict _ hp] at z; cases z) len dep q
    | dict es =>
      obtain ⟨a, vs, rfl, ha, rp⟩ := lk.dict l
      cases es with
      | cons _ _ => simp [plain] at pl
      | nil =>
        cases rp
        obtain ⟨as, rd, hs⟩ := rp_readsD I ha rfl
        exact main _ a as rfl rd sh (fun _ => hs) len dep q
  · cases e
end
end Pv
end
section
set_option Elab.async false
set_option linter.all false
set_option maxRecDepth 100000
set_option maxHeartbeats 1000000
namespace Pv
open PySem PySem.Spec PyProof.Rows L2 PySem.W

def Cell.put : Cell → D → Cell
  | .own _, d => .own d
  | .byr _, d => .byr d
  | c, _ => c
section
variable {K : Fr'} {P : List (Nat × Addr)} {W F H : Hp} {σ : St} {ρ : Ro}
theorem Rel.upd_ {i : Nat} {c : Cell} {a : Addr} {u : HO} {d : D} (R : Rel K P W F H σ ρ) (hc : ρ[i]? = some (some c)) (ho : c.owned = true) (hv : σ[i]? = some (some (.ref a))) (q : OwnO K F (some u) d) :
    Rel K P W F (upd H a u) σ (ρ.set i (some (c.put d))) := by
  have own : ∀ (j : Nat) (e : Cell) (v : V), ρ[j]? = some (some e) → e.owned = true → σ[j]? = some (some v) → ∃ b, v = .ref b ∧ W b = Option.none ∧ F b = Option.none ∧ OwnO K F (H b) e.d := by
    intro j e v he ho hv
    obtain ⟨w, hw, hk⟩ := R.cell j e he
    rw [hv] at hw
    cases hw
    cases e with
    | val _ => cases ho
    | scr _ => cases ho
    | own d => exact hk
    | byr d => exact hk
  obtain ⟨b, eb, wa, fa, _⟩ := own i c _ hc ho hv
  cases eb
  have ilt : i < ρ.length := by
    rcases Nat.lt_or_ge i ρ.length with h | h
    · exact h
    · rw [List.getElem?_eq_none h] at hc; cases hc
  constructor
  · intro b o e
    rw [upd_ne (ne_of_none e fa)]
    exact R.fh b o e
  · intro b o e
    rw [upd_ne (ne_of_none e wa)]
    exact R.wh b o e
  · rw [List.length_set]; exact R.len
  · intro j e he
    rcases set_get he with ⟨rfl, z⟩ | ⟨hj, z⟩
    · cases z
      refine ⟨_, hv, ?_⟩
      cases c with
      | val _ => cases ho
      | scr _ => cases ho
      | own _ => exact ⟨a, rfl, wa, fa, by rw [upd_same]; exact q⟩
      | byr _ => exact ⟨a, rfl, wa, fa, by rw [upd_same]; exact q⟩
    · obtain ⟨w, hw, hk⟩ := R.cell j e z
      refine ⟨w, hw, ?_⟩
      cases e with
      | val _ => exact hk
      | scr _ => exact hk
      | own d' =>
        obtain ⟨b, eb, h1, h2, h3⟩ := hk
        subst eb
        have ne : b ≠ a := fun y => R.inj i j c _ a (fun y => hj y.symm) hc z ho rfl hv (by rw [hw, y])
        exact ⟨b, rfl, h1, h2, by rw [upd_ne ne]; exact h3⟩
      | byr d' =>
        obtain ⟨b, eb, h1, h2, h3⟩ := hk
        subst eb
        have ne : b ≠ a := fun y => R.inj i j c _ a (fun y => hj y.symm) hc z ho rfl hv (by rw [hw, y])
        exact ⟨b, rfl, h1, h2, by rw [upd_ne ne]; exact h3⟩
  · intro j k e e' b hjk h1 h2 o1 o2 s1 s2
    have back : ∀ (j : Nat) (e : Cell), (ρ.set i (some (c.put d)))[j]? = some (some e) → e.owned = true → ∃ e', ρ[j]? = some (some e') ∧ e'.owned = true := by
      intro j e he ho'
      rcases set_get he with ⟨rfl, z⟩ | ⟨_, z⟩
      · exact ⟨c, hc, ho⟩
      · exact ⟨e, z, ho'⟩
    obtain ⟨c1, h1, o1⟩ := back j e h1 o1
    obtain ⟨c2, h2, o2⟩ := back k e' h2 o2
    exact R.inj j k c1 c2 b hjk h1 h2 o1 o2 s1 s2
  · intro p hp
    obtain ⟨h1, d', h2⟩ := R.pin p hp
    refine ⟨h1, ?_⟩
    by_cases e : p.1 = i
    · rw [e] at h2
      rw [hc] at h2
      cases h2
      exact ⟨d, by rw [e, List.getElem?_set_self ilt]; rfl⟩
    · exact ⟨d', by rw [List.getElem?_set_ne (fun z => e z.symm)]; exact h2⟩
  · exact R.dis
end

def ownAt (ρ : Ro) (i : Nat) : Option D := match ρ[i]? with
  | some (some (.own d)) => some d
  | some (some (.byr d)) => some d
  | _ => none
def putAt (ρ : Ro) (i : Nat) (d : D) : Ro := match ρ[i]? with
  | some (some c) => ρ.set i (some (c.put d))
  | _ => ρ
theorem ownAt_cell {ρ : Ro} {i : Nat} {d : D} (h : ownAt ρ i = some d) : ∃ c, ρ[i]? = some (some c) ∧ c.owned = true ∧ c.d = d := by
  unfold ownAt at h
  split at h
  · next z e => cases h; exact ⟨_, e, rfl, rfl⟩
  · next z e => cases h; exact ⟨_, e, rfl, rfl⟩
  · cases h
theorem Rel.own {K : Fr'} {P : List (Nat × Addr)} {W F H : Hp} {σ : St} {ρ : Ro} {i : Nat} {d : D} (R : Rel K P W F H σ ρ) (h : ownAt ρ i = some d) : ∃ a, σ[i]? = some (some (.ref a)) ∧ F a = Option.none ∧ OwnO K F (H a) d := by
  obtain ⟨c, hc, ho, hd⟩ := ownAt_cell h
  obtain ⟨v, hv, hk⟩ := R.cell i c hc
  cases c with
  | val _ => cases ho
  | scr _ => cases ho
  | own _ => cases hd; obtain ⟨a, rfl, _, h2, h3⟩ := hk; exact ⟨a, hv, h2, h3⟩
  | byr _ => cases hd; obtain ⟨a, rfl, _, h2, h3⟩ := hk; exact ⟨a, hv, h2, h3⟩
theorem Rel.putAt {K : Fr'} {P : List (Nat × Addr)} {W F H : Hp} {σ : St} {ρ : Ro} {i : Nat} {d d' : D} {a : Addr} {u : HO} (R : Rel K P W F H σ ρ) (h : ownAt ρ i = some d) (hv : σ[i]? = some (some (.ref a))) (q : OwnO K F (some u) d') : Rel K P W F (L2.upd H a u) σ (Pv.putAt ρ i d') := by
  obtain ⟨c, hc, ho, hd⟩ := ownAt_cell h
  unfold Pv.putAt
  rw [hc]
  exact R.upd_ hc ho hv q
abbrev OpM := D → List D → Option (D × D)
def rM (K : Fr') (o : OpM) : V → List V → Hp → VK → Prop := fun x vs H Q => ∃ F a d ds d' z, x = .ref a ∧ Le F H ∧ F a = none ∧ OwnO K F (H a) d ∧ RpA K F vs ds ∧ o d ds = some (d', z) ∧ ∀ v u, OwnO K F (some u) d' → Rp K F v z → Q v (upd H a u)
def kindB : String → D → Bool
  | "list", .list _ => true
  | "dict", .dict _ => true
  | _, _ => false
theorem OwnO.lstE {K : Fr'} {F : Hp} {o : Option HO} {ds : List D} (q : OwnO K F o (.list ds)) : ∃ xs, o = some (.lst xs) ∧ RpA K F xs ds := by
  unfold OwnO at q
  split at q
  · next xs _ e => cases e; exact ⟨xs, rfl, q⟩
  · next z => cases z
  · exact q.elim
theorem OwnO.dctE {K : Fr'} {F : Hp} {o : Option HO} {es : List (D × D)} (q : OwnO K F o (.dict es)) : ∃ kvs, o = some (.dK kvs) ∧ RpD K F kvs es := by
  unfold OwnO at q
  split at q
  · next z => cases z
  · next kvs _ e => cases e; exact ⟨kvs, rfl, q⟩
  · exact q.elim
theorem kindB_ty {K : Fr'} {F H : Hp} {a : Addr} {d : D} {T : String} (q : OwnO K F (H a) d) (h : kindB T d = true) : tyV K T (.ref a) H := by
  unfold kindB at h
  split at h
  · next ds =>
    obtain ⟨xs, e, _⟩ := q.lstE
    exact .inl ⟨rfl, xs, .inl (.inl e)⟩
  · next ds =>
    obtain ⟨kvs, e, _⟩ := q.dctE
    exact .inr (.inr (.inl ⟨rfl, .inl ⟨kvs, e⟩⟩))
  · cases h
def sMut (T : String) (i : Nat) (o : OpM) (f : SemA) : SemE := fun ρ => (ownAt ρ i).bind fun d0 => if kindB T d0 = true then (f ρ).bind fun (ds, ρ1) => (ownAt ρ1 i).bind fun d => (o d ds).bind fun (d', z) => some (.val z, putAt ρ1 i d') else none
section
variable {X : Cx} {e : Expr} {es : List Expr} {name x : Str} {apos cpos pos npos : Pos} {T id : String} {i : Nat} {o : OpM} {f : SemA}
theorem sMut_end {P : List (Nat × Addr)} {W F H : Hp} {σ : St} {ρ1 : Ro} {d d' z : D} {ds : List D} {vs : List V} {a : Addr} {Q : VK} (R : Rel X.K P W F H σ ρ1) (h : ownAt ρ1 i = some d) (hv : σ[i]? = some (some (.ref a))) (rp : RpA X.K F vs ds) (e : o d ds = some (d', z))
    (q : ∀ v H' F', Ext W F F' → Rel X.K P W F' H' σ (putAt ρ1 i d') → RvOk X.K W F' H' σ (putAt ρ1 i d') (.val z) v → Q v H') : rM X.K o (.ref a) vs H Q := by
  obtain ⟨a', hv', fa, own⟩ := R.own h
  rw [hv] at hv'
  cases hv'
  exact ⟨F, a, d, ds, d', z, rfl, R.fh, fa, own, rp, e, fun v u q1 q2 => q v _ F (Ext.refl _ _) (R.putAt h hv q1) q2⟩
theorem de_mut (pa : PlainAttrs T) (slot : Slot T name id) (hty : typeOf (.builtin id) = pure (.type "method_descriptor")) (hm : MtR X id (rM X.K o)) (hx : PE X (.Name x npos) (tVar i)) (ha : DA X (e :: es) f)
    (hbase : attributeBase (.Name x npos) name X.env (eval (.Name x npos) X.env) = eval (.Name x npos) X.env := by rfl)
    (hfew : ((backTo cpos (starEach (e :: es) X.env)).all (fun x => !x.1) && (backToKw cpos (keywordEach [] X.env)).all (fun x => x.1.isSome)
      && decide ((e :: es).length + ([] : List Keyword).length + (if ([] : List Keyword).isEmpty then 0 else 1) < 30)) = true := by rfl)
    (hline : (apos.endLine == cpos.line) = true := by rfl) (hs : starEach (e :: es) X.env = (false, eval e X.env) :: starEach es X.env := by rfl) (hplain : (backTo cpos (starEach es X.env)).any (·.1) = false := by rfl) :
    DE X (.Call (.Attribute (.Name x npos) name apos) (e :: es) [] cpos) (sMut T i o f) := by
  refine ⟨(pe_bm (apos := apos) (cpos := cpos) pa slot hty hm hx ha.pa hbase hfew hline hs hplain).pvi fun σ H Q q => ?_⟩
  obtain ⟨P, W, F, ρ, r, ρ', R, ev, q⟩ := q
  simp only [sMut, Option.bind_eq_some_iff, Prod.exists] at ev
  obtain ⟨d0, e0, e1⟩ := ev
  split at e1
  · next hk =>
    simp only [Option.bind_eq_some_iff, Prod.exists] at e1
    obtain ⟨ds, ρ1, e2, d, e3, d', z, e4, e5⟩ := e1
    cases e5
    obtain ⟨a, hv, fa, own⟩ := R.own e0
    refine ⟨_, hv, kindB_ty own hk, P, W, F, ρ, ds, ρ1, R, e2, fun vs H1 F1 x1 R1 rp => ?_⟩
    exact sMut_end R1 e3 hv rp e4 fun v H' F' x2 R2 o2 => q v H' F' (x1.trans x2) R2 o2
  · cases e1
def appendM : OpM
  | .list ds, [d] => if ds.length < sizeLine then some (.list (ds ++ [d]), .none) else none
  | _, _ => none
theorem mt_appendD : MtR X "list.append" (rM X.K appendM) := by
  intro pins s σ H x xs v us Q I rx rs h
  obtain ⟨F, a, d, ds, d', z, rfl, l, fa, q1, rp, e, q⟩ := h
  unfold appendM at e
  split at e
  · split at e
    · next hz =>
      cases e
      obtain ⟨ys, hH, ry⟩ := q1.lstE
      cases rp with | cons r0 rn =>
      cases rn
      exact mt_append pins s σ H _ _ v us Q I rx rs ⟨a, ys, _, rfl, rfl, hH, by rw [ry.length]; exact hz, q _ _ (ry.append (.cons r0 .nil)) .non⟩
    · cases e
  · cases e
theorem RpA.eraseIdx {K : Fr'} {F : Hp} : ∀ {vs : List V} {ds : List D} (i : Nat), RpA K F vs ds → RpA K F (vs.eraseIdx i) (ds.eraseIdx i)
  | _, _, _, .nil => .nil
  | _, _, 0, .cons _ t => t
  | _, _, i + 1, .cons r t => .cons r (RpA.eraseIdx i t)
theorem RpA.dropLast {K : Fr'} {F : Hp} : ∀ {vs : List V} {ds : List D}, RpA K F vs ds → RpA K F vs.dropLast ds.dropLast
  | _, _, .nil => .nil
  | _, _, .cons r .nil => .nil
  | _, _, .cons r (.cons r2 t) => .cons r (RpA.dropLast (.cons r2 t))
def popM : OpM
  | .list ds, [] => (ds[ds.length - 1]?).map fun z => (.list ds.dropLast, z)
  | .list ds, [.int i] => if -(2 ^ 63) ≤ i ∧ i < 2 ^ 63 then (seqIndex? i ds.length).bind fun k => (ds[k]?).map fun z => (.list (ds.eraseIdx k), z) else none
  | _, _ => none
theorem mt_popD : MtR X "list.pop" (rM X.K popM) := by
  intro pins s σ H x xs v us Q I rx rs h
  obtain ⟨F, a, d, ds, d', z, rfl, l, fa, q1, rp, e, q⟩ := h
  unfold popM at e
  split at e
  · simp only [Option.map_eq_some_iff] at e
    obtain ⟨z0, e1, e2⟩ := e
    cases e2
    obtain ⟨ys, hH, ry⟩ := q1.lstE
    cases rp
    obtain ⟨y, hy, rz⟩ := ry.get _ _ e1
    exact mt_pop pins s σ H _ _ v us Q I rx rs ⟨a, ys, y, rfl, rfl, hH, by rw [ry.length]; exact hy, q _ _ ry.dropLast rz⟩
  · split at e
    · next hi =>
      simp only [Option.bind_eq_some_iff, Option.map_eq_some_iff] at e
      obtain ⟨k, e0, z0, e1, e2⟩ := e
      cases e2
      obtain ⟨ys, hH, ry⟩ := q1.lstE
      cases rp with | cons r0 rn =>
      cases rn
      cases r0
      obtain ⟨y, hy, rz⟩ := ry.get _ _ e1
      exact mt_popAt pins s σ H _ _ v us Q I rx rs ⟨a, ys, _, k, y, rfl, rfl, hH, hi.1, hi.2, by rw [ry.length]; exact e0, hy, q _ _ (ry.eraseIdx k) rz⟩
    · cases e
  · cases e
def dput (es : List (D × D)) (k : Key) (d : D) : List (D × D) := if (es.any fun p => dkey p.1 k) = true then es.map (fun p => if dkey p.1 k = true then (p.1, d) else p) else es ++ [(keyD k, d)]
theorem RpD.any {K : Fr'} {F : Hp} {k : Key} : ∀ {kvs : List (Key × V)} {es : List (D × D)}, RpD K F kvs es → (kvs.any fun kv => decide (kv.1 = k)) = es.any fun p => dkey p.1 k
  | _, _, .nil => rfl
  | _, _, .cons r t => by
    rw [List.any_cons, List.any_cons, dkey_keyD, RpD.any t]
theorem RpD.append {K : Fr'} {F : Hp} : ∀ {kvs lvs : List (Key × V)} {es fs : List (D × D)}, RpD K F kvs es → RpD K F lvs fs → RpD K F (kvs ++ lvs) (es ++ fs)
  | _, _, _, _, .nil, h => h
  | _, _, _, _, .cons r t, h => .cons r (RpD.append t h)
theorem RpD.put {K : Fr'} {F : Hp} {k : Key} {v : V} {d : D} {kvs : List (Key × V)} {es : List (D × D)} (r : RpD K F kvs es) (rv : Rp K F v d) : RpD K F (putK kvs k v) (dput es k d) := by
  unfold putK dput
  rw [r.any]
  split
  · have go : ∀ {kvs : List (Key × V)} {es : List (D × D)}, RpD K F kvs es → RpD K F (kvs.map (fun kv => if kv.1 = k then (kv.1, v) else kv)) (es.map (fun p => if dkey p.1 k = true then (p.1, d) else p)) := by
      intro kvs es r
      induction kvs generalizing es with
      | nil => cases r; exact .nil
      | cons kv kvs ih =>
        cases r with
        | @cons k0 v0 _ d0 _ r0 t =>
        rw [List.map_cons, List.map_cons, dkey_keyD]
        by_cases e : k0 = k
        · simp only [e, decide_true, if_true]
          exact .cons rv (ih t)
        · simp only [e, decide_false, if_false, Bool.false_eq_true]
          exact .cons r0 (ih t)
    exact go r
  · exact r.append (.cons rv .nil)
def setM : D → D → D → Option D
  | .list ds, .int k, z => (ixN ds.length k).map fun j => .list (ds.set j z)
  | .dict es, i, z => (keyOf i).bind fun k => if es.length < sizeLine then some (.dict (dput es k z)) else none
  | _, _, _ => none
def rSetM (K : Fr') : TSet := fun o i v H Q => ∃ F a d ix z d', o = .ref a ∧ Le F H ∧ OwnO K F (H a) d ∧ Lk K F H i ix ∧ Rp K F v z ∧ setM d ix z = some d' ∧ ∀ u, OwnO K F (some u) d' → Q (upd H a u)
theorem set_M (hu : X.A.units + 1 < cLine) : PSet X (rSetM X.K) := by
  intro pins s σ H o i v ov iv u Q I ro ri rv h
  obtain ⟨F, a, d, ix, z, d', rfl, l, q1, li, rz, e, q⟩ := h
  unfold setM at e
  split at e
  · simp only [Option.map_eq_some_iff] at e
    obtain ⟨j, e1, e2⟩ := e
    subst e2
    obtain ⟨ys, hH, ry⟩ := q1.lstE
    have ei := li.int
    subst ei
    exact set_list pins s σ H _ _ _ ov iv u Q I ro ri rv ⟨a, ys, _, j, rfl, rfl, hH, by rw [ry.length]; exact e1, q _ (ry.set rz j)⟩
  · simp only [Option.bind_eq_some_iff] at e
    obtain ⟨k, e1, e2⟩ := e
    split at e2
    · next hz =>
      cases e2
      obtain ⟨kvs, hH, ry⟩ := q1.dctE
      exact set_dict hu pins s σ H _ _ _ ov iv u Q I ro ri rv ⟨a, _, rfl, .inl ⟨kvs, k, hH, keyOf_kV li e1, by rw [ry.length]; exact hz, rfl⟩, q _ (ry.put rz)⟩
    · cases e2
  · cases e
def sSub (i : Nat) (g f : SemE) : SemS := fun ρ => (f ρ).bind fun (r, ρ1) => (frz ρ1 r).bind fun (z, ρ2) => (ownAt ρ2 i).bind fun _ => (g ρ2).bind fun (r2, ρ3) => (look ρ3 r2).bind fun ix => (ownAt ρ3 i).bind fun d => (setM d ix z).bind fun d' => some (.nx (putAt ρ3 i d'))
theorem ds_sub {ie e : Expr} {g f : SemE} {tpos : Pos} (hu : X.A.units + 1 < cLine) (hx : PE X (.Name x npos) (tVar i)) (hi : DE X ie g) (he : DE X e f)
    (hs : swapsWithSole [.Subscript (.Name x npos) ie tpos] e pos.line X.env = pure false := by rfl) (hw : swappedStores [.Subscript (.Name x npos) ie tpos] e X.env = pure none := by rfl)
    (h1 : (assignEach [.Subscript (.Name x npos) ie tpos] X.env).map (·.2) = [assign (.Subscript (.Name x npos) ie tpos) X.env] := by rfl)
    (ha : ∀ v, assign (.Subscript (.Name x npos) ie tpos) X.env v = (do
      let ov ← holding [v] (eval (.Name x npos) X.env)
      let iv ← holding [v, ov] (eval ie X.env)
      standAt tpos
      holding [v, ov, iv] (setItem ov iv v)
      release [v, ov, iv] []) := by intro _; rfl) :
    DS X (.Assign [.Subscript (.Name x npos) ie tpos] e pos) (sSub i g f) := by
  refine ⟨(ps_asg he.pe (pg_sub hx hi.pe (set_M hu) ha) hs hw h1).pvi fun D σ H q => ?_⟩
  obtain ⟨P, W, F, ρ, o, R, e, q⟩ := q
  simp only [sSub, Option.bind_eq_some_iff, Prod.exists] at e
  obtain ⟨r, ρ1, e1, z, ρ2, e2, d0, e0, r2, ρ3, e3, ix, e4, d, e5, d', e6, e7⟩ := e
  cases e7
  refine ⟨P, W, F, ρ, r, ρ1, R, e1, fun v H1 F1 x1 R1 o1 => ?_⟩
  obtain ⟨F2, x2, R2, rp⟩ := R1.frz o1 e2
  obtain ⟨a, hv, _, _⟩ := R2.own e0
  refine ⟨_, hv, P, W, F2, ρ2, r2, ρ3, R2, e3, fun iv H3 F3 x3 R3 o3 => ?_⟩
  obtain ⟨a', hv', fa, own⟩ := R3.own e5
  rw [hv] at hv'
  cases hv'
  exact ⟨F3, a, d, ix, z, d', rfl, R3.fh, own, R3.lk o3 e4, rp.mono (Le.of x3.same), e6, fun u q1 => q σ _ F3 ((x1.trans x2).trans x3) (R3.putAt e5 hv q1)⟩
def ixG : Op2
  | .dict es, d => kget (.dict es) d
  | d, e => ixF d e
theorem de_ixG {a b : Expr} {f g : SemE} (hu : X.A.units + 64 < cLine) (hr : IxR X (rS X.K ixF)) (ha : DE X a f) (hb : DE X b g) (hs : PlainIx b := by intro _ _; rfl) (hs2 : NoSl b := by intro _ _; rfl) : DE X (.Subscript a b pos) (sOp ixG f g) := by
  refine ⟨⟨fun pins s σ H Q I q => ?_⟩⟩
  obtain ⟨P, W, F, ρ, r, ρ', R, e, q⟩ := q
  simp only [sOp, Option.bind_eq_some_iff, Prod.exists] at e
  obtain ⟨r1, ρ1, e1, r2, ρ2, e2, d, e3, d2, e4, z, b, e5, e6⟩ := e
  unfold ixG at e5
  split at e5
  · exact (de_dget hu ha hb hs2).pe.run pins s σ H Q I ⟨P, W, F, ρ, r, ρ', R, by simp only [sOp, Option.bind_eq_some_iff, Prod.exists]; exact ⟨r1, ρ1, e1, r2, ρ2, e2, _, e3, d2, e4, z, b, e5, e6⟩, q⟩
  · exact (de_ix hr ha hb hs).pe.run pins s σ H Q I ⟨P, W, F, ρ, r, ρ', R, by simp only [sOp, Option.bind_eq_some_iff, Prod.exists]; exact ⟨r1, ρ1, e1, r2, ρ2, e2, d, e3, d2, e4, z, b, e5, e6⟩, q⟩
end
end Pv
end
section
set_option Elab.async false
set_option linter.all false
set_option maxRecDepth 100000
set_option maxHeartbeats 1000000
namespace Pv
open PySem PySem.Spec PyProof.Rows L2 PySem.W

section
variable {v0 : Value} {o0 : Obj} {H0 : Heap → Prop}
theorem meets_enum1 (B : Begins v0 o0 H0) :
    Meets (Builtin.«enumerate.__new__» ⟨[.type "enumerate", v0], []⟩) (fun _ R s => H0 s.heap ∧
      R (.ok (.ret (.ref (s.heap.push o0).objs.size))) { s with heap := (s.heap.push o0).push { cls := .type "enumerate", data := .fields #[.none, .bool false, .ref s.heap.objs.size, rawInt 0, .none, .none] } }) :=
  .of_wp fun prog w A R s h => by
    obtain ⟨hp, g, d, tk, os⟩ := s
    obtain ⟨h1, h⟩ := h
    have hsub := sub_enumerate
    have it1 : ∀ {A' : Around} {E : Value → Shared → Prop} {Q : Value → Shared → Prop}, Q (.ref hp.objs.size) ⟨hp.push o0, g, d, tk, os⟩ → wpAny (model prog w) A' (pyIter v0) Q E ⟨hp, g, d, tk, os⟩ :=
      fun q => B.iter prog w _ _ ⟨hp, g, d, tk, os⟩ _ h1 q
    wp_walk using it1
    refine wpAny_stack_any fun st => wpAny_pure ?_
    split
    · rename_i c _ _ _ _ _
      cases (c == Value.type "enumerate")
      · wp_walk using it1
        exact ⟨_, rfl, h⟩
      · wp_walk using it1
        exact ⟨_, rfl, h⟩
    · wp_walk using it1
      exact ⟨_, rfl, h⟩
theorem call_enum1 {P : Program} {w : World} {A : Around} {E : Value → Shared → Prop} {s : Shared} {Q : Value → Shared → Prop} (B : Begins v0 o0 H0) (h1 : H0 s.heap)
    (h : ∀ h', IsEnum h' (s.heap.objs.size + 1) s.heap.objs.size 0 .none → h'.get? s.heap.objs.size = some o0 → (∀ b o, s.heap.get? b = some o → h'.get? b = some o) → Q (.ref (s.heap.objs.size + 1)) { s with heap := h' }) :
    wpAny (model P w) A (call (.type "enumerate") [v0]) Q E s := by
  refine callType_new F.called_enumerate (by decide) (F.typeCall_enumerate_1 _) (F.newCall_enumerate_1 _) (fun obj => F.args_object_init_2 obj _) F.entry_enumerate_new (meets_enum1 B) ⟨h1, ?_⟩
  have hz : (s.heap.push o0).objs.size = s.heap.objs.size + 1 := Heap.size_push ..
  show _ ∧ _
  rw [hz]
  have he : IsEnum ((s.heap.push o0).push { cls := .type "enumerate", data := .fields #[.none, .bool false, .ref s.heap.objs.size, rawInt 0, .none, .none] }) (s.heap.objs.size + 1) s.heap.objs.size 0 .none := by
    have q := Heap.get?_push_size (s.heap.push o0) (o := { cls := .type "enumerate", data := .fields #[.none, .bool false, .ref s.heap.objs.size, rawInt 0, .none, .none] }) rfl
    rw [hz] at q
    exact q
  exact ⟨⟨_, he, rfl⟩, h _ he (Heap.get?_push_of_some _ (Heap.get?_push_size _ B.free)) fun b o x => Heap.get?_push_of_some _ (Heap.get?_push_of_some _ x)⟩
end
def IteT (K : PySem.W.Frag) (a : Addr) : It :=
  ⟨fun i H => ∃ (xs : List V) (x : V), SqT K H a xs ∧ xs[i]? = some x,
   fun i H v H' => ∃ T x, v = .ref T ∧ H T = none ∧ H' = upd H T (.tup [.int (i : Nat), x]) ∧ ∀ xs, SqT K H a xs → xs[i]? = some x,
   fun i H => ∃ xs : List V, SqT K H a xs ∧ xs.length ≤ i⟩
theorem turn_enumT {P : Program} {w : World} {K : PySem.W.Frag} {elts : List Expr} {kk : Nat} {tpos : Pos} (a e it : Addr) :
    Turn P w K (.Tuple elts kk tpos) (IteT K a) [e, it] e (fun i h => (∃ old, IsEnum h e it ((i : Nat) : Int) old) ∧ h.IsTupleIter it a i ∧ e ≠ it ∧ a ≠ it ∧ a ≠ e) where
  mem := by simp
  obj := fun i h st b hb => by
    obtain ⟨⟨old, he⟩, ⟨o, ho, hc, hd⟩, _⟩ := st
    have two : b = e ∨ b = it := by simpa using hb
    rcases two with rfl | rfl
    · exact ⟨_, he, fun v q => nomatch q⟩
    · exact ⟨o, ho, fun v q => by rw [hd] at q; cases q⟩
  keep := fun i h h' st k => by
    obtain ⟨⟨old, he⟩, hi, hne⟩ := st
    exact ⟨⟨old, k e (by simp) _ he⟩, hi.at fun o q => k it (by simp) o q, hne⟩
  item := by
    intro X hP hw hK hc i pins s σ H E I hf st hg
    subst hP hw hK
    obtain ⟨⟨old, he⟩, hit, hne, hai, hae⟩ := st
    obtain ⟨xs, x, hq, hx⟩ := hg
    obtain ⟨its, rv, p, hz⟩ := I.tuple hq
    obtain ⟨u, hu, ru⟩ := rv.get hx
    have hel : e < s.heap.objs.size := Heap.lt_size he
    have hil : it < s.heap.objs.size := by obtain ⟨_, q, _⟩ := hit; exact Heap.lt_size q
    have lt : i < its.toArray.size := by
      rw [List.size_toArray]
      exact (List.getElem?_eq_some_iff.mp hu).1
    refine wpAny_pyNext_enum_itemD (n := its.toArray.size) (Draws.tuple (A := X.A.in1) (show X.A.in1.handled = none from I.ok.hd hc) it a hai its.toArray) he ⟨hit, p⟩ lt hne (by simp [hne, Ne.symm hae]) fun y h' tk hy ho hit' hT hsz hk => ?_
    have ey : y = u := by
      have : its.toArray[i]? = some u := by simpa using hu
      rw [this] at hy
      exact (Option.some.inj hy).symm
    subst ey
    refine ⟨_, rfl, wpAny_letOwnedTupleGo_enum (s := { s with heap := h', toks := tk + 1 }) ho fun h'' he' sb => ?_⟩
    have hT2 : h''.get? s.heap.objs.size = some { cls := .type "tuple", data := .seq #[.int i tk, y] } := (sb.2 _ (Nat.ne_of_gt hel)).trans hT
    have new : ObjOk X.prog X.w (upd H s.heap.objs.size (.tup [.int (i : Nat), x])) h'' s.heap.objs.size (.tup [.int (i : Nat), x]) :=
      ⟨by show 2 ≤ sizeLine; decide, [.int i tk, y], .cons ⟨_, rfl⟩ (.cons ru .nil), ⟨_, hT2, rfl, _, rfl⟩⟩
    have I1 : Inv X pins σ (upd H s.heap.objs.size (.tup [.int (i : Nat), x])) { s with heap := h'', toks := tk + 1 } :=
      I.turnedNew (ch := [e, it]) (fun b ob hb q => (sb.2 b (fun z => hb (by simp [z]))).trans (hk b ob (fun z => hb (by simp [z])) (fun z => hb (by simp [z])) q)) hf (Nat.le_refl _) new
    refine ⟨.ref s.heap.objs.size, _, I1, rfl, ⟨_, x, rfl, I.hok.fresh (Nat.le_refl _), rfl, fun ys hy => by rw [I.tuple_inj hy hq]; exact hx⟩, ⟨⟨y, ?_⟩, hit'.1.at fun o q => (sb.2 it (Ne.symm hne)).trans q, hne, hai, hae⟩, fun b hb => ?_⟩
    · have e1 : ((i + 1 : Nat) : Int) = (i : Int) + 1 := by omega
      rw [e1]
      exact he'
    · have two : b = e ∨ b = it := by simpa using hb
      have hb' : b < s.heap.objs.size := by
        rcases two with rfl | rfl
        · exact hel
        · exact hil
      rw [upd_ne (Nat.ne_of_lt hb')]
      exact (hf b hb).1
  done := by
    intro X hP hw hK hc i pins s σ H E I hf st hg
    subst hP hw hK
    obtain ⟨⟨old, he⟩, hit, hne, hai, hae⟩ := st
    obtain ⟨xs, hq, hx⟩ := hg
    obtain ⟨its, rv, p, hz⟩ := I.tuple hq
    obtain ⟨f0, f1, f2, f3, f4, f5⟩ := hf it (by simp)
    have hl := rv.length
    have ge : its.toArray.size ≤ i := by rw [List.size_toArray]; omega
    refine wpAny_pyNext_enum_endD (n := i) (P := fun _ _ => False) (fp := [it, a]) (St := fun j h => j = i ∧ h.IsTupleIter it a i ∧ h.IsTuple a its.toArray) ⟨fun _ _ st => let ⟨o, ho, _⟩ := st.2.1; ⟨o, ho⟩, fun j g g' st k => ?_, fun j s Q E hj st _ => ?_, fun s Q E st hE => ?_⟩ he ⟨rfl, hit, p⟩ fun h' eb => ⟨rfl, I.turned (t' := s.toks) (fun b o hb q => eb b o hb q) f0 f1 f3 f4 f5⟩
    · exact ⟨st.1, st.2.1.at fun o q => k it (by simp) o q, st.2.2.at fun o q => k a (by simp) o q⟩
    · exact absurd st.1 (Nat.ne_of_lt hj)
    · exact wpAny_nextOf_tuple_end (I.ok.hd hc) st.2.1 st.2.2 (by simp only [List.getElem?_toArray]; exact List.getElem?_eq_none (by simpa using ge)) hE
  self := fun A i s Q E st h => let ⟨⟨_, he⟩, _⟩ := st; wpAny_pyIter_enum he h
def iEnumT (K : PySem.W.Frag) (ta : TA) : TI := fun σ H R => ta σ H fun vs H1 => ∃ a xs, vs = [.ref a] ∧ SqT K H1 a xs ∧ R (IteT K a) H1
theorem pi_enumT {X : Cx} {e : Expr} {ta : TA} {p pos tpos : Pos} {elts : List Expr} {kk : Nat} (hg : Gl X "enumerate") (hm : X.mg "enumerate" = none) (ha : PA X [e] ta) (hs : starEach [e] X.env = [(false, eval e X.env)] := by rfl) :
    PI X (.Tuple elts kk tpos) (.Call (.Name "enumerate" p) [e] [] pos) (iEnumT X.K ta) := by
  refine ⟨fun pins s σ H R I h => ?_⟩
  refine Call_ (ld_blt I hg hm boot_enumerate (PyProof.Rows.callWith_type1 (thn (ha.run pos pins s σ H _ I h) fun us s1 ⟨vs, H1, I1, r1, q1⟩ => ?_) hs rfl))
  obtain ⟨a, xs, ex, hq, q⟩ := q1
  subst ex
  rw [Vals.ref1 r1]
  obtain ⟨its, rv, p', hz⟩ := I1.tuple hq
  have alt : a < s1.heap.objs.size := by obtain ⟨o, ho, _⟩ := p'; exact Heap.lt_size ho
  refine call_enum1 (begins_tuple a its.toArray) p' fun h' he hit hk => wpAny_pyIter_enum he ?_
  have I2 : Inv X pins σ H1 { s1 with heap := h' } := I1.kept (t' := s1.toks) hk
  refine ⟨s1.heap.objs.size + 1, [s1.heap.objs.size + 1, s1.heap.objs.size], _, _, H1, rfl, I2, turn_enumT a (s1.heap.objs.size + 1) s1.heap.objs.size, ⟨⟨.none, he⟩, ⟨_, hit, rfl, rfl⟩, Nat.succ_ne_self _, Nat.ne_of_lt alt, Nat.ne_of_lt (Nat.lt_succ_of_lt alt)⟩, fun b hb => ?_, q⟩
  have hle : s1.heap.objs.size ≤ b := by
    have two : b = s1.heap.objs.size + 1 ∨ b = s1.heap.objs.size := by simpa using hb
    rcases two with z | z <;> (rw [z]; omega)
  exact I1.fpOk hle (I1.hok.fresh hle)
theorem walk_enumT {K : PySem.W.Frag} {a : Addr} {xs : List V} : Walk (IteT K a) xs.length (fun H => SqT K H a xs) (YPair (fun i => some (.int (i : Nat))) (fun i => xs[i]?)) := by
  refine ⟨fun i _ hi q => ⟨xs, xs[i], q, by simp [hi]⟩, fun _ q => ⟨xs, q, Nat.le_refl _⟩, fun i H v H' _ q y => ?_⟩
  obtain ⟨T, x, h1, h2, h3, h4⟩ := y
  exact ⟨T, .int (i : Nat), x, h1, h2, h3, rfl, h4 xs q⟩
end Pv
end
section
set_option Elab.async false
set_option linter.all false
set_option maxRecDepth 100000
set_option maxHeartbeats 1000000
namespace Pv
open PySem PySem.Spec PyProof.Rows L2 PySem.W

def tLk (t : TE) : TE := fun σ H Q => t σ H fun v H1 => ∃ a kvs, v = .ref a ∧ Rd H1 a (.dK kvs) ∧ ∀ o, (∀ o', H1 a = some (.frz o' (.dK kvs)) → o' = o) → Q v (upd H1 a (.frz o (.dK kvs)))
theorem upd_self {H : Hp} {a : Addr} {u : HO} (h : H a = some u) : upd H a u = H := by
  funext b
  by_cases e : b = a
  · rw [e, upd_same, h]
  · rw [upd_ne e]
theorem pe_lk {X : Cx} {e : Expr} {t : TE} (h : PE X e t) : PE X e (tLk t) := by
  refine ⟨fun pins s σ H Q I q => ?_⟩
  refine thn (h.run pins s σ H _ I q) fun u s1 ⟨v, H1, I1, r1, a, kvs, ev, rd, q1⟩ => ?_
  rcases rd with rd | ⟨o, rd⟩
  · obtain ⟨od, I2⟩ := I1.lock rd trivial
    exact ⟨v, _, I2, r1, q1 od fun o' z => by rw [rd] at z; cases z⟩
  · have := q1 o
    rw [upd_self rd] at this
    exact ⟨v, _, I1, r1, this fun o' z => by rw [rd] at z; cases z; rfl⟩
theorem Rel.lock {K : Fr'} {P : List (Nat × Addr)} {W F H : Hp} {σ : St} {ρ : Ro} {a : Addr} {kvs : List (Key × V)} {o : Obj} (R : Rel K P W F H σ ρ) (hf : Rd F a (.dK kvs)) (ho : ∀ o', H a = some (.frz o' (.dK kvs)) → o' = o) :
    ∃ W', Same W W' ∧ Rel K P W' F (upd H a (.frz o (.dK kvs))) σ ρ ∧ W' a = some (.frz o (.dK kvs)) := by
  have hne : F a ≠ Option.none := by
    rcases hf with e | ⟨o', e⟩ <;> (rw [e]; exact fun z => nomatch z)
  have hH : H a = some (.dK kvs) ∨ H a = some (.frz o (.dK kvs)) := by
    rcases hf with e | ⟨o', e⟩
    · rcases R.fh a _ e with q | ⟨_, od, q⟩
      · exact .inl q
      · right; rw [q, ho _ q]
    · rcases R.fh a _ e with q | ⟨z, _⟩
      · right; rw [q, ho _ q]
      · exact z.elim
  have own : ∀ (i : Nat) (c : Cell) (b : Addr), ρ[i]? = some (some c) → c.owned = true → σ[i]? = some (some (.ref b)) → b ≠ a := by
    intro i c b e ow hv z
    obtain ⟨v, hv', hk⟩ := R.cell i c e
    rw [hv] at hv'
    cases hv'
    cases c with
    | val _ => cases ow
    | scr _ => cases ow
    | own _ => obtain ⟨b', eb, _, h2, _⟩ := hk; cases eb; rw [z] at h2; exact hne h2
    | byr _ => obtain ⟨b', eb, _, h2, _⟩ := hk; cases eb; rw [z] at h2; exact hne h2
  have wa : W a = Option.none ∨ (W a = some (.frz o (.dK kvs)) ∧ H a = some (.frz o (.dK kvs))) := by
    cases q : W a with
    | none => exact .inl rfl
    | some u =>
      right
      have hq := R.wh a u q
      rcases R.dis a (by rw [q]; exact fun z => nomatch z) with z | ⟨o', u', z⟩
      · exact absurd z hne
      · rw [q] at z
        cases z
        rcases hH with y | y
        · rw [hq] at y; cases y
        · rw [hq] at y; cases y; exact ⟨rfl, hq⟩
  rcases wa with wa | ⟨wa, ha⟩
  · refine ⟨upd W a (.frz o (.dK kvs)), fun b u e => by rw [upd_ne (ne_of_none e wa)]; exact e, ?_, upd_same⟩
    constructor
    · intro b u e
      by_cases hb : b = a
      · subst hb
        rw [upd_same]
        rcases hf with q | ⟨o', q⟩
        · rw [q] at e; cases e; exact .inr ⟨trivial, o, rfl⟩
        · rw [q] at e
          cases e
          rcases R.fh b _ q with y | ⟨z, _⟩
          · rw [ho _ y]; exact .inl rfl
          · exact z.elim
      · rw [upd_ne hb]; exact R.fh b u e
    · intro b u e
      by_cases hb : b = a
      · subst hb; rw [upd_same] at e ⊢; exact e
      · rw [upd_ne hb] at e ⊢; exact R.wh b u e
    · exact R.len
    · intro i c e
      obtain ⟨v, hv, hk⟩ := R.cell i c e
      refine ⟨v, hv, ?_⟩
      cases c with
      | val _ => exact hk
      | scr _ => exact hk
      | own _ =>
        obtain ⟨b, eb, h1, h2, h3⟩ := hk
        subst eb
        have ne := own i _ b e rfl hv
        exact ⟨b, rfl, by rw [upd_ne ne]; exact h1, h2, by rw [upd_ne ne]; exact h3⟩
      | byr _ =>
        obtain ⟨b, eb, h1, h2, h3⟩ := hk
        subst eb
        have ne := own i _ b e rfl hv
        exact ⟨b, rfl, by rw [upd_ne ne]; exact h1, h2, by rw [upd_ne ne]; exact h3⟩
    · exact R.inj
    · exact R.pin
    · intro b e
      by_cases hb : b = a
      · subst hb; rw [upd_same]; exact .inr ⟨_, _, rfl⟩
      · rw [upd_ne hb] at e ⊢; exact R.dis b e
  · exact ⟨W, Same.refl W, by rw [upd_self ha]; exact R, wa⟩

theorem walkD_pair {K : Fr'} {W F : Hp} {J : It} {G : Hp → Prop} {fx fy : Nat → Option V} {ds : List D} {n : Nat} (hn : ds.length = n) (w : Walk J n G (YPair fx fy)) (hG : ∀ F' H, Same F F' → Le F' H → SameZ W H → G H)
    (hp : ∀ (i : Nat) (d : D) (x y : V), ds[i]? = some d → fx i = some x → fy i = some y → ∃ dx dy, d = .tuple [dx, dy] ∧ Rp K F x dx ∧ Rp K F y dy ∧ needS [dx, dy] = false) : WalkD K W F J ds := by
  refine ⟨G, _, (by rw [hn]; exact w), hG, ?_⟩
  rintro i d F' H H' v sm l hd ⟨T, x, y, rfl, hT, rfl, h1, h2⟩
  obtain ⟨dx, dy, rfl, r1, r2, hs⟩ := hp i d x y hd h1 h2
  have g := Grow.both l hT (.tup [x, y])
  refine ⟨_, g, .tup ⟨.inl (.inl upd_same), fun z => by rw [hs] at z; cases z⟩ (.cons (r1.mono ?_) (.cons (r2.mono ?_) .nil))⟩
  · exact (Le.of sm).post g.fs
  · exact (Le.of sm).post g.fs
def charsD (x : Str) : List D := x.cps.toList.map fun c => .str ⟨#[c]⟩
theorem walkD_str {K : Fr'} {W F : Hp} {x : Str} : WalkD K W F (Its x) (charsD x) := by
  have hl : (charsD x).length = x.cps.size := by unfold charsD; rw [List.length_map, Array.length_toList]
  refine ⟨_, _, (by rw [hl]; exact walk_str (z := x)), fun _ _ _ _ _ => trivial, ?_⟩
  rintro i d F' H H' v sm l hd ⟨rfl, c, hc, rfl⟩
  unfold charsD at hd
  rw [List.getElem?_map, Array.getElem?_toList, hc] at hd
  cases hd
  exact ⟨F', Grow.refl l, .str _⟩
theorem RpD.at {K : Fr'} {F : Hp} : ∀ {kvs : List (Key × V)} {es : List (D × D)} (i : Nat) (p : D × D), RpD K F kvs es → es[i]? = some p → ∃ k v, kvs[i]? = some (k, v) ∧ p.1 = keyD k ∧ Rp K F v p.2
  | _, _, _, _, .nil, h => by cases h
  | _, _, 0, _, .cons (k := k) (v := v) r t, h => by
    simp only [List.getElem?_cons_zero, Option.some.injEq] at h
    subst h
    exact ⟨k, v, rfl, rfl, r⟩
  | _, _, i + 1, p, .cons r t, h => RpD.at i p t (by simpa using h)
theorem rp_key {K : Fr'} {F : Hp} (k : Key) : Rp K F (kV k) (keyD k) := by
  cases k with
  | inl i => exact .int i
  | inr x => exact .str x
theorem walkD_keys {K : Fr'} {W F : Hp} {a : Addr} {o : Obj} {kvs : List (Key × V)} {es : List (D × D)} (hw : W a = some (.frz o (.dK kvs))) (r : RpD K F kvs es) : WalkD K W F (Itk a o kvs) (es.map (·.1)) := by
  refine ⟨_, _, (by rw [List.length_map, ← r.length]; exact walk_keys), fun F' H _ _ s => s _ _ _ hw, ?_⟩
  rintro i d F' H H' v sm l hd ⟨rfl, k, z, hk, rfl⟩
  rw [List.getElem?_map, Option.map_eq_some_iff] at hd
  obtain ⟨p, hp, rfl⟩ := hd
  obtain ⟨k', v', h1, h2, _⟩ := RpD.at i p r hp
  rw [hk] at h1
  cases h1
  rw [h2]
  exact ⟨F', Grow.refl l, rp_key k⟩
def pairD (p : D × D) : D := .tuple [p.1, p.2]
def zipD (xs ys : List D) : List D := List.zipWith (fun x y => .tuple [x, y]) xs ys
def zipOk (xs : List D) : Bool := xs.all fun d => !needS [d]
def enumD (xs : List D) : List D := xs.mapIdx fun i x => .tuple [.int (i : Nat), x]
theorem enumD_at {K : Fr'} {F : Hp} {us : List V} {xs : List D} (r1 : RpA K F us xs) (i : Nat) (d : D) (x y : V) (hd : (enumD xs)[i]? = some d) (hx : some (V.int (i : Nat)) = some x) (hy : us[i]? = some y) :
    ∃ dx dy, d = .tuple [dx, dy] ∧ Rp K F x dx ∧ Rp K F y dy ∧ needS [dx, dy] = false := by
  obtain ⟨dy, h2, q2⟩ := r1.get' i y hy
  unfold enumD at hd
  rw [List.getElem?_mapIdx, h2] at hd
  cases hd
  cases hx
  exact ⟨_, dy, rfl, .int _, q2, rfl⟩

section
variable {X : Cx} {tg e : Expr} {f : SemE}
def walkOf : D → Option (List D)
  | .list ds => some ds
  | .tuple ds => some ds
  | .str x => some (charsD x)
  | .dict es => if isX (.dict es) = true then none else some (es.map (·.1))
  | _ => none
def iOf (w : D → Option (List D)) (f : SemE) : SemI := fun ρ => (f ρ).bind fun (r, ρ1) => (frz ρ1 r).bind fun (d, ρ2) => (w d).bind fun ds => some (ds, ρ2)
theorem di_any (h : DE X e f) (hl : PI X tg e (iList X.K (tD X.K f))) (ht : PI X tg e (iTup X.K (tD X.K f))) (hs : PI X tg e (iStr (tD X.K f))) (hk : PI X tg e (iKeys (tLk (tD X.K f)))) : DI X tg e (iOf walkOf f) := by
  refine ⟨⟨fun pins s σ H Q I q => ?_⟩⟩
  obtain ⟨P, W, F, ρ, ds, ρ', R, ev, q⟩ := q
  simp only [iOf, Option.bind_eq_some_iff, Prod.exists] at ev
  obtain ⟨r, ρ1, e1, d, ρ2, e2, ds', e3, e4⟩ := ev
  cases e4
  cases d with
  | none => cases e3
  | bool _ => cases e3
  | int _ => cases e3
  | list xs =>
    cases e3
    exact (di_list h hl).pi.run pins s σ H Q I ⟨P, W, F, ρ, ds, ρ', R, by simp only [iL, Option.bind_eq_some_iff, Prod.exists]; exact ⟨r, ρ1, e1, _, _, e2, _, rfl, rfl⟩, q⟩
  | tuple xs =>
    cases e3
    exact (di_tup h ht).pi.run pins s σ H Q I ⟨P, W, F, ρ, ds, ρ', R, by simp only [iT, Option.bind_eq_some_iff, Prod.exists]; exact ⟨r, ρ1, e1, _, _, e2, _, rfl, rfl⟩, q⟩
  | str x =>
    cases e3
    refine hs.run pins s σ H Q I ⟨P, W, F, ρ, r, ρ1, R, e1, fun v H1 F1 x1 R1 o1 => ?_⟩
    obtain ⟨F2, x2, R2, rp⟩ := R1.frz o1 e2
    cases rp
    exact ⟨x, rfl, q _ H1 W F2 (Same.refl W) (x1.trans x2) R2 walkD_str⟩
  | dict es =>
    have e3 : (if isX (.dict es) = true then Option.none else some (es.map (·.1))) = some ds := e3
    split at e3
    · cases e3
    rename_i hx
    cases e3
    refine hk.run pins s σ H Q I ⟨P, W, F, ρ, r, ρ1, R, e1, fun v H1 F1 x1 R1 o1 => ?_⟩
    obtain ⟨F2, x2, R2, rp⟩ := R1.frz o1 e2
    cases rp with
    | exc s n => exact (hx rfl).elim
    | exl s t n r => exact (hx rfl).elim
    | @dic a kvs _ s r =>
    refine ⟨a, kvs, rfl, R2.fh.rd s, fun o ho => ⟨a, o, rfl, .inl ⟨kvs, upd_same, ?_⟩⟩⟩
    obtain ⟨W', sw, R3, hw⟩ := R2.lock (o := o) s ho
    exact q _ _ W' F2 sw (x1.trans x2) R3 (walkD_keys hw r)
def itemsOf : D → Option (List D)
  | .dict es => if isX (.dict es) = true then none else some (es.map pairD)
  | _ => none
def valsOf : D → Option (List D)
  | .dict es => if isX (.dict es) = true then none else some (es.map (·.2))
  | _ => none
def iEn (f : SemA) : SemI := fun ρ => (f ρ).bind fun (ds, ρ1) => match ds with
  | [.list xs] => some (enumD xs, ρ1)
  | [.tuple xs] => some (enumD xs, ρ1)
  | _ => none
theorem enumD_len (xs : List D) : (enumD xs).length = xs.length := List.length_mapIdx
theorem di_enum {fa : SemA} {e' : Expr} (hl : PI X tg e' (iEnum X.K (tDA X.K fa))) (ht : PI X tg e' (iEnumT X.K (tDA X.K fa))) : DI X tg e' (iEn fa) := by
  refine ⟨⟨fun pins s σ H Q I q => ?_⟩⟩
  obtain ⟨P, W, F, ρ, ds, ρ', R, ev, q⟩ := q
  simp only [iEn, Option.bind_eq_some_iff, Prod.exists] at ev
  obtain ⟨es, ρ1, e1, e2⟩ := ev
  split at e2
  · next xs =>
    cases e2
    refine hl.run pins s σ H Q I ⟨P, W, F, ρ, _, _, R, e1, fun vs H1 F1 x1 R1 rp => ?_⟩
    cases rp with | cons r rn =>
    cases rn
    cases r with
    | @lst a us _ sq r =>
    exact ⟨a, us, rfl, .inl (.inl (R1.fh.lst sq)), q _ H1 W F1 (Same.refl W) x1 R1 (walkD_pair (by rw [enumD_len, ← r.length]) walk_enum (fun F' H' s l _ => .inl (.inl (l.lst (s _ _ sq)))) (enumD_at r))⟩
  · next xs =>
    cases e2
    refine ht.run pins s σ H Q I ⟨P, W, F, ρ, _, _, R, e1, fun vs H1 F1 x1 R1 rp => ?_⟩
    cases rp with | cons r rn =>
    cases rn
    cases r with
    | @tup a us _ sq r =>
    exact ⟨a, us, rfl, R1.fh.sqt sq.1, q _ H1 W F1 (Same.refl W) x1 R1 (walkD_pair (by rw [enumD_len, ← r.length]) walk_enumT (fun F' H' s l _ => l.sqt ((Le.of s).sqt sq.1)) (enumD_at r))⟩
  · cases e2
def iZp (f : SemA) : SemI := fun ρ => (f ρ).bind fun (ds, ρ1) => match ds with
  | [.list xs, .list ys] => if zipOk xs = true then some (zipD xs ys, ρ1) else none
  | [.tuple xs, .tuple ys] => if zipOk xs = true then some (zipD xs ys, ρ1) else none
  | _ => none
def rng3 (i c : Int) (n : Nat) : List D := (List.range n).map fun k => .int (i + (k : Nat) * c)
def iR3 (f : SemP) : SemI := fun ρ => (f ρ).bind fun (rs, ρ1) => (looks ρ1 rs).bind fun ds => match ds with
  | [.int i, .int j, .int c] => if c ≠ 0 ∧ c.natAbs < 1073741824 ∧ Builtin.Range.small i j c = true ∧ 0 ≤ Builtin.Range.rangeSize i j c then some (rng3 i c (Builtin.Range.rangeSize i j c).toNat, ρ1) else none
  | _ => none
end
end Pv
end
section
set_option Elab.async false
set_option linter.all false
set_option maxRecDepth 100000
set_option maxHeartbeats 1000000
namespace Pv
open PySem PySem.Spec PyProof.Rows L2 PySem.W
theorem keyOf_noX {d : D} {k : Key} (e : keyOf d = some k) : isX d = false := by
  cases d <;> first | rfl | cases e

section
variable {K : Fr'} {g : SemG} {t : SemT} {el : SemE} {vs us : List Nat}
end
section
variable (g : SemG) (t : SemT) (it1 : SemI) (g1 : SemG) (t1 : SemT) (el : SemE) (vs vs1 : List Nat)
def lc2L : List D → Nat → Ro → Option (List D × Ro)
  | [], _, ρ => some ([], ρ)
  | d :: ds, n, ρ => (g d ρ).bind fun ρ1 => (t ρ1).bind fun (b, ρ2) => if b = true then (it1 ρ2).bind fun (ds1, ρ3) => if clearAt ρ3 vs1 = true then (lcL g1 t1 el vs1 ds1 n ρ3).bind fun (zs, ρ4) => (lc2L ds (n + zs.length) (wipeR ρ4 vs)).bind fun (zs2, ρ5) => some (zs ++ zs2, ρ5) else none
    else lc2L ds n (wipeR ρ2 vs)
def sLc2 (it : SemI) : SemE := fun ρ => (it ρ).bind fun (ds, ρ1) => if clearAt ρ1 vs = true then (lc2L g t it1 g1 t1 el vs vs1 ds 0 ρ1).bind fun (zs, ρ2) => some (.fr (.list zs), ρ2) else none
end
section
variable {X : Cx}
end

section
variable (g : SemG) (t : SemT) (kf vf : SemE) (vs : List Nat)
def dcL : List D → List (D × D) → Ro → Option (List (D × D) × Ro)
  | [], es, ρ => some (es, ρ)
  | d :: ds, es, ρ => (g d ρ).bind fun ρ1 => (t ρ1).bind fun (b, ρ2) => if b = true then (kf ρ2).bind fun (r, ρ3) => (frz ρ3 r).bind fun (kd, ρ4) => (keyOf kd).bind fun k => (vf ρ4).bind fun (r2, ρ5) => (frz ρ5 r2).bind fun (z, ρ6) => if es.length < sizeLine then dcL ds (dput es k z) (wipeR ρ6 vs) else none
    else dcL ds es (wipeR ρ2 vs)
def sDc (it : SemI) : SemE := fun ρ => (it ρ).bind fun (ds, ρ1) => if clearAt ρ1 vs = true then (dcL g t kf vf vs ds [] ρ1).bind fun (es, ρ2) => some (.fr (.dict es), ρ2) else none
end
section
variable {X : Cx}
def sDct0 : SemE := fun ρ => some (.fr (.dict []), ρ)
theorem de_dct0 {pos : Pos} : DE X (.Dict [] [] pos) sDct0 := by
  refine ⟨pe_dnewK.pvi fun σ H Q q => ?_⟩
  obtain ⟨P, W, F, ρ, r, ρ', R, e, q⟩ := q
  cases e
  intro p hp
  exact (post_of (zb := (.dict [], true)) R fun v H' F' x R' o => q v H' F' x R' o).dct R.fh .nil p hp
end

def sPar (i j : Nat) (f : SemM) : SemS := fun ρ => (f ρ).bind fun (rs, ρ1) => match rs with
  | [.val a, .val b] => (store i (.val a) ρ1).bind fun ρ2 => (store j (.val b) ρ2).bind fun ρ3 => some (.nx ρ3)
  | [.val a, .fr b] => (store i (.val a) ρ1).bind fun ρ2 => (store j (.fr b) ρ2).bind fun ρ3 => some (.nx ρ3)
  | [.fr a, .val b] => (store i (.fr a) ρ1).bind fun ρ2 => (store j (.val b) ρ2).bind fun ρ3 => some (.nx ρ3)
  | [.fr a, .fr b] => (store i (.fr a) ρ1).bind fun ρ2 => (store j (.fr b) ρ2).bind fun ρ3 => some (.nx ρ3)
  | _ => none
section
variable {X : Cx}
end
end Pv
end
section
set_option Elab.async false
set_option linter.all false
set_option maxRecDepth 100000
set_option maxHeartbeats 1000000
namespace Pv
open PySem PySem.Spec PyProof.Rows L2 PySem.W

abbrev OpL := D → List D → Option (D × Bool)
def sMeth (T : String) (o : OpL) (f : SemE) (g : SemA) : SemE := fun ρ => (f ρ).bind fun (r, ρ1) => (look ρ1 (settle r)).bind fun d0 => if kindB T d0 = true then (g ρ1).bind fun (ds, ρ2) => (look ρ2 (settle r)).bind fun d => (o d ds).bind fun zb => some (mkR zb, ρ2) else none
section
variable {X : Cx} {e : Expr} {es : List Expr} {name x : Str} {apos cpos pos npos : Pos} {id : String} {i : Nat} {o : OpL} {f : SemE} {g : SemA} {e0 : Expr}
def dmerge (es fs : List (D × D)) : Option (List (D × D)) := match fs with
  | [] => some es
  | (k, d) :: r => (keyOf k).bind fun k' => dmerge (dput es k' d) r
def updateM : OpM
  | .dict es, [.dict fs] => if es.length + fs.length ≤ sizeLine then (dmerge es fs).map fun gs => (.dict gs, .none) else none
  | _, _ => none
end
end Pv
end
section
set_option Elab.async false
set_option linter.all false
set_option maxRecDepth 100000
set_option maxHeartbeats 1000000
namespace Pv
open PySem PySem.Spec PyProof.Rows L2 PySem.W

structure Cal (P : Program) (w : World) (K : Fr') (mg : Str → Option Value) (base : Heap) (x : Str) (k : Nat) (ps : List Str) (ms : List Md) (fn : Fn) : Prop where
  ex : ∃ f fd, FnD P w K mg base k f fd ps ms fn ∧ Binds K fd ps [] ∧ PySem.W.keepIn K (.ref f) = true ∧ mg x = some (.ref f)
structure Here (K : Fr') (mg : Str → Option Value) (x : Str) (st : Stmt) : Prop where
  ex : ∃ f fd, Fun K x x st f fd ∧ mg x = some (.ref f)
section
variable {P : Program} {w : World} {K : Fr'} {mg : Str → Option Value} {base : Heap} {x : Str} {k : Nat} {ps N : List Str} {ms : List Md} {b : SemS} {st : Stmt}
theorem Here.mk_ {h : Heap} {f : Addr} {oc : Value} {od an : Option Addr} {osl : Array (Option Value)} {kV doc pm cdv ct : Value} (X : K.In h) (G : h.Ns mainGlobals mg) (a : PySem.W.nsIn K mainGlobals x = some (some (.ref f)))
    (l : K.lookup f = some ⟨oc, od, .func (PySem.W.fnOf x x (defArgs st) (defBody st) (defScope st) .none kV doc pm an cdv ct), osl⟩) (c : PySem.W.codeIn K cdv x = true) (kp : PySem.W.keepIn K (.ref f) = true) : Here K mg x st :=
  ⟨⟨f, _, fun_mk l c kp, PySem.W.mg_of X G a⟩⟩
theorem Cal.mk_ (h : Here K mg x st) (S : FnScope N ps (defScope st)) (hl : ps.length = ms.length)
    (hb : ∀ (kV doc pm : Value) (an : Option Addr) (cdv ct : Value) (us : List Value), us.length = ps.length → bindArgs (PySem.W.fnOf x x (defArgs st) (defBody st) (defScope st) .none kV doc pm an cdv ct) ⟨us, []⟩ = pure (ps.zip us))
    (hbody : ∀ (f : Addr) (cdv : Value) (A : Around) (outer : List Env) (s : Shared) (H : Hp) (E : XK), Room k (A.deeper (envOfC x (defScope st) s.heap.objs.size f cdv)) → A.guards = some [] → DSs (cxOf CX0 P w K mg base N x (defScope st) f cdv A outer s H E).nox (defBody st) b) :
    Cal P w K mg base x (k + 1) ps ms (fnOf N.length ms b) := by
  obtain ⟨f, fd, F, m⟩ := h.ex
  exact ⟨⟨f, fd, fnD_of F S hl (hbody f), F.binds hb, F.kp, m⟩⟩
end
section
variable {X : Cx} {k j : Nat} {x : Str} {ps : List Str} {ms : List Md} {fn : Fn} {e : Expr} {es : List Expr} {g : SemM} {p pos : Pos}
theorem de_cal (c : Cal X.prog X.w X.K X.mg X.base x j ps ms fn) (hr : Room k X.A) (hj : j ≤ k) (gd : X.A.guards = some []) (hg : Gl X x) (ha : DM X (e :: es) ms g) (hdb : (x == ("__debug__" : Str)) = false := by decide)
    (he : starEach (e :: es) X.env = (false, eval e X.env) :: starEach es X.env := by rfl) (hpl : (backTo pos (starEach es X.env)).any (·.1) = false := by rfl) : DE X (.Call (.Name x p) (e :: es) [] pos) (sCall ms fn g) := by
  obtain ⟨f, fd, F, b, kp, m⟩ := c.ex
  exact de_call (F.mono hj) hr gd hg m kp b ha hdb he hpl
def sNeg (f : SemE) : SemE := fun ρ => (f ρ).bind fun (r, ρ1) => (look ρ1 (settle r)).bind fun d => (asI d).bind fun i => some (.val (.int (-i)), ρ1)
end
end Pv
end
section
set_option Elab.async false
set_option linter.all false
set_option maxRecDepth 100000
set_option maxHeartbeats 1000000
namespace Pv
open PySem PySem.Spec PyProof.Rows L2 HT
section
variable {prog : Program} {w : World} {A : Around} {E : Value → Shared → Prop} {s : Shared}
end
section
variable {X : Cx}
end
end Pv
end
section
set_option Elab.async false
set_option linter.all false
set_option maxRecDepth 100000
set_option maxHeartbeats 1000000
namespace Pv
open PySem PySem.Spec PyProof.Rows L2 PySem.W

theorem hu_room {A : Around} {k : Nat} (hr : Room k A) : A.units + 100 < cLine := by
  have := hr.un
  omega
theorem hu64 {n : Nat} (h : n + 100 < cLine) : n + 64 < cLine := by omega
theorem hu65 {n : Nat} (h : n + 100 < cLine) : n + 65 < cLine := by omega
theorem hu1 {n : Nat} (h : n + 100 < cLine) : n + 1 < cLine := by omega
theorem pass_nox {M : Model} {A : Around} {env : Env} : PassesOwn M A env (fun _ _ => False) := PassesOwn.never
section
variable {X : Cx} {x : Str} {pos p q0 : Pos}
theorem or_eqH (hu : X.A.units + 100 < cLine) : OpR X (compareOp .Eq) (rS X.K eqF) := or_eq (hu65 hu)
theorem or_neH (hu : X.A.units + 100 < cLine) : OpR X (compareOp .NotEq) (rS X.K neF) := or_ne (hu64 hu)
theorem or_inH (hu : X.A.units + 100 < cLine) : OpR X (compareOp .In) (rS X.K inF) := or_in (hu65 hu)
def scrAt (ρ : Ro) (i : Nat) : Option (List D) := match ρ[i]? with
  | some (some (.scr ds)) => some ds
  | _ => none
theorem Rel.scr {K : Fr'} {P : List (Nat × Addr)} {W F H : Hp} {σ : St} {ρ : Ro} {i : Nat} {ds : List D} (R : Rel K P W F H σ ρ) (h : scrAt ρ i = some ds) : ∃ a xs, σ[i]? = some (some (.ref a)) ∧ SqL K F a xs ∧ RpA K F xs ds := by
  unfold scrAt at h
  split at h
  · next es e =>
    cases h
    obtain ⟨v, hv, a, xs, rfl, s, r⟩ := R.cell i _ e
    exact ⟨a, xs, hv, s, r⟩
  · cases h
def sLenScr (i : Nat) : SemE := fun ρ => (scrAt ρ i).bind fun ds => some (.val (.int ds.length), ρ)
theorem de_lenScr {i : Nat} (hg : Gl X "len") (hm : X.mg "len" = none) (hx : PE X (.Name x q0) (tVar i)) (hs : starEach [.Name x q0] X.env = (false, eval (.Name x q0) X.env) :: starEach [] X.env := by rfl) (hpl : (backTo pos (starEach [] X.env)).any (·.1) = false := by rfl) :
    DE X (.Call (.Name "len" p) [.Name x q0] [] pos) (sLenScr i) := by
  refine ⟨(pe_callB (pos := pos) (p := p) call_len hg hm rfl (pa_cons hx pa_nil hs) (by decide) (by decide) hs hpl).pvi fun σ H Q q => ?_⟩
  obtain ⟨P, W, F, ρ, r, ρ', R, ev, q⟩ := q
  simp only [sLenScr, Option.bind_eq_some_iff] at ev
  obtain ⟨ds, e1, e2⟩ := ev
  cases e2
  obtain ⟨a, xs, hv, s, r⟩ := R.scr e1
  refine ⟨_, hv, .ref a, xs.length, rfl, .inl ⟨xs, R.fh.sql s, rfl⟩, ?_⟩
  rw [r.length]
  exact q _ H F (Ext.refl _ _) R (.int _)
def sIxScr (i : Nat) (f : SemE) : SemE := fun ρ => (scrAt ρ i).bind fun _ => (f ρ).bind fun (r, ρ1) => (look ρ1 r).bind fun d => (asI d).bind fun k => (scrAt ρ1 i).bind fun ds => (atI ds k).bind fun z => some (.val z, ρ1)
theorem de_ixScr {i : Nat} {e : Expr} {f : SemE} (hx : PE X (.Name x q0) (tVar i)) (he : DE X e f) (hs : PlainIx e := by intro _ _; rfl) : DE X (.Subscript (.Name x q0) e pos) (sIxScr i f) := by
  refine ⟨(pe_ix (ix_list (X := X)) hx he.pe hs).pvi fun σ H Q q => ?_⟩
  obtain ⟨P, W, F, ρ, r, ρ', R, ev, q⟩ := q
  simp only [sIxScr, Option.bind_eq_some_iff, Prod.exists] at ev
  obtain ⟨ds0, e0, r1, ρ1, e1, d, e2, k, e3, ds, e4, z, e5, e6⟩ := ev
  cases e6
  obtain ⟨a, xs, hv, s, r⟩ := R.scr e0
  refine ⟨_, hv, P, W, F, ρ, r1, _, R, e1, fun v H1 F1 x1 R1 o1 => ?_⟩
  have lk := R1.lk o1 e2
  rw [asI_eq e3] at lk
  obtain ⟨a', xs', hv', s', r'⟩ := R1.scr e4
  rw [hv] at hv'
  cases hv'
  obtain ⟨u, hu, rp⟩ := r'.at e5
  exact ⟨a, xs', k, u, rfl, lk.int, R1.fh.sql s', hu, q _ H1 F1 x1 R1 rp⟩

def tupleF2 : OpN
  | [.str x] => if x.cps.size ≤ sizeLine then some (.tuple (charsD x), false) else none
  | ds => tupleF ds
def revF : D → Option (D × Bool)
  | .list ds => some (.list ds.reverse, true)
  | .tuple ds => some (.tuple ds.reverse, false)
  | _ => none
def sRev (f : SemE) : SemE := fun ρ => (f ρ).bind fun (r, ρ1) => (look ρ1 (settle r)).bind fun d => (revF d).bind fun zb => some (mkR zb, ρ1)
section
variable {e tg a b c : Expr} {f : SemE} {fa : SemA} {fp : SemP} {i : Nat} {pos' apos cpos tpos : Pos} {elts : List Expr} {kk : Nat}
theorem dw_dt {h : SemT} (k : DW X e h) : DT X e h := k.dt
theorem ds_setN (hN : X.N.Nodup) (hi : X.N[i]? = some x) (hx : Loc X.env.scope x) (he : DE X e f) (hs : swapsWith e (some (.Name x pos')) pos.line X.env = pure false := by rfl)
    (hf : X.fn x = true ∨ X.env.scope.names.lookup x = some .local := by first | exact .inl rfl | exact .inr rfl | assumption) : DS X (.Assign [.Name x pos'] e pos) (sSet i f) := ds_set (ps_set hN hi hx he.pe hs hf)
theorem di_anyW (h : DE X e f) : DI X tg e (iOf walkOf f) := di_any h (pi_list h.pe) (pi_tup h.pe) (pi_str h.pe) (pi_keys (pe_lk h.pe))
theorem di_rangeW1 (hg : Gl X "range") (hm : X.mg "range" = none) (h : DP X [a] fp) (hs : starEach [a] X.env = [(false, eval a X.env)] := by rfl) : DI X tg (.Call (.Name "range" p) [a] [] pos) (iR1 fp) := di_range1 h (pi_range1 hg hm h.pa hs)
theorem di_enumW (hg : Gl X "enumerate") (hm : X.mg "enumerate" = none) (h : DA X [a] fa) (hs : starEach [a] X.env = [(false, eval a X.env)] := by rfl) : DI X (.Tuple elts kk tpos) (.Call (.Name "enumerate" p) [a] [] pos) (iEn fa) := di_enum (pi_enum hg hm h.pa hs) (pi_enumT hg hm h.pa hs)
end
end
end Pv
end
section
set_option Elab.async false
set_option linter.all false
set_option maxRecDepth 100000
set_option maxHeartbeats 1000000
namespace Pv
open PySem PySem.Spec PyProof.Rows L2 PySem.W

def scriptH (a : Addr) (vs : List Value) (ns : List Int) : Hp := fun b => if b = a then some (.frz { cls := .type "list", data := .seq vs.toArray } (.lst (ns.map V.int))) else none
theorem rp_ints {K : Fr'} {F : Hp} : ∀ ns : List Int, RpA K F (ns.map V.int) (ns.map PyData.int)
  | [] => .nil
  | n :: ns => .cons (.int n) (rp_ints ns)
theorem sp_script {K : Fr'} {H : Hp} {a : Addr} {ns : List Int} {fn : Fn} (hS : SqL K H a (ns.map V.int)) (h : fn [.list (ns.map PyData.int)] = some ((.bool true, false), [])) : spF K [.s] fn [.ref a] H (fun v _ => v = .bl true) fun _ _ _ => False := by
  have w0 : Same (fun _ => Option.none) H := fun b o e => nomatch (show (Option.none : Option HO) = some o from e)
  refine ⟨fun _ => Option.none, H, [.list (ns.map PyData.int)], (.bool true, false), [], Le.refl H, w0, fun b e => absurd rfl e, ⟨⟨_, a, _, rfl, rfl, hS, rp_ints ns⟩, trivial⟩, h, fun v H' F' x l s p r => ?_⟩
  cases r
  rfl
theorem law_callG {P : Program} {w : World} {K : Fr'} {mg mb : Str → Option Value} {k : Nat} {fa a : Addr} {x nm : Str} {fn : Fn} {s₁ : Shared} {vs : List Value} {ns : List Int}
    (KX : K.In s₁.heap) (hns : s₁.heap.Ns mainGlobals mg) (hb : s₁.heap.Ns builtinsNs mb) (hbb : ∀ x : Str, x ≠ "__name__" → mb x = bootBuiltins x) (hlim : s₁.heap.NoLimit) (hg : s₁.gens = #[])
    (ha : s₁.heap.get? a = some { cls := .type "list", data := .seq vs.toArray }) (hi : IntsAre vs ns) (hl : ns.length ≤ sizeLine) (hr : Room k callerA)
    (C : ∀ base : Heap, K.In base → base.Ns mainGlobals mg → Cal P w K mg base nm k [x] [.s] fn) (hm : mg nm = some (.ref fa)) (hfn : fn [.list (ns.map PyData.int)] = some ((.bool true, false), [])) :
    codeAny (model P w) callerA (.call (.ref fa) ⟨[.ref a], []⟩) (fun r s' => r = .ok (.ret (.bool true)) ∧ OldK s₁.heap s'.heap ∧ s'.os = s₁.os ∧ AllBare s'.gens) s₁ := by
  have rv := vals_ints hi
  have body : ∀ H : Hp, (∀ b, H b = none ∨ ∃ o xs, H b = some (.frz o (.lst xs))) → SqL K H a (ns.map V.int) → HOk P w H s₁.heap → (∀ b, H b ≠ none → b = a ∧ K.lookup a = none) →
      codeAny (model P w) callerA (.call (.ref fa) ⟨[.ref a], []⟩) (fun r s' => r = .ok (.ret (.bool true)) ∧ OldK s₁.heap s'.heap ∧ s'.os = s₁.os ∧ AllBare s'.gens) s₁ := by
    intro H hO hS hok hA
    have dictFree : ∀ {b : Addr} {o : Obj} {es : Array DictEntry} {ep : Nat}, s₁.heap.get? b = some o → o.data = .dict es ep → H b = none := by
      intro b o es ep e d
      cases q : H b with
      | none => rfl
      | some u =>
        have e' := (hA b (by rw [q]; exact fun z => nomatch z)).1
        rw [e', ha] at e
        cases e
        exact nomatch (show Data.seq vs.toArray _ = Data.dict es ep from d)
    have nsOf : ∀ {b : Addr} {m : Str → Option Value}, s₁.heap.Ns b m → (hidT s₁.heap H).Ns b m := by
      intro b m ⟨o, es, ep, e, d, r⟩
      exact ⟨o, es, ep, hidT_get e (dictFree e d), d, r⟩
    have kin : K.In (hidT s₁.heap H) := by
      intro b o e
      refine hidT_get (KX b o e) ?_
      cases q : H b with
      | none => rfl
      | some u =>
        obtain ⟨e1, e2⟩ := hA b (by rw [q]; exact fun z => nomatch z)
        rw [e1, e2] at e
        cases e
    have md : Mod K mg (hidT s₁.heap H) := ⟨kin, nsOf hns, ⟨mb, nsOf hb, hbb⟩, by obtain ⟨mc, h1, h2⟩ := hlim; exact ⟨mc, nsOf h1, h2⟩⟩
    have env : Env0 P w K mg (hidT s₁.heap H) callerA [] s₁ H := ⟨rfl, md, fun b o e => of_hidT e, Nat.le_of_eq (hidT_size _ _), trivial, fun b hb => absurd hb List.not_mem_nil, hok, .of_eq hg⟩
    obtain ⟨f, fd, F, bd, _, hm'⟩ := (C _ kin (nsOf hns)).ex
    rw [hm] at hm'
    cases hm'
    refine codeAny_mono (F.run callerA [] s₁ H ⟨[.ref a], []⟩ [.ref a] [.ref a] _ (fun _ _ _ => False) hr rfl env (by have := bd s₁ [.ref a] KX rfl; simpa using this) (.cons rfl .nil) (sp_script hS hfn)) fun r s' h => ?_
    cases r with
    | error e => exact h.elim
    | ok fl =>
      cases fl with
      | next => exact h.elim
      | brk => exact h.elim
      | cont => exact h.elim
      | ret u =>
        obtain ⟨v, H', os, bare, un, hok', r', q⟩ := h
        subst q
        cases r'
        refine ⟨rfl, OldK.of_keep fun b o e => ?_, os, bare⟩
        rcases hO b with z | ⟨ob, xs, z⟩
        · exact un.keep b o e z List.not_mem_nil List.not_mem_nil
        · have z2 := un.frzs b ob _ z
          obtain ⟨e1, _⟩ := hok b _ z
          obtain ⟨e2, _⟩ := hok' b _ z2
          rw [e] at e1
          cases e1
          exact e2
  cases hk : K.lookup a with
  | some o =>
    have e := KX a o hk
    rw [ha] at e
    cases e
    exact body (fun _ => none) (fun _ => .inl rfl) (.inr ⟨_, vs.toArray, _, hk, rfl, rfl, rfl, by rw [List.size_toArray, hi.length]; exact hl, by simpa using rv⟩) (fun b u z => nomatch (show (none : Option HO) = some u from z)) fun b z => absurd rfl z
  | none =>
    have at_ : scriptH a vs ns a = some (.frz { cls := .type "list", data := .seq vs.toArray } (.lst (ns.map V.int))) := if_pos rfl
    have off : ∀ b, b ≠ a → scriptH a vs ns b = none := fun b hb => if_neg hb
    refine body (scriptH a vs ns) (fun b => ?_) (.inl (.inr ⟨_, at_⟩)) (fun b u z => ?_) fun b z => ⟨?_, hk⟩
    · by_cases e : b = a
      · rw [e]; exact .inr ⟨_, _, at_⟩
      · exact .inl (off b e)
    · by_cases e : b = a
      · subst e
        rw [at_] at z
        cases z
        exact ⟨ha, by rw [List.length_map]; exact hl, vs, _, rv, ha⟩
      · rw [off b e] at z
        cases z
    · exact Classical.byContradiction fun e => z (off b e)
theorem walk_ofG {l : PySem.W.OpenLaw} {n k : Nat} {q : Program} {loose : List Str} {XP : (Str → Option Value) → Heap → Prop} {YP : World → Heap → Prop} {d : DefRec} {K : Params → PySem.W.Frag} {fn : Fn} {x : Str}
    (hn : l.most = some n) (hn2 : n ≤ sizeLine) (hdf : d.params.defaults = []) (hr : Room k callerA) (hY : ∀ (w : World) (h : Heap), YP w h → (K w.params).In h)
    (F : ∀ (w : World) (mg : Str → Option Value) (h : Heap), (K w.params).In h → h.Ns mainGlobals mg → ∀ base : Heap, (K w.params).In base → base.Ns mainGlobals mg → Cal l.prog w (K w.params) mg base d.name k [x] [.s] fn)
    (hfn : ∀ ns : List Int, ns.length ≤ n → (∀ z ∈ ns, Builtin.Int.intBits z ≤ 1048576) → fn [.list (ns.map PyData.int)] = some ((.bool true, false), [])) :
    PySem.W.WalkO q loose XP YP l.row.toRowW d [] (fun f vs => PySem.call f vs) := by
  refine Att.attach_callB hn hdf fun w s₀ s₁ mg mb fa o pm cd doc a vs ns G Y ho hd hcd hmg hobj hints hlen hbits hg => ?_
  have KX := hY w _ Y
  exact law_callG KX G.T.g G.T.b G.T.builtins G.T.nolimit hg hobj hints (Nat.le_trans hlen hn2) hr (F w mg _ KX G.T.g) hmg (hfn ns hlen hbits)
end Pv
end
section
set_option Elab.async false
set_option linter.all false
set_option maxRecDepth 100000
set_option maxHeartbeats 1000000
namespace Pv
open PySem

section
variable {g : SemG} {t : SemT} {el : SemE} {vs : List Nat} {ρ : Ro}
end
theorem asBls_map {α : Type} (f : α → Bool) : ∀ xs : List α, asBls (xs.map fun x => PyData.bool (f x)) = some (xs.map f)
  | [] => rfl
  | x :: r => by simp only [List.map_cons, asBls, asBls_map f r, Option.map_some]
theorem asInts_map {α : Type} (f : α → Int) : ∀ xs : List α, asInts (xs.map fun x => PyData.int (f x)) = some (xs.map f)
  | [] => rfl
  | x :: r => by simp only [List.map_cons, asInts, asInts_map f r, Option.map_some]
end Pv
end
section
set_option Elab.async false
set_option linter.all false
set_option maxRecDepth 100000
set_option maxHeartbeats 1000000
namespace Pv
open PySem
end Pv
end
section
set_option Elab.async false
set_option linter.all false
set_option autoImplicit false
set_option maxRecDepth 100000
set_option maxHeartbeats 1000000
namespace Pv.Ev
open PySem Pv L2
structure Tg {α β : Type} (f : α → Option β) : Type where
def Bd {α β : Type} (f : α → Option β) (a : Option α) (t : Tg f) : Option β := a.bind f
def bd {α β : Type} (a : Option α) (f : α → Option β) : Option β := Bd f a ⟨⟩
@[scoped simp ↓] theorem bd_u {α β : Type} (a : Option α) (f : α → Option β) : bd a f = Bd f a ⟨⟩ := rfl
@[scoped simp ↓] theorem Bd_pre {α β : Type} (x : α) (f : α → Option β) (t : Tg f) : Bd f (some x) t = f x := rfl
@[scoped simp] theorem Bd_some {α β : Type} (x : α) (f : α → Option β) (t : Tg f) : Bd f (some x) t = f x := rfl
@[scoped simp] theorem Bd_none {α β : Type} (f : α → Option β) (t : Tg f) : Bd f none t = none := rfl
def varC (i : Nat) (ρ : Ro) : Option (Option Cell) → Option (Rv × Ro)
  | some (some (.val d)) => some (.val d, ρ)
  | some (some (.own _)) => some (.at i, ρ)
  | some (some (.byr _)) => some (.at i, ρ)
  | _ => none
def lookC : Option (Option Cell) → Option D
  | some (some (.val d)) => notX d
  | some (some (.own d)) => some d
  | some (some (.byr d)) => some d
  | _ => none
def frzC (i : Nat) (ρ : Ro) : Option (Option Cell) → Option (D × Ro)
  | some (some (.val d)) => some (d, ρ)
  | some (some (.own d)) => some (d, ρ.set i (some (.val d)))
  | _ => none
def slotC : Option (Option Cell) → Bool
  | none => false
  | some (some (.byr _)) => false
  | some (some (.scr _)) => false
  | _ => true
def retC (i : Nat) (ρ : Ro) : Option (Option Cell) → Option Out
  | some (some (.own d)) => some (.rt (.fr d) (ρ.set i none))
  | some (some (.val d)) => some (.rt (.val d) ρ)
  | _ => none
def retR (ρ : Ro) : Rv → Option Out
  | .at i => retC i ρ ρ[i]?
  | r => some (.rt r ρ)
def ownC : Option (Option Cell) → Option D
  | some (some (.own d)) => some d
  | some (some (.byr d)) => some d
  | _ => none
def putC (i : Nat) (d : D) (ρ : Ro) : Option (Option Cell) → Ro
  | some (some c) => ρ.set i (some (c.put d))
  | _ => ρ
def clearC : Option (Option Cell) → Bool
  | some (some _) => false
  | _ => true
def scrC : Option (Option Cell) → Option (List D)
  | some (some (.scr ds)) => some ds
  | _ => none
section
variable (i : Nat) (ρ : Ro) (d : D)
@[scoped simp] theorem varC1 : varC i ρ (some (some (.val d))) = some (.val d, ρ) := rfl
@[scoped simp] theorem varC2 : varC i ρ (some (some (.own d))) = some (.at i, ρ) := rfl
@[scoped simp] theorem varC3 : varC i ρ (some (some (.byr d))) = some (.at i, ρ) := rfl
@[scoped simp] theorem varC4 : varC i ρ (some none) = none := rfl
@[scoped simp] theorem lookC1 : lookC (some (some (.val d))) = notX d := rfl
@[scoped simp] theorem lookC2 : lookC (some (some (.own d))) = some d := rfl
@[scoped simp] theorem lookC3 : lookC (some (some (.byr d))) = some d := rfl
@[scoped simp] theorem frzC1 : frzC i ρ (some (some (.val d))) = some (d, ρ) := rfl
@[scoped simp] theorem frzC2 : frzC i ρ (some (some (.own d))) = some (d, ρ.set i (some (.val d))) := rfl
@[scoped simp] theorem slotC1 : slotC (some none) = true := rfl
@[scoped simp] theorem slotC2 : slotC (some (some (.val d))) = true := rfl
@[scoped simp] theorem slotC3 : slotC (some (some (.own d))) = true := rfl
@[scoped simp] theorem retC1 : retC i ρ (some (some (.own d))) = some (.rt (.fr d) (ρ.set i none)) := rfl
@[scoped simp] theorem retC2 : retC i ρ (some (some (.val d))) = some (.rt (.val d) ρ) := rfl
@[scoped simp] theorem retR1 : retR ρ (.val d) = some (.rt (.val d) ρ) := rfl
@[scoped simp] theorem retR2 : retR ρ (.fr d) = some (.rt (.fr d) ρ) := rfl
@[scoped simp] theorem retR3 : retR ρ (.at i) = retC i ρ ρ[i]? := rfl
@[scoped simp] theorem ownC1 : ownC (some (some (.own d))) = some d := rfl
@[scoped simp] theorem ownC2 : ownC (some (some (.byr d))) = some d := rfl
@[scoped simp] theorem putC1 (e : D) : putC i d ρ (some (some (.own e))) = ρ.set i (some (.own d)) := rfl
@[scoped simp] theorem putC2 (e : D) : putC i d ρ (some (some (.byr e))) = ρ.set i (some (.byr d)) := rfl
@[scoped simp] theorem clearC1 : clearC (some none) = true := rfl
@[scoped simp] theorem clearC2 (c : Cell) : clearC (some (some c)) = false := rfl
@[scoped simp] theorem clearC3 : clearC none = true := rfl
@[scoped simp] theorem scrC1 (ds : List D) : scrC (some (some (.scr ds))) = some ds := rfl
@[scoped simp] theorem sVar_u : sVar i ρ = varC i ρ ρ[i]? := rfl
@[scoped simp] theorem sC_u : sC d ρ = some (.val d, ρ) := rfl
@[scoped simp] theorem look_v : look ρ (.val d) = notX d := rfl
@[scoped simp] theorem look_f : look ρ (.fr d) = some d := rfl
@[scoped simp] theorem look_a : look ρ (.at i) = lookC ρ[i]? := rfl
@[scoped simp] theorem settle_v : settle (.val d) = .val d := rfl
@[scoped simp] theorem settle_f : settle (.fr d) = .val d := rfl
@[scoped simp] theorem settle_a : settle (.at i) = .at i := rfl
@[scoped simp] theorem frz_v : frz ρ (.val d) = some (d, ρ) := rfl
@[scoped simp] theorem frz_f : frz ρ (.fr d) = some (d, ρ) := rfl
@[scoped simp] theorem frz_a : frz ρ (.at i) = frzC i ρ ρ[i]? := rfl
@[scoped simp] theorem mkR_v : mkR (d, false) = .val d := rfl
@[scoped simp] theorem mkR_f : mkR (d, true) = .fr d := rfl
@[scoped simp] theorem slotOk_u : slotOk ρ i = slotC ρ[i]? := rfl
@[scoped simp] theorem store_v : store i (.val d) ρ = if slotC ρ[i]? = true then some (ρ.set i (some (.val d))) else none := rfl
@[scoped simp] theorem store_f : store i (.fr d) ρ = if slotC ρ[i]? = true then some (ρ.set i (some (.own d))) else none := rfl
@[scoped simp] theorem store_a (j : Nat) : store i (.at j) ρ = if slotC ρ[i]? = true then bd (frzC j ρ ρ[j]?) fun z => some (z.2.set i (some (.val z.1))) else none := rfl
@[scoped simp] theorem ownAt_u : ownAt ρ i = ownC ρ[i]? := rfl
@[scoped simp] theorem putAt_u : putAt ρ i d = putC i d ρ ρ[i]? := rfl
@[scoped simp] theorem clearAt_n : clearAt ρ [] = true := rfl
@[scoped simp] theorem clearAt_c (v : Nat) (vs : List Nat) : clearAt ρ (v :: vs) = (clearC ρ[v]? && clearAt ρ vs) := rfl
@[scoped simp] theorem wipeR_n : wipeR ρ [] = ρ := rfl
@[scoped simp] theorem wipeR_c (v : Nat) (vs : List Nat) : wipeR ρ (v :: vs) = (wipeR ρ vs).set v none := rfl
@[scoped simp] theorem scrAt_u : scrAt ρ i = scrC ρ[i]? := rfl
end
section
variable (ρ : Ro) (f g h : SemE) (a : SemA) (p : SemP) (c c2 : SemT) (s s2 : SemS)
@[scoped simp] theorem sNil_u : sNil ρ = some ([], ρ) := rfl
@[scoped simp] theorem sCons_u : sCons f a ρ = bd (f ρ) fun x => bd (frz x.2 x.1) fun y => bd (a y.2) fun z => some (y.1 :: z.1, z.2) := rfl
@[scoped simp] theorem pNil_u : pNil ρ = some ([], ρ) := rfl
@[scoped simp] theorem pCons_u : pCons f p ρ = bd (f ρ) fun x => bd (p x.2) fun z => some (settle x.1 :: z.1, z.2) := rfl
@[scoped simp] theorem sTup_u : sTup a ρ = bd (a ρ) fun x => if x.1.length ≤ sizeLine then some (.val (.tuple x.1), x.2) else none := rfl
@[scoped simp] theorem sLst_u : sLst a ρ = bd (a ρ) fun x => if x.1.length ≤ sizeLine then some (.fr (.list x.1), x.2) else none := rfl
@[scoped simp] theorem sOp_u (o : Op2) : sOp o f g ρ = bd (f ρ) fun x => bd (g x.2) fun y => bd (look y.2 (settle x.1)) fun d => bd (look y.2 (settle y.1)) fun e => bd (o d e) fun z => some (mkR z, y.2) := rfl
@[scoped simp] theorem asB_u (b : Bool) : asB (.bool b) = some b := rfl
@[scoped simp] theorem sTest_u : sTest f ρ = bd (f ρ) fun x => bd (look x.2 x.1) fun d => bd (asB d) fun b => some (b, x.2) := rfl
@[scoped simp] theorem sChain_u (o o2 : Op2) : sChain o o2 f g h ρ = bd (f ρ) fun x => bd (g x.2) fun y => bd (look y.2 (settle x.1)) fun d => bd (look y.2 (settle y.1)) fun e => bd (o d e) fun z => bd (asB z.1) fun k => if z.2 = true then none else if k = true then bd (h y.2) fun u => bd (look u.2 (settle y.1)) fun e' => bd (look u.2 (settle u.1)) fun w => bd (o2 e' w) fun z' => some (mkR z', u.2) else some (.val (.bool false), y.2) := rfl
@[scoped simp] theorem truth_n : truth .none = some false := rfl
@[scoped simp] theorem truth_b (b : Bool) : truth (.bool b) = some b := rfl
@[scoped simp] theorem truth_i (i : Int) : truth (.int i) = some (i != 0) := rfl
@[scoped simp] theorem truth_s (x : Str) : truth (.str x) = if x.length ≤ sizeLine then some ((x.length : Int) != 0) else none := rfl
@[scoped simp] theorem truth_l (ds : List D) : truth (.list ds) = some (!ds.isEmpty) := rfl
@[scoped simp] theorem truth_t (ds : List D) : truth (.tuple ds) = some (!ds.isEmpty) := rfl
@[scoped simp] theorem sTruth_u : sTruth f ρ = bd (f ρ) fun x => bd (look x.2 x.1) fun d => bd (truth d) fun b => some (b, x.2) := rfl
@[scoped simp] theorem sAnd_u : sAnd c c2 ρ = bd (c ρ) fun x => if x.1 = true then c2 x.2 else some (false, x.2) := rfl
@[scoped simp] theorem sOr_u : sOr c c2 ρ = bd (c ρ) fun x => if x.1 = true then some (true, x.2) else c2 x.2 := rfl
@[scoped simp] theorem sNot_u : sNot c ρ = bd (c ρ) fun x => some (!x.1, x.2) := rfl
@[scoped simp] theorem sIf_u : sIf c f g ρ = bd (c ρ) fun x => if x.1 = true then f x.2 else g x.2 := rfl
@[scoped simp] theorem sAndV_u : sAndV f g ρ = bd (sTest f ρ) fun x => if x.1 = true then g x.2 else some (.val (.bool false), x.2) := rfl
@[scoped simp] theorem sOrV_u : sOrV f g ρ = bd (sTest f ρ) fun x => if x.1 = true then some (.val (.bool true), x.2) else g x.2 := rfl
@[scoped simp] theorem sNotV_u : sNotV f ρ = bd (sTest f ρ) fun x => some (.val (.bool !x.1), x.2) := rfl
@[scoped simp] theorem asI_u (i : Int) : asI (.int i) = some i := rfl
@[scoped simp] theorem oNone_u : oNone ρ = some (none, ρ) := rfl
@[scoped simp] theorem oSome_u : oSome f ρ = bd (f ρ) fun x => bd (look x.2 x.1) fun d => bd (asI d) fun i => some (some i, x.2) := rfl
@[scoped simp] theorem sSl_u (o : D → Option Int → Option Int → Option (D × Bool)) (l h : Ro → Option (Option Int × Ro)) : sSl o f l h ρ = bd (f ρ) fun x => bd (l x.2) fun y => bd (h y.2) fun z => bd (look z.2 (settle x.1)) fun d => bd (o d y.1 z.1) fun zb => some (mkR zb, z.2) := rfl
@[scoped simp] theorem looks_n : looks ρ [] = some [] := rfl
@[scoped simp] theorem looks_c (r : Rv) (rs : List Rv) : looks ρ (r :: rs) = bd (look ρ r) fun d => bd (looks ρ rs) fun ds => some (d :: ds) := rfl
@[scoped simp] theorem sCB_u (o : OpN) : sCB o p ρ = bd (p ρ) fun x => bd (looks x.2 x.1) fun ds => bd (o ds) fun zb => some (mkR zb, x.2) := rfl
@[scoped simp] theorem sNx_u : sNx ρ = some (.nx ρ) := rfl
@[scoped simp] theorem sStuck_u : sStuck ρ = none := rfl
@[scoped simp] theorem thenS_n : thenS (.nx ρ) s = s ρ := rfl
@[scoped simp] theorem thenS_r (r : Rv) : thenS (.rt r ρ) s = some (.rt r ρ) := rfl
@[scoped simp] theorem sSeq_u : sSeq s s2 ρ = bd (s ρ) fun o => thenS o s2 := rfl
@[scoped simp] theorem sSet_u (i : Nat) : sSet i f ρ = bd (f ρ) fun x => bd (store i x.1 x.2) fun ρ2 => some (.nx ρ2) := rfl
@[scoped simp] theorem gN_u (i : Nat) (d : D) : gN i d ρ = store i (.val d) ρ := rfl
@[scoped simp] theorem gsNil_u : gsNil [] ρ = some ρ := rfl
@[scoped simp] theorem gsCons_u (g : SemG) (h : SemGs) (d : D) (ds : List D) : gsCons g h (d :: ds) ρ = bd (g d ρ) fun ρ1 => h ds ρ1 := rfl
@[scoped simp] theorem gT_u (n : Nat) (g : SemGs) (ds : List D) : gT n g (.tuple ds) ρ = if ds.length = n then g ds ρ else none := rfl
@[scoped simp] theorem sAsg_u (g : SemG) : sAsg f g ρ = bd (f ρ) fun x => bd (frz x.2 x.1) fun y => bd (g y.1 y.2) fun ρ3 => some (.nx ρ3) := rfl
theorem sRet_u : sRet f ρ = (f ρ).bind fun x => retR x.2 x.1 := by
  unfold sRet
  apply congrArg
  funext x
  obtain ⟨r, ρ1⟩ := x
  cases r <;> rfl
@[scoped simp] theorem sRet_u' : sRet f ρ = bd (f ρ) fun x => retR x.2 x.1 := sRet_u ρ f
@[scoped simp] theorem sRetN_u : sRetN ρ = some (.rt (.val .none) ρ) := rfl
@[scoped simp] theorem sExpr_u : sExpr f ρ = bd (f ρ) fun x => some (.nx x.2) := rfl
@[scoped simp] theorem sIfS_u : sIfS c s s2 ρ = bd (c ρ) fun x => if x.1 = true then s x.2 else s2 x.2 := rfl
@[scoped simp] theorem sFor_u (it : SemI) (g : SemG) : sFor it g s ρ = bd (it ρ) fun x => forL g s x.1 x.2 := rfl
@[scoped simp] theorem iOf_u (w : D → Option (List D)) : iOf w f ρ = bd (f ρ) fun x => bd (frz x.2 x.1) fun y => bd (w y.1) fun ds => some (ds, y.2) := rfl
@[scoped simp] theorem walk_l (ds : List D) : walkOf (.list ds) = some ds := rfl
@[scoped simp] theorem walk_t (ds : List D) : walkOf (.tuple ds) = some ds := rfl
@[scoped simp] theorem walk_s (x : Str) : walkOf (.str x) = some (charsD x) := rfl
@[scoped simp] theorem walk_d (es : List (D × D)) : walkOf (.dict es) = if isX (.dict es) = true then none else some (es.map (·.1)) := rfl
@[scoped simp] theorem items_d (es : List (D × D)) : itemsOf (.dict es) = if isX (.dict es) = true then none else some (es.map pairD) := rfl
@[scoped simp] theorem vals_d (es : List (D × D)) : valsOf (.dict es) = if isX (.dict es) = true then none else some (es.map (·.2)) := rfl
def r1C (ρ : Ro) : List D → Option (List D × Ro)
  | [.int j] => if small62 j = true then some (rng 0 j.toNat, ρ) else none
  | _ => none
def r2C (ρ : Ro) : List D → Option (List D × Ro)
  | [.int i, .int j] => if (small62 i && small62 j) = true then some (rng i (j - i).toNat, ρ) else none
  | _ => none
def r3C (ρ : Ro) : List D → Option (List D × Ro)
  | [.int i, .int j, .int c] => if c ≠ 0 ∧ c.natAbs < 1073741824 ∧ Builtin.Range.small i j c = true ∧ 0 ≤ Builtin.Range.rangeSize i j c then some (rng3 i c (Builtin.Range.rangeSize i j c).toNat, ρ) else none
  | _ => none
def enC (ρ : Ro) : List D → Option (List D × Ro)
  | [.list xs] => some (enumD xs, ρ)
  | [.tuple xs] => some (enumD xs, ρ)
  | _ => none
def zpC (ρ : Ro) : List D → Option (List D × Ro)
  | [.list xs, .list ys] => if zipOk xs = true then some (zipD xs ys, ρ) else none
  | [.tuple xs, .tuple ys] => if zipOk xs = true then some (zipD xs ys, ρ) else none
  | _ => none
@[scoped simp] theorem iR1_u : iR1 p ρ = bd (p ρ) fun x => bd (looks x.2 x.1) fun ds => r1C x.2 ds := by
  unfold iR1 bd Bd; congr 1
@[scoped simp] theorem iR2_u : iR2 p ρ = bd (p ρ) fun x => bd (looks x.2 x.1) fun ds => r2C x.2 ds := by
  unfold iR2 bd Bd; congr 1
@[scoped simp] theorem iR3_u : iR3 p ρ = bd (p ρ) fun x => bd (looks x.2 x.1) fun ds => r3C x.2 ds := by
  unfold iR3 bd Bd; congr 1
@[scoped simp] theorem iEn_u : iEn a ρ = bd (a ρ) fun x => enC x.2 x.1 := by
  unfold iEn bd Bd; congr 1
@[scoped simp] theorem iZp_u : iZp a ρ = bd (a ρ) fun x => zpC x.2 x.1 := by
  unfold iZp bd Bd; congr 1
@[scoped simp] theorem r1C_u (j : Int) : r1C ρ [.int j] = if small62 j = true then some (rng 0 j.toNat, ρ) else none := rfl
@[scoped simp] theorem r2C_u (i j : Int) : r2C ρ [.int i, .int j] = if (small62 i && small62 j) = true then some (rng i (j - i).toNat, ρ) else none := rfl
@[scoped simp] theorem r3C_u (i j c : Int) : r3C ρ [.int i, .int j, .int c] = if c ≠ 0 ∧ c.natAbs < 1073741824 ∧ Builtin.Range.small i j c = true ∧ 0 ≤ Builtin.Range.rangeSize i j c then some (rng3 i c (Builtin.Range.rangeSize i j c).toNat, ρ) else none := rfl
@[scoped simp] theorem enC_l (xs : List D) : enC ρ [.list xs] = some (enumD xs, ρ) := rfl
@[scoped simp] theorem enC_t (xs : List D) : enC ρ [.tuple xs] = some (enumD xs, ρ) := rfl
@[scoped simp] theorem zpC_l (xs ys : List D) : zpC ρ [.list xs, .list ys] = if zipOk xs = true then some (zipD xs ys, ρ) else none := rfl
@[scoped simp] theorem zpC_t (xs ys : List D) : zpC ρ [.tuple xs, .tuple ys] = if zipOk xs = true then some (zipD xs ys, ρ) else none := rfl
@[scoped simp] theorem sLc_u (g : SemG) (t : SemT) (el : SemE) (vs : List Nat) (it : SemI) : sLc g t el vs it ρ = bd (it ρ) fun x => if clearAt x.2 vs = true then bd (lcL g t el vs x.1 0 x.2) fun y => some (.fr (.list y.1), y.2) else none := rfl
@[scoped simp] theorem sLc2_u (g : SemG) (t : SemT) (it1 : SemI) (g1 : SemG) (t1 : SemT) (el : SemE) (vs vs1 : List Nat) (it : SemI) : sLc2 g t it1 g1 t1 el vs vs1 it ρ = bd (it ρ) fun x => if clearAt x.2 vs = true then bd (lc2L g t it1 g1 t1 el vs vs1 x.1 0 x.2) fun y => some (.fr (.list y.1), y.2) else none := rfl
@[scoped simp] theorem sDc_u (g : SemG) (t : SemT) (kf vf : SemE) (vs : List Nat) (it : SemI) : sDc g t kf vf vs it ρ = bd (it ρ) fun x => if clearAt x.2 vs = true then bd (dcL g t kf vf vs x.1 [] x.2) fun y => some (.fr (.dict y.1), y.2) else none := rfl
@[scoped simp] theorem sYes_u : sYes ρ = some (true, ρ) := rfl
@[scoped simp] theorem sDct0_u : sDct0 ρ = some (.fr (.dict []), ρ) := rfl
def parC (i j : Nat) (ρ : Ro) : List Rv → Option Out
  | [.val a, .val b] => (store i (.val a) ρ).bind fun ρ2 => (store j (.val b) ρ2).bind fun ρ3 => some (.nx ρ3)
  | [.val a, .fr b] => (store i (.val a) ρ).bind fun ρ2 => (store j (.fr b) ρ2).bind fun ρ3 => some (.nx ρ3)
  | [.fr a, .val b] => (store i (.fr a) ρ).bind fun ρ2 => (store j (.val b) ρ2).bind fun ρ3 => some (.nx ρ3)
  | [.fr a, .fr b] => (store i (.fr a) ρ).bind fun ρ2 => (store j (.fr b) ρ2).bind fun ρ3 => some (.nx ρ3)
  | _ => none
@[scoped simp] theorem sPar_u (i j : Nat) (f : SemM) : sPar i j f ρ = bd (f ρ) fun x => parC i j x.2 x.1 := by
  unfold sPar bd Bd; congr 1
@[scoped simp] theorem parC1 (i j : Nat) (a b : D) : parC i j ρ [.val a, .val b] = bd (store i (.val a) ρ) fun ρ2 => bd (store j (.val b) ρ2) fun ρ3 => some (.nx ρ3) := rfl
@[scoped simp] theorem parC2 (i j : Nat) (a b : D) : parC i j ρ [.val a, .fr b] = bd (store i (.val a) ρ) fun ρ2 => bd (store j (.fr b) ρ2) fun ρ3 => some (.nx ρ3) := rfl
@[scoped simp] theorem parC3 (i j : Nat) (a b : D) : parC i j ρ [.fr a, .val b] = bd (store i (.fr a) ρ) fun ρ2 => bd (store j (.val b) ρ2) fun ρ3 => some (.nx ρ3) := rfl
@[scoped simp] theorem parC4 (i j : Nat) (a b : D) : parC i j ρ [.fr a, .fr b] = bd (store i (.fr a) ρ) fun ρ2 => bd (store j (.fr b) ρ2) fun ρ3 => some (.nx ρ3) := rfl
@[scoped simp] theorem forL_n (g : SemG) : forL g s [] ρ = some (.nx ρ) := rfl
end
section
variable (ρ : Ro) (f : SemE) (m : SemM) (ms : List Md)
@[scoped simp] theorem mNil_u : mNil ρ = some ([], ρ) := rfl
@[scoped simp] theorem mV_u : mV f m ρ = bd (f ρ) fun x => bd (frz x.2 x.1) fun y => bd (m y.2) fun z => some (.val y.1 :: z.1, z.2) := rfl
@[scoped simp] theorem sCall_u' (fn : Fn) : sCall ms fn m ρ = bd (m ρ) fun x => if (mIdx ms x.1).Nodup then bd (mData x.2 ms x.1) fun ds => bd (fn ds) fun z => some (mkR z.1, mBack x.2 ms x.1 z.2) else none := rfl
@[scoped simp] theorem sMut_u (T : String) (i : Nat) (o : OpM) (a : SemA) : sMut T i o a ρ = bd (ownAt ρ i) fun d0 => if kindB T d0 = true then bd (a ρ) fun x => bd (ownAt x.2 i) fun d => bd (o d x.1) fun z => some (.val z.2, putAt x.2 i z.1) else none := rfl
@[scoped simp] theorem kind_l (ds : List D) : kindB "list" (.list ds) = true := rfl
@[scoped simp] theorem kind_d (ds : List (D × D)) : kindB "dict" (.dict ds) = true := rfl
@[scoped simp] theorem sSub_u (i : Nat) (g f : SemE) : sSub i g f ρ = bd (f ρ) fun x => bd (frz x.2 x.1) fun y => bd (ownAt y.2 i) fun _ => bd (g y.2) fun z => bd (look z.2 z.1) fun ix => bd (ownAt z.2 i) fun d => bd (setM d ix y.1) fun d' => some (.nx (putAt z.2 i d')) := rfl
@[scoped simp] theorem sMeth_u (T : String) (o : OpL) (a : SemA) : sMeth T o f a ρ = bd (f ρ) fun x => bd (look x.2 (settle x.1)) fun d0 => if kindB T d0 = true then bd (a x.2) fun y => bd (look y.2 (settle x.1)) fun d => bd (o d y.1) fun zb => some (mkR zb, y.2) else none := rfl
@[scoped simp] theorem sOfSet_u (g : List Str → Rv) : sOfSet g f ρ = bd (f ρ) fun x => bd (look x.2 (settle x.1)) fun d => bd (strsOf d) fun ys => if ys.length + 1 < scanBound then some (g ys, x.2) else none := rfl
@[scoped simp] theorem strsOf_l (ds : List D) : strsOf (.list ds) = asStrs ds := rfl
@[scoped simp] theorem strsOf_t (ds : List D) : strsOf (.tuple ds) = asStrs ds := rfl
@[scoped simp] theorem sRev_u : sRev f ρ = bd (f ρ) fun x => bd (look x.2 (settle x.1)) fun d => bd (revF d) fun zb => some (mkR zb, x.2) := rfl
@[scoped simp] theorem revF_t (ds : List D) : revF (.tuple ds) = some (.tuple ds.reverse, false) := rfl
@[scoped simp] theorem revF_l (ds : List D) : revF (.list ds) = some (.list ds.reverse, true) := rfl
@[scoped simp] theorem sLenScr_u (i : Nat) : sLenScr i ρ = bd (scrAt ρ i) fun ds => some (.val (.int ds.length), ρ) := rfl
@[scoped simp] theorem sIxScr_u (i : Nat) : sIxScr i f ρ = bd (scrAt ρ i) fun _ => bd (f ρ) fun x => bd (look x.2 x.1) fun d => bd (asI d) fun k => bd (scrAt x.2 i) fun ds => bd (atI ds k) fun z => some (.val z, x.2) := rfl
@[scoped simp] theorem sNeg_u : sNeg f ρ = bd (f ρ) fun x => bd (look x.2 (settle x.1)) fun d => bd (asI d) fun i => some (.val (.int (-i)), x.2) := rfl
@[scoped simp] theorem sIsi_u (T : String) : sIsi T f ρ = bd (f ρ) fun x => bd (look x.2 (settle x.1)) fun d => some (.val (.bool (isiD T d)), x.2) := rfl
end
end Pv.Ev
namespace Pv.Ev
open PySem Pv L2
def mRC (g : SemM) (ρ : Ro) : Rv → Option (List Rv × Ro)
  | .val _ => none
  | r => (g ρ).bind fun x => some (r :: x.1, x.2)
def mSC (i : Nat) (g : SemM) (ρ : Ro) : Option (Option Cell) → Option (List Rv × Ro)
  | some (some (.scr _)) => (g ρ).bind fun x => some (.at i :: x.1, x.2)
  | _ => none
def setC (i : Nat) (b : D) (ρ : Ro) : Option (Option Cell) → Ro
  | some (some (.own _)) => ρ.set i (some (.own b))
  | some (some (.byr _)) => ρ.set i (some (.byr b))
  | _ => ρ
section
variable (ρ : Ro) (f : SemE) (g : SemM) (ms : List Md) (rs : List Rv) (i : Nat) (d b : D) (bs : List D)
@[scoped simp] theorem mR_u : mR f g ρ = bd (f ρ) fun x => mRC g x.2 x.1 := by
  unfold mR bd Bd; apply congrArg; funext x; obtain ⟨r, ρ1⟩ := x; cases r <;> rfl
@[scoped simp] theorem mRC_f : mRC g ρ (.fr d) = bd (g ρ) fun x => some (.fr d :: x.1, x.2) := rfl
@[scoped simp] theorem mRC_a : mRC g ρ (.at i) = bd (g ρ) fun x => some (.at i :: x.1, x.2) := rfl
@[scoped simp] theorem mS_u : mS i g ρ = mSC i g ρ ρ[i]? := rfl
@[scoped simp] theorem mSC_u (ds : List D) : mSC i g ρ (some (some (.scr ds))) = bd (g ρ) fun x => some (.at i :: x.1, x.2) := rfl
@[scoped simp] theorem mD_n : mData ρ [] [] = some [] := rfl
@[scoped simp] theorem mD_v : mData ρ (.v :: ms) (.val d :: rs) = (mData ρ ms rs).map (d :: ·) := rfl
@[scoped simp] theorem mD_rf : mData ρ (.r :: ms) (.fr d :: rs) = (mData ρ ms rs).map (d :: ·) := rfl
@[scoped simp] theorem mD_ra : mData ρ (.r :: ms) (.at i :: rs) = bd (ownC ρ[i]?) fun d => (mData ρ ms rs).map (d :: ·) := by
  simp only [mData]
  rcases ρ[i]? with _ | _ | (_ | _ | _ | _) <;> rfl
@[scoped simp] theorem mD_s : mData ρ (.s :: ms) (.at i :: rs) = bd (scrC ρ[i]?) fun es => (mData ρ ms rs).map (.list es :: ·) := by
  simp only [mData]
  rcases ρ[i]? with _ | _ | (_ | _ | _ | _) <;> rfl
@[scoped simp] theorem mI_n : mIdx [] [] = [] := rfl
@[scoped simp] theorem mI_ra : mIdx (.r :: ms) (.at i :: rs) = i :: mIdx ms rs := rfl
@[scoped simp] theorem mI_rf : mIdx (.r :: ms) (.fr d :: rs) = mIdx ms rs := rfl
@[scoped simp] theorem mI_v (r : Rv) : mIdx (.v :: ms) (r :: rs) = mIdx ms rs := rfl
@[scoped simp] theorem mI_s (r : Rv) : mIdx (.s :: ms) (r :: rs) = mIdx ms rs := rfl
@[scoped simp] theorem mB_n : mBack ρ [] [] bs = ρ := rfl
@[scoped simp] theorem mB_ra : mBack ρ (.r :: ms) (.at i :: rs) (b :: bs) = setD (mBack ρ ms rs bs) i b := rfl
@[scoped simp] theorem mB_rf : mBack ρ (.r :: ms) (.fr d :: rs) (b :: bs) = mBack ρ ms rs bs := rfl
@[scoped simp] theorem mB_v (r : Rv) : mBack ρ (.v :: ms) (r :: rs) bs = mBack ρ ms rs bs := by cases bs <;> rfl
@[scoped simp] theorem mB_s (r : Rv) : mBack ρ (.s :: ms) (r :: rs) bs = mBack ρ ms rs bs := by cases bs <;> rfl
@[scoped simp] theorem setD_u : setD ρ i b = setC i b ρ ρ[i]? := rfl
@[scoped simp] theorem setC1 : setC i b ρ (some (some (.own d))) = ρ.set i (some (.own b)) := rfl
@[scoped simp] theorem setC2 : setC i b ρ (some (some (.byr d))) = ρ.set i (some (.byr b)) := rfl
@[scoped simp] theorem cells_n : cells [] [] = some [] := rfl
@[scoped simp] theorem cells_v (ds : List D) : cells (.v :: ms) (d :: ds) = (cells ms ds).map (some (.val d) :: ·) := rfl
@[scoped simp] theorem cells_r (ds : List D) : cells (.r :: ms) (d :: ds) = (cells ms ds).map (some (.byr d) :: ·) := rfl
@[scoped simp] theorem cells_s (ds es : List D) : cells (.s :: ms) (.list es :: ds) = (cells ms ds).map (some (.scr es) :: ·) := rfl
@[scoped simp] theorem backs_n : backsOf [] ρ = some [] := rfl
@[scoped simp] theorem backs_v (c : Option Cell) : backsOf (.v :: ms) (c :: ρ) = backsOf ms ρ := rfl
@[scoped simp] theorem backs_s (c : Option Cell) : backsOf (.s :: ms) (c :: ρ) = backsOf ms ρ := rfl
@[scoped simp] theorem backs_r : backsOf (.r :: ms) (some (.byr d) :: ρ) = (backsOf ms ρ).map (d :: ·) := rfl
@[scoped simp] theorem resOf_v : resOf (.val d) = some (d, false) := rfl
@[scoped simp] theorem resOf_f : resOf (.fr d) = some (d, true) := rfl
@[scoped simp] theorem endOf_r (r : Rv) : endOf ms (.rt r ρ) = bd (resOf r) fun z => bd (backsOf ms ρ) fun bs => some (z, bs) := rfl
@[scoped simp] theorem endOf_n : endOf ms (.nx ρ) = bd (backsOf ms ρ) fun bs => some ((.none, false), bs) := rfl
@[scoped simp] theorem fnOf_u (n : Nat) (s : SemS) (ds : List D) : fnOf n ms s ds = bd (cells ms ds) fun cs => bd (s (cs ++ List.replicate (n - ms.length) none)) (endOf ms) := rfl
end
section
variable (i j : Int) (x y : Str) (ds es : List D) (b c : Bool)
@[scoped simp] theorem add_i : addF (.int i) (.int j) = some (.int (i + j), false) := rfl
@[scoped simp] theorem add_s : addF (.str x) (.str y) = if x.length + y.length ≤ sizeLine then some (.str (x ++ y), false) else none := rfl
@[scoped simp] theorem add_l : addF (.list ds) (.list es) = if ds.length + es.length ≤ sizeLine then some (.list (ds ++ es), true) else none := rfl
@[scoped simp] theorem add_t : addF (.tuple ds) (.tuple es) = if ds.length + es.length ≤ sizeLine then some (.tuple (ds ++ es), false) else none := rfl
@[scoped simp] theorem sub_i : subF (.int i) (.int j) = some (.int (i - j), false) := rfl
@[scoped simp] theorem mul_i : mulF (.int i) (.int j) = if mulOk i j = true then some (.int (i * j), false) else none := rfl
@[scoped simp] theorem div_i : divF (.int i) (.int j) = if 0 < j ∧ j.natAbs.log2 < 9000 then some (.int (i / j), false) else none := rfl
@[scoped simp] theorem mod_i : modF (.int i) (.int j) = if 0 < j then some (.int (i % j), false) else none := rfl
@[scoped simp] theorem lt_i : ltF (.int i) (.int j) = some (.bool (decide (i < j)), false) := rfl
@[scoped simp] theorem lt_s : ltF (.str x) (.str y) = some (.bool (decide (x.cps.toList < y.cps.toList)), false) := rfl
@[scoped simp] theorem le_i : leF (.int i) (.int j) = some (.bool (decide (i ≤ j)), false) := rfl
@[scoped simp] theorem gt_i : gtF (.int i) (.int j) = some (.bool (decide (j < i)), false) := rfl
@[scoped simp] theorem ge_i : geF (.int i) (.int j) = some (.bool (decide (j ≤ i)), false) := rfl
theorem shaped_i : SeqAt.shaped (.int i) = true := rfl
theorem shaped_b : SeqAt.shaped (.bool b) = true := rfl
theorem eqF_of {d e : D} (h : SeqAt.shaped d = true) (h2 : SeqAt.shaped e = true) : eqF d e = some (.bool (PyData.eqv d e), false) := by
  unfold eqF
  split
  · simp only [PyData.eqv, eqS_beq0]
  · exact absurd h (by simp [SeqAt.shaped, PyData.canLay0])
  · rw [h, h2]; rfl
theorem neF_of {d e : D} (h : SeqAt.shaped d = true) (h2 : SeqAt.shaped e = true) : neF d e = some (.bool (!PyData.eqv d e), false) := by
  unfold neF
  split
  · simp only [PyData.eqv, eqS_beq0]
  · rw [h, h2]; rfl
@[scoped simp] theorem eq_i : eqF (.int i) (.int j) = some (.bool (i == j), false) := by
  rw [eqF_of (shaped_i i) (shaped_i j)]; simp [PyData.eqv]
@[scoped simp] theorem ne_i : neF (.int i) (.int j) = some (.bool (!(i == j)), false) := by
  rw [neF_of (shaped_i i) (shaped_i j)]; simp [PyData.eqv]
@[scoped simp] theorem eq_b : eqF (.bool b) (.bool c) = some (.bool (b == c), false) := by
  rw [eqF_of (shaped_b b) (shaped_b c)]; simp [PyData.eqv]
@[scoped simp] theorem ne_b : neF (.bool b) (.bool c) = some (.bool (!(b == c)), false) := by
  rw [neF_of (shaped_b b) (shaped_b c)]; simp [PyData.eqv]
@[scoped simp] theorem eq_s : eqF (.str x) (.str y) = some (.bool (x == y), false) := by
  rw [eqS_beq0]; rfl
@[scoped simp] theorem ne_s : neF (.str x) (.str y) = some (.bool (!(x == y)), false) := by
  rw [eqS_beq0]; rfl
@[scoped simp] theorem len_l : lenF [.list ds] = some (.int ds.length, false) := rfl
@[scoped simp] theorem len_t : lenF [.tuple ds] = some (.int ds.length, false) := rfl
@[scoped simp] theorem len_d (es : List (D × D)) : lenF [.dict es] = some (.int es.length, false) := rfl
@[scoped simp] theorem len_s : lenF [.str x] = if x.length ≤ sizeLine then some (.int x.length, false) else none := rfl
@[scoped simp] theorem int_i : intF [.int i] = some (.int i, false) := rfl
@[scoped simp] theorem max_2 : maxF [.int i, .int j] = some (.int (if j > i then j else i), false) := rfl
@[scoped simp] theorem min_2 : minF [.int i, .int j] = some (.int (if j < i then j else i), false) := rfl
@[scoped simp] theorem all_l : allF [.list ds] = bd (asBls ds) fun ns => some (.bool (ns.all id), false) := rfl
@[scoped simp] theorem any_l : anyF [.list ds] = bd (asBls ds) fun ns => some (.bool (ns.any id), false) := rfl
@[scoped simp] theorem tuple_l : tupleF2 [.list ds] = some (.tuple ds, false) := rfl
@[scoped simp] theorem tuple_t : tupleF2 [.tuple ds] = some (.tuple ds, false) := rfl
@[scoped simp] theorem list_l : listF [.list ds] = some (.list ds, true) := rfl
@[scoped simp] theorem list_t : listF [.tuple ds] = some (.list ds, true) := rfl
@[scoped simp] theorem list_d (es : List (D × D)) : listF [.dict es] = some (.list (es.map (·.1)), true) := rfl
@[scoped simp] theorem dict_d (es : List (D × D)) : dictF [.dict es] = some (.dict es, true) := rfl
@[scoped simp] theorem append_u (d : D) : appendM (.list ds) [d] = if ds.length < sizeLine then some (.list (ds ++ [d]), .none) else none := rfl
@[scoped simp] theorem pop_u : popM (.list ds) [] = (ds[ds.length - 1]?).map fun z => (.list ds.dropLast, z) := rfl
@[scoped simp] theorem pop_i : popM (.list ds) [.int i] = if -(2 ^ 63) ≤ i ∧ i < 2 ^ 63 then bd (seqIndex? i ds.length) fun k => (ds[k]?).map fun z => (.list (ds.eraseIdx k), z) else none := rfl
@[scoped simp] theorem sl_l (lo hi : Option Int) : slF (.list ds) lo hi = some (.list (cutD ds lo hi), true) := rfl
@[scoped simp] theorem sl_t (lo hi : Option Int) : slF (.tuple ds) lo hi = some (.tuple (cutD ds lo hi), false) := rfl
@[scoped simp] theorem ix_t : ixG (.tuple ds) (.int i) = (atI ds i).map fun d => (d, false) := rfl
@[scoped simp] theorem ix_l : ixG (.list ds) (.int i) = (atI ds i).map fun d => (d, false) := rfl
@[scoped simp] theorem ix_d (es : List (D × D)) (d : D) : ixG (.dict es) d = bd (keyOf d) fun k => (dget es k).map fun z => (z, false) := rfl
@[scoped simp] theorem set_d (es : List (D × D)) (d z : D) : setM (.dict es) d z = bd (keyOf d) fun k => if es.length < sizeLine then some (.dict (dput es k z)) else none := rfl
@[scoped simp] theorem set_l (k : Int) (z : D) : setM (.list ds) (.int k) z = (ixN ds.length k).map fun j => .list (ds.set j z) := rfl
@[scoped simp] theorem key_s : keyOf (.str x) = some (.inr x) := rfl
@[scoped simp] theorem key_i : keyOf (.int i) = some (.inl i) := rfl
@[scoped simp] theorem upd_d (es fs : List (D × D)) : updateM (.dict es) [.dict fs] = if es.length + fs.length ≤ sizeLine then (dmerge es fs).map fun gs => (.dict gs, .none) else none := rfl
@[scoped simp] theorem in_u (d e : D) : inF d e = (inB d e).map fun b => (.bool b, false) := rfl
@[scoped simp] theorem notIn_u (d e : D) : notInF d e = (inB d e).map fun b => (.bool (!b), false) := rfl
@[scoped simp] theorem inB_d (d : D) (es : List (D × D)) : inB d (.dict es) = (keyOf d).map fun k => (dget es k).isSome := by
  cases d <;> rfl
@[scoped simp] theorem asBls_m {α : Type} (f : α → Bool) (xs : List α) : asBls (xs.map fun x => PyData.bool (f x)) = some (xs.map f) := asBls_map f xs
@[scoped simp] theorem asInts_m {α : Type} (f : α → Int) (xs : List α) : asInts (xs.map fun x => PyData.int (f x)) = some (xs.map f) := asInts_map f xs
@[scoped simp] theorem asStrs_m : ∀ xs : List Str, asStrs (xs.map PyData.str) = some xs
  | [] => rfl
  | x :: r => by simp only [List.map_cons, asStrs, asStrs_m r, Option.map_some]
end
end Pv.Ev
end
section
set_option Elab.async false
set_option linter.all false
set_option maxRecDepth 100000
set_option maxHeartbeats 1000000
namespace Pv
open PySem L2 PyProof.Rows PySem.W
theorem plainA_iff : ∀ {ds : List D}, plainA ds = true ↔ ∀ d ∈ ds, plain d = true
  | [] => by simp [plainA]
  | d :: ds => by simp [plainA, plainA_iff (ds := ds)]
theorem canLayAll_iff : ∀ {ds : List D}, PyData.canLayAll0 ds = true ↔ ∀ d ∈ ds, d.canLay0 = true
  | [] => by simp [PyData.canLayAll0]
  | d :: ds => by simp [PyData.canLayAll0, canLayAll_iff (ds := ds)]
theorem depthAll_iff {k : Nat} : ∀ {ds : List D}, PyData.depthAll ds ≤ k ↔ ∀ d ∈ ds, d.depth ≤ k
  | [] => by simp [PyData.depthAll]
  | d :: ds => by simp only [PyData.depthAll, Nat.max_le, depthAll_iff (ds := ds), List.forall_mem_cons]
theorem showableAll_iff : ∀ {ds : List D}, PyData.showableAll ds = true ↔ ∀ d ∈ ds, d.showable = true
  | [] => by simp [PyData.showableAll]
  | d :: ds => by simp [PyData.showableAll, showableAll_iff (ds := ds)]
theorem intsShortAll_iff {k : Nat} : ∀ {ds : List D}, PyData.intsShortAll k ds = true ↔ ∀ d ∈ ds, d.intsShort k = true
  | [] => by simp [PyData.intsShortAll]
  | d :: ds => by simp [PyData.intsShortAll, intsShortAll_iff (ds := ds)]
theorem weightAll_le {k : Nat} : ∀ {ds : List D}, (∀ d ∈ ds, d.weight ≤ k) → PyData.weightAll ds ≤ ds.length * (k + 1)
  | [], _ => by simp [PyData.weightAll]
  | d :: ds, h => by
    have h1 := h d List.mem_cons_self
    have h2 := weightAll_le (ds := ds) fun e he => h e (List.mem_cons_of_mem _ he)
    simp only [PyData.weightAll, List.length_cons, Nat.succ_mul]
    omega
theorem weightAll_mem : ∀ {ds : List D} {d : D}, d ∈ ds → d.weight + 1 ≤ PyData.weightAll ds
  | e :: ds, d, h => by
    simp only [PyData.weightAll]
    rcases List.mem_cons.mp h with rfl | h
    · omega
    · have := weightAll_mem h; omega
theorem weightAll_len : ∀ {ds : List D}, ds.length ≤ PyData.weightAll ds
  | [] => by simp
  | d :: ds => by
    have := weightAll_len (ds := ds)
    simp only [PyData.weightAll, List.length_cons]
    omega
structure OkV (v : D) : Prop where
  pl : plain v = true
  lay : v.canLay0 = true
  dep : v.depth ≤ 64
  wt : v.weight ≤ 4000
  ish : v.intsShort 13 = true
  shw : v.showable = true
def okVB (v : D) : Bool := plain v && v.canLay0 && decide (v.depth ≤ 64) && decide (v.weight ≤ 4000) && v.intsShort 13 && v.showable
theorem OkV.ofB {v : D} (h : okVB v = true) : OkV v := by
  simp only [okVB, Bool.and_eq_true, decide_eq_true_eq] at h
  exact ⟨h.1.1.1.1.1, h.1.1.1.1.2, h.1.1.1.2, h.1.1.2, h.1.2, h.2⟩
theorem OkV.shaped {v : D} (h : OkV v) : SeqAt.shaped v = true := by
  simp only [SeqAt.shaped, h.lay, h.dep, decide_true, Bool.and_self]
theorem OkV.shown {v : D} (h : OkV v) : showOk v = true := by
  have e : v.shown.length ≤ 15728653 := shown_le13 (by simp only [PyData.layable0, h.lay, h.dep, decide_true, Bool.true_and, decide_eq_true_eq]; exact Nat.le_trans h.wt (by decide)) h.ish
  have e2 : v.shown.length ≤ sizeLine := Nat.le_trans e (by decide)
  simp only [showOk, h.pl, h.shw, e2, h.dep, decide_true, Bool.true_or, Bool.and_self]
theorem OkV.mem {ds : List D} {d : D} (h : OkV (.tuple ds)) (hd : d ∈ ds) : OkV d where
  pl := plainA_iff.mp (by simpa [plain] using h.pl) d hd
  lay := canLayAll_iff.mp (by simpa [PyData.canLay0] using h.lay) d hd
  dep := by
    have := h.dep
    simp only [PyData.depth] at this
    have := depthAll_iff.mp (Nat.le_refl (PyData.depthAll ds)) d hd
    omega
  wt := by
    have := h.wt
    simp only [PyData.weight] at this
    have := weightAll_mem hd
    omega
  ish := intsShortAll_iff.mp (by simpa [PyData.intsShort] using h.ish) d hd
  shw := showableAll_iff.mp (by simpa [PyData.showable] using h.shw) d hd
theorem OkV.len {ds : List D} (h : OkV (.tuple ds)) : ds.length ≤ 4000 := by
  have := h.wt
  simp only [PyData.weight] at this
  have := weightAll_len (ds := ds)
  omega
theorem OkV.txt {x : Str} (h : OkV (.str x)) : x.length ≤ 4000 := by
  have := h.wt
  simpa [PyData.weight, Str.length] using this
theorem OkV.mk_ {ds : List D} {k : Nat} (h : ∀ d ∈ ds, OkV d ∧ d.depth ≤ 63 ∧ d.weight ≤ k) (hn : ds.length * (k + 1) ≤ 4000) : OkV (.tuple ds) where
  pl := by simp only [plain]; exact plainA_iff.mpr fun d hd => (h d hd).1.pl
  lay := by simp only [PyData.canLay0]; exact canLayAll_iff.mpr fun d hd => (h d hd).1.lay
  dep := by simp only [PyData.depth]; have := depthAll_iff.mpr fun d hd => (h d hd).2.1; exact Nat.succ_le_succ this
  wt := by simp only [PyData.weight]; exact Nat.le_trans (weightAll_le fun d hd => (h d hd).2.2) hn
  ish := by simp only [PyData.intsShort]; exact intsShortAll_iff.mpr fun d hd => (h d hd).1.ish
  shw := by simp only [PyData.showable]; exact showableAll_iff.mpr fun d hd => (h d hd).1.shw
theorem shaped_tup {ds : List D} (h : ∀ d ∈ ds, d.canLay0 = true ∧ d.depth ≤ 63) : SeqAt.shaped (.tuple ds) = true := by
  have h1 := canLayAll_iff.mpr fun d hd => (h d hd).1
  have h2 := depthAll_iff.mpr fun d hd => (h d hd).2
  simp only [SeqAt.shaped, PyData.canLay0, PyData.depth, h1, Bool.true_and, decide_eq_true_eq]
  exact decide_eq_true (Nat.succ_le_succ h2)
theorem OkV.sub {ds es : List D} (h : OkV (.tuple ds)) (hs : ∀ d ∈ es, d ∈ ds) : SeqAt.shaped (.tuple es) = true := by
  have hd := h.dep
  simp only [PyData.depth] at hd
  have hd' := depthAll_iff.mp (Nat.le_refl (PyData.depthAll ds))
  exact shaped_tup fun d h' => ⟨(h.mem (hs d h')).lay, by have := hd' d (hs d h'); omega⟩
def ltS (a b : Str) : Bool := decide (a.cps.toList < b.cps.toList)
theorem ltS_ne {a b : Str} (h : ltS a b = true) : a ≠ b := by
  rintro rfl
  simp only [ltS, decide_eq_true_eq] at h
  exact List.lt_irrefl _ h
def Asc (xs : List Str) : Prop := xs.Pairwise fun a b => ltS a b = true
theorem Asc.nodup {xs : List Str} (h : Asc xs) : xs.Nodup := h.imp ltS_ne
end Pv
end
section
set_option Elab.async false
set_option linter.all false
set_option autoImplicit false
set_option maxRecDepth 100000
set_option maxHeartbeats 1000000
namespace Pv
open PySem L2 PySem.W Pv.Ev
theorem forL_inv {g : SemG} {b : SemS} (I : Nat → Ro → Prop) : ∀ (ds : List D) (k : Nat) (ρ : Ro), I k ρ → (∀ (j : Nat) (d : D) (ρ : Ro), ds[j]? = some d → I (k + j) ρ → ∃ ρ1 ρ2, g d ρ = some ρ1 ∧ b ρ1 = some (.nx ρ2) ∧ I (k + j + 1) ρ2) →
    ∃ ρ', forL g b ds ρ = some (.nx ρ') ∧ I (k + ds.length) ρ'
  | [], k, ρ, h, _ => ⟨ρ, rfl, h⟩
  | d :: ds, k, ρ, h, s => by
    obtain ⟨ρ1, ρ2, e1, e2, h2⟩ := s 0 d ρ rfl h
    obtain ⟨ρ', e3, h3⟩ := forL_inv I ds (k + 1) ρ2 h2 fun j d ρ hd hI => by
      have := s (j + 1) d ρ hd (by rw [show k + (j + 1) = k + 1 + j by omega]; exact hI)
      rw [show k + (j + 1) + 1 = k + 1 + j + 1 by omega] at this
      exact this
    refine ⟨ρ', ?_, by rw [List.length_cons, show k + (ds.length + 1) = k + 1 + ds.length by omega]; exact h3⟩
    simp only [forL, e1, e2, Option.bind_some, e3]
@[scoped simp] theorem Ev.slot_map (c : Option D) : slotC (some (c.map Cell.val)) = true := by cases c <;> rfl
@[scoped simp] theorem Ev.slot_mapO (c : Option D) : slotC (some (c.map Cell.own)) = true := by cases c <;> rfl
@[scoped simp] theorem Ev.sz_le (n : Nat) (h : n ≤ 100000) : (n ≤ sizeLine) = True := eq_true (Nat.le_trans h (by decide))
@[scoped simp] theorem Ev.sz_lt (n : Nat) (h : n ≤ 100000) : (n < sizeLine) = True := eq_true (Nat.lt_of_le_of_lt h (by decide))
end Pv
end
section
set_option Elab.async false
set_option linter.all false
set_option autoImplicit false
set_option maxRecDepth 100000
set_option maxHeartbeats 1000000
namespace Pv.Lw
open PySem L2 Pv Pv.Ev
abbrev N__law_mixed : List Str := ["_law_cell_here", "_law_k", "_law_mix"]
def b__law_mixed : SemS := (sSeq (sSet 2 (sOp modF (sCB intF (pCons (sOp addF (sOp addF (sOp mulF (sOp modF (sCB intF (pCons (sVar 0) pNil)) (sC (.int 2147483647))) (sC (.int 48271))) (sOp mulF (sVar 1) (sC (.int 69621)))) (sC (.int 1048583))) pNil)) (sC (.int 2147483629)))) (sSeq (sSet 2 (sOp modF (sCB intF (pCons (sOp mulF (sVar 2) (sVar 2)) pNil)) (sC (.int 2147483587)))) (sRet (sOp modF (sCB intF (pCons (sOp mulF (sVar 2) (sOp addF (sVar 2) (sC (.int 2)))) pNil)) (sC (.int 2147483579))))))
def F__law_mixed : Fn := fnOf 3 [.v, .v] b__law_mixed
abbrev N__law_cell : List Str := ["_law_script", "_law_k", "_law_cell_here", "_law_found", "_law_j"]
def b__law_cell : SemS := (sSeq (sSet 2 (sC (.int 0))) (sSeq (sIfS (sTest (sOp ltF (sVar 1) (sLenScr 0))) (sSet 2 (sIxScr 0 (sVar 1))) sNx) (sSeq (sIfS (sTest (sOp geF (sVar 2) (sOp powF (sC (.int 10)) (sC (.int 18))))) (sRet (sOp modF (sCB intF (pCons (sOp subF (sVar 2) (sOp powF (sC (.int 10)) (sC (.int 18)))) pNil)) (sOp mulF (sOp mulF (sOp mulF (sOp powF (sC (.int 10)) (sC (.int 60))) (sOp powF (sC (.int 10)) (sC (.int 60)))) (sOp powF (sC (.int 10)) (sC (.int 60)))) (sOp powF (sC (.int 10)) (sC (.int 60)))))) sNx) (sSeq (sSet 3 (sC (.int 0))) (sSeq (sFor (iR1 (pCons (sC (.int 24)) pNil)) (gN 4) (sSet 3 (sOp addF (sOp mulF (sVar 3) (sC (.int 2147483579))) (sCall [.v, .v] F__law_mixed (mV (sVar 2) (mV (sOp addF (sOp addF (sOp mulF (sC (.int 7)) (sVar 1)) (sOp mulF (sC (.int 100)) (sVar 4))) (sOp mulF (sVar 4) (sVar 4))) mNil)))))) (sRet (sVar 3)))))))
def F__law_cell : Fn := fnOf 5 [.s, .v] b__law_cell
abbrev N__law_take : List Str := ["_law_own", "_law_options", "_law_digit"]
def b__law_take : SemS := (sSeq (sSet 2 (sOp modF (sCB intF (pCons (sOp ixG (sVar 0) (sC (.int 0))) pNil)) (sVar 1))) (sSeq (sSub 0 (sC (.int 0)) (sOp divF (sOp ixG (sVar 0) (sC (.int 0))) (sVar 1))) (sRet (sVar 2))))
def F__law_take : Fn := fnOf 3 [.r, .v] b__law_take
theorem mulOk_of {i j : Int} (a b : Nat) (hi : i.natAbs < 2 ^ a) (hj : j.natAbs < 2 ^ b) (h : a + b < 1000000) : mulOk i j = true := by
  have l : ∀ (n c : Nat), n < 2 ^ c → n.log2 ≤ c := fun n c hn => by
    by_cases h0 : n = 0
    · subst h0; simp
    · exact Nat.le_of_lt ((Nat.log2_lt h0).mpr hn)
  have h1 := l _ _ hi
  have h2 := l _ _ hj
  simp only [mulOk, decide_eq_true_eq]
  omega
theorem mixed_D (x k : Int) (hk : 0 ≤ k) (hk2 : k < 1000000) : ∃ r : Int, 0 ≤ r ∧ r < 2147483579 ∧ F__law_mixed [.int x, .int k] = some ((.int r, false), []) := by
  have a1 := Int.emod_nonneg x (show (2147483647 : Int) ≠ 0 by decide)
  have a2 := Int.emod_lt_of_pos x (show (0 : Int) < 2147483647 by decide)
  generalize h1 : x % 2147483647 = y at a1 a2
  have m1 : mulOk y 48271 = true := mulOk_of 32 32 (by omega) (by omega) (by omega)
  have m2 : mulOk k 69621 = true := mulOk_of 32 32 (by omega) (by omega) (by omega)
  have b1 := Int.emod_nonneg (y * 48271 + k * 69621 + 1048583) (show (2147483629 : Int) ≠ 0 by decide)
  have b2 := Int.emod_lt_of_pos (y * 48271 + k * 69621 + 1048583) (show (0 : Int) < 2147483629 by decide)
  generalize h2 : (y * 48271 + k * 69621 + 1048583) % 2147483629 = z at b1 b2
  have m3 : mulOk z z = true := mulOk_of 32 32 (by omega) (by omega) (by omega)
  have c1 := Int.emod_nonneg (z * z) (show (2147483587 : Int) ≠ 0 by decide)
  have c2 := Int.emod_lt_of_pos (z * z) (show (0 : Int) < 2147483587 by decide)
  generalize h3 : (z * z) % 2147483587 = u at c1 c2
  have m4 : mulOk u (u + 2) = true := mulOk_of 32 33 (by omega) (by omega) (by omega)
  refine ⟨(u * (u + 2)) % 2147483579, Int.emod_nonneg _ (by decide), Int.emod_lt_of_pos _ (by decide), ?_⟩
  unfold F__law_mixed b__law_mixed
  simp [h1, m1, m2, h2, m3, h3, m4]
theorem pow18 : powF (.int 10) (.int 18) = some (.int 1000000000000000000, false) := rfl
theorem pow60 : powF (.int 10) (.int 60) = some (.int (10 ^ 60), false) := rfl
def bigE : SemE := (sOp mulF (sOp mulF (sOp mulF (sOp powF (sC (.int 10)) (sC (.int 60))) (sOp powF (sC (.int 10)) (sC (.int 60)))) (sOp powF (sC (.int 10)) (sC (.int 60)))) (sOp powF (sC (.int 10)) (sC (.int 60))))
theorem mul_int {i j : Int} (h : mulOk i j = true) : mulF (.int i) (.int j) = some (.int (i * j), false) := by
  simp only [mulF, h, if_true]
theorem big_D : ∀ ρ : Ro, bigE ρ = some (.val (.int (10 ^ 60 * 10 ^ 60 * 10 ^ 60 * 10 ^ 60)), ρ) := fun ρ => by
  have q1 : mulOk (10 ^ 60) (10 ^ 60) = true := by decide +kernel
  have q2 : mulOk (10 ^ 60 * 10 ^ 60) (10 ^ 60) = true := by decide +kernel
  have q3 : mulOk (10 ^ 60 * 10 ^ 60 * 10 ^ 60) (10 ^ 60) = true := by decide +kernel
  have m1 := mul_int q1
  have m2 := mul_int q2
  have m3 := mul_int q3
  have p := pow60
  unfold bigE
  generalize (10 : Int) ^ 60 = T at *
  simp [p, m1, m2, m3, -mul_i]
abbrev body_cell : SemS := (sSet 3 (sOp addF (sOp mulF (sVar 3) (sC (.int 2147483579))) (sCall [.v, .v] F__law_mixed (mV (sVar 2) (mV (sOp addF (sOp addF (sOp mulF (sC (.int 7)) (sVar 1)) (sOp mulF (sC (.int 100)) (sVar 4))) (sOp mulF (sVar 4) (sVar 4))) mNil)))))
theorem cell_D (ns : List Int) (k : Nat) (hk : k < 1000) : ∃ c : Int, F__law_cell [.list (ns.map .int), .int k] = some ((.int c, false), []) := by
  have q4 : (0 : Int) < 10 ^ 60 * 10 ^ 60 * 10 ^ 60 * 10 ^ 60 := by decide +kernel
  obtain ⟨x, hx⟩ : ∃ x : Int, ((sIfS (sTest (sOp ltF (sVar 1) (sLenScr 0))) (sSet 2 (sIxScr 0 (sVar 1))) sNx) [some (.scr (ns.map .int)), some (.val (.int k)), some (.val (.int 0)), none, none]) = some (.nx [some (.scr (ns.map .int)), some (.val (.int k)), some (.val (.int x)), none, none]) := by
    by_cases h : (k : Int) < ns.length
    · have hk' : k < ns.length := by omega
      refine ⟨ns[k], ?_⟩
      have : atI (ns.map PyData.int) (k : Int) = some (.int ns[k]) := by
        unfold atI ixN
        rw [if_pos (by omega), if_pos (by simpa using h)]
        simp [List.getElem?_eq_getElem hk']
      simp [h, this]
    · refine ⟨0, ?_⟩
      simp [h]
  by_cases hg : (1000000000000000000 : Int) ≤ x
  · refine ⟨(x - 1000000000000000000) % (10 ^ 60 * 10 ^ 60 * 10 ^ 60 * 10 ^ 60), ?_⟩
    unfold F__law_cell b__law_cell
    generalize sIfS (sTest (sOp ltF (sVar 1) (sLenScr 0))) (sSet 2 (sIxScr 0 (sVar 1))) sNx = S at *
    have hb := big_D
    unfold bigE at hb
    generalize (sOp mulF (sOp mulF (sOp mulF (sOp powF (sC (.int 10)) (sC (.int 60))) (sOp powF (sC (.int 10)) (sC (.int 60)))) (sOp powF (sC (.int 10)) (sC (.int 60)))) (sOp powF (sC (.int 10)) (sC (.int 60)))) = BE at *
    generalize ((10 : Int) ^ 60 * 10 ^ 60 * 10 ^ 60 * 10 ^ 60) = B at *
    simp [hx, pow18, hg, hb, q4]
  · have L := forL_inv (g := gN 4) (b := body_cell) (fun j ρ => j ≤ 24 → ∃ (f : Int) (c4 : Option D), 0 ≤ f ∧ f.natAbs < 2 ^ (32 * j) ∧ ρ = [some (.scr (ns.map .int)), some (.val (.int k)), some (.val (.int x)), some (.val (.int f)), c4.map .val])
      (rng 0 24) 0 [some (.scr (ns.map .int)), some (.val (.int k)), some (.val (.int x)), some (.val (.int 0)), none] (fun _ => ⟨0, none, by omega, by simp, rfl⟩) (fun j d ρ hd hI => by
        simp only [Nat.zero_add] at hI ⊢
        simp only [rng, List.getElem?_map, Option.map_eq_some_iff] at hd
        obtain ⟨j', hj', rfl⟩ := hd
        obtain ⟨hj1, hj2⟩ := List.getElem?_eq_some_iff.mp hj'
        simp only [List.getElem_range] at hj2
        subst hj2
        simp only [List.length_range] at hj1
        obtain ⟨f, c4, f0, f1, rfl⟩ := hI (by omega)
        have g1 : f.natAbs < 2 ^ 800 := Nat.lt_of_lt_of_le f1 (Nat.pow_le_pow_right (by decide) (by omega))
        have m1 : mulOk f 2147483579 = true := mulOk_of 800 32 g1 (by decide) (by decide)
        have m2 : mulOk 7 k = true := mulOk_of 32 32 (by omega) (by omega) (by decide)
        have m3 : mulOk 100 (j : Int) = true := mulOk_of 32 32 (by omega) (by omega) (by decide)
        have m4 : mulOk (j : Int) (j : Int) = true := mulOk_of 32 32 (by omega) (by omega) (by decide)
        have jj : (j : Int) * (j : Int) ≤ 24 * 24 := Int.mul_le_mul (by omega) (by omega) (by omega) (by omega)
        have jj0 : 0 ≤ (j : Int) * (j : Int) := Int.mul_nonneg (by omega) (by omega)
        obtain ⟨r, r0, r1, mx⟩ := mixed_D x (7 * (k : Int) + 100 * (j : Int) + (j : Int) * (j : Int)) (by omega) (by omega)
        refine ⟨[some (.scr (ns.map .int)), some (.val (.int k)), some (.val (.int x)), some (.val (.int f)), some (.val (.int (j : Nat)))], [some (.scr (ns.map .int)), some (.val (.int k)), some (.val (.int x)), some (.val (.int (f * 2147483579 + r))), some (.val (.int (j : Nat)))], by simp, ?_, fun _ => ⟨f * 2147483579 + r, some (.int (j : Nat)), by omega, ?_, rfl⟩⟩
        · simp [m1, m2, m3, m4, mx]
        · rw [show 32 * (j + 1) = 32 * j + 32 by omega, Nat.pow_add]
          generalize 2 ^ (32 * j) = P at f1
          rw [show (2 : Nat) ^ 32 = 4294967296 from rfl]
          omega)
    obtain ⟨ρ', L, hI⟩ := L
    obtain ⟨f, c4, f0, f1, rfl⟩ := hI (by simp [rng])
    refine ⟨f, ?_⟩
    have s24 : small62 24 = true := by decide +kernel
    unfold F__law_cell b__law_cell
    generalize sIfS (sTest (sOp ltF (sVar 1) (sLenScr 0))) (sSet 2 (sIxScr 0 (sVar 1))) sNx = S at *
    simp [hx, pow18, pow60, hg, s24, L]
theorem take_D (x m : Int) (hm : 0 < m) (hl : m < 1000000) : F__law_take [.list [.int x], .int m] = some ((.int (x % m), false), [.list [.int (x / m)]]) := by
  have hl2 : m.natAbs.log2 < 9000 := by
    have : m.natAbs.log2 < 20 := (Nat.log2_lt (by omega)).mpr (by omega)
    omega
  have a1 : atI [PyData.int x] 0 = some (.int x) := rfl
  have a2 : ixN 1 0 = some 0 := rfl
  unfold F__law_take b__law_take
  simp [hm, hl2, a1, a2]
end Pv.Lw
end
section
set_option Elab.async false
set_option linter.all false
set_option autoImplicit false
set_option maxRecDepth 100000
set_option maxHeartbeats 1000000
namespace Pv
open PySem L2 PySem.W Pv.Ev
theorem seqIx {n : Nat} {i : Int} (h0 : 0 ≤ i) (h1 : i < n) : seqIndex? i n = some i.toNat := by
  unfold seqIndex?
  have : ¬ i < 0 := by omega
  simp [this, h0, h1]
theorem map_erase {α β : Type} (f : α → β) : ∀ (l : List α) (i : Nat), (l.map f).eraseIdx i = (l.eraseIdx i).map f
  | [], _ => by simp
  | x :: l, 0 => by simp
  | x :: l, i + 1 => by simp [map_erase f l i]
theorem perm_erase {α : Type} : ∀ (l : List α) (i : Nat) (h : i < l.length), (l[i] :: l.eraseIdx i).Perm l
  | x :: l, 0, _ => by simp
  | x :: l, i + 1, h => by
    have := perm_erase l i (by simpa using h)
    simp only [List.getElem_cons_succ, List.eraseIdx_cons_succ]
    exact (List.Perm.swap _ _ _).trans (this.cons x)
theorem pop_drawn {α : Type} (f : α → D) (rem : List α) (x : Int) (h : 0 < rem.length) (hl : rem.length ≤ 1000000) : ∃ l rem', (l :: rem').Perm rem ∧ rem'.Sublist rem ∧ popM (.list (rem.map f)) [.int (x % rem.length)] = some (.list (rem'.map f), f l) := by
  have h0 := Int.emod_nonneg x (show (rem.length : Int) ≠ 0 by omega)
  have h1 := Int.emod_lt_of_pos x (show (0 : Int) < rem.length by omega)
  have hj : (x % rem.length).toNat < rem.length := by omega
  refine ⟨rem[(x % rem.length).toNat], rem.eraseIdx (x % rem.length).toNat, perm_erase _ _ hj, List.eraseIdx_sublist _ _, ?_⟩
  have s := seqIx (n := (rem.map f).length) h0 (by simpa using h1)
  have c : -(2 ^ 63) ≤ x % (rem.length : Int) ∧ x % (rem.length : Int) < 2 ^ 63 := ⟨by omega, by omega⟩
  simp only [popM, if_pos c, s, Option.bind_some, List.getElem?_map, List.getElem?_eq_getElem hj, Option.map_some, map_erase]
theorem small_of (N : Nat) (h : N ≤ 1000000) : small62 (N : Int) = true := by
  have e : (2 : Int) ^ 62 = 4611686018427387904 := rfl
  simp only [small62, e, Bool.and_eq_true, decide_eq_true_eq]
  omega
end Pv
end
section
set_option Elab.async false
set_option linter.all false
set_option autoImplicit false
set_option maxRecDepth 100000
set_option maxHeartbeats 1000000
namespace Pv
open PySem
section
variable {α β : Type}
end
end Pv
end
section
set_option Elab.async false
set_option linter.all false
set_option maxRecDepth 100000
set_option maxHeartbeats 1000000
namespace Pv
open PySem PySem.Spec PyProof.Rows L2 PySem.W
section
variable {X : Cx}
end
section
variable {P : Program} {w : World} {K : Fr'} {mg : Str → Option Value} {base : Heap} {x : Str} {k : Nat} {ps : List Str} {ms : List Md} {st : Stmt}
end
end Pv
end
section
set_option Elab.async false
set_option linter.all false
set_option maxRecDepth 100000
set_option maxHeartbeats 1000000
namespace Pv.Pg
open PySem Pv
end Pv.Pg
end
section
set_option Elab.async false
set_option linter.all false
set_option autoImplicit false
set_option maxRecDepth 100000
set_option maxHeartbeats 1000000
namespace Pv.Pg
open PySem Pv
abbrev letters : Str := "abcdefghijklmnopqrstuvwxyz"
def letterB (c : Nat) : Bool := decide (c ∈ chars letters)
def nameB (x : Str) : Bool := decide (1 ≤ (x.length : Int)) && (decide ((x.length : Int) ≤ 8) && x.cps.toList.all letterB)
def nameD : PyData → Bool
  | .str x => nameB x
  | _ => false
end Pv.Pg
end
section
set_option Elab.async false
set_option linter.all false
set_option autoImplicit false
set_option maxRecDepth 100000
set_option maxHeartbeats 1000000
namespace Pv.Ev
open PySem Pv
theorem str_ne {a b : Str} (h : (a.cps.toList == b.cps.toList) = false) : (a == b) = false := by rw [eqS_beq0]; exact h
theorem str_ne' {a b : Str} (h : (a.cps.toList == b.cps.toList) = false) : (a = b) = False := by
  have := str_ne h
  simpa using this

@[scoped simp] theorem kn_skip_stop : (("skip" : Str) == ("stop" : Str)) = false := str_ne (by decide +kernel)
@[scoped simp] theorem kd_skip_stop : (("skip" : Str) = ("stop" : Str)) = False := str_ne' (by decide +kernel)
@[scoped simp] theorem kn_skip_hole : (("skip" : Str) == ("hole" : Str)) = false := str_ne (by decide +kernel)
@[scoped simp] theorem kd_skip_hole : (("skip" : Str) = ("hole" : Str)) = False := str_ne' (by decide +kernel)
@[scoped simp] theorem kn_skip_do : (("skip" : Str) == ("do" : Str)) = false := str_ne (by decide +kernel)
@[scoped simp] theorem kd_skip_do : (("skip" : Str) = ("do" : Str)) = False := str_ne' (by decide +kernel)
@[scoped simp] theorem kn_skip_call : (("skip" : Str) == ("call" : Str)) = false := str_ne (by decide +kernel)
@[scoped simp] theorem kd_skip_call : (("skip" : Str) = ("call" : Str)) = False := str_ne' (by decide +kernel)
@[scoped simp] theorem kn_skip_hold : (("skip" : Str) == ("hold" : Str)) = false := str_ne (by decide +kernel)
@[scoped simp] theorem kd_skip_hold : (("skip" : Str) = ("hold" : Str)) = False := str_ne' (by decide +kernel)
@[scoped simp] theorem kn_skip_loop : (("skip" : Str) == ("loop" : Str)) = false := str_ne (by decide +kernel)
@[scoped simp] theorem kd_skip_loop : (("skip" : Str) = ("loop" : Str)) = False := str_ne' (by decide +kernel)
@[scoped simp] theorem kn_skip_seq : (("skip" : Str) == ("seq" : Str)) = false := str_ne (by decide +kernel)
@[scoped simp] theorem kd_skip_seq : (("skip" : Str) = ("seq" : Str)) = False := str_ne' (by decide +kernel)
@[scoped simp] theorem kn_skip_either : (("skip" : Str) == ("either" : Str)) = false := str_ne (by decide +kernel)
@[scoped simp] theorem kd_skip_either : (("skip" : Str) = ("either" : Str)) = False := str_ne' (by decide +kernel)
@[scoped simp] theorem kn_stop_skip : (("stop" : Str) == ("skip" : Str)) = false := str_ne (by decide +kernel)
@[scoped simp] theorem kd_stop_skip : (("stop" : Str) = ("skip" : Str)) = False := str_ne' (by decide +kernel)
@[scoped simp] theorem kn_stop_hole : (("stop" : Str) == ("hole" : Str)) = false := str_ne (by decide +kernel)
@[scoped simp] theorem kd_stop_hole : (("stop" : Str) = ("hole" : Str)) = False := str_ne' (by decide +kernel)
@[scoped simp] theorem kn_stop_do : (("stop" : Str) == ("do" : Str)) = false := str_ne (by decide +kernel)
@[scoped simp] theorem kd_stop_do : (("stop" : Str) = ("do" : Str)) = False := str_ne' (by decide +kernel)
@[scoped simp] theorem kn_stop_call : (("stop" : Str) == ("call" : Str)) = false := str_ne (by decide +kernel)
@[scoped simp] theorem kd_stop_call : (("stop" : Str) = ("call" : Str)) = False := str_ne' (by decide +kernel)
@[scoped simp] theorem kn_stop_hold : (("stop" : Str) == ("hold" : Str)) = false := str_ne (by decide +kernel)
@[scoped simp] theorem kd_stop_hold : (("stop" : Str) = ("hold" : Str)) = False := str_ne' (by decide +kernel)
@[scoped simp] theorem kn_stop_loop : (("stop" : Str) == ("loop" : Str)) = false := str_ne (by decide +kernel)
@[scoped simp] theorem kd_stop_loop : (("stop" : Str) = ("loop" : Str)) = False := str_ne' (by decide +kernel)
@[scoped simp] theorem kn_stop_seq : (("stop" : Str) == ("seq" : Str)) = false := str_ne (by decide +kernel)
@[scoped simp] theorem kd_stop_seq : (("stop" : Str) = ("seq" : Str)) = False := str_ne' (by decide +kernel)
@[scoped simp] theorem kn_stop_either : (("stop" : Str) == ("either" : Str)) = false := str_ne (by decide +kernel)
@[scoped simp] theorem kd_stop_either : (("stop" : Str) = ("either" : Str)) = False := str_ne' (by decide +kernel)
@[scoped simp] theorem kn_hole_skip : (("hole" : Str) == ("skip" : Str)) = false := str_ne (by decide +kernel)
@[scoped simp] theorem kd_hole_skip : (("hole" : Str) = ("skip" : Str)) = False := str_ne' (by decide +kernel)
@[scoped simp] theorem kn_hole_stop : (("hole" : Str) == ("stop" : Str)) = false := str_ne (by decide +kernel)
@[scoped simp] theorem kd_hole_stop : (("hole" : Str) = ("stop" : Str)) = False := str_ne' (by decide +kernel)
@[scoped simp] theorem kn_hole_do : (("hole" : Str) == ("do" : Str)) = false := str_ne (by decide +kernel)
@[scoped simp] theorem kd_hole_do : (("hole" : Str) = ("do" : Str)) = False := str_ne' (by decide +kernel)
@[scoped simp] theorem kn_hole_call : (("hole" : Str) == ("call" : Str)) = false := str_ne (by decide +kernel)
@[scoped simp] theorem kd_hole_call : (("hole" : Str) = ("call" : Str)) = False := str_ne' (by decide +kernel)
@[scoped simp] theorem kn_hole_hold : (("hole" : Str) == ("hold" : Str)) = false := str_ne (by decide +kernel)
@[scoped simp] theorem kd_hole_hold : (("hole" : Str) = ("hold" : Str)) = False := str_ne' (by decide +kernel)
@[scoped simp] theorem kn_hole_loop : (("hole" : Str) == ("loop" : Str)) = false := str_ne (by decide +kernel)
@[scoped simp] theorem kd_hole_loop : (("hole" : Str) = ("loop" : Str)) = False := str_ne' (by decide +kernel)
@[scoped simp] theorem kn_hole_seq : (("hole" : Str) == ("seq" : Str)) = false := str_ne (by decide +kernel)
@[scoped simp] theorem kd_hole_seq : (("hole" : Str) = ("seq" : Str)) = False := str_ne' (by decide +kernel)
@[scoped simp] theorem kn_hole_either : (("hole" : Str) == ("either" : Str)) = false := str_ne (by decide +kernel)
@[scoped simp] theorem kd_hole_either : (("hole" : Str) = ("either" : Str)) = False := str_ne' (by decide +kernel)
@[scoped simp] theorem kn_do_skip : (("do" : Str) == ("skip" : Str)) = false := str_ne (by decide +kernel)
@[scoped simp] theorem kd_do_skip : (("do" : Str) = ("skip" : Str)) = False := str_ne' (by decide +kernel)
@[scoped simp] theorem kn_do_stop : (("do" : Str) == ("stop" : Str)) = false := str_ne (by decide +kernel)
@[scoped simp] theorem kd_do_stop : (("do" : Str) = ("stop" : Str)) = False := str_ne' (by decide +kernel)
@[scoped simp] theorem kn_do_hole : (("do" : Str) == ("hole" : Str)) = false := str_ne (by decide +kernel)
@[scoped simp] theorem kd_do_hole : (("do" : Str) = ("hole" : Str)) = False := str_ne' (by decide +kernel)
@[scoped simp] theorem kn_do_call : (("do" : Str) == ("call" : Str)) = false := str_ne (by decide +kernel)
@[scoped simp] theorem kd_do_call : (("do" : Str) = ("call" : Str)) = False := str_ne' (by decide +kernel)
@[scoped simp] theorem kn_do_hold : (("do" : Str) == ("hold" : Str)) = false := str_ne (by decide +kernel)
@[scoped simp] theorem kd_do_hold : (("do" : Str) = ("hold" : Str)) = False := str_ne' (by decide +kernel)
@[scoped simp] theorem kn_do_loop : (("do" : Str) == ("loop" : Str)) = false := str_ne (by decide +kernel)
@[scoped simp] theorem kd_do_loop : (("do" : Str) = ("loop" : Str)) = False := str_ne' (by decide +kernel)
@[scoped simp] theorem kn_do_seq : (("do" : Str) == ("seq" : Str)) = false := str_ne (by decide +kernel)
@[scoped simp] theorem kd_do_seq : (("do" : Str) = ("seq" : Str)) = False := str_ne' (by decide +kernel)
@[scoped simp] theorem kn_do_either : (("do" : Str) == ("either" : Str)) = false := str_ne (by decide +kernel)
@[scoped simp] theorem kd_do_either : (("do" : Str) = ("either" : Str)) = False := str_ne' (by decide +kernel)
@[scoped simp] theorem kn_call_skip : (("call" : Str) == ("skip" : Str)) = false := str_ne (by decide +kernel)
@[scoped simp] theorem kd_call_skip : (("call" : Str) = ("skip" : Str)) = False := str_ne' (by decide +kernel)
@[scoped simp] theorem kn_call_stop : (("call" : Str) == ("stop" : Str)) = false := str_ne (by decide +kernel)
@[scoped simp] theorem kd_call_stop : (("call" : Str) = ("stop" : Str)) = False := str_ne' (by decide +kernel)
@[scoped simp] theorem kn_call_hole : (("call" : Str) == ("hole" : Str)) = false := str_ne (by decide +kernel)
@[scoped simp] theorem kd_call_hole : (("call" : Str) = ("hole" : Str)) = False := str_ne' (by decide +kernel)
@[scoped simp] theorem kn_call_do : (("call" : Str) == ("do" : Str)) = false := str_ne (by decide +kernel)
@[scoped simp] theorem kd_call_do : (("call" : Str) = ("do" : Str)) = False := str_ne' (by decide +kernel)
@[scoped simp] theorem kn_call_hold : (("call" : Str) == ("hold" : Str)) = false := str_ne (by decide +kernel)
@[scoped simp] theorem kd_call_hold : (("call" : Str) = ("hold" : Str)) = False := str_ne' (by decide +kernel)
@[scoped simp] theorem kn_call_loop : (("call" : Str) == ("loop" : Str)) = false := str_ne (by decide +kernel)
@[scoped simp] theorem kd_call_loop : (("call" : Str) = ("loop" : Str)) = False := str_ne' (by decide +kernel)
@[scoped simp] theorem kn_call_seq : (("call" : Str) == ("seq" : Str)) = false := str_ne (by decide +kernel)
@[scoped simp] theorem kd_call_seq : (("call" : Str) = ("seq" : Str)) = False := str_ne' (by decide +kernel)
@[scoped simp] theorem kn_call_either : (("call" : Str) == ("either" : Str)) = false := str_ne (by decide +kernel)
@[scoped simp] theorem kd_call_either : (("call" : Str) = ("either" : Str)) = False := str_ne' (by decide +kernel)
@[scoped simp] theorem kn_hold_skip : (("hold" : Str) == ("skip" : Str)) = false := str_ne (by decide +kernel)
@[scoped simp] theorem kd_hold_skip : (("hold" : Str) = ("skip" : Str)) = False := str_ne' (by decide +kernel)
@[scoped simp] theorem kn_hold_stop : (("hold" : Str) == ("stop" : Str)) = false := str_ne (by decide +kernel)
@[scoped simp] theorem kd_hold_stop : (("hold" : Str) = ("stop" : Str)) = False := str_ne' (by decide +kernel)
@[scoped simp] theorem kn_hold_hole : (("hold" : Str) == ("hole" : Str)) = false := str_ne (by decide +kernel)
@[scoped simp] theorem kd_hold_hole : (("hold" : Str) = ("hole" : Str)) = False := str_ne' (by decide +kernel)
@[scoped simp] theorem kn_hold_do : (("hold" : Str) == ("do" : Str)) = false := str_ne (by decide +kernel)
@[scoped simp] theorem kd_hold_do : (("hold" : Str) = ("do" : Str)) = False := str_ne' (by decide +kernel)
@[scoped simp] theorem kn_hold_call : (("hold" : Str) == ("call" : Str)) = false := str_ne (by decide +kernel)
@[scoped simp] theorem kd_hold_call : (("hold" : Str) = ("call" : Str)) = False := str_ne' (by decide +kernel)
@[scoped simp] theorem kn_hold_loop : (("hold" : Str) == ("loop" : Str)) = false := str_ne (by decide +kernel)
@[scoped simp] theorem kd_hold_loop : (("hold" : Str) = ("loop" : Str)) = False := str_ne' (by decide +kernel)
@[scoped simp] theorem kn_hold_seq : (("hold" : Str) == ("seq" : Str)) = false := str_ne (by decide +kernel)
@[scoped simp] theorem kd_hold_seq : (("hold" : Str) = ("seq" : Str)) = False := str_ne' (by decide +kernel)
@[scoped simp] theorem kn_hold_either : (("hold" : Str) == ("either" : Str)) = false := str_ne (by decide +kernel)
@[scoped simp] theorem kd_hold_either : (("hold" : Str) = ("either" : Str)) = False := str_ne' (by decide +kernel)
@[scoped simp] theorem kn_loop_skip : (("loop" : Str) == ("skip" : Str)) = false := str_ne (by decide +kernel)
@[scoped simp] theorem kd_loop_skip : (("loop" : Str) = ("skip" : Str)) = False := str_ne' (by decide +kernel)
@[scoped simp] theorem kn_loop_stop : (("loop" : Str) == ("stop" : Str)) = false := str_ne (by decide +kernel)
@[scoped simp] theorem kd_loop_stop : (("loop" : Str) = ("stop" : Str)) = False := str_ne' (by decide +kernel)
@[scoped simp] theorem kn_loop_hole : (("loop" : Str) == ("hole" : Str)) = false := str_ne (by decide +kernel)
@[scoped simp] theorem kd_loop_hole : (("loop" : Str) = ("hole" : Str)) = False := str_ne' (by decide +kernel)
@[scoped simp] theorem kn_loop_do : (("loop" : Str) == ("do" : Str)) = false := str_ne (by decide +kernel)
@[scoped simp] theorem kd_loop_do : (("loop" : Str) = ("do" : Str)) = False := str_ne' (by decide +kernel)
@[scoped simp] theorem kn_loop_call : (("loop" : Str) == ("call" : Str)) = false := str_ne (by decide +kernel)
@[scoped simp] theorem kd_loop_call : (("loop" : Str) = ("call" : Str)) = False := str_ne' (by decide +kernel)
@[scoped simp] theorem kn_loop_hold : (("loop" : Str) == ("hold" : Str)) = false := str_ne (by decide +kernel)
@[scoped simp] theorem kd_loop_hold : (("loop" : Str) = ("hold" : Str)) = False := str_ne' (by decide +kernel)
@[scoped simp] theorem kn_loop_seq : (("loop" : Str) == ("seq" : Str)) = false := str_ne (by decide +kernel)
@[scoped simp] theorem kd_loop_seq : (("loop" : Str) = ("seq" : Str)) = False := str_ne' (by decide +kernel)
@[scoped simp] theorem kn_loop_either : (("loop" : Str) == ("either" : Str)) = false := str_ne (by decide +kernel)
@[scoped simp] theorem kd_loop_either : (("loop" : Str) = ("either" : Str)) = False := str_ne' (by decide +kernel)
@[scoped simp] theorem kn_seq_skip : (("seq" : Str) == ("skip" : Str)) = false := str_ne (by decide +kernel)
@[scoped simp] theorem kd_seq_skip : (("seq" : Str) = ("skip" : Str)) = False := str_ne' (by decide +kernel)
@[scoped simp] theorem kn_seq_stop : (("seq" : Str) == ("stop" : Str)) = false := str_ne (by decide +kernel)
@[scoped simp] theorem kd_seq_stop : (("seq" : Str) = ("stop" : Str)) = False := str_ne' (by decide +kernel)
@[scoped simp] theorem kn_seq_hole : (("seq" : Str) == ("hole" : Str)) = false := str_ne (by decide +kernel)
@[scoped simp] theorem kd_seq_hole : (("seq" : Str) = ("hole" : Str)) = False := str_ne' (by decide +kernel)
@[scoped simp] theorem kn_seq_do : (("seq" : Str) == ("do" : Str)) = false := str_ne (by decide +kernel)
@[scoped simp] theorem kd_seq_do : (("seq" : Str) = ("do" : Str)) = False := str_ne' (by decide +kernel)
@[scoped simp] theorem kn_seq_call : (("seq" : Str) == ("call" : Str)) = false := str_ne (by decide +kernel)
@[scoped simp] theorem kd_seq_call : (("seq" : Str) = ("call" : Str)) = False := str_ne' (by decide +kernel)
@[scoped simp] theorem kn_seq_hold : (("seq" : Str) == ("hold" : Str)) = false := str_ne (by decide +kernel)
@[scoped simp] theorem kd_seq_hold : (("seq" : Str) = ("hold" : Str)) = False := str_ne' (by decide +kernel)
@[scoped simp] theorem kn_seq_loop : (("seq" : Str) == ("loop" : Str)) = false := str_ne (by decide +kernel)
@[scoped simp] theorem kd_seq_loop : (("seq" : Str) = ("loop" : Str)) = False := str_ne' (by decide +kernel)
@[scoped simp] theorem kn_seq_either : (("seq" : Str) == ("either" : Str)) = false := str_ne (by decide +kernel)
@[scoped simp] theorem kd_seq_either : (("seq" : Str) = ("either" : Str)) = False := str_ne' (by decide +kernel)
@[scoped simp] theorem kn_either_skip : (("either" : Str) == ("skip" : Str)) = false := str_ne (by decide +kernel)
@[scoped simp] theorem kd_either_skip : (("either" : Str) = ("skip" : Str)) = False := str_ne' (by decide +kernel)
@[scoped simp] theorem kn_either_stop : (("either" : Str) == ("stop" : Str)) = false := str_ne (by decide +kernel)
@[scoped simp] theorem kd_either_stop : (("either" : Str) = ("stop" : Str)) = False := str_ne' (by decide +kernel)
@[scoped simp] theorem kn_either_hole : (("either" : Str) == ("hole" : Str)) = false := str_ne (by decide +kernel)
@[scoped simp] theorem kd_either_hole : (("either" : Str) = ("hole" : Str)) = False := str_ne' (by decide +kernel)
@[scoped simp] theorem kn_either_do : (("either" : Str) == ("do" : Str)) = false := str_ne (by decide +kernel)
@[scoped simp] theorem kd_either_do : (("either" : Str) = ("do" : Str)) = False := str_ne' (by decide +kernel)
@[scoped simp] theorem kn_either_call : (("either" : Str) == ("call" : Str)) = false := str_ne (by decide +kernel)
@[scoped simp] theorem kd_either_call : (("either" : Str) = ("call" : Str)) = False := str_ne' (by decide +kernel)
@[scoped simp] theorem kn_either_hold : (("either" : Str) == ("hold" : Str)) = false := str_ne (by decide +kernel)
@[scoped simp] theorem kd_either_hold : (("either" : Str) = ("hold" : Str)) = False := str_ne' (by decide +kernel)
@[scoped simp] theorem kn_either_loop : (("either" : Str) == ("loop" : Str)) = false := str_ne (by decide +kernel)
@[scoped simp] theorem kd_either_loop : (("either" : Str) = ("loop" : Str)) = False := str_ne' (by decide +kernel)
@[scoped simp] theorem kn_either_seq : (("either" : Str) == ("seq" : Str)) = false := str_ne (by decide +kernel)
@[scoped simp] theorem kd_either_seq : (("either" : Str) = ("seq" : Str)) = False := str_ne' (by decide +kernel)
end Pv.Ev
end
section
set_option Elab.async false
set_option linter.all false
set_option autoImplicit false
set_option maxRecDepth 100000
set_option maxHeartbeats 2000000
namespace Pv.Pg
open PySem L2 Pv Pv.Ev
def formB (L : List Str) : D → Option (List D)
  | .tuple (.str k :: r) =>
    if k = "skip" ∨ k = "stop" ∨ (k = "hole" ∧ k ∈ L) then (if r.length = 0 then some [] else none)
    else if k = "do" ∨ (k = "call" ∧ k ∈ L) then (if r.length = 1 ∧ nameD (r.getD 0 .none) = true then some [] else none)
    else if k = "hold" then (if r.length = 2 ∧ nameD (r.getD 0 .none) = true then some (r.drop 1) else none)
    else if k = "loop" then (if r.length = 1 then some r else none)
    else if (k = "seq" ∨ k = "either") ∧ 2 ≤ r.length then some r else none
  | _ => none
end Pv.Pg
end
section
set_option Elab.async false
set_option linter.all false
set_option autoImplicit false
set_option maxRecDepth 100000
set_option maxHeartbeats 2000000
namespace Pv.Pg
open PySem L2 Pv Pv.Ev
inductive Part (L : List Str) : D → List D → Prop
  | leaf0 (k : Str) (hk : k = "skip" ∨ k = "stop" ∨ (k = "hole" ∧ k ∈ L)) : Part L (.tuple [.str k]) []
  | leaf1 (k nm : Str) (hk : k = "do" ∨ (k = "call" ∧ k ∈ L)) (hn : nameB nm = true) : Part L (.tuple [.str k, .str nm]) []
  | hold (nm : Str) (p : D) (hn : nameB nm = true) : Part L (.tuple [.str "hold", .str nm, p]) [p]
  | loop (p : D) : Part L (.tuple [.str "loop", p]) [p]
  | many (k : Str) (r : List D) (hk : k = "seq" ∨ k = "either") (hr : 2 ≤ r.length) : Part L (.tuple (.str k :: r)) r
theorem Part.sub {L : List Str} {v : D} {ms : List D} (p : Part L v ms) : ∃ ds, v = .tuple ds ∧ ∀ m ∈ ms, m ∈ ds := by
  cases p with
  | leaf0 k hk => exact ⟨_, rfl, by simp⟩
  | leaf1 k nm hk hn => exact ⟨_, rfl, by simp⟩
  | hold nm p hn => exact ⟨_, rfl, by simp⟩
  | loop p => exact ⟨_, rfl, by simp⟩
  | many k r hk hr => exact ⟨_, rfl, fun m hm => List.mem_cons_of_mem _ hm⟩
theorem Part.ok {L : List Str} {v : D} {ms : List D} (p : Part L v ms) (h : OkV v) : ∀ m ∈ ms, OkV m := by
  obtain ⟨ds, rfl, hs⟩ := p.sub
  exact fun m hm => h.mem (hs m hm)
theorem Part.len {L : List Str} {v : D} {ms : List D} (p : Part L v ms) (h : OkV v) : ms.length ≤ 4000 := by
  cases p with
  | leaf0 k hk => simp
  | leaf1 k nm hk hn => simp
  | hold nm p hn => simp
  | loop p => simp
  | many k r hk hr => have := h.len; simp at this; omega
def allP (f : D → Option (List D)) : List D → Option (List D)
  | [] => some []
  | d :: ds => (f d).bind fun a => (allP f ds).map (a ++ ·)
def partsB (L : List Str) : Nat → D → Option (List D)
  | 0, _ => none
  | n + 1, v => (formB L v).bind fun ms => (allP (partsB L n) ms).map (v :: ·)
end Pv.Pg
end
section
set_option Elab.async false
set_option linter.all false
set_option autoImplicit false
set_option maxRecDepth 100000
set_option maxHeartbeats 2000000
namespace Pv.Pg
open PySem L2 Pv Pv.Ev
end Pv.Pg
end
section
set_option Elab.async false
set_option linter.all false
set_option autoImplicit false
set_option maxRecDepth 100000
set_option maxHeartbeats 2000000
namespace Pv.Pg
open PySem L2 Pv Pv.Ev
def dsOf : D → List D
  | .tuple ds => ds
  | _ => []
theorem Part.few {L : List Str} {v : D} {ms : List D} (p : Part L v ms) : ms.length ≤ (dsOf v).length := by
  cases p <;> simp [dsOf]
end Pv.Pg
end
section
set_option Elab.async false
set_option linter.all false
set_option autoImplicit false
set_option maxRecDepth 100000
set_option maxHeartbeats 2000000
namespace Pv.Lw
open PySem L2 Pv Pv.Ev Pv.Pg
def b__law_words : SemS := (sSeq (sSet 2 (sLst (sCons (sC (.str "a")) (sCons (sC (.str "ab")) (sCons (sC (.str "b")) (sCons (sC (.str "hold")) (sCons (sC (.str "outer")) (sCons (sC (.str "zz")) (sCons (sC (.str "either")) (sCons (sC (.str "longlock")) (sCons (sC (.str "inner")) (sCons (sC (.str "here")) sNil)))))))))))) (sSeq (sSet 3 (sLst sNil)) (sSeq (sFor (iR1 (pCons (sVar 1) pNil)) (gN 4) (sExpr (sMut "list" 3 appendM (sCons (sMut "list" 2 popM (sCons (sCall [.r, .v] F__law_take (mR (sVar 0) (mV (sCB lenF (pCons (sVar 2) pNil)) mNil))) sNil)) sNil)))) (sRet (sVar 3)))))
def F__law_words : Fn := fnOf 5 [.r, .v] b__law_words
abbrev W : List Str := ["a", "ab", "b", "hold", "outer", "zz", "either", "longlock", "inner", "here"]
abbrev body_words : SemS := (sExpr (sMut "list" 3 appendM (sCons (sMut "list" 2 popM (sCons (sCall [.r, .v] F__law_take (mR (sVar 0) (mV (sCB lenF (pCons (sVar 2) pNil)) mNil))) sNil)) sNil)))
theorem words_D (x : Int) (m : Nat) (hm : m ≤ 10) : ∃ (x' : Int) (ws : List Str), F__law_words [.list [.int x], .int (m : Nat)] = some ((.list (ws.map .str), true), [.list [.int x']]) ∧ ws.length = m ∧ ws.Nodup ∧ ∀ w ∈ ws, w ∈ W := by
  obtain ⟨ρ', L, hI⟩ := forL_inv (g := gN 4) (b := body_words) (fun k ρ => k ≤ m → ∃ (y : Int) (rem fnd : List Str) (c4 : Option D), (rem ++ fnd).Perm W ∧ fnd.length = k ∧ ρ = [some (.byr (.list [.int y])), some (.val (.int (m : Nat))), some (.own (.list (rem.map .str))), some (.own (.list (fnd.map .str))), c4.map .val])
    (rng 0 m) 0 [some (.byr (.list [.int x])), some (.val (.int (m : Nat))), some (.own (.list (W.map .str))), some (.own (.list [])), none] (fun _ => ⟨x, W, [], none, by simp, rfl, rfl⟩) (fun k d ρ hd hI => by
      simp only [Nat.zero_add] at hI ⊢
      simp only [rng, List.getElem?_map, Option.map_eq_some_iff] at hd
      obtain ⟨j', hj', rfl⟩ := hd
      obtain ⟨hj1, hj2⟩ := List.getElem?_eq_some_iff.mp hj'
      simp only [List.getElem_range] at hj2
      subst hj2
      simp only [List.length_range] at hj1
      obtain ⟨y, rem, fnd, c4, hp, hl, rfl⟩ := hI (by omega)
      have hlen : rem.length + fnd.length = 10 := by
        have := hp.length_eq
        simpa using this
      obtain ⟨l, rem', p1, _, p3⟩ := pop_drawn PyData.str rem y (by omega) (by omega)
      have t1 := take_D y rem.length (by omega) (by omega)
      have z1 : fnd.length < sizeLine := Nat.lt_of_le_of_lt (by omega : fnd.length ≤ 10) (by decide)
      refine ⟨[some (.byr (.list [.int y])), some (.val (.int (m : Nat))), some (.own (.list (rem.map .str))), some (.own (.list (fnd.map .str))), some (.val (.int k))], [some (.byr (.list [.int (y / rem.length)])), some (.val (.int (m : Nat))), some (.own (.list (rem'.map .str))), some (.own (.list ((fnd ++ [l]).map .str))), some (.val (.int k))], by simp, ?_, fun _ => ⟨y / rem.length, rem', fnd ++ [l], some (.int k), ?_, by simp [hl], rfl⟩⟩
      · simp -implicitDefEqProofs [t1, p3, z1, -pop_i]
      · refine List.Perm.trans ?_ hp
        refine List.Perm.trans ?_ (p1.append_right fnd)
        refine (List.perm_iff_count.mpr fun a => ?_)
        simp only [List.count_append, List.count_cons, List.count_nil, List.cons_append]
        omega)
  obtain ⟨y, rem, fnd, c4, hp, hl, rfl⟩ := hI (by simp [rng])
  have nd : (rem ++ fnd).Nodup := hp.nodup_iff.mpr (by decide +kernel)
  refine ⟨y, fnd, ?_, by simpa [rng] using hl, (List.nodup_append.mp nd).2.1, fun w hw => hp.mem_iff.mp (List.mem_append_right _ hw)⟩
  have s6 : small62 (m : Int) = true := small_of m (by omega)
  have z10 : 10 ≤ sizeLine := by decide
  simp only [W, List.map_cons, List.map_nil] at L
  unfold F__law_words b__law_words
  simp -implicitDefEqProofs [L, s6, z10]
theorem W_ok : ∀ w ∈ W, okVB (.str w) = true ∧ nameB w = true ∧ decide ((PyData.str w).weight ≤ 8) = true := by decide +kernel
def GW (ws : List Str) : Prop := ws ≠ [] ∧ ws.length ≤ 1000 ∧ ∀ w ∈ ws, okVB (.str w) = true ∧ nameB w = true ∧ (PyData.str w).weight ≤ 8
theorem GW.of {ws : List Str} (h1 : ws ≠ []) (h2 : ws.length ≤ 1000) (h : ∀ w ∈ ws, w ∈ W) : GW ws := ⟨h1, h2, fun w hw => by
  obtain ⟨a, b, c⟩ := W_ok w (h w hw)
  exact ⟨a, b, of_decide_eq_true c⟩⟩
structure DB (n wt : Nat) (v : D) : Prop where
  parts : (partsB [] n v).isSome = true
  ok : OkV v
  wgt : v.weight ≤ wt
  dep : v.depth ≤ n
end Pv.Lw
end
section
set_option Elab.async false
set_option linter.all false
set_option maxRecDepth 100000
set_option maxHeartbeats 1000000
namespace Pv
open PySem PySem.Spec PyProof.Rows L2 PySem.W
def okAt (ρ : Ro) (vs : List Nat) : Bool := vs.all fun i => match ρ[i]? with
  | some (some (.val _)) => true
  | some (some _) => false
  | _ => true
theorem ok_at {ρ : Ro} {vs : List Nat} (h : okAt ρ vs = true) {i : Nat} {c : Cell} (hi : i ∈ vs) (e : ρ[i]? = some (some c)) : ∃ d, c = .val d := by
  unfold okAt at h
  have := List.all_eq_true.mp h i hi
  rw [e] at this
  cases c with
  | val d => exact ⟨d, rfl⟩
  | own d => cases this
  | byr d => cases this
  | scr d => cases this
def backR (ρ0 ρ : Ro) : List Nat → Ro
  | [] => ρ
  | v :: vs => (backR ρ0 ρ vs).set v (ρ0[v]?.getD none)
theorem backR_len (ρ0 ρ : Ro) : ∀ vs, (backR ρ0 ρ vs).length = ρ.length
  | [] => rfl
  | v :: vs => by unfold backR; rw [List.length_set, backR_len ρ0 ρ vs]
theorem backR_in {ρ0 ρ : Ro} {i : Nat} {c : Cell} : ∀ {vs : List Nat}, (backR ρ0 ρ vs)[i]? = some (some c) → (i ∈ vs ∧ ρ0[i]? = some (some c)) ∨ ρ[i]? = some (some c)
  | [], h => .inr h
  | v :: vs, h => by
    unfold backR at h
    by_cases hv : v = i
    · subst hv
      left
      refine ⟨List.mem_cons_self, ?_⟩
      by_cases hl : v < (backR ρ0 ρ vs).length
      · rw [List.getElem?_set_self hl] at h
        injection h with h
        cases h0 : ρ0[v]? with
        | none => rw [h0] at h; cases h
        | some o => rw [h0] at h; simp only [Option.getD_some] at h; rw [h]
      · rw [List.getElem?_eq_none (by rw [List.length_set]; omega)] at h; cases h
    · rw [List.getElem?_set_ne hv] at h
      rcases backR_in h with ⟨a, b⟩ | b
      · exact .inl ⟨List.mem_cons_of_mem _ a, b⟩
      · exact .inr b
theorem backR_off {ρ0 ρ : Ro} {i : Nat} : ∀ {vs : List Nat}, i ∉ vs → (backR ρ0 ρ vs)[i]? = ρ[i]?
  | [], _ => rfl
  | v :: vs, h => by
    unfold backR
    rw [List.getElem?_set_ne (fun z => h (by rw [z]; exact List.mem_cons_self)), backR_off (fun z => h (List.mem_cons_of_mem _ z))]
section
variable {K : Fr'} {P : List (Nat × Addr)} {W F H F' H' : Hp} {σ : St} {ρ ρ2 : Ro} {vs : List Nat}
theorem pin_offS (R : Rel K P W F H σ ρ) (h : okAt ρ vs = true) : ∀ p ∈ P, p.1 ∉ vs := fun p hp hi => by
  obtain ⟨_, d, e⟩ := R.pin p hp
  obtain ⟨_, z⟩ := ok_at h hi e
  cases z
theorem Rel.back (R : Rel K P W F H σ ρ) (h : okAt ρ vs = true) (x : Ext W F F') (R2 : Rel K P W F' H' σ ρ2) : Rel K P W F' H' σ (backR ρ ρ2 vs) where
  fh := R2.fh
  wh := R2.wh
  len := R2.len.trans (backR_len _ _ _).symm
  cell := fun i c e => by
    rcases backR_in e with ⟨hi, e1⟩ | e1
    · obtain ⟨d, rfl⟩ := ok_at h hi e1
      obtain ⟨v, hv, hk⟩ := R.cell i _ e1
      exact ⟨v, hv, Rp.mono (Le.of x.same) hk⟩
    · exact R2.cell i c e1
  inj := fun j k c e b hjk h1 h2 o1 o2 s1 s2 => by
    have g : ∀ (i : Nat) (c : Cell), (backR ρ ρ2 vs)[i]? = some (some c) → c.owned = true → ρ2[i]? = some (some c) := fun i c e o => by
      rcases backR_in e with ⟨hi, e1⟩ | e1
      · obtain ⟨d, rfl⟩ := ok_at h hi e1
        cases o
      · exact e1
    exact R2.inj j k c e b hjk (g j c h1 o1) (g k e h2 o2) o1 o2 s1 s2
  pin := fun p q => by
    obtain ⟨h1, d', h2⟩ := R2.pin p q
    exact ⟨h1, d', by rw [backR_off (pin_offS R h p q)]; exact h2⟩
  dis := R2.dis
end
def iW (vs : List Nat) (it : SemI) : SemI := fun ρ => (it ρ).bind fun x => if okAt x.2 vs = true then some (x.1, wipeR x.2 vs) else none
theorem di_iW {X : Cx} {tg iter : Expr} {it : SemI} {vs : List Nat} (hi : DI X tg iter it) : DI X tg iter (iW vs it) := by
  refine ⟨hi.pi.pvi fun σ H R q => ?_⟩
  obtain ⟨P, W, F, ρ, ds, ρ', R0, e, q⟩ := q
  simp only [iW, Option.bind_eq_some_iff, Prod.exists] at e
  obtain ⟨ds1, ρ1, e1, e2⟩ := e
  split at e2
  case isFalse => cases e2
  rename_i hok
  cases e2
  refine ⟨P, W, F, ρ, _, ρ1, R0, e1, fun J H' W' F' sw x R1 w => q J H' W' F' sw x ?_ w⟩
  exact R1.fewer (wipeR_len _ _) (fun i c e => (wipeR_in e).2) fun p hp => wipeR_off (pin_offS R1 hok p hp)
def sLcS (g : SemG) (t : SemT) (el : SemE) (vs : List Nat) (it : SemI) : SemE := fun ρ => if okAt ρ vs = true then (sLc g t el vs (iW vs it) ρ).bind fun x => some (x.1, backR ρ x.2 vs) else none
section
variable {X : Cx}
theorem de_lcS {elt tg iter : Expr} {ifs : List Expr} {scope : Scope} {own : List (Str × Nat)} {pos : Pos} {it : SemI} {g : SemG} {t : SemT} {el : SemE} {us : List Nat} (hi : DI X tg iter it) (ok : BlkOk X.N X.env.scope scope own)
    (hg : ∀ (s : Shared) (H : Hp) (C : Addr) (cl : List (Str × Addr)) (fp : List Addr), DG (X.blk s H scope (compEnvC scope cl C X.env) fp) tg us g) (ht : ∀ (s : Shared) (H : Hp) (C : Addr) (cl : List (Str × Addr)) (fp : List Addr), DTs (X.blk s H scope (compEnvC scope cl C X.env) fp) ifs t)
    (he : ∀ (s : Shared) (H : Hp) (C : Addr) (cl : List (Str × Addr)) (fp : List Addr), DE (X.blk s H scope (compEnvC scope cl C X.env) fp) elt el) (hu : ∀ i ∈ us, i ∈ own.map (·.2)) (hc : X.calm = true) (hN : X.N.Nodup) (hs : ∀ x, foldedSetIterable iter X.env x = pure x := by intro _; rfl) :
    DE X (.ListComp elt [⟨tg, iter, ifs, 0⟩] scope pos) (sLcS g t el (own.map (·.2)) it) := by
  refine ⟨(de_lc (di_iW (vs := own.map (·.2)) hi) ok hg ht he hu hc hN hs).pe.pvi fun σ H Q q => ?_⟩
  obtain ⟨P, W, F, ρ, r, ρ', R, e, q⟩ := q
  simp only [sLcS] at e
  split at e
  case isFalse => cases e
  rename_i hok
  simp only [Option.bind_eq_some_iff, Prod.exists] at e
  obtain ⟨r1, ρ2, e1, e2⟩ := e
  cases e2
  refine ⟨P, W, F, ρ, _, ρ2, R, e1, fun v H' F' x R' o => q v H' F' x (R.back hok x R') ?_⟩
  have e1' := e1
  simp only [sLc, Option.bind_eq_some_iff, Prod.exists] at e1'
  obtain ⟨ds, ρ3, _, e4⟩ := e1'
  split at e4
  case isFalse => cases e4
  simp only [Option.bind_eq_some_iff, Prod.exists] at e4
  obtain ⟨zs, ρ4, _, e5⟩ := e4
  cases e5
  refine ⟨o.1, fun i c e ow => ?_⟩
  rcases backR_in e with ⟨hi, e6⟩ | e6
  · obtain ⟨d, rfl⟩ := ok_at hok hi e6
    cases ow
  · exact o.2 i c e6 ow
end
end Pv
end
section
set_option Elab.async false
set_option linter.all false
set_option maxRecDepth 100000
set_option maxHeartbeats 1000000
namespace Pv
open PySem PySem.Spec PyProof.Rows L2 PySem.W
section
variable {X : Cx}
def dictE : D → Option Bool
  | .dict es => some (!es.isEmpty)
  | _ => none
def sTruthD (f : SemE) : SemT := fun ρ => (f ρ).bind fun x => (look x.2 x.1).bind fun d => (dictE d).bind fun b => some (b, x.2)
theorem RpD.isEmpty {K : Fr'} {F : Hp} {kvs : List (Key × V)} {es : List (D × D)} (r : RpD K F kvs es) : kvs.isEmpty = es.isEmpty := by cases r <;> rfl
end
end Pv
end
section
set_option Elab.async false
set_option linter.all false
set_option maxRecDepth 100000
set_option maxHeartbeats 1000000
namespace Pv
open PySem PySem.Spec PyProof.Rows L2 PySem.W
section
variable {X : Cx}
end
end Pv
end
section
set_option Elab.async false
set_option linter.all false
set_option maxRecDepth 100000
set_option maxHeartbeats 1000000
namespace Pv
open PySem PySem.Spec PyProof.Rows L2 PySem.W
section
variable {X : Cx}
def putAll : List (D × D) → List (Key × D) → List (D × D)
  | es, [] => es
  | es, (k, v) :: t => putAll (dput es k v) t
theorem put_rp {K : Fr'} {F : Hp} {kvs : List (Key × V)} {ps : List (Key × D)} (h : Paired (fun (kv : Key × V) (p : Key × D) => kv.1 = p.1 ∧ Rp K F kv.2 p.2) kvs ps) : ∀ {ls : List (Key × V)} {es : List (D × D)}, RpD K F ls es → RpD K F (mergeK ls kvs) (putAll es ps) := by
  induction h with
  | nil => intro ls es r; exact r
  | @cons kv p ks ps h t ih =>
    intro ls es r
    obtain ⟨k, v⟩ := kv
    obtain ⟨k2, d⟩ := p
    obtain ⟨h1, h2⟩ := h
    have h1 : k = k2 := h1
    subst h1
    exact ih (r.put h2)
end
end Pv
end
section
set_option Elab.async false
set_option linter.all false
set_option maxRecDepth 100000
set_option maxHeartbeats 1000000
namespace Pv
open PySem PySem.Spec PyProof.Rows L2 PySem.W
def gL (n : Nat) (g : SemGs) : SemG := fun d ρ => match d with
  | .list ds => if ds.length = n then g ds ρ else none
  | _ => none
section
variable {X : Cx}
end
namespace Ev
@[scoped simp] theorem gL_u (n : Nat) (g : SemGs) (ds : List D) (ρ : Ro) : gL n g (.list ds) ρ = if ds.length = n then g ds ρ else none := rfl
end Ev
end Pv
end
section
set_option Elab.async false
set_option linter.all false
set_option maxRecDepth 100000
set_option maxHeartbeats 2000000
namespace Pv.Pg
open PySem Pv
end Pv.Pg
end
section
set_option Elab.async false
set_option linter.all false
set_option autoImplicit false
set_option maxRecDepth 100000
set_option maxHeartbeats 2000000
namespace Pv.Pg
open PySem Pv
open L2 Pv.Ev
theorem _root_.Pv.OkV.noX {d : D} (h : OkV d) : isX d = false := by
  cases d with
  | dict es => have := h.pl; simp [plain] at this
  | _ => rfl
end Pv.Pg
end
section
set_option Elab.async false
set_option linter.all false
set_option autoImplicit false
set_option maxRecDepth 100000
set_option maxHeartbeats 2000000
namespace Pv.Pg
open PySem L2 Pv Pv.Ev
def accS (ns : List (List Str)) (m : Nat) : Nat → List Str × List (Str × List Str)
  | 0 => ([], [])
  | k + 1 => ((accS ns m k).1 ++ ns.getD (2 * (m - 1 - k) + 1) [], (accS ns m k).2 ++ (ns.getD (2 * (m - 1 - k)) []).map fun l => (l, sortS ((accS ns m k).1 ++ ns.getD (2 * (m - 1 - k) + 1) [])))
theorem drop_two (ns : List (List Str)) (j : Nat) (h : j + 1 < ns.length) : ns.drop j = ns.getD j [] :: ns.getD (j + 1) [] :: ns.drop (j + 2) := by
  rw [List.drop_eq_getElem_cons (by omega), List.drop_eq_getElem_cons (by omega : j + 1 < ns.length)]
  simp [List.getD_eq_getElem?_getD, List.getElem?_eq_getElem (by omega : j < ns.length), List.getElem?_eq_getElem h]
theorem acc_perm (ns : List (List Str)) (m : Nat) (hm : ns.length = 2 * m) : ∀ k, k ≤ m → ((accS ns m k).1 ++ (accS ns m k).2.map (·.1)).Perm (ns.drop (2 * (m - k))).flatten
  | 0, _ => by
    have : ns.drop (2 * (m - 0)) = [] := List.drop_eq_nil_of_le (by omega)
    rw [this]; exact .refl _
  | k + 1, h => by
    have ih := acc_perm ns m hm k (by omega)
    have e : 2 * (m - 1 - k) + 2 = 2 * (m - k) := by omega
    have e2 : 2 * (m - (k + 1)) = 2 * (m - 1 - k) := by omega
    rw [e2, drop_two ns _ (by omega), e, List.flatten_cons, List.flatten_cons]
    simp only [accS, List.map_append, List.map_map, Function.comp_def, List.map_id']
    generalize ns.getD (2 * (m - 1 - k)) [] = h0
    generalize ns.getD (2 * (m - 1 - k) + 1) [] = u0
    refine List.Perm.trans ?_ ((ih.append_left u0).append_left h0)
    refine (List.perm_iff_count.mpr fun a => ?_)
    simp only [List.count_append]
    omega
theorem acc_nodup (ns : List (List Str)) (m : Nat) (hm : ns.length = 2 * m) (hn : ns.flatten.Nodup) (k : Nat) (hk : k ≤ m) : ((accS ns m k).1 ++ (accS ns m k).2.map (·.1)).Nodup := by
  refine (acc_perm ns m hm k hk).nodup_iff.mpr ?_
  have : (ns.drop (2 * (m - k))).flatten.Sublist ns.flatten := by
    conv => rhs; rw [← List.take_append_drop (2 * (m - k)) ns]
    rw [List.flatten_append]
    exact List.sublist_append_right _ _
  exact this.nodup hn
theorem acc_len (ns : List (List Str)) (m : Nat) (hm : ns.length = 2 * m) (k : Nat) (hk : k ≤ m) : (accS ns m k).1.length + (accS ns m k).2.length ≤ ns.flatten.length := by
  have h := (acc_perm ns m hm k hk).length_eq
  have : (ns.drop (2 * (m - k))).flatten.Sublist ns.flatten := by
    conv => rhs; rw [← List.take_append_drop (2 * (m - k)) ns]
    rw [List.flatten_append]
    exact List.sublist_append_right _ _
  have := this.length_le
  simp only [List.length_append, List.length_map] at h
  omega
structure Good (ns : List (List Str)) (m : Nat) : Prop where
  len : ns.length = 2 * m
  few : m ≤ 8
  nd : ns.flatten.Nodup
  small : ns.flatten.length ≤ 8
theorem Good.parts {ns : List (List Str)} {m : Nat} (G : Good ns m) {k : Nat} (hk : k < m) :
    (accS ns m k).1.length + (ns.getD (2 * (m - 1 - k) + 1) []).length ≤ 8 ∧ (accS ns m k).2.length + (ns.getD (2 * (m - 1 - k)) []).length ≤ 8 ∧ ((accS ns m k).1 ++ ns.getD (2 * (m - 1 - k) + 1) []).Nodup ∧
    ((accS ns m k).2.map (·.1) ++ ns.getD (2 * (m - 1 - k)) []).Nodup := by
  have h1 := acc_nodup ns m G.len G.nd (k + 1) (by omega)
  have h2 := acc_len ns m G.len (k + 1) (by omega)
  have h3 := G.small
  simp only [accS, List.length_append, List.length_map, List.map_append, List.map_map, Function.comp_def, List.map_id'] at h1 h2
  have h4 := List.nodup_append.mp h1
  exact ⟨by omega, by omega, h4.1, h4.2.1⟩
end Pv.Pg
end
section
set_option Elab.async false
set_option linter.all false
set_option autoImplicit false
set_option maxRecDepth 100000
set_option maxHeartbeats 2000000
namespace Pv.Ev
open PySem L2 Pv
def okC : Option (Option Cell) → Bool
  | some (some (.val _)) => true
  | some (some _) => false
  | _ => true
section
variable (i : Nat) (ρ ρ0 : Ro) (d : D) (vs : List Nat)
@[scoped simp] theorem okC1 : okC (some (some (.val d))) = true := rfl
@[scoped simp] theorem okC2 : okC (some none) = true := rfl
@[scoped simp] theorem okC3 (c : Option D) : okC (some (c.map Cell.val)) = true := by cases c <;> rfl
@[scoped simp] theorem okAt_n : okAt ρ [] = true := rfl
@[scoped simp] theorem okAt_c (v : Nat) : okAt ρ (v :: vs) = (okC ρ[v]? && okAt ρ vs) := rfl
@[scoped simp] theorem backR_n : backR ρ0 ρ [] = ρ := rfl
@[scoped simp] theorem backR_c (v : Nat) : backR ρ0 ρ (v :: vs) = (backR ρ0 ρ vs).set v (ρ0[v]?.getD none) := rfl
@[scoped simp] theorem iW_u (it : SemI) : iW vs it ρ = bd (it ρ) fun x => if okAt x.2 vs = true then some (x.1, wipeR x.2 vs) else none := rfl
@[scoped simp] theorem sLcS_u (g : SemG) (t : SemT) (el : SemE) (it : SemI) : sLcS g t el vs it ρ = if okAt ρ vs = true then bd (sLc g t el vs (iW vs it) ρ) fun x => some (x.1, backR ρ x.2 vs) else none := rfl
@[scoped simp] theorem dictE_u (es : List (D × D)) : dictE (.dict es) = some (!es.isEmpty) := rfl
@[scoped simp] theorem sTruthD_u (f : SemE) : sTruthD f ρ = bd (f ρ) fun x => bd (look x.2 x.1) fun d => bd (dictE d) fun b => some (b, x.2) := rfl
end
end Pv.Ev
namespace Pv
open PySem L2 Pv.Ev
end Pv
namespace Pv.Pg
open PySem L2 Pv Pv.Ev
abbrev Blk := List Str × List Str
def heldP (ps : List Blk) : List Str := ps.flatMap (·.1)
def usedP (ps : List Blk) : List Str := ps.flatMap (·.2)
def UB : List Blk → Str → List Str
  | [], _ => []
  | b :: ps, l => if l ∈ b.1 then usedP (b :: ps) else UB ps l
structure VP (ps : List Blk) : Prop where
  asc : ∀ b ∈ ps, Asc b.1 ∧ Asc b.2
  ne1 : ∀ b ∈ ps, b.1 ≠ []
  ne2 : ∀ b ∈ ps.dropLast, b.2 ≠ []
  nd : (heldP ps ++ usedP ps).Nodup
structure RowsOf (R : List (Str × List Str)) (ps : List Blk) : Prop where
  nd : (R.map (·.1)).Nodup
  keys : ∀ l, l ∈ R.map (·.1) ↔ l ∈ heldP ps
  vals : ∀ p ∈ R, Asc p.2 ∧ ∀ x, x ∈ p.2 ↔ x ∈ UB ps p.1
end Pv.Pg
end
section
set_option Elab.async false
set_option linter.all false
set_option maxRecDepth 100000
set_option maxHeartbeats 1000000
namespace Pv
open PySem PySem.Spec PyProof.Rows L2 PySem.W
def fzC (i : Nat) (ρ : Ro) : Option (Option Cell) → Ro
  | some (some (.own d)) => ρ.set i (some (.val d))
  | _ => ρ
def sFz (i : Nat) (f : SemE) : SemE := fun ρ => f (fzC i ρ ρ[i]?)
def sFzS (i : Nat) (f : SemS) : SemS := fun ρ => f (fzC i ρ ρ[i]?)
section
variable {X : Cx}
end
namespace Ev
section
variable (i : Nat) (ρ : Ro) (d : D)
@[scoped simp] theorem sFz_u (f : SemE) : sFz i f ρ = f (fzC i ρ ρ[i]?) := rfl
@[scoped simp] theorem sFzS_u (f : SemS) : sFzS i f ρ = f (fzC i ρ ρ[i]?) := rfl
@[scoped simp] theorem fzC1 : fzC i ρ (some (some (.own d))) = ρ.set i (some (.val d)) := rfl
@[scoped simp] theorem fzC2 : fzC i ρ (some (some (.val d))) = ρ := rfl
@[scoped simp] theorem fzC3 : fzC i ρ (some (some (.byr d))) = ρ := rfl
@[scoped simp] theorem fzC4 : fzC i ρ (some none) = ρ := rfl
@[scoped simp] theorem fzC5 (ds : List D) : fzC i ρ (some (some (.scr ds))) = ρ := rfl
end
end Ev
end Pv
end
section
set_option Elab.async false
set_option linter.all false
set_option maxRecDepth 100000
set_option maxHeartbeats 1000000
namespace Pv
open PySem PySem.Spec PyProof.Rows L2 PySem.W
section
variable {X : Cx}
def rgOkB (a b : Int) : Bool := decide (0 ≤ a ∧ a ≤ 16777216 ∧ 0 ≤ b ∧ b ≤ 16777216)
def sTupRg1 (f : SemE) : SemE := fun ρ => (f ρ).bind fun (r, ρ1) => (look ρ1 r).bind fun d => (asI d).bind fun n => if (rgOkB 0 n && !needS (rng 0 n.toNat)) = true then some (.val (.tuple (rng 0 n.toNat)), ρ1) else none
def sLstRg1 (f : SemE) : SemE := fun ρ => (f ρ).bind fun (r, ρ1) => (look ρ1 r).bind fun d => (asI d).bind fun n => if rgOkB 0 n = true then some (.fr (.list (rng 0 n.toNat)), ρ1) else none
def isDic : D → Bool
  | .dict _ => true
  | _ => false
def get2 (d : D) (k : Key) (r : Rv) : Option Rv := match d with
  | .dict es => (match dget es k with
    | some z => some (.val z)
    | none => some r)
  | _ => none
def sGet2 (f g h : SemE) : SemE := fun ρ => (f ρ).bind fun (r, ρ1) => (look ρ1 (settle r)).bind fun d0 => if isDic d0 = true then (g ρ1).bind fun (rk, ρ2) => (look ρ2 (settle rk)).bind fun kd => (keyOf kd).bind fun k => (h ρ2).bind fun (rx, ρ3) => (look ρ3 (settle r)).bind fun d => (get2 d k rx).bind fun z => some (z, ρ3) else none
def ddrop (es : List (D × D)) (k : Key) : List (D × D) := es.filter fun p => !dkey p.1 k
theorem RpD.drop {K : Fr'} {F : Hp} {kvs : List (Key × V)} {es : List (D × D)} (r : RpD K F kvs es) (k : Key) : RpD K F (dropK kvs k) (ddrop es k) := by
  induction kvs generalizing es with
  | nil => cases r; exact .nil
  | cons p kvs ih =>
    cases r with
    | @cons k0 v0 _ d0 es r t =>
      unfold dropK ddrop
      by_cases h : k0 = k
      · rw [List.filter_cons_of_neg (by simpa using h), List.filter_cons_of_neg (by rw [dkey_keyD]; simpa using h)]
        exact ih t
      · rw [List.filter_cons_of_pos (by simpa using h), List.filter_cons_of_pos (by rw [dkey_keyD]; simpa using h)]
        exact .cons r (ih t)
def dpopM : OpM
  | .dict es, [kd] => (keyOf kd).bind fun k => (dget es k).map fun z => (.dict (ddrop es k), z)
  | _, _ => none
end
namespace Ev
section
variable (ρ : Ro) (f g h : SemE)
@[scoped simp] theorem sTupRg1_u : sTupRg1 f ρ = bd (f ρ) fun x => bd (look x.2 x.1) fun d => bd (asI d) fun n => if (rgOkB 0 n && !needS (rng 0 n.toNat)) = true then some (.val (.tuple (rng 0 n.toNat)), x.2) else none := rfl
@[scoped simp] theorem sLstRg1_u : sLstRg1 f ρ = bd (f ρ) fun x => bd (look x.2 x.1) fun d => bd (asI d) fun n => if rgOkB 0 n = true then some (.fr (.list (rng 0 n.toNat)), x.2) else none := rfl
@[scoped simp] theorem sGet2_u : sGet2 f g h ρ = bd (f ρ) fun x => bd (look x.2 (settle x.1)) fun d0 => if isDic d0 = true then bd (g x.2) fun y => bd (look y.2 (settle y.1)) fun kd => bd (keyOf kd) fun k => bd (h y.2) fun w => bd (look w.2 (settle x.1)) fun d => bd (get2 d k w.1) fun z => some (z, w.2) else none := rfl
@[scoped simp] theorem isDic_d (es : List (D × D)) : isDic (.dict es) = true := rfl
@[scoped simp] theorem dpop_u (es : List (D × D)) (d : D) : dpopM (.dict es) [d] = bd (keyOf d) fun k => (dget es k).map fun z => (.dict (ddrop es k), z) := rfl
end
end Ev
end Pv
end
section
set_option Elab.async false
set_option linter.all false
set_option maxRecDepth 100000
set_option maxHeartbeats 2000000
namespace Pv
open PySem PySem.Spec PyProof.Rows L2 PySem.W
abbrev dc2 (kx vx ta ia tb ib : Expr) (fa fb : List Expr) (sc : Scope) (at_ : Pos) : Expr := .DictComp kx vx [⟨ta, ia, fa, 0⟩, ⟨tb, ib, fb, 0⟩] sc at_
section
variable {prog : Program} {w : World} {A : Around} {R : Result → Shared → Prop} {s : Shared} {kx vx ta ia tb ib : Expr} {fa fb : List Expr} {sc : Scope} {at_ : Pos} {it : Value} {D : Addr} {env : Env}
section
variable (N : Value → Shared → Prop) (hN : N = notedBy (model prog w) A env fun e t => R (.error e) t) (I : Nat → Shared → Prop)
include hN
end
end
end Pv
namespace Pv
open PySem PySem.Spec PyProof.Rows L2 PySem.W
section
variable {X : Cx}
end
end Pv
end
section
set_option Elab.async false
set_option linter.all false
set_option maxRecDepth 100000
set_option maxHeartbeats 2000000
namespace Pv
open PySem PySem.Spec PyProof.Rows L2 PySem.W
section
variable {X : Cx}
end
section
variable (g : SemG) (t : SemT) (it1 : SemI) (g1 : SemG) (t1 : SemT) (kf vf : SemE) (vs vs1 : List Nat)
def dc2L : List D → List (D × D) → Ro → Option (List (D × D) × Ro)
  | [], es, ρ => some (es, ρ)
  | d :: ds, es, ρ => (g d ρ).bind fun ρ1 => (t ρ1).bind fun (b, ρ2) => if b = true then (it1 ρ2).bind fun (ds1, ρ3) => if clearAt ρ3 vs1 = true then (dcL g1 t1 kf vf vs1 ds1 es ρ3).bind fun (fs, ρ4) => dc2L ds fs (wipeR ρ4 vs) else none
    else dc2L ds es (wipeR ρ2 vs)
def sDc2 (it : SemI) : SemE := fun ρ => (it ρ).bind fun (ds, ρ1) => if clearAt ρ1 vs = true then (dc2L g t it1 g1 t1 kf vf vs vs1 ds [] ρ1).bind fun (es, ρ2) => some (.fr (.dict es), ρ2) else none
end
section
variable {K : Fr'} {g g1 : SemG} {t t1 : SemT} {it1 : SemI} {kf vf : SemE} {vs vs1 us us1 : List Nat}
end
section
variable {X : Cx}
end
section
variable {X : Cx}
end
namespace Ev
@[scoped simp] theorem sDc2_u (ρ : Ro) (g : SemG) (t : SemT) (it1 : SemI) (g1 : SemG) (t1 : SemT) (kf vf : SemE) (vs vs1 : List Nat) (it : SemI) : sDc2 g t it1 g1 t1 kf vf vs vs1 it ρ = bd (it ρ) fun x => if clearAt x.2 vs = true then bd (dc2L g t it1 g1 t1 kf vf vs vs1 x.1 [] x.2) fun y => some (.fr (.dict y.1), y.2) else none := rfl
end Ev
end Pv
end
section
set_option Elab.async false
set_option linter.all false
set_option maxRecDepth 100000
set_option maxHeartbeats 1000000
namespace Pv
open PySem PySem.Spec PyProof.Rows L2 PySem.W
section
variable {P : Program} {w : World} {A : Around} {E : Value → Shared → Prop} {s : Shared}
end
def gS2 (g : SemGs) : SemG := fun d ρ => match d with
  | .str x => (match x.cps.toList with
    | [c, d] => g [.str ⟨#[c]⟩, .str ⟨#[d]⟩] ρ
    | _ => none)
  | _ => none
section
variable {X : Cx} {pos : Pos}
end
namespace Ev
@[scoped simp] theorem gS2_u (g : SemGs) (x : Str) (c d : Nat) (ρ : Ro) (h : x.cps.toList = [c, d]) : gS2 g (.str x) ρ = g [.str ⟨#[c]⟩, .str ⟨#[d]⟩] ρ := by simp [gS2, h]
end Ev
end Pv
end
section
set_option Elab.async false
set_option linter.all false
set_option maxRecDepth 100000
set_option maxHeartbeats 1000000
namespace Pv
open PySem PySem.Spec PyProof.Rows L2 PySem.W
section
variable {X : Cx}
end
def cutF (F : Hp) (a : Addr) : Hp := fun b => if b = a then Option.none else F b
theorem cutF_ne {F : Hp} {a b : Addr} (h : b ≠ a) : cutF F a b = F b := by unfold cutF; rw [if_neg h]
section
variable {K : Fr'} {F : Hp} {a : Addr} {kvs : List (Key × V)}
theorem cut_sqt (hF : F a = some (.dK kvs)) {b : Addr} {xs : List V} (h : SqT K F b xs) : SqT K (cutF F a) b xs := by
  rcases h with (h | ⟨o, h⟩) | h
  · exact .inl (.inl (by rw [cutF_ne (fun z => by rw [z, hF] at h; cases h)]; exact h))
  · exact .inl (.inr ⟨o, by rw [cutF_ne (fun z => by rw [z, hF] at h; cases h)]; exact h⟩)
  · exact .inr h
theorem cut_strong (hF : F a = some (.dK kvs)) {b : Addr} {xs : List V} (h : Strong K F b xs) : Strong K (cutF F a) b xs := by
  rcases h with ⟨o, h, e⟩ | h
  · exact .inl ⟨o, by rw [cutF_ne (fun z => by rw [z, hF] at h; cases h)]; exact h, e⟩
  · exact .inr h
mutual
theorem Rp.cutP (hF : F a = some (.dK kvs)) : ∀ {v : V} {d : D}, Rp K F v d → plain d = true → Rp K (cutF F a) v d
  | _, _, .non, _ => .non
  | _, _, .bl b, _ => .bl b
  | _, _, .int i, _ => .int i
  | _, _, .str x, _ => .str x
  | _, _, .lst s r, h => .lst (by rw [cutF_ne (fun z => by rw [z, hF] at s; cases s)]; exact s) (RpA.cutP hF r (by simpa [plain] using h))
  | _, _, .tup s r, h => .tup ⟨cut_sqt hF s.1, fun z => cut_strong hF (s.2 z)⟩ (RpA.cutP hF r (by simpa [plain] using h))
  | _, _, .dic s r, h => by simp [plain] at h
theorem RpA.cutP (hF : F a = some (.dK kvs)) : ∀ {vs : List V} {ds : List D}, RpA K F vs ds → plainA ds = true → RpA K (cutF F a) vs ds
  | _, _, .nil, _ => .nil
  | _, _, .cons r t, h => by
    simp only [plainA, Bool.and_eq_true] at h
    exact .cons (Rp.cutP hF r h.1) (RpA.cutP hF t h.2)
end
theorem OwnO.cutP (hF : F a = some (.dK kvs)) {o : Option HO} {d : D} (q : OwnO K F o d) (h : plain d = true) : OwnO K (cutF F a) o d := by
  unfold OwnO at q ⊢
  split at q
  · exact q.cutP hF (by simpa [plain] using h)
  · simp [plain] at h
  · exact q.elim
end
def resto : Option Cell → Option Cell → Option (Option Cell)
  | some (.val d), _ => some (some (.val d))
  | _, none => some none
  | _, some (.val d) => if plain d = true then some (some (.val d)) else none
  | _, some (.own d) => if plain d = true then some (some (.own d)) else none
  | _, some (.byr d) => if plain d = true then some (some (.byr d)) else none
  | some (.scr es), some (.scr _) => some (some (.scr es))
  | _, some (.scr _) => none
def restoL : Ro → Ro → Option Ro
  | [], [] => some []
  | c :: cs, e :: es => (resto c e).bind fun x => (restoL cs es).map (x :: ·)
  | _, _ => none
def outP : Rv → Bool
  | .val d => plain d
  | .fr d => plain d
  | .at _ => false
def borC (i : Nat) (f : SemE) (ρ : Ro) : Option (Option Cell) → Option (Rv × Ro)
  | some (some (.own (.dict es))) => (f (ρ.set i (some (.val (.dict es))))).bind fun x =>
    if outP x.1 = true then (restoL (ρ.set i none) (x.2.set i none)).map fun ρ3 => (x.1, ρ3.set i (some (.own (.dict es)))) else none
  | _ => none
def sBor (i : Nat) (f : SemE) : SemE := fun ρ => borC i f ρ ρ[i]?
section
variable {X : Cx}
end
namespace Ev
section
variable (i : Nat) (ρ : Ro) (f : SemE) (d : D) (c : Option Cell)
@[scoped simp] theorem sBor_u : sBor i f ρ = borC i f ρ ρ[i]? := rfl
@[scoped simp] theorem borC_u (es : List (D × D)) : borC i f ρ (some (some (.own (.dict es)))) = bd (f (ρ.set i (some (.val (.dict es))))) fun x =>
    if outP x.1 = true then bd (restoL (ρ.set i none) (x.2.set i none)) fun ρ3 => some (x.1, ρ3.set i (some (.own (.dict es)))) else none := by
  unfold bd Bd
  simp only [borC, Option.map_eq_bind]
  rfl
@[scoped simp] theorem outP1 : outP (.val d) = plain d := rfl
@[scoped simp] theorem outP2 : outP (.fr d) = plain d := rfl
@[scoped simp] theorem restoL0 : restoL [] [] = some [] := rfl
@[scoped simp] theorem restoL1 (c e : Option Cell) (cs es : Ro) : restoL (c :: cs) (e :: es) = bd (resto c e) fun x => bd (restoL cs es) fun y => some (x :: y) := by
  unfold bd Bd
  simp only [restoL, Option.map_eq_bind]
  rfl
@[scoped simp] theorem resto1 : resto (some (.val d)) c = some (some (.val d)) := by cases c <;> rfl
@[scoped simp] theorem resto2 : resto none none = some none := rfl
@[scoped simp] theorem resto3 (es : D) : resto (some (.own es)) (some (.own d)) = if plain d = true then some (some (.own d)) else none := rfl
@[scoped simp] theorem resto4 : resto none (some (.val d)) = if plain d = true then some (some (.val d)) else none := rfl
@[scoped simp] theorem resto5 (es : D) : resto (some (.own es)) (some (.val d)) = if plain d = true then some (some (.val d)) else none := rfl
@[scoped simp] theorem resto6 (x : Option D) : resto (x.map .val) (x.map .val) = some (x.map .val) := by cases x <;> rfl
@[scoped simp] theorem resto7 (es : D) : resto (some (.byr es)) (some (.byr d)) = if plain d = true then some (some (.byr d)) else none := rfl
end
end Ev
end Pv
end
section
set_option Elab.async false
set_option linter.all false
set_option maxRecDepth 100000
set_option maxHeartbeats 1000000
namespace Pv
open PySem PySem.Spec PyProof.Rows L2 PySem.W
def fgC : Option Cell → Option Cell
  | some (.byr d) => some (.byr d)
  | _ => none
def sFgt (f : SemS) : SemS := fun ρ => f (ρ.map fgC)
namespace Ev
@[scoped simp] theorem sFgt_u (f : SemS) (ρ : Ro) : sFgt f ρ = f (ρ.map fgC) := rfl
@[scoped simp] theorem fgC1 (c : Option D) : fgC (c.map .val) = none := by cases c <;> rfl
@[scoped simp] theorem fgC2 (c : Option D) : fgC (c.map .own) = none := by cases c <;> rfl
@[scoped simp] theorem fgC3 (d : D) : fgC (some (.val d)) = none := rfl
@[scoped simp] theorem fgC4 (d : D) : fgC (some (.own d)) = none := rfl
@[scoped simp] theorem fgC5 (ds : List D) : fgC (some (.scr ds)) = none := rfl
@[scoped simp] theorem fgC6 : fgC none = none := rfl
end Ev
end Pv
end
section
set_option Elab.async false
set_option linter.all false
set_option maxRecDepth 100000
set_option maxHeartbeats 1000000
namespace Pv
open PySem PySem.Spec PyProof.Rows L2 PySem.W
section
variable {X : Cx}
end
def pairL : List (SemE × SemE) → Ro → Option (List (Key × D) × Ro)
  | [], ρ => some ([], ρ)
  | (kf, vf) :: r, ρ => (kf ρ).bind fun (a, ρ1) => (frz ρ1 a).bind fun (kd, ρ2) => (keyOf kd).bind fun k => (vf ρ2).bind fun (b, ρ3) => (frz ρ3 b).bind fun (d, ρ4) => (pairL r ρ4).bind fun (ps, ρ5) => some ((k, d) :: ps, ρ5)
def sDsp (l : List (SemE × SemE)) : SemE := fun ρ => (pairL l ρ).bind fun (ps, ρ1) => some (.fr (.dict (putAll [] ps)), ρ1)
abbrev TPs (K : Fr') (l : List (SemE × SemE)) : List (TE × TE) := l.map fun x => (tD K x.1, tD K x.2)
abbrev PrOk (K : Fr') (F : Hp) (kvs : List (Key × V)) (ps : List (Key × D)) : Prop := Paired (fun (kv : Key × V) (p : Key × D) => kv.1 = p.1 ∧ Rp K F kv.2 p.2) kvs ps
theorem pairL_ok {K : Fr'} {P : List (Nat × Addr)} {W : Hp} {σ : St} : ∀ {l : List (SemE × SemE)} {F H : Hp} {ρ ρ' : Ro} {ps : List (Key × D)} {Qc : List (V × V) → Hp → Prop}, Rel K P W F H σ ρ → pairL l ρ = some (ps, ρ') →
    (∀ kvs H' F', Ext W F F' → Rel K P W F' H' σ ρ' → PrOk K F' kvs ps → Qc (kvs.map fun kv => (kV kv.1, kv.2)) H') → tPairs (TPs K l) σ H Qc
  | [], F, H, ρ, ρ', ps, Qc, R, e, q => by
    cases e
    exact q [] H F (Ext.refl _ _) R .nil
  | (kf, vf) :: r, F, H, ρ, ρ', ps, Qc, R, e, q => by
    simp only [pairL, Option.bind_eq_some_iff, Prod.exists] at e
    obtain ⟨a, ρ1, e1, kd, ρ2, e2, k, e3, b, ρ3, e4, d, ρ4, e5, ps', ρ5, e6, e7⟩ := e
    cases e7
    refine ⟨P, W, F, ρ, a, ρ1, R, e1, fun v H1 F1 x1 R1 o1 => ?_⟩
    obtain ⟨F2, x2, R2, rk⟩ := R1.frz o1 e2
    have hv : v = kV k := keyOf_kV (F := F2) (H := H1) (.inl ⟨rk, keyOf_noX e3⟩) e3
    subst hv
    refine ⟨P, W, F2, ρ2, b, ρ3, R2, e4, fun u H3 F3 x3 R3 o3 => ?_⟩
    obtain ⟨F4, x4, R4, ru⟩ := R3.frz o3 e5
    refine pairL_ok R4 e6 fun kvs H' F' x R' pr => ?_
    exact q ((k, u) :: kvs) H' F' ((((x1.trans x2).trans x3).trans x4).trans x) R' (.cons ⟨rfl, ru.mono (Le.of x.same)⟩ pr)
theorem pairL_len : ∀ {l : List (SemE × SemE)} {ρ ρ' : Ro} {ps : List (Key × D)}, pairL l ρ = some (ps, ρ') → ps.length = l.length
  | [], ρ, ρ', ps, e => by cases e; rfl
  | (kf, vf) :: r, ρ, ρ', ps, e => by
    simp only [pairL, Option.bind_eq_some_iff, Prod.exists] at e
    obtain ⟨a, ρ1, e1, kd, ρ2, e2, k, e3, b, ρ3, e4, d, ρ4, e5, ps', ρ5, e6, e7⟩ := e
    cases e7
    simp [pairL_len e6]
structure DPs (X : Cx) (pos : Pos) (keys : List (Option Expr)) (values : List Expr) (l : List (SemE × SemE)) : Prop where
  pp : PPs X pos keys values (TPs X.K l)
section
variable {X : Cx} {pos : Pos}
theorem dps_nil : DPs X pos [] [] [] := ⟨pps_nil⟩
theorem dps_cons {k v : Expr} {ks : List (Option Expr)} {vs : List Expr} {f g : SemE} {l : List (SemE × SemE)} (hk : DE X k f) (hv : DE X v g) (hr : DPs X pos ks vs l) : DPs X pos (some k :: ks) (v :: vs) ((f, g) :: l) := ⟨pps_cons hk.pe hv.pe hr.pp⟩
theorem paired_len {α β : Type} {R : α → β → Prop} : ∀ {xs : List α} {ys : List β}, Paired R xs ys → xs.length = ys.length
  | _, _, .nil => rfl
  | _, _, .cons _ t => congrArg (· + 1) (paired_len t)
theorem de_dsp {keys : List (Option Expr)} {values : List Expr} {l : List (SemE × SemE)} (h : DPs X pos keys values l) (h15 : l.length ≤ 15) (hk : keys.length ≤ 15) (hall : keys.all (·.isSome) = true) (hl : keys.length = values.length) (h0 : keys ≠ []) :
    DE X (.Dict keys values pos) (sDsp l) := by
  refine ⟨(pe_disp h.pp hall hl h0 hk).pvi fun σ H Q q => ?_⟩
  obtain ⟨P, W, F, ρ, r, ρ', R, e, q⟩ := q
  simp only [sDsp, Option.bind_eq_some_iff, Prod.exists] at e
  obtain ⟨ps, ρ1, e1, e2⟩ := e
  cases e2
  intro p hp
  have hW : W p = Option.none := by
    cases e : W p with
    | none => rfl
    | some u => have := R.wh p u e; rw [hp] at this; cases this
  have hF := R.fh.none hp
  have R1 := R.grow (Grow.heap R.fh hp (.dK []))
  have R2 : Rel X.K P (upd W p (.dK [])) F (upd H p (.dK [])) σ ρ := by
    refine R1.protect upd_same hF fun i c e ow es => ?_
    obtain ⟨v, hv, hk⟩ := R.cell i c e
    rw [es] at hv; cases hv
    cases c with
    | val d => cases ow
    | own d => obtain ⟨b, eb, _, _, o⟩ := hk; cases eb; rw [hp] at o; exact o
    | byr d => obtain ⟨b, eb, _, _, o⟩ := hk; cases eb; rw [hp] at o; exact o
    | scr ds => cases ow
  refine pairL_ok R2 e1 fun kvs H2 F2 x R3 pr => ?_
  have hF2 : F2 p = Option.none := by rw [x.off p (by rw [upd_same]; exact fun z => nomatch z)]; exact hF
  refine ⟨R3.wh p _ upd_same, kvs, rfl, by rw [paired_len pr, pairL_len e1]; exact h15, ?_⟩
  have R4 := R3.kept (o' := .dK (mergeK [] kvs)) hF2
  have own : OwnO X.K F2 ((upd H2 p (.dK (mergeK [] kvs))) p) (.dict (putAll [] ps)) := by
    rw [upd_same]
    exact put_rp pr .nil
  exact q _ _ F2 x.un (R4.unprotect hW) ⟨⟨p, rfl, hW, hF2, own⟩, R4.noown⟩
end
def joinF (a : Str) : D → Option D
  | .list ds => (asStrs ds).bind fun ys => if (ys.map (·.length)).sum + ys.length * a.length ≤ 16777216 then some (.str (Txt.join a ys)) else none
  | _ => none
def sJoin (a : Str) (g : SemE) : SemE := fun ρ => (g ρ).bind fun (r, ρ1) => (look ρ1 (settle r)).bind fun d => (joinF a d).bind fun z => some (.val z, ρ1)
namespace Ev
section
variable (ρ : Ro) (a : Str) (g : SemE) (ys : List Str)
@[scoped simp] theorem sJoin_u : sJoin a g ρ = bd (g ρ) fun x => bd (look x.2 (settle x.1)) fun d => bd (joinF a d) fun z => some (.val z, x.2) := rfl
@[scoped simp] theorem sDsp_u (l : List (SemE × SemE)) : sDsp l ρ = bd (pairL l ρ) fun x => some (.fr (.dict (putAll [] x.1)), x.2) := rfl
@[scoped simp] theorem pairL0 : pairL [] ρ = some ([], ρ) := rfl
@[scoped simp] theorem pairL1 (kf vf : SemE) (r : List (SemE × SemE)) : pairL ((kf, vf) :: r) ρ = bd (kf ρ) fun a => bd (frz a.2 a.1) fun kd => bd (keyOf kd.1) fun k => bd (vf kd.2) fun b => bd (frz b.2 b.1) fun d => bd (pairL r d.2) fun y => some ((k, d.1) :: y.1, y.2) := rfl
end
end Ev
end Pv
end
section
set_option Elab.async false
set_option linter.all false
set_option autoImplicit false
set_option maxRecDepth 100000
set_option maxHeartbeats 1000000
namespace Pv
open PySem PySem.Spec PyProof.Rows L2 PySem.W
section
variable {X : Cx}
end
end Pv
end
section
set_option Elab.async false
set_option linter.all false
set_option autoImplicit false
set_option maxRecDepth 100000
set_option maxHeartbeats 1000000
namespace Pv
open PySem PySem.Spec PyProof.Rows L2 PySem.W
def sOrG (f g : SemE) : SemE := fun ρ => (f ρ).bind fun x => (look x.2 x.1).bind fun d => (truth d).bind fun b => if b = true then some (x.1, x.2) else g x.2
section
variable {X : Cx}
end
namespace Ev
section
variable (f g : SemE) (ρ : Ro)
@[scoped simp] theorem sOrG_u : sOrG f g ρ = bd (f ρ) fun x => bd (look x.2 x.1) fun d => bd (truth d) fun b => if b = true then some (x.1, x.2) else g x.2 := rfl
end
end Ev
end Pv
end
section
set_option Elab.async false
set_option linter.all false
set_option autoImplicit false
set_option maxRecDepth 100000
set_option maxHeartbeats 1000000
namespace Pv
open PySem PySem.Spec PyProof.Rows L2 PySem.W
inductive OutX
  | ok (o : Out)
  | er (x : Str) (ρ : Ro)
abbrev SemX := Ro → Option OutX
inductive ROx
  | ok (r : Rv) (ρ : Ro)
  | er (x : Str) (ρ : Ro)
abbrev SemEX := Ro → Option ROx
inductive ResX
  | ok (z : (D × Bool) × List D)
  | er (x : Str)
abbrev FnX := List D → Option ResX
def OutQX (K : Fr') (mg : Str → Option Value) (P : List (Nat × Addr)) (W F : Hp) (D : Ends) (E : WX) : OutX → Prop
  | .ok o => OutQ K P W F D o
  | .er x ρ => ∀ C σ H F', mg x = some (.ref C) → Ext W F F' → Rel K P W F' H σ ρ → E (.ref C) none σ H
theorem OutQX.ext {K : Fr'} {mg : Str → Option Value} {P : List (Nat × Addr)} {W F F1 : Hp} {D : Ends} {E : WX} {o : OutX} (h : OutQX K mg P W F D E o) (x : Ext W F F1) : OutQX K mg P W F1 D E o := by
  cases o with
  | ok o => exact OutQ.ext h x
  | er y ρ => exact fun C σ H F' m e R => h C σ H F' m (x.trans e) R
def tDX (K : Fr') (mg : Str → Option Value) (E : WX) (f : SemX) : TS := fun D σ H => ∃ P W F ρ o, Rel K P W F H σ ρ ∧ f ρ = some o ∧ OutQX K mg P W F D E o
structure DX (X : Cx) (E : WX) (st : Stmt) (f : SemX) : Prop where
  ps : PS X st (tDX X.K X.mg E f)
structure DXs (X : Cx) (E : WX) (st : List Stmt) (f : SemX) : Prop where
  ps : PSs X st (tDX X.K X.mg E f)
def REx (K : Fr') (mg : Str → Option Value) (E : WX) (P : List (Nat × Addr)) (W F : Hp) (σ : St) (Q : VK) : ROx → Prop
  | .ok r ρ' => ∀ v H' F', Ext W F F' → Rel K P W F' H' σ ρ' → RvOk K W F' H' σ ρ' r v → Q v H'
  | .er x ρ' => ∀ C H' F', mg x = some (.ref C) → Ext W F F' → Rel K P W F' H' σ ρ' → E (.ref C) none σ H'
def tDXE (K : Fr') (mg : Str → Option Value) (E : WX) (f : SemEX) : TE := fun σ H Q => ∃ P W F ρ o, Rel K P W F H σ ρ ∧ f ρ = some o ∧ REx K mg E P W F σ Q o
structure DXE (X : Cx) (E : WX) (e : Expr) (f : SemEX) : Prop where
  pe : PE X e (tDXE X.K X.mg E f)
section
variable {X : Cx} {E : WX}
def xOk (f : SemS) : SemX := fun ρ => (f ρ).bind fun o => some (.ok o)
def thenX : OutX → SemX → Option OutX
  | .ok (.nx ρ), g => g ρ
  | o, _ => some o
def xSeq (f g : SemX) : SemX := fun ρ => (f ρ).bind fun o => thenX o g
def xNx : SemX := fun ρ => some (.ok (.nx ρ))
def xIf (c : SemT) (f g : SemX) : SemX := fun ρ => (c ρ).bind fun x => if x.1 = true then f x.2 else g x.2
structure ClsF (K : Fr') (mg : Str → Option Value) (x : Str) : Prop where
  ex : ∃ C, mg x = some (.ref C) ∧ PySem.W.excIn K C [.type "ValueError", .type "Exception", .type "BaseException", .type "object"] "ValueError.__new__" = true ∧ PySem.W.keepIn K (.ref C) = true ∧
    PySem.W.subIn K (.ref C) (.type "BaseException") = some true ∧ PySem.W.typeIn K (.ref C) = some (.type "type") ∧ PySem.W.exmOne K (.ref C) (.ref C) = some true
def xRaise (x : Str) : SemX := fun ρ => some (.er x ρ)
def xSet (i : Nat) (f : SemEX) : SemX := fun ρ => (f ρ).bind fun o => match o with
  | .ok r ρ1 => (store i r ρ1).bind fun ρ2 => some (.ok (.nx ρ2))
  | .er x ρ1 => some (.er x ρ1)
def sTry (b : SemX) (x : Str) (h : SemS) : SemS := fun ρ => (b ρ).bind fun o => match o with
  | .ok o => some o
  | .er y ρ1 => if y = x then h ρ1 else none
end
def spX (K : Fr') (mg : Str → Option Value) (ms : List Md) (fn : FnX) : Sp := fun vs H Q E => ∃ W F ds r, Le F H ∧ Same W H ∧ Dis W F ∧ ArgsOk K W F H ms vs ds ∧ fn ds = some r ∧ match r with
  | .ok z => ∀ v H' F', Ext W F F' → Le F' H' → Same W H' → Paired (OwnV K W F' H') (rvals ms vs) z.2 → ResOk K W F' H' (rvals ms vs) z.1 v → Q v H'
  | .er x => ∀ C H' F', mg x = some (.ref C) → Ext W F F' → Le F' H' → Same W H' → E (.ref C) none H'
abbrev FnDX (P : Program) (w : World) (K : Fr') (mg : Str → Option Value) (base : Heap) (k : Nat) (f : Addr) (fd : FuncData) (ps : List Str) (ms : List Md) (fn : FnX) : Prop := FnG P w K mg base (L2.CX P w) k f fd ps (spX K mg ms fn)
structure CalX (P : Program) (w : World) (K : Fr') (mg : Str → Option Value) (base : Heap) (x : Str) (k : Nat) (ps : List Str) (ms : List Md) (fn : FnX) : Prop where
  ex : ∃ f fd, FnDX P w K mg base k f fd ps ms fn ∧ Binds K fd ps [] ∧ PySem.W.keepIn K (.ref f) = true ∧ mg x = some (.ref f)
def endX (ms : List Md) : OutX → Option ResX
  | .ok o => (endOf ms o).bind fun z => some (.ok z)
  | .er x _ => some (.er x)
def fnX (n : Nat) (ms : List Md) (b : SemX) : FnX := fun ds => (cells ms ds).bind fun cs => (b (cs ++ List.replicate (n - ms.length) none)).bind (endX ms)
section
variable {P : Program} {w : World} {K : Fr'} {mg : Str → Option Value} {base : Heap}
theorem fnX_of {x qual : Str} {st : Stmt} {f : Addr} {fd : FuncData} {N ps : List Str} {k : Nat} {ms : List Md} {b : SemX} (F : Fun K x qual st f fd) (S : FnScope N ps (defScope st)) (hl : ps.length = ms.length)
    (hbody : ∀ (cdv : Value) (A : Around) (outer : List Env) (s : Shared) (H : Hp) (E : XK), Room k (A.deeper (envOfC qual (defScope st) s.heap.objs.size f cdv)) → A.guards = some [] →
      DXs (cxOf (L2.CX P w) P w K mg base N qual (defScope st) f cdv A outer s H E) (fun cls d _ H => E cls d H) (defBody st) b) :
    FnDX P w K mg base (k + 1) f fd ps ms (fnX N.length ms b) := by
  refine fnG_of F S (fun vs H Q E h => ?_) (fun cdv A outer s H vs Q E hr gd h => ?_)
  · obtain ⟨W, F', ds, r, _, _, _, a, _⟩ := h
    rw [args_len a, hl]
  refine ⟨_, (hbody cdv A outer s H E hr gd).ps, ?_⟩
  obtain ⟨W, F', ds, r, hF, hW, hD, a, e, q⟩ := h
  simp only [fnX, Option.bind_eq_some_iff] at e
  obtain ⟨cs, e1, o, e2, e3⟩ := e
  have R0 := rel_start (k := N.length - ms.length) hF hW hD a e1
  refine ⟨pinsOf 0 ms vs, W, F', _, o, ?_, e2, ?_⟩
  · show Rel K _ W F' H (L2.start N vs) _
    unfold L2.start
    rw [args_len a]
    exact R0
  · cases o with
    | er y ρ =>
      cases e3
      exact fun C σ H1 F1 m x1 R1 => q C H1 F1 m x1 R1.fh R1.wh
    | ok o =>
      simp only [endX, Option.bind_eq_some_iff] at e3
      obtain ⟨z0, e3, e5⟩ := e3
      cases e5
      cases o with
      | bk ρ => cases e3
      | ct ρ => cases e3
      | nx ρ =>
        simp only [endOf, Option.bind_eq_some_iff] at e3
        obtain ⟨bs', e4, e5⟩ := e3
        cases e5
        exact fun σ H1 F1 x1 R1 => q _ H1 F1 x1 R1.fh R1.wh (backs_ok R1 0 a (fun p hp => hp) e4) .non
      | rt r ρ =>
        simp only [endOf, Option.bind_eq_some_iff] at e3
        obtain ⟨z', e4, bs', e5, e6⟩ := e3
        cases e6
        refine fun v σ H1 F1 x1 R1 o1 => q v H1 F1 x1 R1.fh R1.wh (backs_ok R1 0 a (fun p hp => hp) e5) ?_
        cases r with
        | val d => cases e4; exact o1
        | «at» i => cases e4
        | fr d =>
          cases e4
          refine ⟨o1.1, fun hm => ?_⟩
          obtain ⟨b, i, rfl, hp⟩ := rvals_pin 0 a hm
          obtain ⟨h1, d', h2⟩ := R1.pin _ hp
          exact o1.2 i _ h2 rfl h1
theorem CalX.mk_ {x : Str} {k : Nat} {ps N : List Str} {ms : List Md} {b : SemX} {st : Stmt} (h : Here K mg x st) (S : FnScope N ps (defScope st)) (hl : ps.length = ms.length)
    (hb : ∀ (kV doc pm : Value) (an : Option Addr) (cdv ct : Value) (us : List Value), us.length = ps.length → bindArgs (PySem.W.fnOf x x (defArgs st) (defBody st) (defScope st) .none kV doc pm an cdv ct) ⟨us, []⟩ = pure (ps.zip us))
    (hbody : ∀ (f : Addr) (cdv : Value) (A : Around) (outer : List Env) (s : Shared) (H : Hp) (E : XK), Room k (A.deeper (envOfC x (defScope st) s.heap.objs.size f cdv)) → A.guards = some [] →
      DXs (cxOf (L2.CX P w) P w K mg base N x (defScope st) f cdv A outer s H E) (fun cls d _ H => E cls d H) (defBody st) b) :
    CalX P w K mg base x (k + 1) ps ms (fnX N.length ms b) := by
  obtain ⟨f, fd, F, m⟩ := h.ex
  exact ⟨⟨f, fd, fnX_of F S hl (hbody f), F.binds hb, F.kp, m⟩⟩
end
def sCallX (ms : List Md) (fn : FnX) (f : SemM) : SemEX := fun ρ => (f ρ).bind fun x => if (mIdx ms x.1).Nodup then (mData x.2 ms x.1).bind fun ds => (fn ds).bind fun z => match z with
  | .ok z => some (.ok (mkR z.1) (mBack x.2 ms x.1 z.2))
  | .er y => if (ms.all fun m => decide (m = .v)) = true then some (.er y (mBack x.2 ms x.1 [])) else none else none
section
variable {X : Cx} {E : WX}
end
end Pv
end
section
set_option Elab.async false
set_option linter.all false
set_option autoImplicit false
set_option maxRecDepth 100000
set_option maxHeartbeats 1000000
namespace Pv
open PySem PySem.Spec PyProof.Rows L2 PySem.W
section
variable {X : Cx}
def countL : OpL
  | .list ds, [d] => if (SeqAt.shaped (.list ds) && SeqAt.shaped d) = true then some (.int ((ds.countP fun z => PyData.eqv z d : Nat) : Int), false) else none
  | _, _ => none
end
theorem exm_one_self {K : PySem.W.Frag} {S : Addr} (h1 : PySem.W.subIn K (.ref S) (.type "BaseException") = some true) (h2 : PySem.W.isClsIn K S = true) (h3 : PySem.W.typeIn K (.ref S) = some (.type "type")) (h4 : PySem.W.subIn K (.ref S) (.ref S) = some true) : PySem.W.exmOne K (.ref S) (.ref S) = some true := by
  have h2' : (PySem.W.clsIn K S).isSome = true := h2
  unfold PySem.W.exmOne PySem.W.kitCls
  simp only [h1, h2', h3, h4, beq_self_eq_true, Bool.and_self, if_true]
theorem ClsF.mk_ {K : Fr'} {h : Heap} {mg : Str → Option Value} {x : Str} {C : Addr} (X : K.In h) (G : h.Ns mainGlobals mg) (a : PySem.W.nsIn K mainGlobals x = some (some (.ref C)))
    (e : PySem.W.excIn K C [.type "ValueError", .type "Exception", .type "BaseException", .type "object"] "ValueError.__new__" = true) (k : PySem.W.keepIn K (.ref C) = true)
    (b : PySem.W.subIn K (.ref C) (.type "BaseException") = some true) (i : PySem.W.isClsIn K C = true) (t : PySem.W.typeIn K (.ref C) = some (.type "type")) (s : PySem.W.subIn K (.ref C) (.ref C) = some true) : ClsF K mg x :=
  ⟨⟨C, PySem.W.mg_of X G a, e, k, b, t, exm_one_self b i t s⟩⟩
namespace Ev
section
variable (f : SemE) (g : SemA) (ρ : Ro)
@[scoped simp] theorem countL_u (ds : List D) (d : D) : countL (.list ds) [d] = if (SeqAt.shaped (.list ds) && SeqAt.shaped d) = true then some (.int ((ds.countP fun z => PyData.eqv z d : Nat) : Int), false) else none := rfl
end
section
variable (f : SemS) (c : SemT) (a b : SemX) (e : SemEX) (ρ : Ro) (x : Str) (h : SemS) (i : Nat)
@[scoped simp] theorem xOk_u : xOk f ρ = bd (f ρ) fun o => some (.ok o) := rfl
@[scoped simp] theorem xSeq_u : xSeq a b ρ = bd (a ρ) fun o => thenX o b := rfl
@[scoped simp] theorem thenX_n : thenX (.ok (.nx ρ)) b = b ρ := rfl
@[scoped simp] theorem thenX_r (r : Rv) : thenX (.ok (.rt r ρ)) b = some (.ok (.rt r ρ)) := rfl
@[scoped simp] theorem thenX_e : thenX (.er x ρ) b = some (.er x ρ) := rfl
@[scoped simp] theorem xNx_u : xNx ρ = some (.ok (.nx ρ)) := rfl
@[scoped simp] theorem xIf_u : xIf c a b ρ = bd (c ρ) fun x => if x.1 = true then a x.2 else b x.2 := rfl
@[scoped simp] theorem xRaise_u : xRaise x ρ = some (.er x ρ) := rfl
def xSetC (i : Nat) : ROx → Option OutX
  | .ok r ρ1 => bd (store i r ρ1) fun ρ2 => some (.ok (.nx ρ2))
  | .er x ρ1 => some (.er x ρ1)
@[scoped simp] theorem xSet_u : xSet i e ρ = bd (e ρ) (xSetC i) := rfl
@[scoped simp] theorem xSetC_o (r : Rv) : xSetC i (.ok r ρ) = bd (store i r ρ) fun ρ2 => some (.ok (.nx ρ2)) := rfl
@[scoped simp] theorem xSetC_e : xSetC i (.er x ρ) = some (.er x ρ) := rfl
def sTryC (x : Str) (h : SemS) : OutX → Option Out
  | .ok o => some o
  | .er y ρ1 => if y = x then h ρ1 else none
@[scoped simp] theorem sTry_u : sTry a x h ρ = bd (a ρ) (sTryC x h) := rfl
@[scoped simp] theorem sTryC_o (o : Out) : sTryC x h (.ok o) = some o := rfl
@[scoped simp] theorem sTryC_e : sTryC x h (.er x ρ) = h ρ := if_pos rfl
def callC (ms : List Md) (rs : List Rv) (ρ : Ro) : ResX → Option ROx
  | .ok z => some (.ok (mkR z.1) (mBack ρ ms rs z.2))
  | .er y => if (ms.all fun m => decide (m = .v)) = true then some (.er y (mBack ρ ms rs [])) else none
@[scoped simp] theorem sCallX_u (ms : List Md) (fn : FnX) (g : SemM) : sCallX ms fn g ρ = bd (g ρ) fun x => if (mIdx ms x.1).Nodup then bd (mData x.2 ms x.1) fun ds => bd (fn ds) (callC ms x.1 x.2) else none := rfl
@[scoped simp] theorem callC_o (ms : List Md) (rs : List Rv) (z : (D × Bool) × List D) : callC ms rs ρ (.ok z) = some (.ok (mkR z.1) (mBack ρ ms rs z.2)) := rfl
@[scoped simp] theorem callC_e (ms : List Md) (rs : List Rv) (y : Str) : callC ms rs ρ (.er y) = if (ms.all fun m => decide (m = .v)) = true then some (.er y (mBack ρ ms rs [])) else none := rfl
end
end Ev
end Pv
end
section
set_option Elab.async false
set_option linter.all false
set_option autoImplicit false
set_option maxRecDepth 100000
set_option maxHeartbeats 2000000
namespace Pv
open PySem PySem.Spec PyProof.Rows L2 PySem.W
section
variable {X : Cx} {pins : List (Addr × Obj)} {σ : L2.St} {H : Hp} {s : Shared}
end
section
variable {X : Cx} {x n y : Str} {c : Value} {i j : Nat} {body : List Stmt} {np pos pos' py pe pa : Pos} {tb : WX → TS}
end
end Pv
end
section
set_option Elab.async false
set_option linter.all false
set_option autoImplicit false
set_option maxRecDepth 100000
set_option maxHeartbeats 2000000
namespace Pv
open PySem PySem.Spec PyProof.Rows L2 PySem.W
section
variable {K : Fr'} {P : List (Nat × Addr)} {W F H : Hp} {σ : L2.St} {ρ : Ro}
theorem Rel.dropAt (R : Rel K P W F H σ ρ) {i : Nat} (hp : ∀ p ∈ P, p.1 ≠ i) (x : Option V) : Rel K P W F H (σ.set i x) (ρ.set i none) where
  fh := R.fh
  wh := R.wh
  len := by rw [List.length_set, List.length_set]; exact R.len
  cell := fun j c e => by
    rcases set_get e with ⟨_, z⟩ | ⟨hj, z⟩
    · cases z
    · obtain ⟨v, hv, hc⟩ := R.cell j c z
      exact ⟨v, by rw [List.getElem?_set_ne (fun y => hj y.symm)]; exact hv, hc⟩
  inj := fun j k c e a hjk h1 h2 o1 o2 s1 s2 => by
    rcases set_get h1 with ⟨_, z⟩ | ⟨hj, z⟩
    · cases z
    rcases set_get h2 with ⟨_, z2⟩ | ⟨hk, z2⟩
    · cases z2
    rw [List.getElem?_set_ne (fun y => hj y.symm)] at s1
    rw [List.getElem?_set_ne (fun y => hk y.symm)] at s2
    exact R.inj j k c e a hjk z z2 o1 o2 s1 s2
  pin := fun p hq => by
    obtain ⟨h1, d, h2⟩ := R.pin p hq
    have hne := hp p hq
    exact ⟨by rw [List.getElem?_set_ne (fun y => hne y.symm)]; exact h1, d, by rw [List.getElem?_set_ne (fun y => hne y.symm)]; exact h2⟩
  dis := R.dis
end
def sTryAs (b : SemX) (ys : List Str) (i j : Nat) : SemS := fun ρ => (b ρ).bind fun o => match o with
  | .ok o => some o
  | .er y ρ1 => if ys.contains y = true then (if slotOk ρ1 i = true then (store j (.val (excD y)) (ρ1.set i none)).bind fun ρ2 => if slotOk ρ2 i = true then some (.nx (ρ2.set i none)) else none else none) else none
structure KeepF (K : Fr') (mg : Str → Option Value) (x : Str) (ys : List Str) : Prop where
  ex : ∃ CB, mg x = some (.ref CB) ∧ ∀ y ∈ ys, ∃ C, mg y = some (.ref C) ∧ PySem.W.nsIn K mainGlobals y = some (some (.ref C)) ∧ PySem.W.exmOne K (.ref C) (.ref CB) = some true
section
variable {X : Cx}
end
def isL (l : List (Str × Bool)) : D → Option Bool
  | .dict [(.list [], .str x)] => l.lookup x
  | _ => none
def sIsX (l : List (Str × Bool)) (f : SemE) : SemE := fun ρ => (f ρ).bind fun (r, ρ1) => match r with
  | .val d => (isL l d).bind fun b => some (.val (.bool b), ρ1)
  | _ => none
def IsL (K : Fr') (c : Value) (l : List (Str × Bool)) : Prop := ∀ p ∈ l, ∃ C, PySem.W.nsIn K mainGlobals p.1 = some (some (.ref C)) ∧ ExcC K C ∧ PySem.W.kitOne K (.ref C) c = some p.2
section
variable {X : Cx}
end
mutual
def elemE : D → Bool
  | .list _ => false
  | .tuple ds => elemsE ds
  | .dict es => es.isEmpty
  | _ => true
def elemsE : List D → Bool
  | [] => true
  | d :: ds => elemE d && elemsE ds
end
section
variable {X : Cx} {pins : List (Addr × Obj)} {σ : L2.St} {H F : Hp} {s : Shared}
mutual
theorem readsE (I : Inv X pins σ H s) (l : Le F H) : ∀ (d : D) (v : V) (u : Value), Rp X.K F v d → elemE d = true → RelV v u → ∃ as, Reads s.heap u d as ∧ sysModules ∉ as
  | .none, _, _, h, _, r => by cases h; cases r; exact ⟨_, .none, fun z => nomatch z⟩
  | .bool b, _, _, h, _, r => by cases h; cases r; exact ⟨_, .bool b, fun z => nomatch z⟩
  | .int i, _, _, h, _, r => by cases h; obtain ⟨t, rfl⟩ := r; exact ⟨_, .int i t, fun z => nomatch z⟩
  | .str x, _, _, h, _, r => by cases h; obtain ⟨t, rfl⟩ := r; exact ⟨_, .str x t, fun z => nomatch z⟩
  | .list ds, _, _, _, e, _ => by simp [elemE] at e
  | .tuple ds, _, _, h, e, r => by
    cases h with
    | tup hq hr =>
      cases r
      obtain ⟨its, rv, ⟨o, ho, hc, n, hd⟩, _⟩ := I.tuple (l.sqt hq.1)
      obtain ⟨as, q, hn⟩ := readsAE I l ds _ its hr (by simpa [elemE] using e) rv
      exact ⟨_, .tuple ho hc hd q, hn⟩
  | .dict es, _, _, h, e, r => by
    cases es with
    | cons _ _ => simp [elemE] at e
    | nil =>
      cases h with
      | dic hq hr =>
        cases r
        cases hr
        exact rp_readsD I (l.rd hq) rfl
theorem readsAE (I : Inv X pins σ H s) (l : Le F H) : ∀ (ds : List D) (vs : List V) (us : List Value), RpA X.K F vs ds → elemsE ds = true → Vals vs us → ∃ as, ReadsAll s.heap us ds as ∧ sysModules ∉ as
  | [], _, _, h, _, r => by cases h; cases r; exact ⟨_, .nil, fun z => nomatch z⟩
  | d :: ds, _, _, h, e, r => by
    cases h with
    | cons h1 h2 =>
      simp only [elemsE, Bool.and_eq_true] at e
      cases r with
      | cons r1 r2 =>
        obtain ⟨as, q1, n1⟩ := readsE I l d _ _ h1 e.1 r1
        obtain ⟨bs, q2, n2⟩ := readsAE I l ds _ _ h2 e.2 r2
        exact ⟨_, .cons q1 q2, fun z => (List.mem_append.mp z).elim n1 n2⟩
end
end
def showL (ds : List D) : Bool := (plainA ds || elemsE ds) && (PyData.list ds).showable && decide ((PyData.list ds).shown.length ≤ sizeLine) && decide ((PyData.list ds).depth ≤ 64)
def sStrL (f : SemA) : SemE := fun ρ => (f ρ).bind fun (ds, ρ1) => if ds.length ≤ sizeLine ∧ showL ds = true then some (.val (.str (PyData.list ds).shown), ρ1) else none
section
variable {X : Cx}
end
end Pv
end
section
set_option Elab.async false
set_option linter.all false
set_option autoImplicit false
set_option maxRecDepth 100000
set_option maxHeartbeats 1000000
namespace Pv
open PySem PySem.Spec PyProof.Rows L2 PySem.W
theorem allN {α : Type} {p : α → Prop} : ∀ y ∈ ([] : List α), p y := fun _ h => nomatch h
theorem allC {α : Type} {p : α → Prop} {x : α} {l : List α} (h : p x) (t : ∀ y ∈ l, p y) : ∀ y ∈ x :: l, p y := fun y hy => by
  rcases List.mem_cons.mp hy with e | e
  · rw [e]; exact h
  · exact t y e
section
variable {K : PySem.W.Frag} {C B : Addr} {b : Bool}
theorem kitCls_of (h5 : PySem.W.isClsIn K B = true) (h6 : PySem.W.typeIn K (.ref B) = some (.type "type")) (h : PySem.W.subIn K (.ref C) (.ref B) = some b) : PySem.W.kitCls K (.ref C) (.ref B) = some b := by
  have h2 : (PySem.W.clsIn K B).isSome = true := h5
  unfold PySem.W.kitCls
  simp only [h2, h6, h, beq_self_eq_true, Bool.and_self, if_true]
theorem kitOne_yes (h5 : PySem.W.isClsIn K B = true) (h6 : PySem.W.typeIn K (.ref B) = some (.type "type")) (h : PySem.W.subIn K (.ref C) (.ref B) = some true) : PySem.W.kitOne K (.ref C) (.ref B) = some true := by
  unfold PySem.W.kitOne
  split
  · rfl
  · exact kitCls_of h5 h6 h
theorem kitOne_no (h5 : PySem.W.isClsIn K B = true) (h6 : PySem.W.typeIn K (.ref B) = some (.type "type")) (h7 : PySem.W.subIn K (.ref C) (.ref C) = some true) (h : PySem.W.subIn K (.ref C) (.ref B) = some false) : PySem.W.kitOne K (.ref C) (.ref B) = some false := by
  unfold PySem.W.kitOne
  split
  · rename_i e
    have e2 : (Value.ref C) = Value.ref B := by simpa using e
    rw [← e2, h7] at h
    cases h
  · exact kitCls_of h5 h6 h
end
namespace Ev
section
variable (f : SemE) (g : SemA) (ρ : Ro) (b : SemX) (ys : List Str) (i j : Nat) (l : List (Str × Bool))
def tryAsC (ys : List Str) (i j : Nat) : OutX → Option Out
  | .ok o => some o
  | .er y ρ1 => if ys.contains y = true then (if slotOk ρ1 i = true then bd (store j (.val (excD y)) (ρ1.set i none)) fun ρ2 => if slotOk ρ2 i = true then some (.nx (ρ2.set i none)) else none else none) else none
@[scoped simp] theorem sTryAs_u : sTryAs b ys i j ρ = bd (b ρ) (tryAsC ys i j) := rfl
@[scoped simp] theorem tryAsC_o (o : Out) : tryAsC ys i j (.ok o) = some o := rfl
def isXC (l : List (Str × Bool)) (ρ : Ro) : Rv → Option (Rv × Ro)
  | .val d => bd (isL l d) fun b => some (.val (.bool b), ρ)
  | _ => none
@[scoped simp] theorem sIsX_u : sIsX l f ρ = bd (f ρ) fun x => isXC l x.2 x.1 := rfl
@[scoped simp] theorem isXC_v (d : D) : isXC l ρ (.val d) = bd (isL l d) fun b => some (.val (.bool b), ρ) := rfl
@[scoped simp] theorem sStrL_u : sStrL g ρ = bd (g ρ) fun x => if x.1.length ≤ sizeLine ∧ showL x.1 = true then some (.val (.str (PyData.list x.1).shown), x.2) else none := rfl
end
end Ev
end Pv
end
section
set_option Elab.async false
set_option linter.all false
set_option autoImplicit false
set_option maxRecDepth 100000
set_option maxHeartbeats 2000000
namespace Pv
open PySem PySem.Spec PyProof.Rows L2 PySem.W
section
variable {X : Cx}
def mulT : Op2
  | .tuple xs, .int k => if xs ≠ [] ∧ 2 ≤ k ∧ k ≤ 1000 ∧ xs.length ≤ 1000 then some (.tuple (List.replicate k.toNat xs).flatten, false) else none
  | _, _ => none
end
namespace Ev
@[scoped simp] theorem mulT_u (xs : List D) (k : Int) : mulT (.tuple xs) (.int k) = if xs ≠ [] ∧ 2 ≤ k ∧ k ≤ 1000 ∧ xs.length ≤ 1000 then some (.tuple (List.replicate k.toNat xs).flatten, false) else none := rfl
end Ev
end Pv
end
section
set_option Elab.async false
set_option linter.all false
set_option autoImplicit false
set_option maxRecDepth 100000
set_option maxHeartbeats 2000000
namespace Pv.Si
open PySem PySem.Spec PyProof.Rows PySem.W
section
variable {prog : Program} {w : World} {A : Around} {s : Shared} {K : Frag} {C D x t f cda cc : Addr} {mg mb : Str → Option Value}
variable {oc ccl cl : Value} {od cdd cld : Option Addr} {osl ccs csl : Array (Option Value)} {cdD cdC : ClassData} {vs : Array Value} {file : Str} {tf : Tok}
variable {name qual : Str} {params : Arguments} {body : List Stmt} {scope : Scope} {dV kV doc pm ct : Value} {an : Option Addr}
theorem node {q : Str} {p0 p1 : Pos} {attr : Str} {whole : Sem Value} {fd : FuncData} {ar : Arg} {ox : Obj} {L : Addr} {m : Str → Option Value} {Q : Value → Shared → Prop} {E : Value → Shared → Prop}
    (X : K.In s.heap) (hg : s.heap.Ns mainGlobals mg) (hmg : mg "super" = none) (hb : s.heap.Ns builtinsNs mb) (hmb : mb "super" = some (.type "super"))
    (hns : s.heap.Ns L m) (hf : K.lookup f = some ⟨oc, od, .func fd, osl⟩) (hp : (fd.params.posonlyargs ++ fd.params.args).head? = some ar) (hv : m ar.arg = some (.ref x))
    (hx : s.heap.get? x = some ox) (hxc : ox.cls = .ref C) (hxn : ∀ c, ox.data ≠ .cls c)
    (hcode : K.lookup cda = some ⟨ccl, cdd, .fields vs, ccs⟩) (hvs : vs[2]? = some (.str file tf)) (hfile : ((prog.main.file : Str) == file) = true)
    (hcell : K.lookup cc = some ⟨cl, cld, .cell (some (.ref D)), csl⟩) (hD : clsIn K D = some cdD) (hsub : mroIn K C (.ref D) = some true)
    (hat : (attr == ("__class__" : Str)) = false) (hks : scope.names.lookup ("super" : Str) = some .globalImplicit) (hkc : scope.names.lookup ("__class__" : Str) = some .free) (hka : scope.names.lookup ar.arg = some .local) (hk : scope.kind = .function)
    (htop : (prog.main.scope.names.lookup ("super" : Str)).isSome = false)
    (h : ∀ h', h'.get? s.heap.objs.size = some (ks_superObj D x C) → (∀ y o, s.heap.get? y = some o → h'.get? y = some o) → Q (.ref s.heap.objs.size) { s with heap := h' }) :
    _root_.PySem.wpAt (model prog w) A (.func body (ksEnv q scope L f (.ref cda) cc)) (attributeBase (.Call (.Name "super" p0) [] [] p1) attr (ksEnv q scope L f (.ref cda) cc) whole) Q E s := by
  obtain ⟨hh, g, d, tk, os⟩ := s
  obtain ⟨oD, hD1, hD2⟩ : ∃ oD, hh.get? D = some oD ∧ oD.data = .cls cdD := by
    unfold clsIn at hD
    split at hD
    · rename_i c d cd' sl ho
      cases hD
      exact ⟨_, X _ _ ho, rfl⟩
    · cases hD
  refine ks_wpAt_super_base (env := ksEnv q scope L f (.ref cda) cc) hks hkc hat rfl (X _ _ hf) rfl hp rfl (X _ _ hcode) rfl hvs hfile htop ?_
  refine ks_loadName_global hk hks (PySem.Calls.loadGlobal_builtin (env := ksEnv q scope L f (.ref cda) cc) hg hmg hb hmb ⟨rfl, ?_⟩)
  refine wpAny_loadName_free hk hkc rfl ⟨_, X _ _ hcell, rfl⟩ ?_
  refine wpAny_loadName_local hk hka hns hv ?_
  refine ks_wpAny_isType_cls hD1 hD2 ⟨rfl, ?_⟩
  exact ks_wpAny_call_super hD1 hD2 hx hxc hxn (looks_mroIn X hsub) fun h' e k => h h' e k
theorem meth {B i : String} {so : Addr} {pl : Sem Bool} {ox : Obj} {odx : Option Obj} {Q : Value × List Value → Shared → Prop} {E : Value → Shared → Prop} (KF : KxsFacts B i)
    (X : K.In s.heap) (hso : s.heap.get? so = some (ks_superObj D x C)) (I : InstAt s.heap x ox C odx) (ho : nsIn K cStatics "thirdparty.any" = some none)
    (hm : ks_superIn K C D "__init__" = some (some (.builtin i))) (hB : subIn K (.ref C) (.type B) = some true)
    (h : Q (.ref s.heap.objs.size, []) { s with heap := s.heap.push (kxs_mw i x), toks := s.toks + 1 }) : wpAny (model prog w) A (getMethod (.ref so) "__init__" pl) Q E s := by
  have hI : Looks (model prog w) s.heap (isInstance (.ref x) (.type B)) true := I.type.andThen (looks_subIn X hB)
  obtain ⟨hh, g, d, tk, os⟩ := s
  cases hc : clsIn K C with
  | none => unfold ks_superIn at hm; rw [hc] at hm; cases hm
  | some cd =>
    unfold ks_superIn at hm
    rw [hc] at hm
    refine kxs_getMethod KF hso (looks_opaque X ho) (l₀ := cd.mro) ?_ rfl X hm hI (ks_ne X I hc) (by decide) h
    exact fun A Q E s k q => wpAny_bind ((looks_clsIn X hc) A _ E s k (wpAny_pure q))
theorem callI {B newId i : String} {bmB : List Value} {u : Addr} {rest : List Value} {dv : Option Addr} {c2 : Value} {Q : Value → Shared → Prop} {E : Value → Shared → Prop} (FB : ExcBaseFacts B newId i bmB) (X : K.In s.heap) (q : excInitIn K C bmB newId = true)
    (hu : s.heap.get? u = some (kxs_mw i x)) (he : s.heap.get? x = some (excObj C t dv c2)) (hz : rest.length ≤ sizeLine)
    (h : ∀ t' h', (∀ b o, b ≠ x → s.heap.get? b = some o → h'.get? b = some o) → h'.get? x = some (excObj C t' dv c2) → Q .none { s with heap := h' }) :
    wpAny (model prog w) A (call (.ref u) rest) Q E s := by
  obtain ⟨nm, N', qn, bs, bm, hdct, sn, sub, ab, col, dd, k0, k1, k2, k3, k5, hC, hT⟩ := excInit_of X q
  obtain ⟨hh, g, d, tk, os⟩ := s
  refine wpAny_call (codeAny_of_tree ?_)
  show wpAny _ A.in1 (callAny (.ref u) ⟨rest, []⟩) _ _ _
  simp only [callAny]
  refine wpAny_bind (wpAny_load hu ?_)
  simp only [kxs_mw, show (Value.type "method-wrapper" == Value.type "method" || Value.type "method-wrapper" == Value.type "builtin_function_or_method" || Value.type "method-wrapper" == Value.type "method-wrapper") = true by decide, if_true]
  refine KFB.if_so (by decide) ?_
  refine wpAny_bind (check_bound_init FB.toExcCallFacts hC he rfl ?_)
  refine wpAny_bind (wpAny_pure (wpAny_pure ?_))
  refine ⟨plainId_quiet FB.init.plain _, codeAny_builtin FB.initEntry ?_⟩
  exact exc_init_tree (cls := .ref C) (t0 := t) (dv := dv) (c2 := c2) (c3 := .none) (b4 := .bool false) he hz fun h' k e' t' => h _ h' k e'
theorem keepNs {h h' : Heap} {L : Addr} {m : Str → Option Value} (n : h.Ns L m) (k : ∀ o, h.get? L = some o → h'.get? L = some o) : h'.Ns L m := by
  obtain ⟨o, es, ep, ho, r⟩ := n
  exact ⟨o, es, ep, k _ ho, r⟩
theorem run {B newId i : String} {bmB : List Value} {args : Args} {tx fld sf ag : Str} {kk : Nat} {p0 p1 p2 p3 p4 p5 q0 q1 q2 q3 : Pos} {v : Value} {ar : Arg} {R : Result → Shared → Prop}
    (KF : KxsFacts B i) (FB : ExcBaseFacts B newId i bmB) (X : K.In s.heap) (hg : s.heap.Ns mainGlobals mg) (hmg : mg "super" = none) (hb : s.heap.Ns builtinsNs mb) (hmb : mb "super" = some (.type "super")) (hnl : s.heap.NoLimit) (hroom : A.depth < recursionLimit)
    (hbody : body = [.Expr (.Call (.Attribute (.Call (.Name "super" p0) [] [] p1) "__init__" p2) [.Constant (.str tx) kk p3] [] p4) p5, .Assign [.Attribute (.Name sf q0) fld q1] (.Name ag q2) q3])
    (hf : K.lookup f = some ⟨oc, od, .func (ksFn name qual params body scope dV kV doc pm an (.ref cda) ct cc), osl⟩) (hcd : codeIn K (.ref cda) qual = true)
    (hbind : BindsTo s (ksFn name qual params body scope dV kV doc pm an (.ref cda) ct cc) args [(sf, .ref x), (ag, v)])
    (hp : (params.posonlyargs ++ params.args).head? = some ar) (har : ar.arg = sf) (hsa : (sf == ag) = false)
    (hsl : scope.names.lookup sf = some .local) (hal : scope.names.lookup ag = some .local) (hsd : (sf == ("__debug__" : Str)) = false) (had : (ag == ("__debug__" : Str)) = false)
    (hcell0 : ∀ y ∈ scope.names, y.2 ≠ .cell) (hco : scope.isCoroutine = false) (hgen : scope.isGenerator = false) (hk : scope.kind = .function)
    (hx : s.heap.get? x = some (excObj C t none .none)) (hKx : K.lookup x = none)
    (hcode : K.lookup cda = some ⟨ccl, cdd, .fields vs, ccs⟩) (hvs : vs[2]? = some (.str file tf)) (hfile : ((prog.main.file : Str) == file) = true)
    (hcell : K.lookup cc = some ⟨cl, cld, .cell (some (.ref D)), csl⟩) (hD : clsIn K D = some cdD) (hsub : mroIn K C (.ref D) = some true)
    (hks : scope.names.lookup ("super" : Str) = some .globalImplicit) (hkc : scope.names.lookup ("__class__" : Str) = some .free) (htop : (prog.main.scope.names.lookup ("super" : Str)).isSome = false)
    (hth : nsIn K cStatics "thirdparty.any" = some none) (hm : ks_superIn K C D "__init__" = some (some (.builtin i))) (hB : subIn K (.ref C) (.type B) = some true) (hq : excInitIn K C bmB newId = true)
    (hset : findIn K (.ref C) "__setattr__" = some (some (.builtin "object.__setattr__"))) (hno : findIn K (.ref C) fld = some none)
    (hcl : clsIn K C = some cdC) (hmro : HandSPX.refsVE cdC.mro = true) (hdict : cdC.hasDict = true)
    (hR : ∀ h' tk' dx t', (∀ b o, b ≠ x → s.heap.get? b = some o → h'.get? b = some o) → s.heap.objs.size ≤ dx → dx ≠ x → h'.get? x = some (excObj C t' (some dx) .none) → h'.Ns1 dx (fun y => if y = fld then some v else none) →
      R (.ok (.ret .none)) ⟨h', s.gens, s.drawn, tk', s.os⟩)
    {pl : Addr → Sem Bool}
    (hs : ∀ L, swapsWith (.Name ag q2) (some (.Attribute (.Name sf q0) fld q1)) q3.line (ksEnv qual scope L f (.ref cda) cc) = pure false := by exact fun _ => rfl)
    (hi : ∀ L, interactive (ksEnv qual scope L f (.ref cda) cc) = false := by exact fun _ => rfl)
    (hs0 : ∀ L, swapsWith (.Call (.Attribute (.Call (.Name "super" p0) [] [] p1) "__init__" p2) [.Constant (.str tx) kk p3] [] p4) none p5.line (ksEnv qual scope L f (.ref cda) cc) = pure false := by exact fun _ => rfl)
    (he : ∀ L, eval (.Call (.Attribute (.Call (.Name "super" p0) [] [] p1) "__init__" p2) [.Constant (.str tx) kk p3] [] p4) (ksEnv qual scope L f (.ref cda) cc) = (do
      let ov ← attributeBase (.Call (.Name "super" p0) [] [] p1) "__init__" (ksEnv qual scope L f (.ref cda) cc) (eval (.Call (.Name "super" p0) [] [] p1) (ksEnv qual scope L f (.ref cda) cc))
      standAt p2.atName
      let (f', first) ← holding [ov] (getMethod ov "__init__" (pl L))
      callWith p4 f' first (backTo p4 (starEach [.Constant (.str tx) kk p3] (ksEnv qual scope L f (.ref cda) cc))) []) := by exact fun _ => rfl) :
    codeAny (model prog w) A (.call (.ref f) args) R s := by
  have xL : s.heap.objs.size ≠ x := Nat.ne_of_gt (Heap.lt_size hx)
  refine ks_codeAny_call_defAt (fd := ksFn name qual params body scope dV kV doc pm an (.ref cda) ct cc) (body := body) (binds := [(sf, .ref x), (ag, v)]) hroom (X _ _ hf) rfl hnl (codeRec_of X hcd) rfl hbind hcell0 (fun y hy => ?_) (fun h1 hns k1 => ?_) hco hgen hk
  · rcases List.mem_cons.mp hy with rfl | hy
    · exact hsl
    · rw [List.mem_singleton.mp hy]; exact hal
  have ms : ([(sf, Value.ref x), (ag, v)].reverse).lookup sf = some (.ref x) := by simp [List.lookup_cons, hsa]
  have ma : ([(sf, Value.ref x), (ag, v)].reverse).lookup ag = some v := by simp [List.lookup_cons]
  show _root_.PySem.wpAt (model prog w) (A.deeper (ksEnv qual scope s.heap.objs.size f (.ref cda) cc)) (.func body (ksEnv qual scope s.heap.objs.size f (.ref cda) cc)) (execs body (ksEnv qual scope s.heap.objs.size f (.ref cda) cc)) _ _ _
  generalize hfb : Code.func body (ksEnv qual scope s.heap.objs.size f (.ref cda) cc) = FB0
  rw [hbody]
  subst hfb
  refine ks_wpAt_execs_cons (ks_wpAt_Expr_any (hi := hi _) (hs := hs0 _) (ks_wpAt_MethodCall (he := he _) (node (s := { s with heap := h1, toks := _ }) (X.keeps k1) (keepNs hg fun o e => k1 _ _ e) hmg (keepNs hb fun o e => k1 _ _ e) hmb hns hf hp (by rw [har]; exact ms) (k1 _ _ hx) rfl (fun c e => nomatch e)
    hcode hvs hfile hcell hD hsub (by decide) hks hkc (by rw [har]; exact hsl) hk htop fun h2 e2 k2 => ?_)))
  have k12 : ∀ b o, s.heap.get? b = some o → h2.get? b = some o := fun b o e => k2 _ _ (k1 _ _ e)
  refine meth (odx := none) (ox := excObj C t none .none) KF (s := { s with heap := h2, toks := _ }) (X.keeps k12) e2 ⟨k12 _ _ hx, rfl, rfl, trivial⟩ hth hm hB ?_
  have k3 : ∀ b o, s.heap.get? b = some o → (h2.push (kxs_mw i x)).get? b = some o := fun b o e => Heap.get?_push_of_some _ (k12 b o e)
  refine kxs_callWith (i := i) (x := x) rfl (Calls.evalArgs_plain ?_)
  show wpAny _ _ (spliced ((false, eval (.Constant (.str tx) kk p3) (ksEnv qual scope s.heap.objs.size f (.ref cda) cc)) :: backTo p4 [])) _ _ _
  refine Calls.spliced_cons (wpAny_Constant_str (Calls.spliced_nil ⟨Heap.get?_push_size _ rfl, ?_⟩))
  refine callI (s := ⟨h2.push (kxs_mw i x), s.gens, s.drawn, _, s.os⟩) FB (X.keeps k3) hq (Heap.get?_push_size _ rfl) (k3 _ _ hx) (by show 1 ≤ sizeLine; rw [sizeLine_eq]; omega) (fun t' h4 k4 e4 => ?_)
  have k14 : ∀ b o, b ≠ x → s.heap.get? b = some o → h4.get? b = some o := fun b o hb e => k4 b o hb (k3 b o e)
  have ns4 : h4.Ns s.heap.objs.size _ := keepNs hns fun o e => k4 _ _ xL (Heap.get?_push_of_some _ (k2 _ _ e))
  have lL : s.heap.objs.size ≤ h4.objs.size := by
    obtain ⟨o, _, _, e, _⟩ := ns4
    exact Nat.le_of_lt (Heap.lt_size e)
  refine ks_wpAt_execs_cons (wpAt_of_wpAny (plainObj_wpAny_Assign_Attribute ?_ (hs _)))
  refine ESX.ldL (s := ⟨h4, s.gens, s.drawn, _, s.os⟩) ns4 ma ?_ hk hal had
  refine ESX.ldL (s := ⟨h4, s.gens, s.drawn, _, s.os⟩) ns4 ms ?_ hk hsl hsd
  have X4 : K.In h4 := fun b o e => k14 b o (fun z => by rw [z, hKx] at e; cases e) (X b o e)
  refine set_plain (s := ⟨h4, s.gens, s.drawn, _, s.os⟩) X4 (ox := excObj C t' none .none) (od := none) ⟨e4, rfl, rfl, trivial⟩ hset ?_
  refine HandSPX.exc_osa X4 e4 hcl hmro hdict hno (fun h5 tk5 dx k5 dn dne hx5 hn5 => ?_)
  refine wpAt_of_wpAny (wpAny_pure ?_)
  exact hR _ _ _ _ (fun b o hb e => k5 b o hb (k14 b o hb e)) (Nat.le_trans lL dn) dne hx5 hn5
end
end Pv.Si
end
section
set_option Elab.async false
set_option linter.all false
set_option autoImplicit false
set_option maxRecDepth 100000
set_option maxHeartbeats 2000000
namespace Pv.Si
open PySem PySem.Spec PyProof.Rows PySem.HandSPX
section
variable {M : Model} {A : Around} {E : Value → Shared → Prop} {h : Heap} {g : Array GenState} {d : Drawn} {t : Nat} {os : OsState}
variable {nm q : Str} {C N : Addr} {bs bm bmB : List Value} {hdct : Bool} {sn : List Str} {sub : List Value} {ab : Bool} {col : Option Bool} {dd : Option Addr} {k0 k1 k2 k3 k5 : Option Value} {B newId initId : String}
theorem check_new_kw (F : ExcBaseFacts B newId initId bmB) (hT : ∀ X : String, bm.contains (.type X) = bmB.contains (.type X)) {rest : List Value} {kw : List (Str × Value)} {Q : Unit → Shared → Prop}
    (hC : h.get? C = some (excClassObj nm q C N bs bm hdct sn sub ab col dd k0 k1 k2 k3 k5 newId)) (hq : Q () ⟨h, g, d, t, os⟩) : wpAny M A (checkBuiltinCall newId ⟨.ref C :: rest, kw⟩) Q E ⟨h, g, d, t, os⟩ := by
  have hcont : (Value.ref C :: bm).contains (.type B) = true := by rw [List.contains_cons, hT, F.hasB, Bool.or_true]
  have hstar := F.noStar
  simp only [checkBuiltinCall, F.newKind, F.newSplit, F.newRow]
  repeat (first | refine wpAny_loadPart_at hC ?_ | (refine wpAny_isSubtype_exc hC ?_; rw [hcont]) | refine wpAny_staticBase_exc hC ?_ | refine wpAny_madeBy_exc hC ?_ | simp only [bne_self_eq_false, Bool.false_eq_true, if_false] | wp_step)
  exact hq
end
section
variable {prog : Program} {w : World} {A : Around} {E : Value → Shared → Prop} {R : Result → Shared → Prop} {h : Heap} {g : Array GenState} {d : Drawn} {t : Nat} {os : OsState}
variable {nm q : Str} {C N : Addr} {bs bm bmB : List Value} {hdct : Bool} {sn : List Str} {sub : List Value} {ab : Bool} {col : Option Bool} {dd : Option Addr} {k0 k1 k2 k3 k5 : Option Value} {B newId initId : String}
theorem new_kw (F : ExcBaseFacts B newId initId bmB) (hT : ∀ X : String, bm.contains (.type X) = bmB.contains (.type X)) {rest : List Value} {kw : List (Str × Value)}
    (hC : h.get? C = some (excClassObj nm q C N bs bm hdct sn sub ab col dd k0 k1 k2 k3 k5 newId))
    (hq : R (.ok (.ret (.ref (h.objs.size + 1)))) ⟨(h.push { cls := .type "tuple", data := .seq rest.toArray }).push
      { cls := .ref C, data := .fields #[.ref h.objs.size, .none, .none, .none, .bool false, .none] }, g, d, t, os⟩) (hrest : rest.length ≤ sizeLine) :
    codeAny (model prog w) A (.builtin newId ⟨.ref C :: rest, kw⟩) R ⟨h, g, d, t, os⟩ := by
  have hends := F.ends
  have hcB : (Value.ref C :: bm).contains (.type B) = true := by rw [List.contains_cons, hT, F.hasB, Bool.or_true]
  have hcA : (Value.ref C :: bm).contains (.type "AttributeError") = false := by rw [List.contains_cons, hT, F.noAttr]; rfl
  have hcN : (Value.ref C :: bm).contains (.type "NameError") = false := by rw [List.contains_cons, hT, F.noName]; rfl
  refine codeAny_builtinAt F.entry ?_
  unfold Builtin.«BaseException.__new__»
  refine _root_.PySem.wpAt_bind ?_
  show _root_.PySem.wpAt _ _ _ (stack >>= _) _ _ _
  refine _root_.PySem.wpAt_bind (_root_.PySem.wpAt_stack fun p below => _root_.PySem.wpAt_of_wpAny ?_)
  wp_walk
  refine _root_.PySem.wpAt_of_wpAny ?_
  rw [F.owner]
  repeat (first | with_reducible refine wpAny_madeHere_exc F.canon hC ?_ | with_reducible refine wpAny_loadPart_at hC ?_ | (with_reducible refine wpAny_isSubtype_exc hC ?_; first | rw [hcB] | rw [hcA] | rw [hcN]) | wp_step)
  show R _ _
  rw [Heap.size_push]
  exact hq
theorem type_call_kw (F : ExcBaseFacts B newId initId bmB) (hT : ∀ X : String, bm.contains (.type X) = bmB.contains (.type X)) {rest : List Value} {kw : List (Str × Value)} {fI : Addr} {Q : Fin → Shared → Prop}
    (hC : h.get? C = some (excClassObj nm q C N bs bm hdct sn sub ab col dd k0 k1 k2 k3 k5 newId))
    (hi : W.Looks (model prog w) h (typeLookup (.ref C) "__init__") (some (.ref fI))) (hb : ∀ self, W.Looks (model prog w) h (bindSpecial (.ref fI) self) (.ref fI, [self])) (hrest : rest.length ≤ sizeLine)
    (hq : codeAny (model prog w) A (.call (.ref fI) ⟨.ref (h.objs.size + 1) :: rest, kw⟩)
      (fun r s' => match r with | .ok (.ret v) => v = .none ∧ Q (.done (.ret (.ref (h.objs.size + 1)))) s' | .ok _ => False | .error e => E e s')
      ⟨(h.push (W.kdv_tup rest)).push (excO C h.objs.size), g, d, t, os⟩) :
    wpAny (model prog w) A (Builtin.«type.__call__» ⟨.ref C :: rest, kw⟩) Q E ⟨h, g, d, t, os⟩ := by
  repeat (first | with_reducible refine wpAny_loadPart_at hC ?_ | with_reducible refine wpAny_madeBy_exc hC ?_ | wp_step)
  refine codeAny_call_builtin_code (Code.quiet_builtin _ F.quiet) (check_new_kw F hT hC ?_)
  refine new_kw F hT hC ?_ hrest
  show wpAny _ _ _ _ _ _
  have k : ∀ b o, h.get? b = some o → ((h.push (W.kdv_tup rest)).push (excO C h.objs.size)).get? b = some o := fun b o e => Heap.get?_push_of_some _ (Heap.get?_push_of_some _ e)
  have hC₁ := k _ _ hC
  have hget : ((h.push (W.kdv_tup rest)).push (excO C h.objs.size)).get? (h.objs.size + 1) = some (excO C h.objs.size) := by heap_get
  have hcC : (Value.ref C :: bm).contains (.ref C) = true := by simp
  have i1 := hi.keeps k
  have b1 := (hb (.ref (h.objs.size + 1))).keeps k
  unfold isInstance
  repeat (first | with_reducible refine wpAny_loadPart_at hget ?_ | (with_reducible refine wpAny_isSubtype_exc hC₁ ?_; rw [hcC]) | wp_step)
  show wpAny _ _ (typeLookup (.ref C) _) _ _ _
  refine i1.at ?_
  refine wpAny_holding (wpAny_bind (b1.at ?_))
  refine wpAny_bind (wpAny_call (codeAny_mono hq fun r s' z => ?_))
  rcases r with e | (v | _ | _ | _) <;> first | exact z | exact z.elim | skip
  obtain ⟨rfl, z⟩ := z
  first
    | exact wpAny_pure (wpAny_pure z)
    | (wp_walk; exact z)
theorem call_kw (F : ExcBaseFacts B newId initId bmB) (hT : ∀ X : String, bm.contains (.type X) = bmB.contains (.type X)) {rest : List Value} {kw : List (Str × Value)} {fI : Addr}
    (hC : h.get? C = some (excClassObj nm q C N bs bm hdct sn sub ab col dd k0 k1 k2 k3 k5 newId))
    (hi : W.Looks (model prog w) h (typeLookup (.ref C) "__init__") (some (.ref fI))) (hb : ∀ self, W.Looks (model prog w) h (bindSpecial (.ref fI) self) (.ref fI, [self])) (hrest : rest.length ≤ sizeLine)
    (hq : codeAny (model prog w) (A.under (.builtin "type.__call__" ⟨.ref C :: rest, kw⟩)) (.call (.ref fI) ⟨.ref (h.objs.size + 1) :: rest, kw⟩) (W.InitBack (h.objs.size + 1) R)
      ⟨(h.push (W.kdv_tup rest)).push (excO C h.objs.size), g, d, t, os⟩) :
    codeAny (model prog w) A (.call (.ref C) ⟨rest, kw⟩) R ⟨h, g, d, t, os⟩ := by
  have f1 := tc_lookup
  have f2 := tc_bind (.ref C)
  have hTy : (⟨h, g, d, t, os⟩ : Shared).TypeIs (.ref C) "type" := ⟨_, hC, rfl⟩
  refine codeAny_of_tree ?_
  show wpAny _ _ (callAny (.ref C) _) _ _ _
  repeat (any_goals (first | assumption | with_reducible refine wpAny_loadPart_at hC ?_ | wp_step))
  refine ⟨rfl, ?_⟩
  refine codeAny_call_builtin_at (Code.quiet_builtin _ (by decide +kernel)) entry_typeCall (wpAny_check_type_call_sub hC (type_call_kw F hT hC hi hb hrest ?_))
  refine codeAny_mono hq fun r s' z => ?_
  rcases r with e | (v | _ | _ | _) <;> exact z
end
end Pv.Si
end
section
set_option Elab.async false
set_option linter.all false
set_option autoImplicit false
set_option maxRecDepth 100000
set_option maxHeartbeats 2000000
namespace Pv.Si
open PySem PySem.Spec PyProof.Rows PySem.W L2
section
variable {fs ex : List Addr} {H : Hp} {h h' : Heap} {a e : Addr} {o u : HO}
theorem un_laid2 (k : ∀ b v, h.get? b = some v → h'.get? b = some v) (pa : h.get? a = none) (na : H a = none) (pe : h.get? e = none) (ne : H e = none) : Un fs ex H (upd (upd H e u) a o) h h' where
  keep := fun b v q _ _ _ => k b v q
  slot := fun b v q _ _ _ => ⟨v.slots, k b v q⟩
  free := fun b v q n _ => by rw [upd_ne (fun z => by rw [z, pa] at q; cases q), upd_ne (fun z => by rw [z, pe] at q; cases q)]; exact n
  there := fun b v q _ => ⟨v, k b v q⟩
  tups := fun b xs q => by rw [upd_ne (ne_of_none q na), upd_ne (ne_of_none q ne)]; exact q
  frzs := fun b v xs q => by rw [upd_ne (ne_of_none q na), upd_ne (ne_of_none q ne)]; exact q
  tbls := fun b ps q => ⟨#[], by rw [upd_ne (ne_of_none q na), upd_ne (ne_of_none q ne), q]; simp⟩
theorem ok_laid2 {P : Program} {w : World} (x : HOk P w H h) (k : ∀ b v, h.get? b = some v → h'.get? b = some v) (na : H a = none) (ne : H e = none) (new : ObjOk P w (upd (upd H e u) a o) h' a o) (new2 : ObjOk P w (upd (upd H e u) a o) h' e u) : HOk P w (upd (upd H e u) a o) h' := fun b v q => by
  by_cases hb : b = a
  · subst hb
    rw [upd_same] at q
    cases q
    exact new
  · rw [upd_ne hb] at q
    by_cases hb2 : b = e
    · subst hb2
      rw [upd_same] at q
      cases q
      exact new2
    · rw [upd_ne hb2] at q
      exact (x b v q).stay (fun c v _ q => k c v q) (fun c q => by rw [upd_ne (ne_of_none q na), upd_ne (ne_of_none q ne)]; exact q) fun c xs q => by rw [upd_ne (ne_of_none q na), upd_ne (ne_of_none q ne)]; exact q
end
inductive SiF (P : Program) (K : Frag) (C f : Addr) (fld sf ag : Str) (fd : FuncData) : Prop
  | mk {D cda cc : Addr} {oc ccl cl : Value} {od cdd cld : Option Addr} {osl ccs csl : Array (Option Value)} {cdD cdC : ClassData} {vs : Array Value} {file : Str} {tf : Tok}
    {name qual : Str} {params : Arguments} {body : List Stmt} {scope : Scope} {dV kV doc pm ct : Value} {an : Option Addr} {tx : Str} {kk : Nat} {p0 p1 p2 p3 p4 p5 q0 q1 q2 q3 : Pos} {ar : Arg} {bmB : List Value} {pl : Addr → Sem Bool}
    (FB : ExcBaseFacts "ValueError" "ValueError.__new__" "ValueError.__init__" bmB)
    (hfd : fd = ksFn name qual params body scope dV kV doc pm an (.ref cda) ct cc)
    (hbody : body = [.Expr (.Call (.Attribute (.Call (.Name "super" p0) [] [] p1) "__init__" p2) [.Constant (.str tx) kk p3] [] p4) p5, .Assign [.Attribute (.Name sf q0) fld q1] (.Name ag q2) q3])
    (hf : K.lookup f = some ⟨oc, od, .func (ksFn name qual params body scope dV kV doc pm an (.ref cda) ct cc), osl⟩) (hcd : codeIn K (.ref cda) qual = true)
    (hp : (params.posonlyargs ++ params.args).head? = some ar) (har : ar.arg = sf) (hsa : (sf == ag) = false)
    (hsl : scope.names.lookup sf = some .local) (hal : scope.names.lookup ag = some .local) (hsd : (sf == ("__debug__" : Str)) = false) (had : (ag == ("__debug__" : Str)) = false)
    (hcell0 : ∀ y ∈ scope.names, y.2 ≠ .cell) (hco : scope.isCoroutine = false) (hgen : scope.isGenerator = false) (hk : scope.kind = .function)
    (hcode : K.lookup cda = some ⟨ccl, cdd, .fields vs, ccs⟩) (hvs : vs[2]? = some (.str file tf)) (hfile : ((P.main.file : Str) == file) = true)
    (hcell : K.lookup cc = some ⟨cl, cld, .cell (some (.ref D)), csl⟩) (hD : clsIn K D = some cdD) (hsub : mroIn K C (.ref D) = some true)
    (hks : scope.names.lookup ("super" : Str) = some .globalImplicit) (hkc : scope.names.lookup ("__class__" : Str) = some .free) (htop : (P.main.scope.names.lookup ("super" : Str)).isSome = false)
    (hth : nsIn K cStatics "thirdparty.any" = some none) (hm : ks_superIn K C D "__init__" = some (some (.builtin "ValueError.__init__"))) (hB : subIn K (.ref C) (.type "ValueError") = some true) (hq : excInitIn K C bmB "ValueError.__new__" = true)
    (hset : findIn K (.ref C) "__setattr__" = some (some (.builtin "object.__setattr__"))) (hno : findIn K (.ref C) fld = some none)
    (hcl : clsIn K C = some cdC) (hmro : HandSPX.refsVE cdC.mro = true) (hdict : cdC.hasDict = true)
    (hs : ∀ L, swapsWith (.Name ag q2) (some (.Attribute (.Name sf q0) fld q1)) q3.line (ksEnv qual scope L f (.ref cda) cc) = pure false)
    (hi : ∀ L, interactive (ksEnv qual scope L f (.ref cda) cc) = false)
    (hs0 : ∀ L, swapsWith (.Call (.Attribute (.Call (.Name "super" p0) [] [] p1) "__init__" p2) [.Constant (.str tx) kk p3] [] p4) none p5.line (ksEnv qual scope L f (.ref cda) cc) = pure false)
    (he : ∀ L, eval (.Call (.Attribute (.Call (.Name "super" p0) [] [] p1) "__init__" p2) [.Constant (.str tx) kk p3] [] p4) (ksEnv qual scope L f (.ref cda) cc) = (do
      let ov ← attributeBase (.Call (.Name "super" p0) [] [] p1) "__init__" (ksEnv qual scope L f (.ref cda) cc) (eval (.Call (.Name "super" p0) [] [] p1) (ksEnv qual scope L f (.ref cda) cc))
      standAt p2.atName
      let (f', first) ← holding [ov] (getMethod ov "__init__" (pl L))
      callWith p4 f' first (backTo p4 (starEach [.Constant (.str tx) kk p3] (ksEnv qual scope L f (.ref cda) cc))) [])) : SiF P K C f fld sf ag fd
section
variable {X : Cx} {pins : List (Addr × Obj)} {σ : L2.St} {H : Hp}
theorem call_exl {C f : Addr} {fld sf ag : Str} {fd : FuncData} {us : List Value} {kw : List (Str × Value)} {v : Value} {y : V} {k : Nat} {s : Shared} {Q : Value → Shared → Prop} {E : Value → Shared → Prop}
    (T : OexC X.K C) (S : SiF X.prog X.K C f fld sf ag fd) (iC : findIn X.K (.ref C) "__init__" = some (some (.ref f))) (tI : typeIn X.K (.ref f) = some (.type "function")) (hm : X.mg "super" = none) (hr : Room (k + 1) X.A)
    (I : Inv X pins σ H s) (hus : us.length ≤ sizeLine) (hbind : ∀ (s' : Shared) (x : Addr), X.K.In s'.heap → BindsTo s' fd ⟨.ref x :: us, kw⟩ [(sf, .ref x), (ag, v)]) (ry : RelV y v)
    (h : ∀ a dx s', H a = none → H dx = none → dx ≠ a → Inv X pins σ (upd (upd H dx (exd dx [(fld, y)])) a (exo a C (some dx))) s' → Q (.ref a) s') :
    wpAny (model X.prog X.w) X.A (call (.ref C) us kw) Q E s := by
  obtain ⟨nm, q, N, bs, bm, sn, sub, ab, col, dd, k0, k1, k2, k3, k5, hC, hbm⟩ := T.cls
  obtain ⟨mb, hb, hb2⟩ := I.ok.mod.blt
  have hmb : mb "super" = some (.type "super") := by rw [hb2 _ (by decide)]; kernel_rfl
  obtain ⟨hp, g, d, tk, os⟩ := s
  have hsz : hp.objs.size ≤ hp.objs.size + 1 := Nat.le_succ _
  have hn : H (hp.objs.size + 1) = none := I.hok.fresh hsz
  have kk : ∀ b o, hp.get? b = some o → ((hp.push (kdv_tup us)).push (HandSPX.excO C hp.objs.size)).get? b = some o := fun b o e => Heap.get?_push_of_some _ (Heap.get?_push_of_some _ e)
  have hget : ((hp.push (kdv_tup us)).push (HandSPX.excO C hp.objs.size)).get? (hp.objs.size + 1) = some (HandSPX.excO C hp.objs.size) := by heap_get
  have kb : ∀ b o, X.base.get? b = some o → ((hp.push (kdv_tup us)).push (HandSPX.excO C hp.objs.size)).get? b = some o := fun b o e => kk _ _ (I.bk b o e)
  have hKx : X.K.lookup (hp.objs.size + 1) = none := by
    cases e : X.K.lookup (hp.objs.size + 1) with
    | none => rfl
    | some o => exact absurd (Heap.lt_size (I.kIn _ _ e)) (Nat.not_lt.mpr hsz)
  have pa : hp.get? (hp.objs.size + 1) = none := by
    cases e : hp.get? (hp.objs.size + 1) with
    | none => rfl
    | some o => exact absurd (Heap.lt_size e) (Nat.not_lt.mpr hsz)
  refine wpAny_call (call_kw F.excBase_ValueError (fun Y => HandSPX.refsVE_contains Y bm hbm) (I.kIn _ _ hC) (looks_findIn I.kIn iC) (fun self => bind_fn I.kIn self tI) hus ?_)
  cases S with
  | mk FB hfd hbody hf hcd hp1 har hsa hsl hal hsd had hcell0 hco hgen hk hcode hvs hfile hcell hD hsub hks hkc htop hth hms hB hq hset hno hcl hmro hdict hs hi hs0 he =>
    subst hfd
    refine run (s := ⟨(hp.push (kdv_tup us)).push (HandSPX.excO C hp.objs.size), g, d, tk, os⟩) kxs_ValueError FB (I.ok.mod.kin.keeps kb) (keepNs I.ok.mod.glob fun o e => kb _ _ e) hm (keepNs hb fun o e => kb _ _ e) hmb (I.ok.mod.nolimit.keeps kb) ?_ hbody hf hcd
      (hbind _ _ (I.ok.mod.kin.keeps kb)) hp1 har hsa hsl hal hsd had hcell0 hco hgen hk hget hKx hcode hvs hfile hcell hD hsub hks hkc htop hth hms hB hq hset hno hcl hmro hdict ?_ hs hi hs0 he
    · have := (hr.make C us kw).dp; omega
    · intro h' tk' dx t' k1' n1 n2 e1 e2
      have ph : hp.get? dx = none := by
        cases e : hp.get? dx with
        | none => rfl
        | some o => exact absurd (Nat.lt_of_lt_of_le (Heap.lt_size (kk _ _ e)) n1) (Nat.lt_irrefl _)
      have hnd : H dx = none := I.hok.fresh (Nat.le_trans (show hp.objs.size ≤ ((hp.push (kdv_tup us)).push (HandSPX.excO C hp.objs.size)).objs.size by rw [Heap.size_push, Heap.size_push]; omega) n1)
      have kh : ∀ b o, hp.get? b = some o → h'.get? b = some o := fun b o e => k1' b o (fun z => by rw [z, pa] at e; cases e) (kk b o e)
      have J : Inv X pins σ (upd (upd H dx (exd dx [(fld, y)])) (hp.objs.size + 1) (exo (hp.objs.size + 1) C (some dx))) ⟨h', g, d, tk', os⟩ :=
        I.un (t' := tk') (un_laid2 kh pa hn ph hnd) (ok_laid2 I.hok kh hn hnd (exo_ok e1) (exd_ok e2 (relO_put (fs := []) ry fun g => True.intro)))
      exact ⟨rfl, h _ dx _ hn hnd n2 J⟩
end
end Pv.Si
end
section
set_option Elab.async false
set_option linter.all false
set_option autoImplicit false
set_option maxRecDepth 100000
set_option maxHeartbeats 2000000
namespace Pv.Si
open PySem PySem.Spec PyProof.Rows PySem.W L2
section
variable {X : Cx}
theorem pe_exl1 {C f : Addr} {x fld sf ag : Str} {fd : FuncData} {k : Nat} {e : Expr} {te : TE} {p pos : Pos}
    (T : OexC X.K C) (S : SiF X.prog X.K C f fld sf ag fd) (iC : findIn X.K (.ref C) "__init__" = some (some (.ref f))) (tI : typeIn X.K (.ref f) = some (.type "function")) (hm : X.mg "super" = none) (hr : Room (k + 1) X.A)
    (hb : Binds X.K fd [sf, ag] []) (gC : X.mg x = some (.ref C)) (hg : Gl X x) (he : PE X e te) (hs : starEach [e] X.env = (false, eval e X.env) :: starEach [] X.env := by rfl) (hdb : (x == ("__debug__" : Str)) = false := by decide) :
    PE X (.Call (.Name x p) [e] [] pos) (fun σ H Q => te σ H fun y H1 => ∀ a dx, H1 a = none → H1 dx = none → dx ≠ a → Q (.ref a) (upd (upd H1 dx (exd dx [(fld, y)])) a (exo a C (some dx)))) := by
  refine ⟨fun pins s σ H Q I h => ?_⟩
  refine wpAny_Call_Name_kw (ld_glob I hg gC ?_ hdb)
  refine callWith_K (h₀ := X.base) I.ok.mod.kin T.kC ?_ hs (by rfl)
  rw [hs]
  show wpAny _ _ (spliced ((false, eval e X.env) :: backTo pos (starEach [] X.env))) _ _ s
  refine Calls.spliced_cons (thn (he.run pins s σ H _ I h) fun u s1 ⟨v, H1, I1, r1, q1⟩ => ?_)
  refine Calls.spliced_nil ⟨I1.kIn, ?_⟩
  show wpAny _ _ (call (.ref C) [u]) _ _ _
  refine call_exl (kw := []) T S iC tI hm hr I1 (by show 1 ≤ sizeLine; rw [sizeLine_eq]; omega) (fun s' z kz => ?_) r1 fun a dx s' na nd ne J => ⟨.ref a, _, J, rfl, q1 a dx na nd ne⟩
  have := hb s' [.ref z, u] kz (by rfl)
  simpa using this
theorem pe_exl0 {C f : Addr} {x fld sf ag : Str} {fd : FuncData} {k : Nat} {p pos : Pos} {d : Value} {y : V}
    (T : OexC X.K C) (S : SiF X.prog X.K C f fld sf ag fd) (iC : findIn X.K (.ref C) "__init__" = some (some (.ref f))) (tI : typeIn X.K (.ref f) = some (.type "function")) (hm : X.mg "super" = none) (hr : Room (k + 1) X.A)
    (hb : Binds X.K fd [sf, ag] [d]) (hd : RelV y d) (gC : X.mg x = some (.ref C)) (hg : Gl X x) (hdb : (x == ("__debug__" : Str)) = false := by decide) :
    PE X (.Call (.Name x p) [] [] pos) (fun σ H Q => ∀ a dx, H a = none → H dx = none → dx ≠ a → Q (.ref a) (upd (upd H dx (exd dx [(fld, y)])) a (exo a C (some dx)))) := by
  refine ⟨fun pins s σ H Q I h => ?_⟩
  refine wpAny_Call_Name_kw (ld_glob I hg gC ?_ hdb)
  refine callWith_K0 I.kIn T.kC ?_
  show wpAny _ _ (call (.ref C) []) _ _ _
  refine call_exl (kw := []) T S iC tI hm hr I (Nat.zero_le _) (fun s' z kz => ?_) hd fun a dx s' na nd ne J => ⟨.ref a, _, J, rfl, h a dx na nd ne⟩
  have := hb s' [.ref z] kz (by rfl)
  simpa using this
theorem pe_exlk {C f : Addr} {x fld sf ag : Str} {fd : FuncData} {k : Nat} {kws : List Keyword} {tk : TA} {p pos : Pos}
    (T : OexC X.K C) (S : SiF X.prog X.K C f fld sf ag fd) (iC : findIn X.K (.ref C) "__init__" = some (some (.ref f))) (tI : typeIn X.K (.ref f) = some (.type "function")) (hm : X.mg "super" = none) (hr : Room (k + 1) X.A)
    (hb : ∀ (s' : Shared) (z : Addr) (u : Value), X.K.In s'.heap → BindsTo s' fd ⟨[.ref z], [(ag, u)]⟩ [(sf, .ref z), (ag, u)]) (gC : X.mg x = some (.ref C)) (hg : Gl X x) (hkw : PK X kws tk)
    (hall : (backToKw pos (keywordEach kws X.env)).all (·.1.isSome) = true := by rfl) (hks : (backToKw pos (keywordEach kws X.env)).filterMap (·.1) = [ag] := by rfl)
    (hpl : ((backTo pos (starEach [] X.env)).any (·.1) || (backToKw pos (keywordEach kws X.env)).any (·.1.isNone)) = false := by rfl) (hdb : (x == ("__debug__" : Str)) = false := by decide) :
    PE X (.Call (.Name x p) [] kws pos) (fun σ H Q => tk σ H fun ys H1 => ∃ y, ys = [y] ∧ ∀ a dx, H1 a = none → H1 dx = none → dx ≠ a → Q (.ref a) (upd (upd H1 dx (exd dx [(fld, y)])) a (exo a C (some dx)))) := by
  refine ⟨fun pins s σ H Q I h => ?_⟩
  refine wpAny_Call_Name_kw (ld_glob I hg gC ?_ hdb)
  refine callWith_KW0 (h₀ := X.base) I.ok.mod.kin T.kC hall (thn (hkw.run pos pins s σ H _ I h) fun ws s2 ⟨zs, H2, I2, rz, y, ey, q2⟩ => ⟨I2.kIn, ?_⟩) hpl
  subst ey
  rw [hks]
  cases rz with
  | cons r0 rt =>
    cases rt
    exact call_exl T S iC tI hm hr I2 (Nat.zero_le _) (fun s' z kz => hb s' z _ kz) r0 fun a dx s' na nd ne J => ⟨.ref a, _, J, rfl, q2 a dx na nd ne⟩
end
end Pv.Si
end
section
set_option Elab.async false
set_option linter.all false
set_option autoImplicit false
set_option maxRecDepth 100000
set_option maxHeartbeats 2000000
namespace Pv.Si
open PySem PySem.Spec PyProof.Rows PySem.W L2
section
variable {X : Cx}
theorem pe_exget {C : Addr} {e : Expr} {te : TE} {pos : Pos} {n : Str} (T : XfC X.K C) (hno : findIn X.K (.ref C) n = some none) (he : PE X e te) (hb : attributeBase e n X.env (eval e X.env) = eval e X.env := by rfl) :
    PE X (.Attribute e n pos) (fun σ H Q => te σ H fun x H1 => ∃ (a dx : Addr) (fs : List (Str × V)) (v : V), x = .ref a ∧ H1 a = some (exo a C (some dx)) ∧ H1 dx = some (exd dx fs) ∧ fs.lookup n = some v ∧ Q v H1) := by
  refine ⟨fun pins s σ H Q I h => ?_⟩
  refine attr_of hb (thn (he.run pins s σ H _ I h) fun u s1 ⟨x, H1, I1, rx, a, dx, fs, v, ex, ea, ed, l, q⟩ => ?_)
  subst ex
  obtain rfl : u = Value.ref a := rx
  obtain ⟨t1, ho⟩ := exo_at I1.hok ea
  obtain ⟨mA, hns, hr⟩ := exd_at I1.hok ed
  obtain ⟨od, hod, hl⟩ := lookIn_ns hns
  obtain ⟨u, hu, ru⟩ := RelO.some_of (v := v) (o := mA n) (by rw [← l]; exact hr n)
  have J : InstAt s1.heap a _ C (some od) := ⟨ho, rfl, rfl, hod⟩
  exact HandSPX.exc_get I1.kIn J T.ga T.gg T.exC (findObj_own T.hdC hno rfl (by rw [hl, hu])) (handed_of ru) ⟨v, H1, I1.tok _, ru, q⟩
end
end Pv.Si
end
section
set_option Elab.async false
set_option linter.all false
set_option autoImplicit false
set_option maxRecDepth 100000
set_option maxHeartbeats 2000000
namespace Pv
open PySem PySem.Spec PyProof.Rows L2 PySem.W
section
variable {X : Cx}
theorem exV_ok {P : Program} {w : World} {H : Hp} {h : Heap} {a C : Addr} {oe : Obj} {vs : Array Value} (e : h.get? a = some oe) (z : Zc (.ref C) none oe) (d : oe.data = .fields vs) : ObjOk P w H h a (ExV C a) :=
  ⟨⟨oe, vs, e, z, d⟩, ⟨oe, e⟩, fun _ _ ⟨o, v, q, r⟩ k => ⟨o, v, k o q, r⟩⟩
theorem pe_new1 {C : Addr} {bmB : List Value} {B newId initId : String} {x : Str} {e : Expr} {ta : TE} {p pos : Pos} (F : ExcBaseFacts B newId initId bmB) (q : PySem.W.excIn X.K C bmB newId = true) (gC : X.mg x = some (.ref C)) (kC : PySem.W.keepIn X.K (.ref C) = true) (hg : Gl X x)
    (he : PE X e ta) (hs : starEach [e] X.env = (false, eval e X.env) :: starEach [] X.env := by rfl) (hdb : (x == ("__debug__" : Str)) = false := by decide) :
    PE X (.Call (.Name x p) [e] [] pos) (fun σ H Q => ta σ H fun _ H1 => ∀ a, H1 a = none → Q (.ref a) (upd H1 a (ExV C a))) := by
  refine ⟨fun pins s σ H Q I h => ?_⟩
  refine wpAny_Call_Name_kw (ld_glob I hg gC ?_ hdb)
  refine PySem.W.callWith_K (h₀ := X.base) I.ok.mod.kin kC ?_ hs (by rfl)
  rw [hs]
  show wpAny _ _ (spliced ((false, eval e X.env) :: backTo pos (starEach [] X.env))) _ _ s
  refine Calls.spliced_cons (thn (he.run pins s σ H _ I h) fun u s1 ⟨v, H1, I1, r1, q1⟩ => ?_)
  refine Calls.spliced_nil ⟨I1.kIn, ?_⟩
  show wpAny _ _ (call (.ref C) [u]) _ _ _
  obtain ⟨bm, N, nm, qn, bs, hdct, sn, sub, ab, col, dd, k0, k1, k2, k3, k5, mN, hC, hN, hni, T⟩ := exc_obj I1.kIn q
  refine wpAny_call_exc_subT F T hC hN hni (fun h' a hm => ?_) (by show 1 ≤ sizeLine; rw [sizeLine_eq]; omega)
  have hn : H1 a = none := I1.hok.gone hm.new
  obtain ⟨t, ht, _, _⟩ := hm.there
  exact ⟨.ref a, upd H1 a (ExV C a), I1.laidN hm.keeps hm.new hn (exV_ok ht ⟨rfl, rfl⟩ rfl), rfl, q1 a hn⟩
theorem pe_new0 {C : Addr} {bmB : List Value} {B newId initId : String} {x : Str} {p pos : Pos} (F : ExcBaseFacts B newId initId bmB) (q : PySem.W.excIn X.K C bmB newId = true) (gC : X.mg x = some (.ref C)) (kC : PySem.W.keepIn X.K (.ref C) = true) (hg : Gl X x)
    (hdb : (x == ("__debug__" : Str)) = false := by decide) :
    PE X (.Call (.Name x p) [] [] pos) (fun σ H Q => ∀ a, H a = none → Q (.ref a) (upd H a (ExV C a))) := by
  refine ⟨fun pins s σ H Q I h => ?_⟩
  refine wpAny_Call_Name_kw (ld_glob I hg gC ?_ hdb)
  refine PySem.W.callWith_K0 I.kIn kC ?_
  show wpAny _ _ (call (.ref C) []) _ _ _
  obtain ⟨bm, N, nm, qn, bs, hdct, sn, sub, ab, col, dd, k0, k1, k2, k3, k5, mN, hC, hN, hni, T⟩ := exc_obj I.kIn q
  refine wpAny_call_exc_subT F T hC hN hni (fun h' a hm => ?_) (Nat.zero_le _)
  have hn : H a = none := I.hok.gone hm.new
  obtain ⟨t, ht, _, _⟩ := hm.there
  exact ⟨.ref a, upd H a (ExV C a), I.laidN hm.keeps hm.new hn (exV_ok ht ⟨rfl, rfl⟩ rfl), rfl, h a hn⟩
end
end Pv
end
section
set_option Elab.async false
set_option linter.all false
set_option autoImplicit false
set_option maxRecDepth 100000
set_option maxHeartbeats 2000000
namespace Pv
open PySem PySem.Spec PyProof.Rows L2 PySem.W
def sNew0 (x : Str) : SemE := fun ρ => some (.val (excD x), ρ)
def sNew1 (x : Str) (f : SemE) : SemE := fun ρ => (f ρ).bind fun (_, ρ1) => some (.val (excD x), ρ1)
section
variable {X : Cx}
theorem de_new0 {C : Addr} {bmB : List Value} {B newId initId : String} {x : Str} {p pos : Pos} (F : ExcBaseFacts B newId initId bmB) (q : PySem.W.excIn X.K C bmB newId = true) (gC : X.mg x = some (.ref C)) (kC : PySem.W.keepIn X.K (.ref C) = true) (hg : Gl X x)
    (hns : PySem.W.nsIn X.K mainGlobals x = some (some (.ref C))) (hdb : (x == ("__debug__" : Str)) = false := by decide) : DE X (.Call (.Name x p) [] [] pos) (sNew0 x) :=
  ⟨(pe_new0 F q gC kC hg hdb).pvi fun σ H Q h => by
    obtain ⟨P, W, F, ρ, r, ρ', R, ev, h⟩ := h
    cases ev
    intro a ha
    exact h _ _ _ ((Grow.both R.fh ha _).ext R.wh) (R.grow (Grow.both R.fh ha (ExV C a))) (.exc upd_same hns)⟩
theorem de_new1 {C : Addr} {bmB : List Value} {B newId initId : String} {x : Str} {e : Expr} {f : SemE} {p pos : Pos} (F : ExcBaseFacts B newId initId bmB) (q : PySem.W.excIn X.K C bmB newId = true) (gC : X.mg x = some (.ref C)) (kC : PySem.W.keepIn X.K (.ref C) = true) (hg : Gl X x)
    (hns : PySem.W.nsIn X.K mainGlobals x = some (some (.ref C))) (he : DE X e f) (hs : starEach [e] X.env = (false, eval e X.env) :: starEach [] X.env := by rfl) (hdb : (x == ("__debug__" : Str)) = false := by decide) : DE X (.Call (.Name x p) [e] [] pos) (sNew1 x f) :=
  ⟨(pe_new1 F q gC kC hg he.pe hs hdb).pvi fun σ H Q h => by
    obtain ⟨P, W, F, ρ, r, ρ', R, ev, h⟩ := h
    simp only [sNew1, Option.bind_eq_some_iff, Prod.exists] at ev
    obtain ⟨r1, ρ1, e1, e2⟩ := ev
    cases e2
    refine ⟨P, W, F, ρ, r1, _, R, e1, fun v H1 F1 x1 R1 o1 a ha => ?_⟩
    exact h _ _ _ (x1.trans ((Grow.both R1.fh ha _).ext R1.wh)) (R1.grow (Grow.both R1.fh ha (ExV C a))) (.exc upd_same hns)⟩
end
end Pv
end
section
set_option Elab.async false
set_option linter.all false
set_option autoImplicit false
set_option maxRecDepth 100000
set_option maxHeartbeats 2000000
namespace Pv
open PySem PySem.Spec PyProof.Rows L2 PySem.W Pv.Si
def exlD (x f : Str) (d : D) : D := .dict [(.list [], .str x), (.list [.str f], d)]
def sExl1 (x fl : Str) (f : SemE) : SemE := fun ρ => (f ρ).bind fun (r, ρ1) => (frz ρ1 r).bind fun (d, ρ2) => some (.val (exlD x fl d), ρ2)
def sExl0 (x fl : Str) : SemE := fun ρ => some (.val (exlD x fl .none), ρ)
section
variable {X : Cx}
theorem rel_exl {K : Fr'} {P : List (Nat × Addr)} {W F H : Hp} {σ : L2.St} {ρ : Ro} {C a dx : Addr} {x fl : Str} {v : V} {d : D} (R : Rel K P W F H σ ρ) (rp : Rp K F v d) (ha : H a = none) (hd : H dx = none) (hne : dx ≠ a)
    (hns : PySem.W.nsIn K mainGlobals x = some (some (.ref C))) :
    ∃ F', Ext W F F' ∧ Rel K P W F' (upd (upd H dx (exd dx [(fl, v)])) a (exo a C (some dx))) σ ρ ∧ Rp K F' (.ref a) (exlD x fl d) := by
  have g1 := Grow.both R.fh hd (exd dx [(fl, v)])
  have R1 := R.grow g1
  have ha1 : upd H dx (exd dx [(fl, v)]) a = none := by rw [upd_ne (fun z => hne z.symm)]; exact ha
  have g2 := Grow.both R1.fh ha1 (exo a C (some dx))
  refine ⟨_, (g1.ext R.wh).trans (g2.ext R1.wh), R1.grow g2, .exl upd_same (by rw [upd_ne hne, upd_same]) hns (rp.mono (Le.of (g1.fs.trans g2.fs)))⟩
theorem de_exl1 {C f0 : Addr} {x fld sf ag : Str} {fd : FuncData} {k : Nat} {e : Expr} {f : SemE} {p pos : Pos}
    (T : OexC X.K C) (S : SiF X.prog X.K C f0 fld sf ag fd) (iC : findIn X.K (.ref C) "__init__" = some (some (.ref f0))) (tI : typeIn X.K (.ref f0) = some (.type "function")) (hm : X.mg "super" = none) (hr : Room (k + 1) X.A)
    (hb : Binds X.K fd [sf, ag] []) (gC : X.mg x = some (.ref C)) (hg : Gl X x) (hns : PySem.W.nsIn X.K mainGlobals x = some (some (.ref C))) (he : DE X e f)
    (hs : starEach [e] X.env = (false, eval e X.env) :: starEach [] X.env := by rfl) (hdb : (x == ("__debug__" : Str)) = false := by decide) : DE X (.Call (.Name x p) [e] [] pos) (sExl1 x fld f) :=
  ⟨(pe_exl1 T S iC tI hm hr hb gC hg he.pe hs hdb).pvi fun σ H Q h => by
    obtain ⟨P, W, F, ρ, r, ρ', R, ev, h⟩ := h
    simp only [sExl1, Option.bind_eq_some_iff, Prod.exists] at ev
    obtain ⟨r1, ρ1, e1, d, ρ2, e2, e3⟩ := ev
    cases e3
    refine ⟨P, W, F, ρ, r1, _, R, e1, fun v H1 F1 x1 R1 o1 a dx ha hd hne => ?_⟩
    obtain ⟨F2, x2, R2, rp⟩ := R1.frz o1 e2
    obtain ⟨F3, x3, R3, rp3⟩ := rel_exl (x := x) (fl := fld) R2 rp ha hd hne hns
    exact h _ _ _ ((x1.trans x2).trans x3) R3 rp3⟩
theorem de_exl0 {C f0 : Addr} {x fld sf ag : Str} {fd : FuncData} {k : Nat} {p pos : Pos}
    (T : OexC X.K C) (S : SiF X.prog X.K C f0 fld sf ag fd) (iC : findIn X.K (.ref C) "__init__" = some (some (.ref f0))) (tI : typeIn X.K (.ref f0) = some (.type "function")) (hm : X.mg "super" = none) (hr : Room (k + 1) X.A)
    (hb : Binds X.K fd [sf, ag] [.none]) (gC : X.mg x = some (.ref C)) (hg : Gl X x) (hns : PySem.W.nsIn X.K mainGlobals x = some (some (.ref C))) (hdb : (x == ("__debug__" : Str)) = false := by decide) :
    DE X (.Call (.Name x p) [] [] pos) (sExl0 x fld) :=
  ⟨(pe_exl0 (y := .non) T S iC tI hm hr hb rfl gC hg hdb).pvi fun σ H Q h => by
    obtain ⟨P, W, F, ρ, r, ρ', R, ev, h⟩ := h
    cases ev
    intro a dx ha hd hne
    obtain ⟨F3, x3, R3, rp3⟩ := rel_exl (x := x) (fl := fld) R (.non) ha hd hne hns
    exact h _ _ _ x3 R3 rp3⟩
end
end Pv
end
section
set_option Elab.async false
set_option linter.all false
set_option autoImplicit false
set_option maxRecDepth 100000
set_option maxHeartbeats 2000000
namespace Pv
open PySem PySem.Spec PyProof.Rows L2 PySem.W Pv.Si
def exF (c fl : Str) : D → Option D
  | .dict [(.list [], .str x), (.list [.str g], d)] => if (eqS x c && eqS g fl) = true then some d else none
  | _ => none
def sFld (c fl : Str) (f : SemE) : SemE := fun ρ => (f ρ).bind fun (r, ρ1) => match r with
  | .val d => (exF c fl d).bind fun y => some (.val y, ρ1)
  | _ => none
section
variable {X : Cx}
theorem de_exget {C : Addr} {c n : Str} {e : Expr} {f : SemE} {pos : Pos} (T : XfC X.K C) (hno : findIn X.K (.ref C) n = some none) (hns : PySem.W.nsIn X.K mainGlobals c = some (some (.ref C))) (he : DE X e f)
    (hb : attributeBase e n X.env (eval e X.env) = eval e X.env := by rfl) : DE X (.Attribute e n pos) (sFld c n f) :=
  ⟨(pe_exget T hno he.pe hb).pvi fun σ H Q h => by
    obtain ⟨P, W, F, ρ, r, ρ', R, ev, h⟩ := h
    simp only [sFld, Option.bind_eq_some_iff, Prod.exists] at ev
    obtain ⟨r1, ρ1, e1, e2⟩ := ev
    refine ⟨P, W, F, ρ, r1, ρ1, R, e1, fun v H1 F1 x1 R1 o1 => ?_⟩
    cases r1 with
    | fr d => cases e2
    | «at» k => cases e2
    | val d =>
      simp only [Option.bind_eq_some_iff] at e2
      obtain ⟨y, e3, e4⟩ := e2
      cases e4
      unfold exF at e3
      split at e3
      case h_2 => cases e3
      rename_i x g d'
      split at e3
      case isFalse => cases e3
      rename_i hxg
      cases e3
      rw [Bool.and_eq_true, eqS_dec, eqS_dec] at hxg
      obtain ⟨hx, hg⟩ := hxg
      have hx := of_decide_eq_true hx
      have hg := of_decide_eq_true hg
      subst hx
      subst hg
      have o2 : Rp X.K F1 v (.dict [(.list [], .str x), (.list [.str g], y)]) := o1
      cases o2 with
      | dic s r =>
        have := r.noX
        cases this
      | @exl a C' dx x' f' v' d'' s t m r =>
        rw [hns] at m
        cases m
        exact ⟨a, dx, _, v', rfl, R1.fh.ext s, R1.fh.ext t, by simp [List.lookup], h _ _ _ x1 R1 r⟩⟩
end
end Pv
end
section
set_option Elab.async false
set_option linter.all false
set_option maxRecDepth 100000
set_option maxHeartbeats 2000000
namespace PySem.SeqAt
open AutoSeq1 (wpAny_loadPart')
open MeetsSeq MeetsSeq2 MeetsSeq3 SeqRoads2
section
variable {prog : Program} {w : World}
theorem eqP_same {A : Around} {s : Shared} {l : Addr} : EqP prog w A s (.ref l) (.ref l) true := fun E Q hq => by
  unfold eqBool
  refine wpAny_holding ?_
  refine wpAny_ite_split (fun _ => ?_) (fun h => absurd (beq_self_eq_true _) h)
  exact wpAny_bind (wpAny_rule (wpAny_pure hq))
end
end PySem.SeqAt
namespace Pv
open PySem PySem.Spec PyProof.Rows L2
def neF0 : Op2
  | .dict es, .dict [] => some (.bool (!es.isEmpty), false)
  | _, _ => none
section
variable {X : Cx}
theorem or_ne0 (hu : X.A.units + 100 < cLine) : OpR X (compareOp .NotEq) (rS X.K neF0) := by
  intro pins s σ H x y v u Q I rx ry h
  obtain ⟨F, d, e, zb, l, hd, he, hz, q⟩ := h
  unfold neF0 at hz
  split at hz
  · rename_i es
    cases hz
    obtain ⟨a, ks, rfl, ha, rk⟩ := hd.dict l
    obtain ⟨b, ls, rfl, hb, rl⟩ := he.dict l
    cases rl
    cases (show v = Value.ref a from rx)
    cases (show u = Value.ref b from ry)
    obtain ⟨_, ya, va, ra, da⟩ := dk_rd I.hok ha
    obtain ⟨_, yb, vb, rb, db⟩ := dk_rd I.hok hb
    have e0 : vb = [] := by cases rb; rfl
    have ev : va.length = es.length := (ra.length.symm.trans rk.length)
    subst e0
    refine PySem.W.keq_ne (knd := mixKind X.prog X.w) (r := true) ya yb da db (by omega) (fun hl => ?_) ?_
    · have : va = [] := List.length_eq_zero_iff.mp hl
      subst this
      exact .nil
    · have ez : (!(va.length == ([] : List (Key × Value)).length && true)) = !es.isEmpty := by
        rw [ev]
        cases es <;> rfl
      rw [ez]
      exact ⟨.bl _, H, I, rfl, q.old l (.bl _)⟩
  · cases hz
def dEqB (fs es : List (D × D)) : Bool := fs.length == es.length && fs.all (dhit es)
theorem rpD_uniq {pins : List (Addr × Obj)} {σ : St} {s : Shared} {H : Hp} (I : Inv X pins σ H s) {ks : List (Key × V)} {va : List (Key × Value)} (ra : KV ks va) :
    ∀ {es fs : List (D × D)}, RpD X.K H ks es → RpD X.K H ks fs → (∀ p ∈ es, SeqAt.shaped p.2 = true) → (∀ p ∈ fs, SeqAt.shaped p.2 = true) → es = fs := by
  unfold KV at ra
  induction ra with
  | nil => intro es fs r q _ _; cases r; cases q; rfl
  | @cons p q ps qs h t ih =>
    intro es fs r1 r2 he hf
    cases r1 with
    | @cons k v _ d es rv r =>
      cases r2 with
      | @cons _ _ _ d' fs rv' r' =>
        have sd := he _ List.mem_cons_self
        have sd' := hf _ List.mem_cons_self
        obtain ⟨as, q1⟩ := Dp.reads I d v q.2 (rv.dp (plain_canLay _ (SeqAt.canLay_of_shaped sd))) h.2
        obtain ⟨bs, q2⟩ := Dp.reads I d' v q.2 (rv'.dp (plain_canLay _ (SeqAt.canLay_of_shaped sd'))) h.2
        rw [SeqAt.plain_unique d d' _ _ _ (PyData.plain_of_canLay0 _ (SeqAt.canLay_of_shaped sd)) q1 q2, ih r r' (fun p hp => he p (List.mem_cons_of_mem _ hp)) fun p hp => hf p (List.mem_cons_of_mem _ hp)]
theorem rd_same {H : Hp} {a : Addr} {u v : List (Key × V)} (h : Rd H a (.dK u)) (k : Rd H a (.dK v)) : u = v := by
  rcases h with h | ⟨_, h⟩ <;> rcases k with k | ⟨_, k⟩ <;> rw [h] at k <;> cases k <;> rfl
end
end Pv
end
section
set_option Elab.async false
set_option linter.all false
set_option autoImplicit false
set_option maxRecDepth 100000
set_option maxHeartbeats 2000000
namespace PySem.SeqAt
open AutoSeq1 (wpAny_loadPart')
open MeetsSeq MeetsSeq2 MeetsSeq3 SeqRoads2
section
variable {prog : Program} {w : World}
theorem ne_loopIn (l b : Addr) (items items2 : Array Value) (n n2 : Nat) (dd dd2 : Option Addr) (sl sl2 : Array (Option Value)) (hsz : items.size = items2.size) (e : Nat → Bool) (k : Nat) :
    ∀ i : Nat, items.size - i = k → MeetsIn prog w (Builtin.«list.__eq__.loop» ⟨[.ref l, .ref b, rawInt i, rawInt 3], []⟩)
      (fun A R s => s.heap.get? l = some { cls := .type "list", dict := dd, data := .seq items n, slots := sl } ∧ s.heap.get? b = some { cls := .type "list", dict := dd2, data := .seq items2 n2, slots := sl2 } ∧
        (∀ j (h1 : j < items.size) (h2 : j < items2.size), EqIn prog w A.in1 s items[j] items2[j] (e j)) ∧
        R (.ok (.ret (.bool (!((List.range items.size).drop i).all e)))) s) := by
  induction k with
  | zero =>
    intro i hk A R s h
    obtain ⟨hp, g, d, tk, os⟩ := s; obtain ⟨hl, hb, he, h⟩ := h
    wp_walk using wpAny_loadPart' hl, wpAny_loadPart' hb
    have hi1 : items[((i : Nat) : Int).toNat]? = none := by simp; omega
    have hi2 : items2[((i : Nat) : Int).toNat]? = none := by simp; omega
    have hd : (List.range items.size).drop i = [] := by simp; omega
    rw [hd] at h
    rw [hi1, hi2]
    wp_walk using wpAny_loadPart' hl, wpAny_loadPart' hb
    show R (.ok (.ret (.bool (items.size != items2.size)))) _
    rw [hsz]
    simpa using h
  | succ k ih =>
    intro i hk A R s h
    obtain ⟨hp, g, d, tk, os⟩ := s; obtain ⟨hl, hb, he, h⟩ := h
    wp_walk using wpAny_loadPart' hl, wpAny_loadPart' hb
    have hlt : i < items.size := by omega
    have hlt2 : i < items2.size := by omega
    have hi1 : items[((i : Nat) : Int).toNat]? = some items[i] := by simp [hlt]
    have hi2 : items2[((i : Nat) : Int).toNat]? = some items2[i] := by simp [hlt2]
    have hd : (List.range items.size).drop i = i :: (List.range items.size).drop (i + 1) := by simp [List.drop_eq_getElem_cons, hlt]
    have hc : ((i : Int) + 1) = ((i + 1 : Nat) : Int) := by push_cast; rfl
    rw [hd, List.all_cons] at h
    rw [hi1, hi2]
    refine wpAny_bind (he i hlt hlt2 _ _ ?_)
    cases hb' : e i with
    | true =>
      rw [hb'] at h
      wp_walk
      rw [hc]
      exact ⟨plainId_quiet plain_eq_loop _, codeAny_builtin entry_eq_loop (by
        rw [Around.under_plainId plain_eq_loop _]
        exact ih (i + 1) (by omega) A R _ ⟨hl, hb, he, by simpa using h⟩)⟩
    | false =>
      rw [hb'] at h
      wp_walk using wpAny_loadPart' hl, wpAny_loadPart' hb
      rw [hi1, hi2]
      wp_walk
      simpa using h
theorem list_neIn (l b : Addr) (items items2 : Array Value) (n n2 : Nat) (dd dd2 : Option Addr) (sl sl2 : Array (Option Value)) (hsz : items.size = items2.size) (e : Nat → Bool) :
    MeetsIn prog w (Builtin.«list.__ne__» ⟨[.ref l, .ref b], []⟩)
      (fun A R s => s.heap.get? l = some { cls := .type "list", dict := dd, data := .seq items n, slots := sl } ∧ s.heap.get? b = some { cls := .type "list", dict := dd2, data := .seq items2 n2, slots := sl2 } ∧
        (∀ j (h1 : j < items.size) (h2 : j < items2.size), EqIn prog w A.in1 s items[j] items2[j] (e j)) ∧
        R (.ok (.ret (.bool (!(List.range items.size).all e)))) s) := by
  intro A R s h
  obtain ⟨hp, g, d, tk, os⟩ := s; obtain ⟨hl, hb, he, h⟩ := h
  have f3 := AutoSeq1.sub_list_list
  have hne : ¬ (items.size != items2.size) = true := by simp [hsz]
  wp_walk using wpAny_loadPart' hl, wpAny_loadPart' hb
  exact ⟨plainId_quiet plain_eq_loop _, codeAny_builtin entry_eq_loop (by
    rw [Around.under_plainId plain_eq_loop _]
    exact ne_loopIn l b items items2 n n2 dd dd2 sl sl2 hsz e _ 0 rfl A R _ ⟨hl, hb, he, by simpa using h⟩)⟩
end
section
variable {prog : Program} {w : World} {A : Around} {s : Shared}
theorem neIn_lists {E : Value → Shared → Prop} {l b : Addr} {items items2 : Array Value} {e : Nat → Bool} {Q : Value → Shared → Prop} (hl : s.heap.IsList l items) (hb : s.heap.IsList b items2) (hsz : items.size = items2.size) (hu : A.units < cLine)
    (he : ∀ j (h1 : j < items.size) (h2 : j < items2.size), EqIn prog w A.in1 s items[j] items2[j] (e j)) (h : Q (.bool (!(List.range items.size).all e)) s) : wpAny (model prog w) A (compareOp .NotEq (.ref l) (.ref b)) Q E s := by
  obtain ⟨⟨cls, dd, data, sl⟩, ho, hc, n, hd⟩ := id hl
  obtain ⟨⟨cls2, dd2, data2, sl2⟩, ho2, hc2, n2, hd2⟩ := id hb
  simp only at hc hd hc2 hd2
  subst hc hd hc2 hd2
  exact wpAny_richCompare_same_room (T := "list") (op := .NotEq) ⟨_, ho, rfl⟩ ⟨_, ho2, rfl⟩ F.slot_list_ne (call_meetsIn F.slot_list_ne ⟨_, ho, rfl⟩ F.entry_list_ne (F.args_list_ne_2 _ _) (list_neIn l b items items2 n n2 dd dd2 sl sl2 hsz e)
    ⟨ho, ho2, he, show Value.bool (!(List.range items.size).all e) ≠ Value.notImplemented ∧ Q (.bool (!(List.range items.size).all e)) s from ⟨(fun x => nomatch x), h⟩⟩) hu
end
end PySem.SeqAt
namespace Pv
open PySem PySem.Spec PyProof.Rows L2
def eqE : D → D → Option Bool
  | .dict es, .dict fs => if ((es.all fun p => SeqAt.shaped p.2) && (fs.all fun p => SeqAt.shaped p.2) && dEqB es es && dEqB fs fs) = true then some (dEqB es fs) else none
  | a, b => if (SeqAt.shaped a && SeqAt.shaped b) = true then some (PyData.eqv a b) else none
def eqEs : List D → List D → Option Bool
  | [], [] => some true
  | a :: as, b :: bs => (eqE a b).bind fun x => (eqEs as bs).bind fun y => some (x && y)
  | _, _ => none
def neL : Op2
  | .list as, .list bs => (eqEs as bs).bind fun b => some (.bool (!b), false)
  | _, _ => none
def neX : Op2 := fun d e => match neF d e with
  | some r => some r
  | none => match neF0 d e with
    | some r => some r
    | none => neL d e
theorem eqEs_get : ∀ {as bs : List D} {r : Bool}, eqEs as bs = some r → as.length = bs.length ∧ ∃ e : Nat → Bool, (∀ (j : Nat) (a b : D), as[j]? = some a → bs[j]? = some b → eqE a b = some (e j)) ∧ (List.range as.length).all e = r
  | [], [], r, h => by cases h; exact ⟨rfl, fun _ => true, fun j a b h => by simp at h, rfl⟩
  | a :: as, b :: bs, r, h => by
    simp only [eqEs, Option.bind_eq_some_iff] at h
    obtain ⟨x, h1, y, h2, h3⟩ := h
    cases h3
    obtain ⟨hl, e, he, hr⟩ := eqEs_get h2
    refine ⟨congrArg (· + 1) hl, fun j => match j with | 0 => x | j + 1 => e j, fun j a' b' ha hb => ?_, ?_⟩
    · cases j with
      | zero => simp at ha hb; subst ha hb; exact h1
      | succ j => exact he j a' b' (by simpa using ha) (by simpa using hb)
    · rw [List.length_cons, List.range_succ_eq_map, List.all_cons, List.all_map]
      show (x && (List.range as.length).all e) = _
      rw [hr]
  | [], _ :: _, r, h => by cases h
  | _ :: _, [], r, h => by cases h
section
variable {X : Cx} {pins : List (Addr × Obj)} {σ : L2.St} {H F : Hp} {s : Shared}
theorem eqE_in (hu : X.A.units + 100 < cLine) (I : Inv X pins σ H s) (l : Le F H) {a b : D} {x y : V} {v u : Value} {r : Bool} (ra : Rp X.K F x a) (rb : Rp X.K F y b) (rv : RelV x v) (ru : RelV y u) (h : eqE a b = some r) :
    SeqAt.EqIn X.prog X.w X.A.in1 s v u r := by
  unfold eqE at h
  split at h
  · rename_i es fs
    split at h
    case isFalse => cases h
    rename_i hc
    cases h
    simp only [Bool.and_eq_true] at hc
    obtain ⟨⟨⟨se, sf⟩, hr⟩, hr2⟩ := hc
    have hs : ∀ p ∈ es, SeqAt.shaped p.2 = true := fun p hp => List.all_eq_true.mp se p hp
    have hfs : ∀ p ∈ fs, SeqAt.shaped p.2 = true := fun p hp => List.all_eq_true.mp sf p hp
    cases ra with
    | exc s1 n1 => simp [dEqB, dhit, keyOf] at hr
    | exl s1 n1 m1 q1 => simp [dEqB, dhit, keyOf] at hr
    | @dic c ks _ hrd rk =>
    have hrd := l.rd hrd
    cases rb with
    | exc s1 n1 => simp [dEqB, dhit, keyOf] at hr2
    | exl s1 n1 m1 q1 => simp [dEqB, dhit, keyOf] at hr2
    | @dic c' ls _ hrd' rl =>
    have hrd' := l.rd hrd'
    cases (show v = Value.ref c from rv)
    cases (show u = Value.ref c' from ru)
    obtain ⟨_, ya, va, ra, da⟩ := dk_rd I.hok hrd
    obtain ⟨_, yb, vb, rb, db⟩ := dk_rd I.hok hrd'
    by_cases hcc : c = c'
    · subst hcc
      cases rd_same hrd hrd'
      have : es = fs := rpD_uniq I ra (rk.mono l) (rl.mono l) hs hfs
      subst this
      rw [hr]
      exact SeqAt.eqP_same
    · refine SeqAt.eqP_refs hcc fun E Q hq => ?_
      refine PySem.W.rcP_dicts (knd := mixKind X.prog X.w) (r := _) ya yb da db (by show X.A.units + 1 < cLine; omega) (fun _ => hits_data I (A := X.A.in1.in1) (by show X.A.units + 1 + 1 + 64 < cLine; omega) rb (rl.mono l) hfs ra (rk.mono l) hs) E Q ?_
      have ev : va.length = _ := (ra.length.symm.trans rk.length)
      have ew : vb.length = _ := (rb.length.symm.trans rl.length)
      rw [ev, ew]
      exact hq
  · split at h
    case isFalse => cases h
    rename_i hc
    cases h
    rw [Bool.and_eq_true] at hc
    obtain ⟨as, q1⟩ := Dp.reads I a x v ((ra.mono l).dp (plain_canLay _ (SeqAt.canLay_of_shaped hc.1))) rv
    obtain ⟨bs, q2⟩ := Dp.reads I b y u ((rb.mono l).dp (plain_canLay _ (SeqAt.canLay_of_shaped hc.2))) ru
    exact (eqAt_shaped q1 q2 hc.1 hc.2 (by show X.A.units + 1 + 64 < cLine; omega)).inModel _ _
end
section
variable {X : Cx}
theorem or_neL (hu : X.A.units + 100 < cLine) : OpR X (compareOp .NotEq) (rS X.K neL) := by
  intro pins s σ H x y v u Q I rx ry h
  obtain ⟨F, d, e, zb, l, hd, he, hz, q⟩ := h
  unfold neL at hz
  split at hz
  case h_2 => cases hz
  rename_i as bs
  simp only [Option.bind_eq_some_iff] at hz
  obtain ⟨r, h1, h2⟩ := hz
  cases h2
  obtain ⟨hl, f, hf, hr⟩ := eqEs_get h1
  obtain ⟨a, xs, rfl, ha, ra⟩ := hd.list l
  obtain ⟨b, ys, rfl, hb, rb⟩ := he.list l
  cases (show v = Value.ref a from rx)
  cases (show u = Value.ref b from ry)
  obtain ⟨is1, rv1, ⟨o1, n1, e1, c1, _, d1⟩, _⟩ := I.list (.inl (.inl ha))
  obtain ⟨is2, rv2, ⟨o2, n2, e2, c2, _, d2⟩, _⟩ := I.list (.inl (.inl hb))
  have l1 : is1.length = as.length := rv1.length.symm.trans ra.length
  have l2 : is2.length = bs.length := rv2.length.symm.trans rb.length
  refine SeqAt.neIn_lists (e := f) ⟨o1, e1, c1, n1, d1⟩ ⟨o2, e2, c2, n2, d2⟩ (by simpa [l1, l2] using hl) (by omega) (fun j h1 h2 => ?_) ?_
  · have j1 : j < is1.length := by simpa using h1
    have j2 : j < is2.length := by simpa using h2
    have k1 : j < as.length := by omega
    have k2 : j < bs.length := by omega
    obtain ⟨x0, hx0, rp0⟩ := ra.get j _ (List.getElem?_eq_getElem k1)
    obtain ⟨y0, hy0, rp1⟩ := rb.get j _ (List.getElem?_eq_getElem k2)
    obtain ⟨u1, hu1, ru1⟩ := rv1.get hx0
    obtain ⟨u2, hu2, ru2⟩ := rv2.get hy0
    rw [List.getElem?_eq_getElem j1] at hu1
    rw [List.getElem?_eq_getElem j2] at hu2
    cases hu1
    cases hu2
    have := eqE_in hu I l rp0 rp1 ru1 ru2 (hf j _ _ (List.getElem?_eq_getElem k1) (List.getElem?_eq_getElem k2))
    simpa using this
  · have : (List.range is1.toArray.size).all f = r := by rw [← hr, ← l1]; simp
    rw [this]
    exact ⟨.bl _, H, I, rfl, q.old l (.bl _)⟩
theorem or_neX (hu : X.A.units + 100 < cLine) : OpR X (compareOp .NotEq) (rS X.K neX) := by
  intro pins s σ H x y v u Q I rx ry h
  obtain ⟨F, d, e, zb, l, hd, he, hz, q⟩ := h
  unfold neX at hz
  split at hz
  · rename_i r hr
    cases hz
    exact or_neH hu pins s σ H x y v u Q I rx ry ⟨F, d, e, zb, l, hd, he, hr, q⟩
  · split at hz
    · rename_i r hr
      cases hz
      exact or_ne0 hu pins s σ H x y v u Q I rx ry ⟨F, d, e, zb, l, hd, he, hr, q⟩
    · exact or_neL hu pins s σ H x y v u Q I rx ry ⟨F, d, e, zb, l, hd, he, hz, q⟩
end
end Pv
end
section
set_option Elab.async false
set_option linter.all false
set_option autoImplicit false
set_option maxRecDepth 100000
set_option maxHeartbeats 2000000
namespace Pv
open PySem PySem.Spec PyProof.Rows L2 PySem.W Pv.Si
def lookS : List (Str × Bool) → Str → Option Bool
  | [], _ => none
  | (y, b) :: r, x => if eqS y x = true then some b else lookS r x
theorem lookS_mem {l : List (Str × Bool)} {x : Str} {b : Bool} (h : lookS l x = some b) : (x, b) ∈ l := by
  induction l with
  | nil => cases h
  | cons p r ih =>
    obtain ⟨y, c⟩ := p
    unfold lookS at h
    split at h
    · rename_i e
      cases h
      rw [eqS_dec] at e
      rw [of_decide_eq_true e]
      exact List.mem_cons_self
    · exact List.mem_cons_of_mem _ (ih h)
def isL2 (l : List (Str × Bool)) : D → Option Bool
  | .dict [(.list [], .str x)] => lookS l x
  | .dict [(.list [], .str x), (.list [.str _], _)] => lookS l x
  | _ => none
def sIsY (l : List (Str × Bool)) (f : SemE) : SemE := fun ρ => (f ρ).bind fun (r, ρ1) => match r with
  | .val d => (isL2 l d).bind fun b => some (.val (.bool b), ρ1)
  | _ => none
def ExAt (H : Hp) (a C : Addr) : Prop := H a = some (ExV C a) ∨ ∃ (dx : Addr) (fs : List (Str × V)), H a = some (exo a C (some dx)) ∧ H dx = some (exd dx fs)
def rIsY (K : Fr') : List V → Hp → VK → Prop := fun xs H Q => ∃ (a C : Addr) (c : V) (cv : Value) (b : Bool), xs = [.ref a, c] ∧ (∀ u, RelV c u → u = cv) ∧ ExAt H a C ∧ ExcC K C ∧ PySem.W.kitOne K (.ref C) cv = some b ∧ Q (.bl b) H
section
variable {X : Cx}
theorem call_isY : CallR X (.builtin "isinstance") (rIsY X.K) := by
  intro pins s σ H xs us Q I r h
  obtain ⟨a, D, c, cv, b, rfl, hcv, ha, C, e, q⟩ := h
  obtain ⟨u1, u2, rfl, r1, r2⟩ := vals2 r
  cases (show u1 = Value.ref a from r1)
  have ec := hcv _ r2
  subst ec
  have J : ∃ oe od, PySem.W.InstAt s.heap a oe D od := by
    rcases ha with ha | ⟨dx, fs, ea, ed⟩
    · have t : ObjOk X.prog X.w H s.heap a (ExV D a) := I.hok a _ ha
      obtain ⟨⟨oe, vs, h1, ⟨h2, h3⟩, h4⟩, _⟩ := t
      exact ⟨oe, none, h1, h2, by unfold PySem.W.notCls; rw [h4] <;> rfl, by rw [h3]; trivial⟩
    · obtain ⟨t1, ho⟩ := exo_at I.hok ea
      obtain ⟨mA, hns, hr⟩ := exd_at I.hok ed
      obtain ⟨od, hod, hl⟩ := lookIn_ns hns
      exact ⟨_, some od, ho, rfl, rfl, hod⟩
  obtain ⟨oe, od, J⟩ := J
  refine PySem.W.kia_one (PySem.W.kitx_exc (ox := oe) (od := od) (by obtain ⟨cd, hc, _⟩ := any_some C.hd; rw [hc]; rfl) C.hg C.hk C.hs C.ha C.hn C.ht C.hm) I.kIn J e (fun z => nomatch z) fun tk => ⟨.bl b, H, I.tok tk, rfl, q⟩
theorem isY_ok {K : Fr'} {f : SemE} {l : List (Str × Bool)} {c : V} {cv : Value} {σ : L2.St} {H : Hp} {Q : VK} (hcv : ∀ u, RelV c u → u = cv) (il : IsL K cv l) (q : tD K (sIsY l f) σ H Q) :
    tD K f σ H fun v H1 => rIsY K [v, c] H1 Q := by
  obtain ⟨P, W, F, ρ, r, ρ', R, ev, q⟩ := q
  simp only [sIsY, Option.bind_eq_some_iff, Prod.exists] at ev
  obtain ⟨r1, ρ1, e1, e2⟩ := ev
  refine ⟨P, W, F, ρ, r1, ρ1, R, e1, fun v H1 F1 x1 R1 o1 => ?_⟩
  cases r1 with
  | fr d => cases e2
  | «at» k => cases e2
  | val d =>
    simp only [Option.bind_eq_some_iff] at e2
    obtain ⟨b, e3, e4⟩ := e2
    cases e4
    unfold isL2 at e3
    split at e3
    case h_3 => cases e3
    · rename_i x
      have o2 : Rp K F1 v (.dict [(.list [], .str x)]) := o1
      obtain ⟨C, h1, h2, h3⟩ := il _ (lookS_mem e3)
      cases o2 with
      | dic s r =>
        have := r.noX
        cases this
      | @exc a C' x' s n =>
        rw [h1] at n
        cases n
        exact ⟨a, C, c, cv, b, rfl, hcv, .inl (R1.fh.ext s), h2, h3, q _ H1 F1 x1 R1 (.bl _)⟩
    · rename_i x g d'
      have o2 : Rp K F1 v (.dict [(.list [], .str x), (.list [.str g], d')]) := o1
      obtain ⟨C, h1, h2, h3⟩ := il _ (lookS_mem e3)
      cases o2 with
      | dic s r =>
        have := r.noX
        cases this
      | @exl a C' dx x' f' v' d'' s t n r =>
        rw [h1] at n
        cases n
        exact ⟨a, C, c, cv, b, rfl, hcv, .inr ⟨dx, _, R1.fh.ext s, R1.fh.ext t⟩, h2, h3, q _ H1 F1 x1 R1 (.bl _)⟩
theorem de_isY {e : Expr} {T : Str} {f : SemE} {p p2 pos : Pos} {l : List (Str × Bool)} (hg : Gl X "isinstance") (hm : X.mg "isinstance" = none) (hg2 : Gl X T) (il : ∃ c, X.mg T = some (.ref c) ∧ IsL X.K (.ref c) l) (he : DE X e f)
    (hs : starEach [e, .Name T p2] X.env = (false, eval e X.env) :: starEach [.Name T p2] X.env := by rfl) (hpl : (backTo pos (starEach [.Name T p2] X.env)).any (·.1) = false := by rfl) (hd : (T == ("__debug__" : Str)) = false := by decide)
    (hs2 : starEach [.Name T p2] X.env = (false, eval (.Name T p2) X.env) :: starEach [] X.env := by rfl) :
    DE X (.Call (.Name "isinstance" p) [e, .Name T p2] [] pos) (sIsY l f) := by
  obtain ⟨c, hc, il⟩ := il
  exact ⟨(pe_callB (pos := pos) (p := p) call_isY hg hm rfl (pa_cons he.pe (pa_cons (pe_glob (v := .ref c) hg2 hc rfl hd) pa_nil hs2) hs) (by decide) (by decide) hs hpl).pvi fun σ H Q q => isY_ok (fun u r => r) il q⟩
theorem de_isYB {e : Expr} {T : Str} {U : String} {f : SemE} {p p2 pos : Pos} {l : List (Str × Bool)} (hg : Gl X "isinstance") (hm : X.mg "isinstance" = none) (hg2 : Gl X T) (hm2 : X.mg T = none) (hb : bootBuiltins T = some (.type U)) (il : IsL X.K (.type U) l) (he : DE X e f)
    (hs : starEach [e, .Name T p2] X.env = (false, eval e X.env) :: starEach [.Name T p2] X.env := by rfl) (hpl : (backTo pos (starEach [.Name T p2] X.env)).any (·.1) = false := by rfl) (hn : T ≠ "__name__" := by decide) (hd : (T == ("__debug__" : Str)) = false := by decide)
    (hs2 : starEach [.Name T p2] X.env = (false, eval (.Name T p2) X.env) :: starEach [] X.env := by rfl) :
    DE X (.Call (.Name "isinstance" p) [e, .Name T p2] [] pos) (sIsY l f) :=
  ⟨(pe_callB (pos := pos) (p := p) call_isY hg hm rfl (pa_cons he.pe (pa_cons (pe_bltn (v := .ty U) hg2 hm2 hb rfl hn hd) pa_nil hs2) hs) (by decide) (by decide) hs hpl).pvi fun σ H Q q => isY_ok (fun u r => r) il q⟩
end
end Pv
end
section
set_option Elab.async false
set_option linter.all false
set_option autoImplicit false
set_option maxRecDepth 100000
set_option maxHeartbeats 2000000
namespace Pv
open PySem PySem.Spec PyProof.Rows L2 PySem.W Pv.Si
section
variable {X : Cx}
theorem de_exlk {C f0 : Addr} {x fld sf ag : Str} {fd : FuncData} {k : Nat} {e : Expr} {f : SemE} {p pos kpos : Pos}
    (T : OexC X.K C) (S : SiF X.prog X.K C f0 fld sf ag fd) (iC : findIn X.K (.ref C) "__init__" = some (some (.ref f0))) (tI : typeIn X.K (.ref f0) = some (.type "function")) (hm : X.mg "super" = none) (hr : Room (k + 1) X.A)
    (hb : ∀ (s' : Shared) (z : Addr) (u : Value), X.K.In s'.heap → BindsTo s' fd ⟨[.ref z], [(ag, u)]⟩ [(sf, .ref z), (ag, u)]) (gC : X.mg x = some (.ref C)) (hg : Gl X x) (hns : PySem.W.nsIn X.K mainGlobals x = some (some (.ref C))) (he : DE X e f)
    (hall : (backToKw pos (keywordEach [⟨some ag, e, kpos⟩] X.env)).all (·.1.isSome) = true := by rfl) (hks : (backToKw pos (keywordEach [⟨some ag, e, kpos⟩] X.env)).filterMap (·.1) = [ag] := by rfl)
    (hpl : ((backTo pos (starEach [] X.env)).any (·.1) || (backToKw pos (keywordEach [⟨some ag, e, kpos⟩] X.env)).any (·.1.isNone)) = false := by rfl) (hdb : (x == ("__debug__" : Str)) = false := by decide) :
    DE X (.Call (.Name x p) [] [⟨some ag, e, kpos⟩] pos) (sExl1 x fld f) :=
  ⟨(pe_exlk T S iC tI hm hr hb gC hg (pk_cons he.pe pk_nil) hall hks hpl hdb).pvi fun σ H Q h => by
    obtain ⟨P, W, F, ρ, r, ρ', R, ev, h⟩ := h
    simp only [sExl1, Option.bind_eq_some_iff, Prod.exists] at ev
    obtain ⟨r1, ρ1, e1, d, ρ2, e2, e3⟩ := ev
    cases e3
    refine ⟨P, W, F, ρ, r1, _, R, e1, fun v H1 F1 x1 R1 o1 => ⟨v, rfl, fun a dx ha hd hne => ?_⟩⟩
    obtain ⟨F2, x2, R2, rp⟩ := R1.frz o1 e2
    obtain ⟨F3, x3, R3, rp3⟩ := rel_exl (x := x) (fl := fld) R2 rp ha hd hne hns
    exact h _ _ _ ((x1.trans x2).trans x3) R3 rp3⟩
end
structure SiB (K : Fr') (fd : FuncData) (sf ag : Str) : Prop where
  b1 : Binds K fd [sf, ag] []
  b0 : Binds K fd [sf, ag] [.none]
  bk : ∀ (s' : Shared) (z : Addr) (u : Value), K.In s'.heap → BindsTo s' fd ⟨[.ref z], [(ag, u)]⟩ [(sf, .ref z), (ag, u)]
theorem siB_lock {K : Fr'} {fd : FuncData} {name qual : Str} {body : List Stmt} {scope : Scope} {T cc : Addr} {kV doc pm cdv ct cT : Value} {an oT : Option Addr} {p0 p1 : Pos} {dfs : List Expr} {nT : Nat} {sT : Array (Option Value)}
    (hfd : fd = ksFn name qual ⟨[], [⟨"self", none, p0⟩, ⟨"lock", none, p1⟩], none, [], [], none, dfs⟩ body scope (.ref T) kV doc pm an cdv ct cc) (lT : K.lookup T = some ⟨cT, oT, .seq #[.none] nT, sT⟩) : SiB K fd "self" "lock" := by
  subst hfd
  refine ⟨fun s us X hl => ?_, fun s us X hl => ?_, fun s z u X => ?_⟩
  · obtain ⟨a, b, rfl⟩ : ∃ a b, us = [a, b] := by
      match us with
      | [] => simp at hl
      | [_] => simp at hl
      | [a, b] => exact ⟨a, b, rfl⟩
      | _ :: _ :: _ :: _ => simp at hl
    exact L2.BindsTo.of_looks fun M => looks_items (k := fun its => _) X lT rfl (.of_pure (by rfl))
  · obtain ⟨a, rfl⟩ : ∃ a, us = [a] := by
      match us with
      | [] => simp at hl
      | [a] => exact ⟨a, rfl⟩
      | _ :: _ :: _ => simp at hl
    exact L2.BindsTo.of_looks fun M => looks_items (k := fun its => _) X lT rfl (.of_pure (by rfl))
  · exact L2.BindsTo.of_looks fun M => looks_items (k := fun its => _) X lT rfl (.of_pure (by rfl))
end Pv
end
section
set_option Elab.async false
set_option linter.all false
set_option autoImplicit false
set_option maxRecDepth 100000
set_option maxHeartbeats 2000000
namespace Pv
open PySem PySem.Spec PyProof.Rows L2 PySem.W Pv.Si
def sShr (i j : Nat) (c fl : Str) (f : SemE) : SemS := fun ρ => (f ρ).bind fun (r, ρ1) => (frz ρ1 r).bind fun (d, ρ2) => if slotOk ρ2 i = true then (store j (.val (exlD c fl (.list [d, .none]))) (ρ2.set i none)).bind fun ρ3 => some (.nx ρ3) else none
theorem upd_upd {H : Hp} {a : Addr} {o u : HO} : upd (upd H a o) a u = upd H a u := by
  funext b
  by_cases h : b = a
  · subst h; rw [upd_same, upd_same]
  · rw [upd_ne h, upd_ne h, upd_ne h]
theorem upd_comm {H : Hp} {a b : Addr} {o u : HO} (h : a ≠ b) : upd (upd H a o) b u = upd (upd H b u) a o := by
  funext c
  by_cases ha : c = a
  · subst ha; rw [upd_ne h, upd_same, upd_same]
  · by_cases hb : c = b
    · subst hb; rw [upd_same, upd_ne ha, upd_same]
    · rw [upd_ne hb, upd_ne ha, upd_ne ha, upd_ne hb]
section
variable {X : Cx}
theorem dss_shr {C f0 : Addr} {c fld sf ag x y : Str} {fd : FuncData} {k i j : Nat} {e : Expr} {f : SemE} {g : SemS} {rest : List Stmt} {p1 p2 p3 p4 p5 p6 p7 p8 p9 pa pb pc pd : Pos} {kd : Nat}
    (T : OexC X.K C) (S : SiF X.prog X.K C f0 fld sf ag fd) (iC : findIn X.K (.ref C) "__init__" = some (some (.ref f0))) (tI : typeIn X.K (.ref f0) = some (.type "function")) (hm : X.mg "super" = none) (hr : Room (k + 1) X.A)
    (hb : Binds X.K fd [sf, ag] []) (gC : X.mg c = some (.ref C)) (hg : Gl X c) (hns : PySem.W.nsIn X.K mainGlobals c = some (some (.ref C)))
    (hN : X.N.Nodup) (hi : X.N[i]? = some x) (hx : Loc X.env.scope x) (hj : X.N[j]? = some y) (hy : Loc X.env.scope y) (hv : PE X (.Name x p6) (tVar i)) (hv2 : PE X (.Name x pa) (tVar i)) (hij : i ≠ j) (he : DE X e f) (hk : DSs X rest g)
    (hs1 : starEach [e] X.env = (false, eval e X.env) :: starEach [] X.env := by rfl)
    (hw1 : swapsWith (.List [e] p2) (some (.Name x p1)) p3.line X.env = pure false := by rfl) (hf1 : X.fn x = true ∨ X.env.scope.names.lookup x = some .local := by first | exact .inl rfl | exact .inr rfl | assumption)
    (hs2 : starEach [.Name x p6] X.env = (false, eval (.Name x p6) X.env) :: starEach [] X.env := by rfl)
    (hw2 : swapsWith (.Call (.Name c p5) [.Name x p6] [] p7) (some (.Name y p4)) p8.line X.env = pure false := by rfl) (hf2 : X.fn y = true ∨ X.env.scope.names.lookup y = some .local := by first | exact .inl rfl | exact .inr rfl | assumption)
    (hbase : attributeBase (.Name x pa) "append" X.env (eval (.Name x pa) X.env) = eval (.Name x pa) X.env := by rfl)
    (hfew : ((backTo pd (starEach [.Constant .none kd pc] X.env)).all (fun x => !x.1) && (backToKw pd (keywordEach [] X.env)).all (fun x => x.1.isSome)
      && decide (([Expr.Constant .none kd pc] : List Expr).length + ([] : List Keyword).length + (if ([] : List Keyword).isEmpty then 0 else 1) < 30)) = true := by rfl)
    (hline : (pb.endLine == pd.line) = true := by rfl) (hs3 : starEach [.Constant .none kd pc] X.env = (false, eval (.Constant .none kd pc) X.env) :: starEach [] X.env := by rfl) (hpl : (backTo pd (starEach [] X.env)).any (·.1) = false := by rfl)
    (hw3 : swapsWith (.Call (.Attribute (.Name x pa) "append" pb) [.Constant .none kd pc] [] pd) none p9.line X.env = pure false := by rfl)
    (hdb : (c == ("__debug__" : Str)) = false := by decide) :
    DSs X (.Assign [.Name x p1] (.List [e] p2) p3 :: .Assign [.Name y p4] (.Call (.Name c p5) [.Name x p6] [] p7) p8 :: .Expr (.Call (.Attribute (.Name x pa) "append" pb) [.Constant .none kd pc] [] pd) p9 :: rest) (sSeq (sShr i j c fld f) g) := by
  have A1 := ps_set (pos := p3) (pos' := p1) hN hi hx (pe_lst (pos := p2) (pa_cons he.pe pa_nil hs1)) hw1 hf1
  have A2 := ps_set (pos := p8) (pos' := p4) hN hj hy (pe_exl1 (p := p5) (pos := p7) T S iC tI hm hr hb gC hg hv hs2 hdb) hw2 hf2
  have A3 := ps_expr (pos := p9) (pe_bm (apos := pb) (cpos := pd) PySem.F.plainAttrs_list PySem.F.slot_list_append PySem.F.type_list_append mt_append hv2 (pa_cons (pe_non (j := kd) (pos := pc)) pa_nil hs3) hbase hfew hline hs3 hpl) hw3
  refine ⟨(pss_cons A1 (pss_cons A2 (pss_cons A3 hk.ps))).pvi fun D σ H q => ?_⟩
  obtain ⟨P, W, F, ρ, o, R, ev, q⟩ := q
  simp only [sSeq, sShr, Option.bind_eq_some_iff, Prod.exists] at ev
  obtain ⟨o1, ⟨r, ρ1, e1, d, ρ2, e2, e3⟩, e4⟩ := ev
  split at e3
  case isFalse => cases e3
  rename_i hsi
  simp only [Option.bind_eq_some_iff] at e3
  obtain ⟨ρ3, e5, e6⟩ := e3
  cases e6
  refine ⟨P, W, F, ρ, r, ρ1, R, e1, fun v H1 F1 x1 R1 o1 => ?_⟩
  obtain ⟨F2, x2, R2, rp⟩ := R1.frz o1 e2
  refine ⟨by show 1 ≤ sizeLine; rw [sizeLine_eq]; omega, fun pp hp => ?_⟩
  have hil : i < σ.length := by rw [R1.len]; have := slot_lt hsi; rw [frz_len e2] at this; exact this
  refine ⟨.ref pp, by rw [List.getElem?_set_self hil], fun a dx ha hd hne => ?_⟩
  have pa' : a ≠ pp := fun z => by rw [z, upd_same] at ha; cases ha
  have pd' : dx ≠ pp := fun z => by rw [z, upd_same] at hd; cases hd
  have hH : (upd (upd (upd H1 pp (.lst [v])) dx (exd dx [(fld, .ref pp)])) a (exo a C (some dx))) pp = some (.lst [v]) := by rw [upd_ne (fun z => pa' z.symm), upd_ne (fun z => pd' z.symm), upd_same]
  refine ⟨.ref pp, by rw [List.getElem?_set_ne (fun z => hij z.symm), List.getElem?_set_self hil], .inl ⟨rfl, [v], .inl (.inl hH)⟩, pp, [v], .non, rfl, rfl, hH, (by show 1 < sizeLine; rw [sizeLine_eq]; omega), ?_⟩
  have eH : upd (upd (upd (upd H1 pp (.lst [v])) dx (exd dx [(fld, .ref pp)])) a (exo a C (some dx))) pp (.lst ([v] ++ [.non])) = upd (upd (upd H1 pp (.lst [v, .non])) dx (exd dx [(fld, .ref pp)])) a (exo a C (some dx)) := by
    rw [upd_comm pa', upd_comm pd', upd_upd]
    rfl
  rw [eH]
  have g1 := Grow.both R2.fh hp (.lst [v, .non])
  have R3 := R2.grow g1
  have ha2 : (upd H1 pp (.lst [v, .non])) a = none := by rw [upd_ne pa']; rw [upd_ne pa'] at ha; exact ha
  have hd2 : (upd H1 pp (.lst [v, .non])) dx = none := by rw [upd_ne pd']; rw [upd_ne pd'] at hd; exact hd
  have rpl : Rp X.K (upd F2 pp (.lst [v, .non])) (.ref pp) (.list [d, .none]) := .lst upd_same (.cons (rp.mono (Le.of g1.fs)) (.cons .non .nil))
  obtain ⟨F4, x4, R4, rp4⟩ := rel_exl (x := c) (fl := fld) R3 rpl ha2 hd2 hne hns
  have R5 := R4.dropAt (slot_pin R2 hsi) (some (.ref pp))
  obtain ⟨F6, x6, R6⟩ := R5.store (r := .val (exlD c fld (.list [d, .none]))) (v := .ref a) rp4 e5
  exact ⟨P, W, F6, ρ3, o, R6, e4, q.ext ((((x1.trans x2).trans (g1.ext R2.wh)).trans x4).trans x6)⟩
end
end Pv
end
section
set_option Elab.async false
set_option linter.all false
set_option autoImplicit false
set_option maxRecDepth 100000
set_option maxHeartbeats 2000000
namespace Pv
open PySem PySem.Spec PyProof.Rows L2 PySem.W Pv.Si
structure NewF (K : Fr') (mg : Str → Option Value) (x : Str) : Prop where
  ex : ∃ C, mg x = some (.ref C) ∧ PySem.W.excIn K C [.type "ValueError", .type "Exception", .type "BaseException", .type "object"] "ValueError.__new__" = true ∧ PySem.W.keepIn K (.ref C) = true ∧ PySem.W.nsIn K mainGlobals x = some (some (.ref C))
theorem NewF.mk_ {K : Fr'} {h : Heap} {mg : Str → Option Value} {x : Str} {C : Addr} (X : K.In h) (G : h.Ns mainGlobals mg) (e1 : PySem.W.nsIn K mainGlobals x = some (some (.ref C))) (e2 : PySem.W.excIn K C [.type "ValueError", .type "Exception", .type "BaseException", .type "object"] "ValueError.__new__" = true) (e3 : PySem.W.keepIn K (.ref C) = true) : NewF K mg x :=
  ⟨C, PySem.W.mg_of X G e1, e2, e3, e1⟩
structure ExlF (P : Program) (K : Fr') (mg : Str → Option Value) (c fld sf ag : Str) : Prop where
  ex : ∃ C f0 fd, mg c = some (.ref C) ∧ PySem.W.nsIn K mainGlobals c = some (some (.ref C)) ∧ OexC K C ∧ SiF P K C f0 fld sf ag fd ∧ findIn K (.ref C) "__init__" = some (some (.ref f0)) ∧ typeIn K (.ref f0) = some (.type "function") ∧ SiB K fd sf ag ∧ XfC K C ∧ findIn K (.ref C) fld = some none
section
variable {X : Cx}
theorem de_new0F {x : Str} {p pos : Pos} (c : NewF X.K X.mg x) (hg : Gl X x) (hdb : (x == ("__debug__" : Str)) = false := by decide) : DE X (.Call (.Name x p) [] [] pos) (sNew0 x) := by
  obtain ⟨C, h1, h2, h3, h4⟩ := c.ex
  exact de_new0 PySem.F.excBase_ValueError h2 h1 h3 hg h4 hdb
theorem de_new1F {x : Str} {e : Expr} {f : SemE} {p pos : Pos} (c : NewF X.K X.mg x) (hg : Gl X x) (he : DE X e f) (hs : starEach [e] X.env = (false, eval e X.env) :: starEach [] X.env := by rfl) (hdb : (x == ("__debug__" : Str)) = false := by decide) :
    DE X (.Call (.Name x p) [e] [] pos) (sNew1 x f) := by
  obtain ⟨C, h1, h2, h3, h4⟩ := c.ex
  exact de_new1 PySem.F.excBase_ValueError h2 h1 h3 hg h4 he hs hdb
theorem de_exl1F {x fld sf ag : Str} {k : Nat} {e : Expr} {f : SemE} {p pos : Pos} (c : ExlF X.prog X.K X.mg x fld sf ag) (hm : X.mg "super" = none) (hr : Room (k + 1) X.A) (hg : Gl X x) (he : DE X e f)
    (hs : starEach [e] X.env = (false, eval e X.env) :: starEach [] X.env := by rfl) (hdb : (x == ("__debug__" : Str)) = false := by decide) : DE X (.Call (.Name x p) [e] [] pos) (sExl1 x fld f) := by
  obtain ⟨C, f0, fd, h1, h2, h3, h4, h5, h6, h7, h8, h9⟩ := c.ex
  exact de_exl1 h3 h4 h5 h6 hm hr h7.b1 h1 hg h2 he hs hdb
theorem de_exl0F {x fld sf ag : Str} {k : Nat} {p pos : Pos} (c : ExlF X.prog X.K X.mg x fld sf ag) (hm : X.mg "super" = none) (hr : Room (k + 1) X.A) (hg : Gl X x)
    (hdb : (x == ("__debug__" : Str)) = false := by decide) : DE X (.Call (.Name x p) [] [] pos) (sExl0 x fld) := by
  obtain ⟨C, f0, fd, h1, h2, h3, h4, h5, h6, h7, h8, h9⟩ := c.ex
  exact de_exl0 h3 h4 h5 h6 hm hr h7.b0 h1 hg h2 hdb
theorem de_exlkF {x fld sf ag : Str} {k : Nat} {e : Expr} {f : SemE} {p pos kpos : Pos} (c : ExlF X.prog X.K X.mg x fld sf ag) (hm : X.mg "super" = none) (hr : Room (k + 1) X.A) (hg : Gl X x) (he : DE X e f)
    (hall : (backToKw pos (keywordEach [⟨some ag, e, kpos⟩] X.env)).all (·.1.isSome) = true := by rfl) (hks : (backToKw pos (keywordEach [⟨some ag, e, kpos⟩] X.env)).filterMap (·.1) = [ag] := by rfl)
    (hpl : ((backTo pos (starEach [] X.env)).any (·.1) || (backToKw pos (keywordEach [⟨some ag, e, kpos⟩] X.env)).any (·.1.isNone)) = false := by rfl) (hdb : (x == ("__debug__" : Str)) = false := by decide) :
    DE X (.Call (.Name x p) [] [⟨some ag, e, kpos⟩] pos) (sExl1 x fld f) := by
  obtain ⟨C, f0, fd, h1, h2, h3, h4, h5, h6, h7, h8, h9⟩ := c.ex
  exact de_exlk h3 h4 h5 h6 hm hr h7.bk h1 hg h2 he hall hks hpl hdb
theorem de_exgetF {c fld sf ag : Str} {e : Expr} {f : SemE} {pos : Pos} (x : ExlF X.prog X.K X.mg c fld sf ag) (he : DE X e f) (hb : attributeBase e fld X.env (eval e X.env) = eval e X.env := by rfl) : DE X (.Attribute e fld pos) (sFld c fld f) := by
  obtain ⟨C, f0, fd, h1, h2, h3, h4, h5, h6, h7, h8, h9⟩ := x.ex
  exact de_exget h8 h9 h2 he hb
theorem dss_shrF {c fld sf ag x y : Str} {k i j : Nat} {e : Expr} {f : SemE} {g : SemS} {rest : List Stmt} {p1 p2 p3 p4 p5 p6 p7 p8 p9 pa pb pc pd : Pos} {kd : Nat}
    (z : ExlF X.prog X.K X.mg c fld sf ag) (hm : X.mg "super" = none) (hr : Room (k + 1) X.A) (hg : Gl X c)
    (hN : X.N.Nodup) (hi : X.N[i]? = some x) (hx : Loc X.env.scope x) (hj : X.N[j]? = some y) (hy : Loc X.env.scope y) (hv : PE X (.Name x p6) (tVar i)) (hv2 : PE X (.Name x pa) (tVar i)) (hij : i ≠ j) (he : DE X e f) (hk : DSs X rest g)
    (hs1 : starEach [e] X.env = (false, eval e X.env) :: starEach [] X.env := by rfl)
    (hw1 : swapsWith (.List [e] p2) (some (.Name x p1)) p3.line X.env = pure false := by rfl) (hf1 : X.fn x = true ∨ X.env.scope.names.lookup x = some .local := by first | exact .inl rfl | exact .inr rfl | assumption)
    (hs2 : starEach [.Name x p6] X.env = (false, eval (.Name x p6) X.env) :: starEach [] X.env := by rfl)
    (hw2 : swapsWith (.Call (.Name c p5) [.Name x p6] [] p7) (some (.Name y p4)) p8.line X.env = pure false := by rfl) (hf2 : X.fn y = true ∨ X.env.scope.names.lookup y = some .local := by first | exact .inl rfl | exact .inr rfl | assumption)
    (hbase : attributeBase (.Name x pa) "append" X.env (eval (.Name x pa) X.env) = eval (.Name x pa) X.env := by rfl)
    (hfew : ((backTo pd (starEach [.Constant .none kd pc] X.env)).all (fun x => !x.1) && (backToKw pd (keywordEach [] X.env)).all (fun x => x.1.isSome)
      && decide (([Expr.Constant .none kd pc] : List Expr).length + ([] : List Keyword).length + (if ([] : List Keyword).isEmpty then 0 else 1) < 30)) = true := by rfl)
    (hline : (pb.endLine == pd.line) = true := by rfl) (hs3 : starEach [.Constant .none kd pc] X.env = (false, eval (.Constant .none kd pc) X.env) :: starEach [] X.env := by rfl) (hpl : (backTo pd (starEach [] X.env)).any (·.1) = false := by rfl)
    (hw3 : swapsWith (.Call (.Attribute (.Name x pa) "append" pb) [.Constant .none kd pc] [] pd) none p9.line X.env = pure false := by rfl)
    (hdb : (c == ("__debug__" : Str)) = false := by decide) :
    DSs X (.Assign [.Name x p1] (.List [e] p2) p3 :: .Assign [.Name y p4] (.Call (.Name c p5) [.Name x p6] [] p7) p8 :: .Expr (.Call (.Attribute (.Name x pa) "append" pb) [.Constant .none kd pc] [] pd) p9 :: rest) (sSeq (sShr i j c fld f) g) := by
  obtain ⟨C, f0, fd, h1, h2, h3, h4, h5, h6, h7, h8, h9⟩ := z.ex
  exact dss_shr h3 h4 h5 h6 hm hr h7.b1 h1 hg h2 hN hi hx hj hy hv hv2 hij he hk hs1 hw1 hf1 hs2 hw2 hf2 hbase hfew hline hs3 hpl hw3 hdb
end
section
variable {K : PySem.W.Frag} {C : Addr}
theorem kitOne_bltn {U : String} {b : Bool} (m : PySem.W.kitMeta U = true) (h : PySem.W.subIn K (.ref C) (.type U) = some b) : PySem.W.kitOne K (.ref C) (.type U) = some b := by
  unfold PySem.W.kitOne
  split
  · rename_i e; cases (eq_of_beq e)
  · unfold PySem.W.kitCls
    simp only [m, if_true]
    exact h
end
def subAll (K : PySem.W.Frag) (B : Value) (l : List (Addr × Bool)) : Bool := l.all fun p => PySem.W.subIn K (.ref p.1) B == some p.2
theorem sub_at {K : PySem.W.Frag} {B : Value} {l : List (Addr × Bool)} (i : Nat) {C : Addr} {b : Bool} (s : subAll K B l = true) (h : l[i]? = some (C, b)) : PySem.W.subIn K (.ref C) B = some b :=
  eq_of_beq (List.all_eq_true.mp s _ (List.mem_of_getElem? h))
namespace Ev
section
variable (f : SemE) (ρ : Ro) (x c fl : Str) (i j : Nat) (l : List (Str × Bool))
@[scoped simp] theorem sNew0_u : sNew0 x ρ = some (.val (excD x), ρ) := rfl
@[scoped simp] theorem sNew1_u : sNew1 x f ρ = bd (f ρ) fun y => some (.val (excD x), y.2) := rfl
@[scoped simp] theorem sExl0_u : sExl0 x fl ρ = some (.val (exlD x fl .none), ρ) := rfl
@[scoped simp] theorem sExl1_u : sExl1 x fl f ρ = bd (f ρ) fun y => bd (frz y.2 y.1) fun z => some (.val (exlD x fl z.1), z.2) := rfl
def fldC (c fl : Str) (ρ : Ro) : Rv → Option (Rv × Ro)
  | .val d => bd (exF c fl d) fun y => some (.val y, ρ)
  | _ => none
@[scoped simp] theorem sFld_u : sFld c fl f ρ = bd (f ρ) fun y => fldC c fl y.2 y.1 := rfl
@[scoped simp] theorem fldC_v (d : D) : fldC c fl ρ (.val d) = bd (exF c fl d) fun y => some (.val y, ρ) := rfl
def isYC (l : List (Str × Bool)) (ρ : Ro) : Rv → Option (Rv × Ro)
  | .val d => bd (isL2 l d) fun b => some (.val (.bool b), ρ)
  | _ => none
@[scoped simp] theorem sIsY_u : sIsY l f ρ = bd (f ρ) fun x => isYC l x.2 x.1 := rfl
@[scoped simp] theorem isYC_v (d : D) : isYC l ρ (.val d) = bd (isL2 l d) fun b => some (.val (.bool b), ρ) := rfl
@[scoped simp] theorem sShr_u : sShr i j c fl f ρ = bd (f ρ) fun y => bd (frz y.2 y.1) fun z => if slotOk z.2 i = true then bd (store j (.val (exlD c fl (.list [z.1, .none]))) (z.2.set i none)) fun ρ3 => some (.nx ρ3) else none := rfl
end
end Ev
end Pv
end
section
set_option Elab.async false
set_option linter.all false
set_option maxRecDepth 100000
set_option maxHeartbeats 2000000
namespace Pv.K72
open PySem Pv Pv.Pg Pv.Lw
def isl_ArithmeticError : List (Str × Bool) := [("InvalidBody", false), ("InvalidBodies", false), ("InvalidName", false), ("InvalidNames", false), ("InvalidWay", false), ("InvalidEvents", false), ("InvalidProfile", false), ("InvalidProfiles", false), ("InvalidGroup", false), ("InvalidLocks", false), ("InvalidFrame", false), ("InvalidBook", false), ("InvalidNumber", false), ("InvalidText", false), ("TooLarge", false), ("Ended", false), ("NothingToUndo", false), ("Blocked", false), ("HoldError", false)]
def isl_AttributeError : List (Str × Bool) := [("InvalidBody", false), ("InvalidBodies", false), ("InvalidName", false), ("InvalidNames", false), ("InvalidWay", false), ("InvalidEvents", false), ("InvalidProfile", false), ("InvalidProfiles", false), ("InvalidGroup", false), ("InvalidLocks", false), ("InvalidFrame", false), ("InvalidBook", false), ("InvalidNumber", false), ("InvalidText", false), ("TooLarge", false), ("Ended", false), ("NothingToUndo", false), ("Blocked", false), ("HoldError", false)]
def isl_Blocked : List (Str × Bool) := [("InvalidBody", false), ("InvalidBodies", false), ("InvalidName", false), ("InvalidNames", false), ("InvalidWay", false), ("InvalidEvents", false), ("InvalidProfile", false), ("InvalidProfiles", false), ("InvalidGroup", false), ("InvalidLocks", false), ("InvalidFrame", false), ("InvalidBook", false), ("InvalidNumber", false), ("InvalidText", false), ("TooLarge", false), ("Ended", false), ("NothingToUndo", false), ("Blocked", true), ("HoldError", false)]
def isl_Ended : List (Str × Bool) := [("InvalidBody", false), ("InvalidBodies", false), ("InvalidName", false), ("InvalidNames", false), ("InvalidWay", false), ("InvalidEvents", false), ("InvalidProfile", false), ("InvalidProfiles", false), ("InvalidGroup", false), ("InvalidLocks", false), ("InvalidFrame", false), ("InvalidBook", false), ("InvalidNumber", false), ("InvalidText", false), ("TooLarge", false), ("Ended", true), ("NothingToUndo", false), ("Blocked", false), ("HoldError", false)]
def isl_HoldError : List (Str × Bool) := [("InvalidBody", true), ("InvalidBodies", true), ("InvalidName", true), ("InvalidNames", true), ("InvalidWay", true), ("InvalidEvents", true), ("InvalidProfile", true), ("InvalidProfiles", true), ("InvalidGroup", true), ("InvalidLocks", true), ("InvalidFrame", true), ("InvalidBook", true), ("InvalidNumber", true), ("InvalidText", true), ("TooLarge", true), ("Ended", true), ("NothingToUndo", true), ("Blocked", true), ("HoldError", true)]
def isl_InvalidBodies : List (Str × Bool) := [("InvalidBody", false), ("InvalidBodies", true), ("InvalidName", false), ("InvalidNames", false), ("InvalidWay", false), ("InvalidEvents", false), ("InvalidProfile", false), ("InvalidProfiles", false), ("InvalidGroup", false), ("InvalidLocks", false), ("InvalidFrame", false), ("InvalidBook", false), ("InvalidNumber", false), ("InvalidText", false), ("TooLarge", false), ("Ended", false), ("NothingToUndo", false), ("Blocked", false), ("HoldError", false)]
def isl_InvalidBody : List (Str × Bool) := [("InvalidBody", true), ("InvalidBodies", false), ("InvalidName", false), ("InvalidNames", false), ("InvalidWay", false), ("InvalidEvents", false), ("InvalidProfile", false), ("InvalidProfiles", false), ("InvalidGroup", false), ("InvalidLocks", false), ("InvalidFrame", false), ("InvalidBook", false), ("InvalidNumber", false), ("InvalidText", false), ("TooLarge", false), ("Ended", false), ("NothingToUndo", false), ("Blocked", false), ("HoldError", false)]
def isl_InvalidBook : List (Str × Bool) := [("InvalidBody", false), ("InvalidBodies", false), ("InvalidName", false), ("InvalidNames", false), ("InvalidWay", false), ("InvalidEvents", false), ("InvalidProfile", false), ("InvalidProfiles", false), ("InvalidGroup", false), ("InvalidLocks", false), ("InvalidFrame", false), ("InvalidBook", true), ("InvalidNumber", false), ("InvalidText", false), ("TooLarge", false), ("Ended", false), ("NothingToUndo", false), ("Blocked", false), ("HoldError", false)]
def isl_InvalidEvents : List (Str × Bool) := [("InvalidBody", false), ("InvalidBodies", false), ("InvalidName", false), ("InvalidNames", false), ("InvalidWay", false), ("InvalidEvents", true), ("InvalidProfile", false), ("InvalidProfiles", false), ("InvalidGroup", false), ("InvalidLocks", false), ("InvalidFrame", false), ("InvalidBook", false), ("InvalidNumber", false), ("InvalidText", false), ("TooLarge", false), ("Ended", false), ("NothingToUndo", false), ("Blocked", false), ("HoldError", false)]
def isl_InvalidFrame : List (Str × Bool) := [("InvalidBody", false), ("InvalidBodies", false), ("InvalidName", false), ("InvalidNames", false), ("InvalidWay", false), ("InvalidEvents", false), ("InvalidProfile", false), ("InvalidProfiles", false), ("InvalidGroup", false), ("InvalidLocks", false), ("InvalidFrame", true), ("InvalidBook", false), ("InvalidNumber", false), ("InvalidText", false), ("TooLarge", false), ("Ended", false), ("NothingToUndo", false), ("Blocked", false), ("HoldError", false)]
def isl_InvalidGroup : List (Str × Bool) := [("InvalidBody", false), ("InvalidBodies", false), ("InvalidName", false), ("InvalidNames", false), ("InvalidWay", false), ("InvalidEvents", false), ("InvalidProfile", false), ("InvalidProfiles", false), ("InvalidGroup", true), ("InvalidLocks", false), ("InvalidFrame", false), ("InvalidBook", false), ("InvalidNumber", false), ("InvalidText", false), ("TooLarge", false), ("Ended", false), ("NothingToUndo", false), ("Blocked", false), ("HoldError", false)]
def isl_InvalidLocks : List (Str × Bool) := [("InvalidBody", false), ("InvalidBodies", false), ("InvalidName", false), ("InvalidNames", false), ("InvalidWay", false), ("InvalidEvents", false), ("InvalidProfile", false), ("InvalidProfiles", false), ("InvalidGroup", false), ("InvalidLocks", true), ("InvalidFrame", false), ("InvalidBook", false), ("InvalidNumber", false), ("InvalidText", false), ("TooLarge", false), ("Ended", false), ("NothingToUndo", false), ("Blocked", false), ("HoldError", false)]
def isl_InvalidName : List (Str × Bool) := [("InvalidBody", false), ("InvalidBodies", false), ("InvalidName", true), ("InvalidNames", false), ("InvalidWay", false), ("InvalidEvents", false), ("InvalidProfile", false), ("InvalidProfiles", false), ("InvalidGroup", false), ("InvalidLocks", false), ("InvalidFrame", false), ("InvalidBook", false), ("InvalidNumber", false), ("InvalidText", false), ("TooLarge", false), ("Ended", false), ("NothingToUndo", false), ("Blocked", false), ("HoldError", false)]
def isl_InvalidNames : List (Str × Bool) := [("InvalidBody", false), ("InvalidBodies", false), ("InvalidName", false), ("InvalidNames", true), ("InvalidWay", false), ("InvalidEvents", false), ("InvalidProfile", false), ("InvalidProfiles", false), ("InvalidGroup", false), ("InvalidLocks", false), ("InvalidFrame", false), ("InvalidBook", false), ("InvalidNumber", false), ("InvalidText", false), ("TooLarge", false), ("Ended", false), ("NothingToUndo", false), ("Blocked", false), ("HoldError", false)]
def isl_InvalidNumber : List (Str × Bool) := [("InvalidBody", false), ("InvalidBodies", false), ("InvalidName", false), ("InvalidNames", false), ("InvalidWay", false), ("InvalidEvents", false), ("InvalidProfile", false), ("InvalidProfiles", false), ("InvalidGroup", false), ("InvalidLocks", false), ("InvalidFrame", false), ("InvalidBook", false), ("InvalidNumber", true), ("InvalidText", false), ("TooLarge", false), ("Ended", false), ("NothingToUndo", false), ("Blocked", false), ("HoldError", false)]
def isl_InvalidProfile : List (Str × Bool) := [("InvalidBody", false), ("InvalidBodies", false), ("InvalidName", false), ("InvalidNames", false), ("InvalidWay", false), ("InvalidEvents", false), ("InvalidProfile", true), ("InvalidProfiles", false), ("InvalidGroup", false), ("InvalidLocks", false), ("InvalidFrame", false), ("InvalidBook", false), ("InvalidNumber", false), ("InvalidText", false), ("TooLarge", false), ("Ended", false), ("NothingToUndo", false), ("Blocked", false), ("HoldError", false)]
def isl_InvalidProfiles : List (Str × Bool) := [("InvalidBody", false), ("InvalidBodies", false), ("InvalidName", false), ("InvalidNames", false), ("InvalidWay", false), ("InvalidEvents", false), ("InvalidProfile", false), ("InvalidProfiles", true), ("InvalidGroup", false), ("InvalidLocks", false), ("InvalidFrame", false), ("InvalidBook", false), ("InvalidNumber", false), ("InvalidText", false), ("TooLarge", false), ("Ended", false), ("NothingToUndo", false), ("Blocked", false), ("HoldError", false)]
def isl_InvalidText : List (Str × Bool) := [("InvalidBody", false), ("InvalidBodies", false), ("InvalidName", false), ("InvalidNames", false), ("InvalidWay", false), ("InvalidEvents", false), ("InvalidProfile", false), ("InvalidProfiles", false), ("InvalidGroup", false), ("InvalidLocks", false), ("InvalidFrame", false), ("InvalidBook", false), ("InvalidNumber", false), ("InvalidText", true), ("TooLarge", false), ("Ended", false), ("NothingToUndo", false), ("Blocked", false), ("HoldError", false)]
def isl_InvalidWay : List (Str × Bool) := [("InvalidBody", false), ("InvalidBodies", false), ("InvalidName", false), ("InvalidNames", false), ("InvalidWay", true), ("InvalidEvents", false), ("InvalidProfile", false), ("InvalidProfiles", false), ("InvalidGroup", false), ("InvalidLocks", false), ("InvalidFrame", false), ("InvalidBook", false), ("InvalidNumber", false), ("InvalidText", false), ("TooLarge", false), ("Ended", false), ("NothingToUndo", false), ("Blocked", false), ("HoldError", false)]
def isl_LookupError : List (Str × Bool) := [("InvalidBody", false), ("InvalidBodies", false), ("InvalidName", false), ("InvalidNames", false), ("InvalidWay", false), ("InvalidEvents", false), ("InvalidProfile", false), ("InvalidProfiles", false), ("InvalidGroup", false), ("InvalidLocks", false), ("InvalidFrame", false), ("InvalidBook", false), ("InvalidNumber", false), ("InvalidText", false), ("TooLarge", false), ("Ended", false), ("NothingToUndo", false), ("Blocked", false), ("HoldError", false)]
def isl_NothingToUndo : List (Str × Bool) := [("InvalidBody", false), ("InvalidBodies", false), ("InvalidName", false), ("InvalidNames", false), ("InvalidWay", false), ("InvalidEvents", false), ("InvalidProfile", false), ("InvalidProfiles", false), ("InvalidGroup", false), ("InvalidLocks", false), ("InvalidFrame", false), ("InvalidBook", false), ("InvalidNumber", false), ("InvalidText", false), ("TooLarge", false), ("Ended", false), ("NothingToUndo", true), ("Blocked", false), ("HoldError", false)]
def isl_RuntimeError : List (Str × Bool) := [("InvalidBody", false), ("InvalidBodies", false), ("InvalidName", false), ("InvalidNames", false), ("InvalidWay", false), ("InvalidEvents", false), ("InvalidProfile", false), ("InvalidProfiles", false), ("InvalidGroup", false), ("InvalidLocks", false), ("InvalidFrame", false), ("InvalidBook", false), ("InvalidNumber", false), ("InvalidText", false), ("TooLarge", false), ("Ended", false), ("NothingToUndo", false), ("Blocked", false), ("HoldError", false)]
def isl_TooLarge : List (Str × Bool) := [("InvalidBody", false), ("InvalidBodies", false), ("InvalidName", false), ("InvalidNames", false), ("InvalidWay", false), ("InvalidEvents", false), ("InvalidProfile", false), ("InvalidProfiles", false), ("InvalidGroup", false), ("InvalidLocks", false), ("InvalidFrame", false), ("InvalidBook", false), ("InvalidNumber", false), ("InvalidText", false), ("TooLarge", true), ("Ended", false), ("NothingToUndo", false), ("Blocked", false), ("HoldError", false)]
def isl_TypeError : List (Str × Bool) := [("InvalidBody", false), ("InvalidBodies", false), ("InvalidName", false), ("InvalidNames", false), ("InvalidWay", false), ("InvalidEvents", false), ("InvalidProfile", false), ("InvalidProfiles", false), ("InvalidGroup", false), ("InvalidLocks", false), ("InvalidFrame", false), ("InvalidBook", false), ("InvalidNumber", false), ("InvalidText", false), ("TooLarge", false), ("Ended", false), ("NothingToUndo", false), ("Blocked", false), ("HoldError", false)]
def isl_ValueError : List (Str × Bool) := [("InvalidBody", true), ("InvalidBodies", true), ("InvalidName", true), ("InvalidNames", true), ("InvalidWay", true), ("InvalidEvents", true), ("InvalidProfile", true), ("InvalidProfiles", true), ("InvalidGroup", true), ("InvalidLocks", true), ("InvalidFrame", true), ("InvalidBook", true), ("InvalidNumber", true), ("InvalidText", true), ("TooLarge", true), ("Ended", true), ("NothingToUndo", true), ("Blocked", true), ("HoldError", true)]
def b__law_made : SemS := (sSeq (sSet 1 (sLst (sCons (sNew0 "InvalidBody") (sCons (sNew0 "InvalidBodies") (sCons (sNew0 "InvalidName") (sCons (sNew0 "InvalidNames") (sCons (sNew0 "InvalidWay") sNil))))))) (sSeq (sSet 1 (sOp addF (sVar 1) (sLst (sCons (sNew0 "InvalidEvents") (sCons (sNew0 "InvalidProfile") sNil))))) (sSeq (sSet 1 (sOp addF (sVar 1) (sLst (sCons (sNew0 "InvalidProfiles") (sCons (sNew0 "InvalidGroup") (sCons (sNew0 "InvalidLocks") (sCons (sNew0 "InvalidFrame") (sCons (sNew0 "InvalidBook") sNil)))))))) (sSeq (sSet 1 (sOp addF (sVar 1) (sLst (sCons (sNew0 "InvalidNumber") sNil)))) (sSeq (sSet 1 (sOp addF (sVar 1) (sLst (sCons (sNew0 "InvalidText") (sCons (sNew0 "TooLarge") (sCons (sNew0 "Ended") (sCons (sNew0 "NothingToUndo") sNil))))))) (sSeq (sSet 2 (sLst (sCons (sNew1 "InvalidBody" (sVar 0)) (sCons (sNew1 "InvalidBodies" (sVar 0)) (sCons (sNew1 "InvalidName" (sVar 0)) (sCons (sNew1 "InvalidNames" (sVar 0)) sNil)))))) (sSeq (sSet 2 (sOp addF (sVar 2) (sLst (sCons (sNew1 "InvalidWay" (sVar 0)) sNil)))) (sSeq (sSet 2 (sOp addF (sVar 2) (sLst (sCons (sNew1 "InvalidEvents" (sVar 0)) (sCons (sNew1 "InvalidProfile" (sVar 0)) (sCons (sNew1 "InvalidProfiles" (sVar 0)) sNil)))))) (sSeq (sSet 2 (sOp addF (sVar 2) (sLst (sCons (sNew1 "InvalidGroup" (sVar 0)) sNil)))) (sSeq (sSet 2 (sOp addF (sVar 2) (sLst (sCons (sNew1 "InvalidLocks" (sVar 0)) (sCons (sNew1 "InvalidFrame" (sVar 0)) (sCons (sNew1 "InvalidBook" (sVar 0)) (sCons (sNew1 "InvalidNumber" (sVar 0)) sNil))))))) (sSeq (sSet 2 (sOp addF (sVar 2) (sLst (sCons (sNew1 "InvalidText" (sVar 0)) sNil)))) (sRet (sTup (sCons (sVar 1) (sCons (sOp addF (sVar 2) (sLst (sCons (sNew1 "TooLarge" (sVar 0)) (sCons (sNew1 "Ended" (sVar 0)) (sCons (sNew1 "NothingToUndo" (sVar 0)) sNil))))) sNil)))))))))))))))
def F__law_made : Fn := fnOf 3 [.v] b__law_made
def b__law_kinds : SemS := (sSeq (sSet 1 (sLst (sCons (sIsY isl_InvalidBody (sVar 0)) (sCons (sIsY isl_InvalidBodies (sVar 0)) sNil)))) (sSeq (sSet 1 (sOp addF (sVar 1) (sLst (sCons (sIsY isl_InvalidName (sVar 0)) sNil)))) (sSeq (sSet 1 (sOp addF (sVar 1) (sLst (sCons (sIsY isl_InvalidNames (sVar 0)) (sCons (sIsY isl_InvalidWay (sVar 0)) sNil))))) (sSeq (sSet 1 (sOp addF (sVar 1) (sLst (sCons (sIsY isl_InvalidEvents (sVar 0)) sNil)))) (sSeq (sSet 1 (sOp addF (sVar 1) (sLst (sCons (sIsY isl_InvalidProfile (sVar 0)) (sCons (sIsY isl_InvalidProfiles (sVar 0)) sNil))))) (sSeq (sSet 1 (sOp addF (sVar 1) (sLst (sCons (sIsY isl_InvalidGroup (sVar 0)) (sCons (sIsY isl_InvalidLocks (sVar 0)) sNil))))) (sSeq (sSet 1 (sOp addF (sVar 1) (sLst (sCons (sIsY isl_InvalidFrame (sVar 0)) sNil)))) (sSeq (sSet 1 (sOp addF (sVar 1) (sLst (sCons (sIsY isl_InvalidBook (sVar 0)) (sCons (sIsY isl_InvalidNumber (sVar 0)) sNil))))) (sSeq (sSet 1 (sOp addF (sVar 1) (sLst (sCons (sIsY isl_InvalidText (sVar 0)) sNil)))) (sSeq (sSet 1 (sOp addF (sVar 1) (sLst (sCons (sIsY isl_TooLarge (sVar 0)) (sCons (sIsY isl_Ended (sVar 0)) sNil))))) (sSeq (sSet 1 (sOp addF (sVar 1) (sLst (sCons (sIsY isl_NothingToUndo (sVar 0)) sNil)))) (sRet (sOp addF (sVar 1) (sLst (sCons (sIsY isl_Blocked (sVar 0)) sNil)))))))))))))))
def F__law_kinds : Fn := fnOf 2 [.v] b__law_kinds
def b__law_foreign : SemS := (sSeq (sSet 1 (sLst (sCons (sIsY isl_TypeError (sVar 0)) (sCons (sIsY isl_LookupError (sVar 0)) sNil)))) (sSeq (sSet 1 (sOp addF (sVar 1) (sLst (sCons (sIsY isl_ArithmeticError (sVar 0)) sNil)))) (sRet (sCB anyF (pCons (sOp addF (sVar 1) (sLst (sCons (sIsY isl_RuntimeError (sVar 0)) (sCons (sIsY isl_AttributeError (sVar 0)) sNil)))) pNil)))))
def F__law_foreign : Fn := fnOf 2 [.v] b__law_foreign
def b__law_good : SemS := (sSeq (sIfS (sOr (sNot (sTruth (sIsY isl_HoldError (sVar 0)))) (sOr (sNot (sTruth (sIsY isl_ValueError (sVar 0)))) (sTruth (sCall [.v] F__law_foreign (mV (sVar 0) mNil))))) (sRet (sC (.bool false))) sNx) (sRet (sOp eqF (sLc (gT 2 (gsCons (gN 2) (gsCons (gN 3) gsNil))) (sTruth (sVar 3)) (sVar 2) [2, 3] (iEn (sCons (sCall [.v] F__law_kinds (mV (sVar 0) mNil)) sNil))) (sLst (sCons (sVar 1) sNil)))))
def F__law_good : Fn := fnOf 4 [.v, .v] b__law_good
abbrev L1_law : SemS := (sIfS (sOr (sNot (sTruth (sIsY isl_ValueError (sVar 8)))) (sOr (sTest (sOp inF (sC (.bool true)) (sCall [.v] F__law_kinds (mV (sVar 8) mNil)))) (sTruth (sCall [.v] F__law_foreign (mV (sVar 8) mNil))))) (sRet (sC (.bool false))) sNx)
abbrev L2_law : SemS := (sIfS (sOr (sNot (sTruth (sCall [.v, .v] F__law_good (mV (sVar 8) (mV (sC (.int 17)) mNil))))) (sOr (sTest (sOp neX (sFld "Blocked" "lock" (sVar 8)) (sVar 7))) (sTest (sOp neX (sCB strF (pCons (sFld "Blocked" "lock" (sVar 8)) pNil)) (sCB strF (pCons (sVar 7) pNil)))))) (sRet (sC (.bool false))) sNx)
abbrev L3_law : SemS := (sFor (iOf walkOf (sLst (sCons (sExl1 "Blocked" "lock" (sVar 7)) (sCons (sExl1 "Blocked" "lock" (sVar 7)) sNil)))) (gN 8) L2_law)
abbrev L4_law : SemS := (sIfS (sNot (sTruth (sCB allF (pCons (sLcS (gT 2 (gsCons (gN 12) (gsCons (gN 8) gsNil))) sYes (sCall [.v, .v] F__law_good (mV (sVar 8) (mV (sVar 12) mNil))) [12, 8] (iEn (sCons (sVar 6) sNil))) pNil)))) (sRet (sC (.bool false))) sNx)
abbrev L5_law : SemS := (sSeq (sSet 2 (sLst (sCons (sCall [.s, .v] F__law_cell (mS 0 (mV (sVar 1) mNil))) sNil))) (sSeq (sSet 3 (sOp addF (sC (.str "a lock: ")) (sOp ixG (sCall [.r, .v] F__law_words (mR (sVar 2) (mV (sC (.int 1)) mNil))) (sC (.int 0))))) (sSeq (sAsg (sCall [.v] F__law_made (mV (sVar 3) mNil)) (gT 2 (gsCons (gN 4) (gsCons (gN 5) gsNil)))) (sSeq (sFor (iOf walkOf (sTup (sCons (sVar 4) (sCons (sVar 5) sNil)))) (gN 6) L4_law) (sSeq (sFor (iOf walkOf (sLst (sCons (sVar 3) (sCons (sC .none) (sCons (sCall [.r, .v] F__law_take (mR (sVar 2) (mV (sC (.int 1000)) mNil))) (sCons (sTup (sCons (sC (.str "a")) (sCons (sVar 3) sNil))) (sCons (sLst (sCons (sVar 3) sNil)) (sCons (sC (.bool true)) (sCons sDct0 (sCons (sC (.str "")) (sCons (sOp powF (sC (.int 10)) (sC (.int 30))) sNil))))))))))) (gN 7) L3_law) (sSeq (sSet 9 (sLst (sCons (sExl1 "Blocked" "lock" (sVar 3)) (sCons (sExl1 "Blocked" "lock" (sC (.str "b"))) (sCons (sExl0 "Blocked" "lock") (sCons (sExl1 "Blocked" "lock" (sDsp [((sC (.str "a")), (sVar 3))])) sNil)))))) (sSeq (sIfS (sTest (sOp neX (sLc (gN 11) sYes (sFld "Blocked" "lock" (sVar 11)) [11] (iOf walkOf (sVar 9))) (sLst (sCons (sVar 3) (sCons (sC (.str "b")) (sCons (sC .none) (sCons (sDsp [((sC (.str "a")), (sVar 3))]) sNil))))))) (sRet (sC (.bool false))) sNx) (sSeq (sShr 10 8 "Blocked" "lock" (sVar 3)) (sSeq (sIfS (sTest (sOp neX (sFld "Blocked" "lock" (sVar 8)) (sLst (sCons (sVar 3) (sCons (sC .none) sNil))))) (sRet (sC (.bool false))) sNx) (sSeq (sIfS (sTest (sOp isNotF (sFld "Blocked" "lock" (sExl0 "Blocked" "lock")) (sC .none))) (sRet (sC (.bool false))) sNx) (sFor (iOf walkOf (sLst (sCons (sNew0 "HoldError") (sCons (sNew1 "HoldError" (sVar 3)) sNil)))) (gN 8) L1_law)))))))))))
def b_law : SemS := (sSeq (sFor (iR1 (pCons (sCB maxF (pCons (sCB minF (pCons (sLenScr 0) (pCons (sC (.int 5)) pNil))) (pCons (sC (.int 1)) pNil))) pNil)) (gN 1) L5_law) (sRet (sC (.bool true))))
def F_law : Fn := fnOf 13 [.s] b_law
end Pv.K72
end
section
set_option Elab.async false
set_option linter.all false
set_option maxRecDepth 100000
set_option maxHeartbeats 2000000
namespace Pv.K72
open PySem PySem.Spec PyProof.Rows L2 PySem.W Pv Pv.Pg Pv.Lw
abbrev top (i : Nat) : Stmt := PySem.Challenge.pw_nestedholds_k72_errors_created.main.body.getD i (.Pass ⟨0, 0, 0, 0⟩)
structure Tops (P : Program) (K : Fr') (mg : Str → Option Value) : Prop where
  h__law_mixed : Here K mg "_law_mixed" (top 21)
  h__law_cell : Here K mg "_law_cell" (top 22)
  h__law_take : Here K mg "_law_take" (top 23)
  h__law_words : Here K mg "_law_words" (top 24)
  h__law_made : Here K mg "_law_made" (top 25)
  h__law_kinds : Here K mg "_law_kinds" (top 26)
  h__law_foreign : Here K mg "_law_foreign" (top 27)
  h__law_good : Here K mg "_law_good" (top 28)
  h_law : Here K mg "law" (top 29)
  z_ArithmeticError : mg "ArithmeticError" = none
  z_AttributeError : mg "AttributeError" = none
  z_LookupError : mg "LookupError" = none
  z_RuntimeError : mg "RuntimeError" = none
  z_TypeError : mg "TypeError" = none
  z_ValueError : mg "ValueError" = none
  z_all : mg "all" = none
  z_any : mg "any" = none
  z_enumerate : mg "enumerate" = none
  z_int : mg "int" = none
  z_isinstance : mg "isinstance" = none
  z_len : mg "len" = none
  z_max : mg "max" = none
  z_min : mg "min" = none
  z_range : mg "range" = none
  z_str : mg "str" = none
  z_super : mg "super" = none
  n_Ended : NewF K mg "Ended"
  n_HoldError : NewF K mg "HoldError"
  n_InvalidBodies : NewF K mg "InvalidBodies"
  n_InvalidBody : NewF K mg "InvalidBody"
  n_InvalidBook : NewF K mg "InvalidBook"
  n_InvalidEvents : NewF K mg "InvalidEvents"
  n_InvalidFrame : NewF K mg "InvalidFrame"
  n_InvalidGroup : NewF K mg "InvalidGroup"
  n_InvalidLocks : NewF K mg "InvalidLocks"
  n_InvalidName : NewF K mg "InvalidName"
  n_InvalidNames : NewF K mg "InvalidNames"
  n_InvalidNumber : NewF K mg "InvalidNumber"
  n_InvalidProfile : NewF K mg "InvalidProfile"
  n_InvalidProfiles : NewF K mg "InvalidProfiles"
  n_InvalidText : NewF K mg "InvalidText"
  n_InvalidWay : NewF K mg "InvalidWay"
  n_NothingToUndo : NewF K mg "NothingToUndo"
  n_TooLarge : NewF K mg "TooLarge"
  x_Blocked : ExlF P K mg "Blocked" "lock" "self" "lock"
  i_ArithmeticError : IsL K (.type "ArithmeticError") isl_ArithmeticError
  i_AttributeError : IsL K (.type "AttributeError") isl_AttributeError
  i_Blocked : ∃ c, mg "Blocked" = some (.ref c) ∧ IsL K (.ref c) isl_Blocked
  i_Ended : ∃ c, mg "Ended" = some (.ref c) ∧ IsL K (.ref c) isl_Ended
  i_HoldError : ∃ c, mg "HoldError" = some (.ref c) ∧ IsL K (.ref c) isl_HoldError
  i_InvalidBodies : ∃ c, mg "InvalidBodies" = some (.ref c) ∧ IsL K (.ref c) isl_InvalidBodies
  i_InvalidBody : ∃ c, mg "InvalidBody" = some (.ref c) ∧ IsL K (.ref c) isl_InvalidBody
  i_InvalidBook : ∃ c, mg "InvalidBook" = some (.ref c) ∧ IsL K (.ref c) isl_InvalidBook
  i_InvalidEvents : ∃ c, mg "InvalidEvents" = some (.ref c) ∧ IsL K (.ref c) isl_InvalidEvents
  i_InvalidFrame : ∃ c, mg "InvalidFrame" = some (.ref c) ∧ IsL K (.ref c) isl_InvalidFrame
  i_InvalidGroup : ∃ c, mg "InvalidGroup" = some (.ref c) ∧ IsL K (.ref c) isl_InvalidGroup
  i_InvalidLocks : ∃ c, mg "InvalidLocks" = some (.ref c) ∧ IsL K (.ref c) isl_InvalidLocks
  i_InvalidName : ∃ c, mg "InvalidName" = some (.ref c) ∧ IsL K (.ref c) isl_InvalidName
  i_InvalidNames : ∃ c, mg "InvalidNames" = some (.ref c) ∧ IsL K (.ref c) isl_InvalidNames
  i_InvalidNumber : ∃ c, mg "InvalidNumber" = some (.ref c) ∧ IsL K (.ref c) isl_InvalidNumber
  i_InvalidProfile : ∃ c, mg "InvalidProfile" = some (.ref c) ∧ IsL K (.ref c) isl_InvalidProfile
  i_InvalidProfiles : ∃ c, mg "InvalidProfiles" = some (.ref c) ∧ IsL K (.ref c) isl_InvalidProfiles
  i_InvalidText : ∃ c, mg "InvalidText" = some (.ref c) ∧ IsL K (.ref c) isl_InvalidText
  i_InvalidWay : ∃ c, mg "InvalidWay" = some (.ref c) ∧ IsL K (.ref c) isl_InvalidWay
  i_LookupError : IsL K (.type "LookupError") isl_LookupError
  i_NothingToUndo : ∃ c, mg "NothingToUndo" = some (.ref c) ∧ IsL K (.ref c) isl_NothingToUndo
  i_RuntimeError : IsL K (.type "RuntimeError") isl_RuntimeError
  i_TooLarge : ∃ c, mg "TooLarge" = some (.ref c) ∧ IsL K (.ref c) isl_TooLarge
  i_TypeError : IsL K (.type "TypeError") isl_TypeError
  i_ValueError : IsL K (.type "ValueError") isl_ValueError
section
variable {P : Program} {w : World} {K : Fr'} {mg : Str → Option Value} {base : Heap}
abbrev N__law_mixed : List Str := ["_law_cell_here", "_law_k", "_law_mix"]
theorem c__law_mixed (T : Tops P K mg) : Cal P w K mg base "_law_mixed" 1 ["_law_cell_here", "_law_k"] [.v, .v] F__law_mixed := by
  have S : FnScope N__law_mixed ["_law_cell_here", "_law_k"] (defScope (top 21)) := ⟨rfl, rfl, rfl, by decide +kernel, rfl, by decide +kernel, by decide +kernel⟩
  refine Cal.mk_ (k := 0) T.h__law_mixed S rfl (fun _ _ _ _ _ _ us hl => match us, hl with | [_, _], _ => rfl) fun f cdv A outer s H E hr gd0 => ?_
  have hu : (A.deeper (envOfC "_law_mixed" (defScope (top 21)) s.heap.objs.size f cdv)).units + 100 < cLine := hu_room hr
  have gd : (A.deeper (envOfC "_law_mixed" (defScope (top 21)) s.heap.objs.size f cdv)).guards = some [] := gd0
  exact (dss_cons (ds_setN S.nd rfl (Or.inl rfl) (de_op or_mod (de_callTy cr_int rfl T.z_int rfl (dp_cons (de_op or_add (de_op or_add (de_op or_mul (de_op or_mod (de_callTy cr_int rfl T.z_int rfl (dp_cons (de_var (pv 0)) dp_nil)) de_int) de_int) (de_op or_mul (de_var (pv 1)) de_int)) de_int) dp_nil)) de_int)) (dss_cons (ds_setN S.nd rfl (Or.inl rfl) (de_op or_mod (de_callTy cr_int rfl T.z_int rfl (dp_cons (de_op or_mul (de_var (pv 2)) (de_var (pv 2))) dp_nil)) de_int)) (dss_one (ds_ret (de_op or_mod (de_callTy cr_int rfl T.z_int rfl (dp_cons (de_op or_mul (de_var (pv 2)) (de_op or_add (de_var (pv 2)) de_int)) dp_nil)) de_int)))))
abbrev N__law_cell : List Str := ["_law_script", "_law_k", "_law_cell_here", "_law_found", "_law_j"]
theorem c__law_cell (T : Tops P K mg) : Cal P w K mg base "_law_cell" 2 ["_law_script", "_law_k"] [.s, .v] F__law_cell := by
  have S : FnScope N__law_cell ["_law_script", "_law_k"] (defScope (top 22)) := ⟨rfl, rfl, rfl, by decide +kernel, rfl, by decide +kernel, by decide +kernel⟩
  refine Cal.mk_ (k := 1) T.h__law_cell S rfl (fun _ _ _ _ _ _ us hl => match us, hl with | [_, _], _ => rfl) fun f cdv A outer s H E hr gd0 => ?_
  have hu : (A.deeper (envOfC "_law_cell" (defScope (top 22)) s.heap.objs.size f cdv)).units + 100 < cLine := hu_room hr
  have gd : (A.deeper (envOfC "_law_cell" (defScope (top 22)) s.heap.objs.size f cdv)).guards = some [] := gd0
  exact (dss_cons (ds_setN S.nd rfl (Or.inl rfl) de_int) (dss_cons (ds_if (dt_cmp or_lt (de_var (pv 1)) (de_lenScr rfl T.z_len (pv 0)) (nomark _)) (dss_one (ds_setN S.nd rfl (Or.inl rfl) (de_ixScr (pv 0) (de_var (pv 1))))) dss_nil) (dss_cons (ds_if (dt_cmp or_ge (de_var (pv 2)) (de_op or_pow de_int de_int) (nomark _)) (dss_one (ds_ret (de_op or_mod (de_callTy cr_int rfl T.z_int rfl (dp_cons (de_op or_sub (de_var (pv 2)) (de_op or_pow de_int de_int)) dp_nil)) (de_op or_mul (de_op or_mul (de_op or_mul (de_op or_pow de_int de_int) (de_op or_pow de_int de_int)) (de_op or_pow de_int de_int)) (de_op or_pow de_int de_int))))) dss_nil) (dss_cons (ds_setN S.nd rfl (Or.inl rfl) de_int) (dss_cons (ds_for (di_rangeW1 rfl T.z_range (dp_cons de_int dp_nil)) (dg_name (pg_name S.nd rfl (by first | exact Or.inl rfl | exact Or.inr rfl))) (dss_one (ds_setN S.nd rfl (Or.inl rfl) (de_op or_add (de_op or_mul (de_var (pv 3)) de_int) (de_cal (c__law_mixed T) hr (by decide) gd rfl (dm_v (de_var (pv 2)) (dm_v (de_op or_add (de_op or_add (de_op or_mul de_int (de_var (pv 1))) (de_op or_mul de_int (de_var (pv 4)))) (de_op or_mul (de_var (pv 4)) (de_var (pv 4)))) dm_nil)))))) pass_nox rfl) (dss_one (ds_ret (de_var (pv 3)))))))))
abbrev N__law_take : List Str := ["_law_own", "_law_options", "_law_digit"]
theorem c__law_take (T : Tops P K mg) : Cal P w K mg base "_law_take" 1 ["_law_own", "_law_options"] [.r, .v] F__law_take := by
  have S : FnScope N__law_take ["_law_own", "_law_options"] (defScope (top 23)) := ⟨rfl, rfl, rfl, by decide +kernel, rfl, by decide +kernel, by decide +kernel⟩
  refine Cal.mk_ (k := 0) T.h__law_take S rfl (fun _ _ _ _ _ _ us hl => match us, hl with | [_, _], _ => rfl) fun f cdv A outer s H E hr gd0 => ?_
  have hu : (A.deeper (envOfC "_law_take" (defScope (top 23)) s.heap.objs.size f cdv)).units + 100 < cLine := hu_room hr
  have gd : (A.deeper (envOfC "_law_take" (defScope (top 23)) s.heap.objs.size f cdv)).guards = some [] := gd0
  exact (dss_cons (ds_setN S.nd rfl (Or.inl rfl) (de_op or_mod (de_callTy cr_int rfl T.z_int rfl (dp_cons (de_ixG (hu64 hu) ir_ix (de_var (pv 0)) de_int) dp_nil)) (de_var (pv 1)))) (dss_cons (ds_sub (hu1 hu) (pv 0) de_int (de_op or_div (de_ixG (hu64 hu) ir_ix (de_var (pv 0)) de_int) (de_var (pv 1)))) (dss_one (ds_ret (de_var (pv 2))))))
abbrev N__law_words : List Str := ["_law_own", "_law_many", "_law_some", "_law_found", "_law_k"]
theorem c__law_words (T : Tops P K mg) : Cal P w K mg base "_law_words" 2 ["_law_own", "_law_many"] [.r, .v] F__law_words := by
  have S : FnScope N__law_words ["_law_own", "_law_many"] (defScope (top 24)) := ⟨rfl, rfl, rfl, by decide +kernel, rfl, by decide +kernel, by decide +kernel⟩
  refine Cal.mk_ (k := 1) T.h__law_words S rfl (fun _ _ _ _ _ _ us hl => match us, hl with | [_, _], _ => rfl) fun f cdv A outer s H E hr gd0 => ?_
  have hu : (A.deeper (envOfC "_law_words" (defScope (top 24)) s.heap.objs.size f cdv)).units + 100 < cLine := hu_room hr
  have gd : (A.deeper (envOfC "_law_words" (defScope (top 24)) s.heap.objs.size f cdv)).guards = some [] := gd0
  exact (dss_cons (ds_setN S.nd rfl (Or.inl rfl) (de_lst (da_cons de_str (da_cons de_str (da_cons de_str (da_cons de_str (da_cons de_str (da_cons de_str (da_cons de_str (da_cons de_str (da_cons de_str (da_cons de_str da_nil)))))))))))) (dss_cons (ds_setN S.nd rfl (Or.inl rfl) (de_lst da_nil)) (dss_cons (ds_for (di_rangeW1 rfl T.z_range (dp_cons (de_var (pv 1)) dp_nil)) (dg_name (pg_name S.nd rfl (by first | exact Or.inl rfl | exact Or.inr rfl))) (dss_one (ds_expr (de_mut PySem.F.plainAttrs_list PySem.F.slot_list_append PySem.F.type_list_append mt_appendD (pv 3) (da_cons (de_mut PySem.F.plainAttrs_list PySem.F.slot_list_pop PySem.F.type_list_pop mt_popD (pv 2) (da_cons (de_cal (c__law_take T) hr (by decide) gd rfl (dm_r (de_var (pv 0)) (dm_v (de_callB cr_len rfl T.z_len rfl (dp_cons (de_var (pv 2)) dp_nil)) dm_nil))) da_nil)) da_nil)))) pass_nox rfl) (dss_one (ds_ret (de_var (pv 3)))))))
abbrev N__law_made : List Str := ["_law_word", "_law_bare", "_law_shown"]
theorem c__law_made (T : Tops P K mg) : Cal P w K mg base "_law_made" 1 ["_law_word"] [.v] F__law_made := by
  have S : FnScope N__law_made ["_law_word"] (defScope (top 25)) := ⟨rfl, rfl, rfl, by decide +kernel, rfl, by decide +kernel, by decide +kernel⟩
  refine Cal.mk_ (k := 0) T.h__law_made S rfl (fun _ _ _ _ _ _ us hl => match us, hl with | [_], _ => rfl) fun f cdv A outer s H E hr gd0 => ?_
  have hu : (A.deeper (envOfC "_law_made" (defScope (top 25)) s.heap.objs.size f cdv)).units + 100 < cLine := hu_room hr
  have gd : (A.deeper (envOfC "_law_made" (defScope (top 25)) s.heap.objs.size f cdv)).guards = some [] := gd0
  exact (dss_cons (ds_setN S.nd rfl (Or.inl rfl) (de_lst (da_cons (de_new0F T.n_InvalidBody rfl) (da_cons (de_new0F T.n_InvalidBodies rfl) (da_cons (de_new0F T.n_InvalidName rfl) (da_cons (de_new0F T.n_InvalidNames rfl) (da_cons (de_new0F T.n_InvalidWay rfl) da_nil))))))) (dss_cons (ds_setN S.nd rfl (Or.inl rfl) (de_op or_add (de_var (pv 1)) (de_lst (da_cons (de_new0F T.n_InvalidEvents rfl) (da_cons (de_new0F T.n_InvalidProfile rfl) da_nil))))) (dss_cons (ds_setN S.nd rfl (Or.inl rfl) (de_op or_add (de_var (pv 1)) (de_lst (da_cons (de_new0F T.n_InvalidProfiles rfl) (da_cons (de_new0F T.n_InvalidGroup rfl) (da_cons (de_new0F T.n_InvalidLocks rfl) (da_cons (de_new0F T.n_InvalidFrame rfl) (da_cons (de_new0F T.n_InvalidBook rfl) da_nil)))))))) (dss_cons (ds_setN S.nd rfl (Or.inl rfl) (de_op or_add (de_var (pv 1)) (de_lst (da_cons (de_new0F T.n_InvalidNumber rfl) da_nil)))) (dss_cons (ds_setN S.nd rfl (Or.inl rfl) (de_op or_add (de_var (pv 1)) (de_lst (da_cons (de_new0F T.n_InvalidText rfl) (da_cons (de_new0F T.n_TooLarge rfl) (da_cons (de_new0F T.n_Ended rfl) (da_cons (de_new0F T.n_NothingToUndo rfl) da_nil))))))) (dss_cons (ds_setN S.nd rfl (Or.inl rfl) (de_lst (da_cons (de_new1F T.n_InvalidBody rfl (de_var (pv 0))) (da_cons (de_new1F T.n_InvalidBodies rfl (de_var (pv 0))) (da_cons (de_new1F T.n_InvalidName rfl (de_var (pv 0))) (da_cons (de_new1F T.n_InvalidNames rfl (de_var (pv 0))) da_nil)))))) (dss_cons (ds_setN S.nd rfl (Or.inl rfl) (de_op or_add (de_var (pv 2)) (de_lst (da_cons (de_new1F T.n_InvalidWay rfl (de_var (pv 0))) da_nil)))) (dss_cons (ds_setN S.nd rfl (Or.inl rfl) (de_op or_add (de_var (pv 2)) (de_lst (da_cons (de_new1F T.n_InvalidEvents rfl (de_var (pv 0))) (da_cons (de_new1F T.n_InvalidProfile rfl (de_var (pv 0))) (da_cons (de_new1F T.n_InvalidProfiles rfl (de_var (pv 0))) da_nil)))))) (dss_cons (ds_setN S.nd rfl (Or.inl rfl) (de_op or_add (de_var (pv 2)) (de_lst (da_cons (de_new1F T.n_InvalidGroup rfl (de_var (pv 0))) da_nil)))) (dss_cons (ds_setN S.nd rfl (Or.inl rfl) (de_op or_add (de_var (pv 2)) (de_lst (da_cons (de_new1F T.n_InvalidLocks rfl (de_var (pv 0))) (da_cons (de_new1F T.n_InvalidFrame rfl (de_var (pv 0))) (da_cons (de_new1F T.n_InvalidBook rfl (de_var (pv 0))) (da_cons (de_new1F T.n_InvalidNumber rfl (de_var (pv 0))) da_nil))))))) (dss_cons (ds_setN S.nd rfl (Or.inl rfl) (de_op or_add (de_var (pv 2)) (de_lst (da_cons (de_new1F T.n_InvalidText rfl (de_var (pv 0))) da_nil)))) (dss_one (ds_ret (de_tup (da_cons (de_var (pv 1)) (da_cons (de_op or_add (de_var (pv 2)) (de_lst (da_cons (de_new1F T.n_TooLarge rfl (de_var (pv 0))) (da_cons (de_new1F T.n_Ended rfl (de_var (pv 0))) (da_cons (de_new1F T.n_NothingToUndo rfl (de_var (pv 0))) da_nil))))) da_nil))))))))))))))))
abbrev N__law_kinds : List Str := ["_law_error", "_law_found"]
theorem c__law_kinds (T : Tops P K mg) : Cal P w K mg base "_law_kinds" 1 ["_law_error"] [.v] F__law_kinds := by
  have S : FnScope N__law_kinds ["_law_error"] (defScope (top 26)) := ⟨rfl, rfl, rfl, by decide +kernel, rfl, by decide +kernel, by decide +kernel⟩
  refine Cal.mk_ (k := 0) T.h__law_kinds S rfl (fun _ _ _ _ _ _ us hl => match us, hl with | [_], _ => rfl) fun f cdv A outer s H E hr gd0 => ?_
  have hu : (A.deeper (envOfC "_law_kinds" (defScope (top 26)) s.heap.objs.size f cdv)).units + 100 < cLine := hu_room hr
  have gd : (A.deeper (envOfC "_law_kinds" (defScope (top 26)) s.heap.objs.size f cdv)).guards = some [] := gd0
  exact (dss_cons (ds_setN S.nd rfl (Or.inl rfl) (de_lst (da_cons (de_isY rfl T.z_isinstance rfl T.i_InvalidBody (de_var (pv 0))) (da_cons (de_isY rfl T.z_isinstance rfl T.i_InvalidBodies (de_var (pv 0))) da_nil)))) (dss_cons (ds_setN S.nd rfl (Or.inl rfl) (de_op or_add (de_var (pv 1)) (de_lst (da_cons (de_isY rfl T.z_isinstance rfl T.i_InvalidName (de_var (pv 0))) da_nil)))) (dss_cons (ds_setN S.nd rfl (Or.inl rfl) (de_op or_add (de_var (pv 1)) (de_lst (da_cons (de_isY rfl T.z_isinstance rfl T.i_InvalidNames (de_var (pv 0))) (da_cons (de_isY rfl T.z_isinstance rfl T.i_InvalidWay (de_var (pv 0))) da_nil))))) (dss_cons (ds_setN S.nd rfl (Or.inl rfl) (de_op or_add (de_var (pv 1)) (de_lst (da_cons (de_isY rfl T.z_isinstance rfl T.i_InvalidEvents (de_var (pv 0))) da_nil)))) (dss_cons (ds_setN S.nd rfl (Or.inl rfl) (de_op or_add (de_var (pv 1)) (de_lst (da_cons (de_isY rfl T.z_isinstance rfl T.i_InvalidProfile (de_var (pv 0))) (da_cons (de_isY rfl T.z_isinstance rfl T.i_InvalidProfiles (de_var (pv 0))) da_nil))))) (dss_cons (ds_setN S.nd rfl (Or.inl rfl) (de_op or_add (de_var (pv 1)) (de_lst (da_cons (de_isY rfl T.z_isinstance rfl T.i_InvalidGroup (de_var (pv 0))) (da_cons (de_isY rfl T.z_isinstance rfl T.i_InvalidLocks (de_var (pv 0))) da_nil))))) (dss_cons (ds_setN S.nd rfl (Or.inl rfl) (de_op or_add (de_var (pv 1)) (de_lst (da_cons (de_isY rfl T.z_isinstance rfl T.i_InvalidFrame (de_var (pv 0))) da_nil)))) (dss_cons (ds_setN S.nd rfl (Or.inl rfl) (de_op or_add (de_var (pv 1)) (de_lst (da_cons (de_isY rfl T.z_isinstance rfl T.i_InvalidBook (de_var (pv 0))) (da_cons (de_isY rfl T.z_isinstance rfl T.i_InvalidNumber (de_var (pv 0))) da_nil))))) (dss_cons (ds_setN S.nd rfl (Or.inl rfl) (de_op or_add (de_var (pv 1)) (de_lst (da_cons (de_isY rfl T.z_isinstance rfl T.i_InvalidText (de_var (pv 0))) da_nil)))) (dss_cons (ds_setN S.nd rfl (Or.inl rfl) (de_op or_add (de_var (pv 1)) (de_lst (da_cons (de_isY rfl T.z_isinstance rfl T.i_TooLarge (de_var (pv 0))) (da_cons (de_isY rfl T.z_isinstance rfl T.i_Ended (de_var (pv 0))) da_nil))))) (dss_cons (ds_setN S.nd rfl (Or.inl rfl) (de_op or_add (de_var (pv 1)) (de_lst (da_cons (de_isY rfl T.z_isinstance rfl T.i_NothingToUndo (de_var (pv 0))) da_nil)))) (dss_one (ds_ret (de_op or_add (de_var (pv 1)) (de_lst (da_cons (de_isY rfl T.z_isinstance rfl T.i_Blocked (de_var (pv 0))) da_nil))))))))))))))))
abbrev N__law_foreign : List Str := ["_law_error", "_law_others"]
theorem c__law_foreign (T : Tops P K mg) : Cal P w K mg base "_law_foreign" 1 ["_law_error"] [.v] F__law_foreign := by
  have S : FnScope N__law_foreign ["_law_error"] (defScope (top 27)) := ⟨rfl, rfl, rfl, by decide +kernel, rfl, by decide +kernel, by decide +kernel⟩
  refine Cal.mk_ (k := 0) T.h__law_foreign S rfl (fun _ _ _ _ _ _ us hl => match us, hl with | [_], _ => rfl) fun f cdv A outer s H E hr gd0 => ?_
  have hu : (A.deeper (envOfC "_law_foreign" (defScope (top 27)) s.heap.objs.size f cdv)).units + 100 < cLine := hu_room hr
  have gd : (A.deeper (envOfC "_law_foreign" (defScope (top 27)) s.heap.objs.size f cdv)).guards = some [] := gd0
  exact (dss_cons (ds_setN S.nd rfl (Or.inl rfl) (de_lst (da_cons (de_isYB rfl T.z_isinstance rfl T.z_TypeError rfl T.i_TypeError (de_var (pv 0))) (da_cons (de_isYB rfl T.z_isinstance rfl T.z_LookupError rfl T.i_LookupError (de_var (pv 0))) da_nil)))) (dss_cons (ds_setN S.nd rfl (Or.inl rfl) (de_op or_add (de_var (pv 1)) (de_lst (da_cons (de_isYB rfl T.z_isinstance rfl T.z_ArithmeticError rfl T.i_ArithmeticError (de_var (pv 0))) da_nil)))) (dss_one (ds_ret (de_callB (cr_anyD rfl) rfl T.z_any rfl (dp_cons (de_op or_add (de_var (pv 1)) (de_lst (da_cons (de_isYB rfl T.z_isinstance rfl T.z_RuntimeError rfl T.i_RuntimeError (de_var (pv 0))) (da_cons (de_isYB rfl T.z_isinstance rfl T.z_AttributeError rfl T.i_AttributeError (de_var (pv 0))) da_nil)))) dp_nil))))))
abbrev N__law_good : List Str := ["_law_error", "_law_at", "_law_k", "_law_kind"]
theorem c__law_good (T : Tops P K mg) : Cal P w K mg base "_law_good" 2 ["_law_error", "_law_at"] [.v, .v] F__law_good := by
  have S : FnScope N__law_good ["_law_error", "_law_at"] (defScope (top 28)) := ⟨rfl, rfl, rfl, by decide +kernel, rfl, by decide +kernel, by decide +kernel⟩
  refine Cal.mk_ (k := 1) T.h__law_good S rfl (fun _ _ _ _ _ _ us hl => match us, hl with | [_, _], _ => rfl) fun f cdv A outer s H E hr gd0 => ?_
  have hu : (A.deeper (envOfC "_law_good" (defScope (top 28)) s.heap.objs.size f cdv)).units + 100 < cLine := hu_room hr
  have gd : (A.deeper (envOfC "_law_good" (defScope (top 28)) s.heap.objs.size f cdv)).guards = some [] := gd0
  exact (dss_cons (ds_if (dw_dt (dw_or (dt_not (dt_truth (de_isY rfl T.z_isinstance rfl T.i_HoldError (de_var (pv 0))))) (dw_or (dt_not (dt_truth (de_isYB rfl T.z_isinstance rfl T.z_ValueError rfl T.i_ValueError (de_var (pv 0))))) (dw_or1 (dt_truth (de_cal (c__law_foreign T) hr (by decide) gd rfl (dm_v (de_var (pv 0)) dm_nil))))))) (dss_one (ds_ret de_bool)) dss_nil) (dss_one (ds_ret (de_cmp (or_eqH hu) (de_lc (own := [("_law_k", 2), ("_law_kind", 3)]) (di_enumW rfl T.z_enumerate (da_cons (de_cal (c__law_kinds T) hr (by decide) gd rfl (dm_v (de_var (pv 0)) dm_nil)) da_nil)) (blkOk_by rfl) (fun _ _ _ _ _ => (dg_tup (dgs_cons (dg_name (pg_name S.nd rfl (by first | exact Or.inl rfl | exact Or.inr rfl))) (dgs_cons (dg_name (pg_name S.nd rfl (by first | exact Or.inl rfl | exact Or.inr rfl))) dgs_nil)) rfl)) (fun _ _ _ _ _ => (dts_one (dt_truth (de_var (pv 3))))) (fun _ _ _ _ _ => (de_var (pv 2))) (by decide) rfl S.nd) (de_lst (da_cons (de_var (pv 1)) da_nil)) (nomark _)))))
abbrev N_law : List Str := ["_law_script", "_law_turn", "_law_own", "_law_word", "_law_bare", "_law_shown", "_law_some", "_law_value", "_law_error", "_law_rows", "_law_shared", "_law_row", "_law_at"]
theorem c_law (T : Tops P K mg) : Cal P w K mg base "law" 3 ["_law_script"] [.s] F_law := by
  have S : FnScope N_law ["_law_script"] (defScope (top 29)) := ⟨rfl, rfl, rfl, by decide +kernel, rfl, by decide +kernel, by decide +kernel⟩
  refine Cal.mk_ (k := 2) T.h_law S rfl (fun _ _ _ _ _ _ us hl => match us, hl with | [_], _ => rfl) fun f cdv A outer s H E hr gd0 => ?_
  have hu : (A.deeper (envOfC "law" (defScope (top 29)) s.heap.objs.size f cdv)).units + 100 < cLine := hu_room hr
  have gd : (A.deeper (envOfC "law" (defScope (top 29)) s.heap.objs.size f cdv)).guards = some [] := gd0
  exact (dss_cons (ds_for (di_rangeW1 rfl T.z_range (dp_cons (de_callB (cr_maxD rfl) rfl T.z_max rfl (dp_cons (de_callB (cr_minD rfl) rfl T.z_min rfl (dp_cons (de_lenScr rfl T.z_len (pv 0)) (dp_cons de_int dp_nil))) (dp_cons de_int dp_nil))) dp_nil)) (dg_name (pg_name S.nd rfl (by first | exact Or.inl rfl | exact Or.inr rfl))) (dss_cons (ds_setN S.nd rfl (Or.inl rfl) (de_lst (da_cons (de_cal (c__law_cell T) hr (by decide) gd rfl (dm_s (pv 0) (dm_v (de_var (pv 1)) dm_nil))) da_nil))) (dss_cons (ds_setN S.nd rfl (Or.inl rfl) (de_op or_add de_str (de_ixG (hu64 hu) ir_ix (de_cal (c__law_words T) hr (by decide) gd rfl (dm_r (de_var (pv 2)) (dm_v de_int dm_nil))) de_int))) (dss_cons (ds_asg (de_cal (c__law_made T) hr (by decide) gd rfl (dm_v (de_var (pv 3)) dm_nil)) (dg_tup (dgs_cons (dg_name (pg_name S.nd rfl (by first | exact Or.inl rfl | exact Or.inr rfl))) (dgs_cons (dg_name (pg_name S.nd rfl (by first | exact Or.inl rfl | exact Or.inr rfl))) dgs_nil)) rfl)) (dss_cons (ds_for (di_anyW (de_tup (da_cons (de_var (pv 4)) (da_cons (de_var (pv 5)) da_nil)))) (dg_name (pg_name S.nd rfl (by first | exact Or.inl rfl | exact Or.inr rfl))) (dss_one (ds_if (dt_not (dt_truth (de_callB (cr_allD rfl) rfl T.z_all rfl (dp_cons (de_lcS (own := [("_law_at", 12), ("_law_error", 8)]) (di_enumW rfl T.z_enumerate (da_cons (de_var (pv 6)) da_nil)) (blkOk_by rfl) (fun _ _ _ _ _ => (dg_tup (dgs_cons (dg_name (pg_name S.nd rfl (by first | exact Or.inl rfl | exact Or.inr rfl))) (dgs_cons (dg_name (pg_name S.nd rfl (by first | exact Or.inl rfl | exact Or.inr rfl))) dgs_nil)) rfl)) (fun _ _ _ _ _ => dts_nil) (fun _ _ _ _ _ => (de_cal (c__law_good T) hr (by decide) gd rfl (dm_v (de_var (pv 8)) (dm_v (de_var (pv 12)) dm_nil)))) (by decide) rfl S.nd) dp_nil)))) (dss_one (ds_ret de_bool)) dss_nil)) pass_nox rfl) (dss_cons (ds_for (di_anyW (de_lst (da_cons (de_var (pv 3)) (da_cons de_none (da_cons (de_cal (c__law_take T) hr (by decide) gd rfl (dm_r (de_var (pv 2)) (dm_v de_int dm_nil))) (da_cons (de_tup (da_cons de_str (da_cons (de_var (pv 3)) da_nil))) (da_cons (de_lst (da_cons (de_var (pv 3)) da_nil)) (da_cons de_bool (da_cons de_dct0 (da_cons de_str (da_cons (de_op or_pow de_int de_int) da_nil))))))))))) (dg_name (pg_name S.nd rfl (by first | exact Or.inl rfl | exact Or.inr rfl))) (dss_one (ds_for (di_anyW (de_lst (da_cons (de_exl1F T.x_Blocked T.z_super hr rfl (de_var (pv 7))) (da_cons (de_exlkF T.x_Blocked T.z_super hr rfl (de_var (pv 7))) da_nil)))) (dg_name (pg_name S.nd rfl (by first | exact Or.inl rfl | exact Or.inr rfl))) (dss_one (ds_if (dw_dt (dw_or (dt_not (dt_truth (de_cal (c__law_good T) hr (by decide) gd rfl (dm_v (de_var (pv 8)) (dm_v de_int dm_nil))))) (dw_or (dt_cmp (or_neX hu) (de_exgetF T.x_Blocked (de_var (pv 8))) (de_var (pv 7)) (nomark _)) (dw_or1 (dt_cmp (or_neX hu) (de_callTy (cr_strD gd hu) rfl T.z_str rfl (dp_cons (de_exgetF T.x_Blocked (de_var (pv 8))) dp_nil)) (de_callTy (cr_strD gd hu) rfl T.z_str rfl (dp_cons (de_var (pv 7)) dp_nil)) (nomark _)))))) (dss_one (ds_ret de_bool)) dss_nil)) pass_nox rfl)) pass_nox rfl) (dss_cons (ds_setN S.nd rfl (Or.inl rfl) (de_lst (da_cons (de_exl1F T.x_Blocked T.z_super hr rfl (de_var (pv 3))) (da_cons (de_exl1F T.x_Blocked T.z_super hr rfl de_str) (da_cons (de_exl0F T.x_Blocked T.z_super hr rfl) (da_cons (de_exl1F T.x_Blocked T.z_super hr rfl (de_dsp (dps_cons de_str (de_var (pv 3)) dps_nil) (by decide) (by decide) (by decide) rfl (by decide))) da_nil)))))) (dss_cons (ds_if (dt_cmp (or_neX hu) (de_lc (own := [("_law_row", 11)]) (di_anyW (de_var (pv 9))) (blkOk_by rfl) (fun _ _ _ _ _ => (dg_name (pg_name S.nd rfl (by first | exact Or.inl rfl | exact Or.inr rfl)))) (fun _ _ _ _ _ => dts_nil) (fun _ _ _ _ _ => (de_exgetF T.x_Blocked (de_var (pv 11)))) (by decide) rfl S.nd) (de_lst (da_cons (de_var (pv 3)) (da_cons de_str (da_cons de_none (da_cons (de_dsp (dps_cons de_str (de_var (pv 3)) dps_nil) (by decide) (by decide) (by decide) rfl (by decide)) da_nil))))) (nomark _)) (dss_one (ds_ret de_bool)) dss_nil) (dss_shrF T.x_Blocked T.z_super hr rfl S.nd rfl (Or.inl rfl) rfl (Or.inl rfl) (pv 10) (pv 10) (by decide) (de_var (pv 3)) (dss_cons (ds_if (dt_cmp (or_neX hu) (de_exgetF T.x_Blocked (de_var (pv 8))) (de_lst (da_cons (de_var (pv 3)) (da_cons de_none da_nil))) (nomark _)) (dss_one (ds_ret de_bool)) dss_nil) (dss_cons (ds_if (dt_cmp or_isNot (de_exgetF T.x_Blocked (de_exl0F T.x_Blocked T.z_super hr rfl)) de_none (nomark _)) (dss_one (ds_ret de_bool)) dss_nil) (dss_one (ds_for (di_anyW (de_lst (da_cons (de_new0F T.n_HoldError rfl) (da_cons (de_new1F T.n_HoldError rfl (de_var (pv 3))) da_nil)))) (dg_name (pg_name S.nd rfl (by first | exact Or.inl rfl | exact Or.inr rfl))) (dss_one (ds_if (dw_dt (dw_or (dt_not (dt_truth (de_isYB rfl T.z_isinstance rfl T.z_ValueError rfl T.i_ValueError (de_var (pv 8))))) (dw_or (dt_cmp (or_inH hu) de_bool (de_cal (c__law_kinds T) hr (by decide) gd rfl (dm_v (de_var (pv 8)) dm_nil)) (by with_unfolding_all rfl)) (dw_or1 (dt_truth (de_cal (c__law_foreign T) hr (by decide) gd rfl (dm_v (de_var (pv 8)) dm_nil))))))) (dss_one (ds_ret de_bool)) dss_nil)) pass_nox rfl)))))))))))) pass_nox rfl) (dss_one (ds_ret de_bool)))
end
end Pv.K72
end
section
set_option Elab.async false
set_option linter.all false
set_option autoImplicit false
set_option maxRecDepth 100000
set_option maxHeartbeats 2000000
namespace Pv.K72
open PySem L2 PySem.W Pv Pv.Pg Pv.Lw Pv.Ev
abbrev T17 : List D := [excD "InvalidBody", excD "InvalidBodies", excD "InvalidName", excD "InvalidNames", excD "InvalidWay", excD "InvalidEvents", excD "InvalidProfile", excD "InvalidProfiles", excD "InvalidGroup", excD "InvalidLocks", excD "InvalidFrame", excD "InvalidBook", excD "InvalidNumber", excD "InvalidText", excD "TooLarge", excD "Ended", excD "NothingToUndo"]
theorem made_D (w : D) : F__law_made [w] = some ((.tuple [.list T17, .list T17], false), []) := by kernel_rfl
theorem good_blk (d : D) : F__law_good [exlD "Blocked" "lock" d, .int 17] = some ((.bool true, false), []) := by kernel_rfl
abbrev fr (l : List D) (k o w : D) (c4 c5 c6 c7 c8 c9 : Option Cell) : Ro := [some (.scr l), some (.val k), some (.own o), some (.val w), c4, c5, c6, c7, c8, c9, none, none, none]
end Pv.K72
end
section
set_option Elab.async false
set_option linter.all false
set_option autoImplicit false
set_option maxRecDepth 100000
set_option maxHeartbeats 4000000
namespace Pv.K72
open PySem L2 PySem.W Pv Pv.Pg Pv.Lw Pv.Ev
theorem neX_sh {v : D} (h : SeqAt.shaped v = true) : neX v v = some (.bool false, false) := by
  have e := SeqAt.eqv_refl_plain v (PyData.plain_of_canLay0 _ (SeqAt.canLay_of_shaped h))
  have : neF v v = some (.bool false, false) := by
    unfold neF
    split
    · simp
    · rw [h, e]; rfl
  unfold neX
  rw [this]
theorem neX_d0 : neX (.dict []) (.dict []) = some (.bool false, false) := by kernel_rfl
structure Vl (v : D) (s : Str) : Prop where
  ne : neX v v = some (.bool false, false)
  st : strF [v] = some (.str s, false)
  nx : notX v = some v
theorem Vl.of {v : D} (h : OkV v) : Vl v (strVal v) := ⟨neX_sh h.shaped, by show (if showOk v = true then some (PyData.str (strVal v), false) else none) = _; rw [h.shown]; rfl, notX_of (by
  have := h.lay
  cases v <;> first | rfl | cases this)⟩
theorem neX_str (s : Str) : neX (.str s) (.str s) = some (.bool false, false) := by unfold neX neF; simp
theorem fld_D (v : D) : exF "Blocked" "lock" (exlD "Blocked" "lock" v) = some v := by
  have : (eqS "Blocked" "Blocked" && eqS "lock" "lock") = true := by kernel_rfl
  unfold exlD exF
  simp only [this, if_true]
theorem two_D {v : D} {s : Str} (h : Vl v s) (l : List D) (k o w : D) (c4 c5 c6 c9 : Option Cell) : L2_law (fr l k o w c4 c5 c6 (some (.val v)) (some (.val (exlD "Blocked" "lock" v))) c9) = some (.nx (fr l k o w c4 c5 c6 (some (.val v)) (some (.val (exlD "Blocked" "lock" v))) c9)) := by
  have h1 := h.ne
  have h2 := h.st
  have h3 := h.nx
  have h4 := neX_str s
  have h5 := good_blk v
  have h6 := fld_D v
  generalize exlD "Blocked" "lock" v = E at *
  simp -implicitDefEqProofs [h1, h2, h3, h4, h5, h6]
theorem pair_D {b : SemS} (v E : D) (l : List D) (k o w : D) (c4 c5 c6 c9 : Option Cell) (c8 : Option D) (hE : exlD "Blocked" "lock" v = E) (h2 : b (fr l k o w c4 c5 c6 (some (.val v)) (some (.val E)) c9) = some (.nx (fr l k o w c4 c5 c6 (some (.val v)) (some (.val E)) c9))) :
    sFor (iOf walkOf (sLst (sCons (sExl1 "Blocked" "lock" (sVar 7)) (sCons (sExl1 "Blocked" "lock" (sVar 7)) sNil)))) (gN 8) b (fr l k o w c4 c5 c6 (some (.val v)) (c8.map .val) c9) = some (.nx (fr l k o w c4 c5 c6 (some (.val v)) (some (.val E)) c9)) := by
  have z2 : (2 : Nat) ≤ sizeLine := by decide
  unfold fr at h2 ⊢
  cases c8 with
  | none => simp -implicitDefEqProofs [forL, h2, hE, z2]
  | some c => simp -implicitDefEqProofs [forL, h2, hE, z2]
theorem three_D {v : D} {s : Str} (h : Vl v s) (l : List D) (k o w : D) (c4 c5 c6 c9 : Option Cell) (c8 : Option D) : L3_law (fr l k o w c4 c5 c6 (some (.val v)) (c8.map .val) c9) = some (.nx (fr l k o w c4 c5 c6 (some (.val v)) (some (.val (exlD "Blocked" "lock" v))) c9)) :=
  pair_D v _ l k o w c4 c5 c6 c9 c8 rfl (two_D h l k o w c4 c5 c6 c9)
theorem vals_D {b : SemS} (g : D → D) (l : List D) (k o w : D) (c4 c5 c6 c9 : Option Cell) : ∀ (vs : List D) (c7 c8 : Option D), (∀ v ∈ vs, ∀ (c8 : Option D), b (fr l k o w c4 c5 c6 (some (.val v)) (c8.map .val) c9) = some (.nx (fr l k o w c4 c5 c6 (some (.val v)) (some (.val (g v))) c9))) → vs ≠ [] →
    ∃ v8 v7 : D, forL (gN 7) b vs (fr l k o w c4 c5 c6 (c7.map .val) (c8.map .val) c9) = some (.nx (fr l k o w c4 c5 c6 (some (.val v7)) (some (.val v8)) c9))
  | [], _, _, _, h => absurd rfl h
  | [v], c7, c8, hb, _ => by
    have := hb v List.mem_cons_self c8
    refine ⟨g v, v, ?_⟩
    unfold fr at this ⊢
    cases c7 with
    | none => cases c8 <;> simp_all -implicitDefEqProofs [forL]
    | some c => cases c8 <;> simp_all -implicitDefEqProofs [forL]
  | v :: u :: r, c7, c8, hb, _ => by
    have h1 := hb v List.mem_cons_self c8
    obtain ⟨v8, v7, h2⟩ := vals_D g l k o w c4 c5 c6 c9 (u :: r) (some v) (some (g v)) (fun x hx => hb x (List.mem_cons_of_mem _ hx)) (fun z => nomatch z)
    refine ⟨v8, v7, ?_⟩
    rw [← h2]
    have e : forL (gN 7) b (v :: u :: r) (fr l k o w c4 c5 c6 (c7.map .val) (c8.map .val) c9) = forL (gN 7) b (u :: r) (fr l k o w c4 c5 c6 (some (.val v)) (some (.val (g v))) c9) := by
      unfold fr at h1 ⊢
      generalize u :: r = q at *
      clear h2 hb
      cases c7 with
      | none => cases c8 <;> simp_all -implicitDefEqProofs [forL]
      | some c => cases c8 <;> simp_all -implicitDefEqProofs [forL]
    exact e
end Pv.K72
end
section
set_option Elab.async false
set_option linter.all false
set_option autoImplicit false
set_option maxRecDepth 100000
set_option maxHeartbeats 2000000
namespace Pv.Lw
open PySem L2 Pv Pv.Ev Pv.Pg
end Pv.Lw
end
section
set_option Elab.async false
set_option linter.all false
set_option autoImplicit false
set_option maxRecDepth 100000
set_option maxHeartbeats 1000000
namespace Pv.Ev
open PySem L2 Pv
section
variable (g : SemG) (t : SemT) (el kf : SemE) (vs : List Nat)
def ob (b : Bool) (d : D) : Option D := if b = true then some d else none
@[scoped simp] theorem ob_u {β : Type} (p : Prop) [Decidable p] (d : D) (ρ : β) : (if p then some (some d, ρ) else some (none, ρ)) = some (ob (decide p) d, ρ) := by
  unfold ob
  by_cases h : p <;> simp [h]
@[scoped simp] theorem ob_u' {β : Type} (p : Prop) [Decidable p] (d : D) (ρ : β) : (if p then some (none, ρ) else some (some d, ρ)) = some (ob (!decide p) d, ρ) := by
  unfold ob
  by_cases h : p <;> simp [h]
def lcP (d : D) (ρ : Ro) : Option (Option D × Ro) := bd (g d ρ) fun ρ1 => bd (t ρ1) fun x => if x.1 = true then bd (el x.2) fun y => bd (frz y.2 y.1) fun z => some (some z.1, wipeR z.2 vs) else some (none, wipeR x.2 vs)
@[scoped simp] theorem lcP_u (d : D) (ρ : Ro) : lcP g t el vs d ρ = bd (g d ρ) fun ρ1 => bd (t ρ1) fun x => if x.1 = true then bd (el x.2) fun y => bd (frz y.2 y.1) fun z => some (some z.1, wipeR z.2 vs) else some (none, wipeR x.2 vs) := rfl
def lcQ (d : D) (ρ : Ro) : Option (D × Ro) := bd (g d ρ) fun ρ1 => bd (el ρ1) fun y => bd (frz y.2 y.1) fun z => some (z.1, wipeR z.2 vs)
@[scoped simp] theorem lcQ_u (d : D) (ρ : Ro) : lcQ g el vs d ρ = bd (g d ρ) fun ρ1 => bd (el ρ1) fun y => bd (frz y.2 y.1) fun z => some (z.1, wipeR z.2 vs) := rfl
end
section
variable {g : SemG} {t : SemT} {el kf : SemE} {vs : List Nat} {ρ : Ro} {α : Type}
theorem bd_eq {α β : Type} {a : Option α} {f : α → Option β} {b : β} : bd a f = some b ↔ ∃ x, a = some x ∧ f x = some b := by
  unfold bd Bd; exact Option.bind_eq_some_iff
@[scoped simp] theorem fm_ob (p : α → Bool) (h : α → D) : ∀ xs : List α, xs.filterMap (fun x => ob (p x) (h x)) = (xs.filter p).map h
  | [] => rfl
  | x :: xs => by
    rw [List.filterMap_cons, List.filter_cons, fm_ob p h xs]
    cases e : p x <;> simp [ob]
end
@[scoped simp] theorem sz1 (n : Nat) (h : n ≤ 1000) : (n ≤ sizeLine) = True := eq_true (Nat.le_trans h (by decide))
@[scoped simp] theorem sz2 (n : Nat) (h : n ≤ 1000) : (n < sizeLine) = True := eq_true (Nat.lt_of_le_of_lt h (by decide))
@[scoped simp] theorem sz3 (n m : Nat) (h : n ≤ 1000) (k : m ≤ 1000) : (n + m ≤ sizeLine) = True := eq_true (Nat.le_trans (Nat.add_le_add h k) (by decide))
@[scoped simp] theorem sz4 (n m : Nat) (h : n ≤ 1000) (k : m ≤ 1000) : (n + m < sizeLine) = True := eq_true (Nat.lt_of_le_of_lt (Nat.add_le_add h k) (by decide))
section
variable {β : Type} (p : Prop) [Decidable p] (b c : Bool) (ρ : β)
@[scoped simp] theorem mg_v : (if p then some (Rv.val (.bool b), ρ) else some (Rv.val (.bool c), ρ)) = some (Rv.val (.bool (if p then b else c)), ρ) := by by_cases h : p <;> simp [h]
@[scoped simp] theorem mg_t : (if p then some (b, ρ) else some (c, ρ)) = some (if p then b else c, ρ) := by by_cases h : p <;> simp [h]
end
end Pv.Ev
end
section
set_option Elab.async false
set_option linter.all false
set_option autoImplicit false
set_option maxRecDepth 100000
set_option maxHeartbeats 1000000
namespace Pv.Ev
open PySem L2 Pv
section
variable {g : SemG} {b : SemS} {α σ : Type} {k : α → D}
def foP (g : SemG) (b : SemS) (d : D) (ρ : Ro) : Option Out := bd (g d ρ) b
@[scoped simp] theorem foP_u (g : SemG) (b : SemS) (d : D) (ρ : Ro) : foP g b d ρ = bd (g d ρ) b := rfl
theorem foP_some {d : D} {ρ : Ro} {o : Out} (h : foP g b d ρ = some o) : ∃ ρ1, g d ρ = some ρ1 ∧ b ρ1 = some o := bd_eq.mp h
theorem for_rel (R : σ → Ro → Prop) (st : σ → α → σ) : ∀ (xs : List α) (s : σ) (ρ : Ro), R s ρ → (∀ x ∈ xs, ∀ s ρ, R s ρ → ∃ ρ', foP g b (k x) ρ = some (.nx ρ') ∧ R (st s x) ρ') →
    ∃ ρ', forL g b (xs.map k) ρ = some (.nx ρ') ∧ R (xs.foldl st s) ρ'
  | [], s, ρ, r, _ => ⟨ρ, rfl, r⟩
  | x :: xs, s, ρ, r, H => by
    obtain ⟨ρ1, e, r1⟩ := H x List.mem_cons_self s ρ r
    obtain ⟨ρ2, e1, e2⟩ := foP_some e
    simp only [List.map_cons, forL, e1, e2, Option.bind_some]
    exact for_rel R st xs _ ρ1 r1 fun y hy => H y (List.mem_cons_of_mem _ hy)
theorem for_inv (R : Ro → Prop) (xs : List α) (ρ : Ro) (r : R ρ) (H : ∀ x ∈ xs, ∀ ρ, R ρ → ∃ ρ', foP g b (k x) ρ = some (.nx ρ') ∧ R ρ') :
    ∃ ρ', forL g b (xs.map k) ρ = some (.nx ρ') ∧ R ρ' := for_rel (σ := Unit) (fun _ => R) (fun s _ => s) xs () ρ r fun x hx _ ρ r => H x hx ρ r
end
section
variable {g : SemG} {el : SemE} {vs : List Nat} {α β : Type} {k : α → D} {f : β → D}
end
section
variable {g g1 : SemG} {t t1 : SemT} {it1 : SemI} {el : SemE} {vs vs1 : List Nat} {ρ : Ro} {α : Type}
def lcI (g : SemG) (it1 : SemI) (g1 : SemG) (t1 : SemT) (el : SemE) (vs vs1 : List Nat) (n : Nat) (d : D) (ρ : Ro) : Option (List D × Ro) :=
  bd (g d ρ) fun ρ1 => bd (it1 ρ1) fun x => if clearAt x.2 vs1 = true then bd (lcL g1 t1 el vs1 x.1 n x.2) fun y => some (y.1, wipeR y.2 vs) else none
@[scoped simp] theorem lcI_u (n : Nat) (d : D) : lcI g it1 g1 t1 el vs vs1 n d ρ = bd (g d ρ) fun ρ1 => bd (it1 ρ1) fun x => if clearAt x.2 vs1 = true then bd (lcL g1 t1 el vs1 x.1 n x.2) fun y => some (y.1, wipeR y.2 vs) else none := rfl
end
end Pv.Ev
end
section
set_option Elab.async false
set_option linter.all false
set_option autoImplicit false
set_option maxRecDepth 100000
set_option maxHeartbeats 4000000
namespace Pv.K72
open PySem L2 PySem.W Pv Pv.Pg Pv.Lw Pv.Ev
theorem seq_nx {a b : SemS} {ρ ρ1 : Ro} {o : Option Out} (h1 : a ρ = some (.nx ρ1)) (h2 : b ρ1 = o) : sSeq a b ρ = o := by
  unfold sSeq
  rw [h1]
  exact h2
theorem four_D (l : List D) (k o w : D) (c7 c9 : Option Cell) (c8 : Option D) : L4_law (fr l k o w (some (.val (.list T17))) (some (.val (.list T17))) (some (.val (.list T17))) c7 (c8.map .val) c9) = some (.nx (fr l k o w (some (.val (.list T17))) (some (.val (.list T17))) (some (.val (.list T17))) c7 (c8.map .val) c9)) := by
  cases c8 with
  | none => kernel_rfl
  | some c => kernel_rfl
theorem both_D {b : SemS} (T : List D) (l : List D) (k o w : D) (c7 c8 c9 : Option Cell) (c6 : Option D) (h : b (fr l k o w (some (.val (.list T))) (some (.val (.list T))) (some (.val (.list T))) c7 c8 c9) = some (.nx (fr l k o w (some (.val (.list T))) (some (.val (.list T))) (some (.val (.list T))) c7 c8 c9))) :
    sFor (iOf walkOf (sTup (sCons (sVar 4) (sCons (sVar 5) sNil)))) (gN 6) b (fr l k o w (some (.val (.list T))) (some (.val (.list T))) (c6.map .val) c7 c8 c9) = some (.nx (fr l k o w (some (.val (.list T))) (some (.val (.list T))) (some (.val (.list T))) c7 c8 c9)) := by
  have z2 : (2 : Nat) ≤ sizeLine := by decide
  unfold fr at h ⊢
  cases c6 with
  | none => simp -implicitDefEqProofs [forL, h, z2]
  | some c => simp -implicitDefEqProofs [forL, h, z2]
theorem pow30 : powF (.int 10) (.int 30) = some (.int (10 ^ 30), false) := rfl
def nine (u : Str) (n B : Int) : List D := [.str u, .none, .int n, .tuple [.str "a", .str u], .list [.str u], .bool true, .dict [], .str "", .int B]
theorem nine_D {b : SemS} (x B : Int) (p : powF (.int 10) (.int 30) = some (.int B, false)) (u : Str) (l : List D) (k : D) (c4 c5 c6 c7 c8 c9 : Option Cell) :
    sFor (iOf walkOf (sLst (sCons (sVar 3) (sCons (sC .none) (sCons (sCall [.r, .v] F__law_take (mR (sVar 2) (mV (sC (.int 1000)) mNil))) (sCons (sTup (sCons (sC (.str "a")) (sCons (sVar 3) sNil))) (sCons (sLst (sCons (sVar 3) sNil)) (sCons (sC (.bool true)) (sCons sDct0 (sCons (sC (.str "")) (sCons (sOp powF (sC (.int 10)) (sC (.int 30))) sNil))))))))))) (gN 7) b (fr l k (.list [.int x]) (.str u) c4 c5 c6 c7 c8 c9) =
      forL (gN 7) b (nine u (x % 1000) B) (fr l k (.list [.int (x / 1000)]) (.str u) c4 c5 c6 c7 c8 c9) := by
  have t := take_D x 1000 (by decide) (by decide)
  have z9 : (9 : Nat) ≤ sizeLine := by decide
  have z2 : (2 : Nat) ≤ sizeLine := by decide
  have z1 : (1 : Nat) ≤ sizeLine := by decide
  unfold nine fr
  simp -implicitDefEqProofs [t, z9, z2, z1, p]
abbrev E (d : D) : D := exlD "Blocked" "lock" d
theorem rows_D (l : List D) (k o : D) (u : Str) (c4 c5 c6 c7 c8 : Option Cell) (c9 : Option D) :
    sSet 9 (sLst (sCons (sExl1 "Blocked" "lock" (sVar 3)) (sCons (sExl1 "Blocked" "lock" (sC (.str "b"))) (sCons (sExl0 "Blocked" "lock") (sCons (sExl1 "Blocked" "lock" (sDsp [((sC (.str "a")), (sVar 3))])) sNil))))) (fr l k o (.str u) c4 c5 c6 c7 c8 (c9.map .val)) =
      some (.nx (fr l k o (.str u) c4 c5 c6 c7 c8 (some (.own (.list [E (.str u), E (.str "b"), E .none, E (.dict [(.str "a", .str u)])]))))) := by
  cases c9 with
  | none => kernel_rfl
  | some c => kernel_rfl
theorem rows_ne {u : Str} (h : SeqAt.shaped (.str u) = true) : neX (.list [.str u, .str "b", .none, .dict [(.str "a", .str u)]]) (.list [.str u, .str "b", .none, .dict [(.str "a", .str u)]]) = some (.bool false, false) := by
  have e := SeqAt.eqv_refl_plain (.str u) (PyData.plain_of_canLay0 _ (SeqAt.canLay_of_shaped h))
  have e1 : eqE (.str u) (.str u) = some true := by
    show (if (SeqAt.shaped (.str u) && SeqAt.shaped (.str u)) = true then some (PyData.eqv (.str u) (.str u)) else none) = _
    rw [h, e]; rfl
  have e2 : eqE (.str "b") (.str "b") = some true := by kernel_rfl
  have e3 : eqE .none .none = some true := by kernel_rfl
  have dh : dEqB [(PyData.str "a", PyData.str u)] [(PyData.str "a", PyData.str u)] = true := by
    have g : dget [(PyData.str "a", PyData.str u)] (.inr "a") = some (.str u) := by kernel_rfl
    have kk : keyOf (.str "a") = some (.inr "a") := rfl
    simp [dEqB, dhit, kk, g, e]
  have e4 : eqE (.dict [(.str "a", .str u)]) (.dict [(.str "a", .str u)]) = some true := by
    unfold eqE
    simp [h, dh]
  have r : eqEs [.str u, .str "b", .none, .dict [(.str "a", .str u)]] [.str u, .str "b", .none, .dict [(.str "a", .str u)]] = some true := by
    simp [eqEs, e1, e2, e3, e4]
  have n1 : neF (.list [.str u, .str "b", .none, .dict [(.str "a", .str u)]]) (.list [.str u, .str "b", .none, .dict [(.str "a", .str u)]]) = none := by
    have : SeqAt.shaped (.list [.str u, .str "b", .none, .dict [(.str "a", .str u)]]) = false := by simp [SeqAt.shaped, PyData.canLay0, PyData.canLayAll0]
    unfold neF
    simp [this]
  have n2 : neF0 (.list [.str u, .str "b", .none, .dict [(.str "a", .str u)]]) (.list [.str u, .str "b", .none, .dict [(.str "a", .str u)]]) = none := rfl
  unfold neX
  rw [n1, n2]
  show (eqEs _ _).bind _ = _
  rw [r]
  rfl
theorem cmp_D (l : List D) (k o : D) (u : Str) (h : SeqAt.shaped (.str u) = true) (c4 c5 c6 c7 c8 : Option Cell) :
    sIfS (sTest (sOp neX (sLc (gN 11) sYes (sFld "Blocked" "lock" (sVar 11)) [11] (iOf walkOf (sVar 9))) (sLst (sCons (sVar 3) (sCons (sC (.str "b")) (sCons (sC .none) (sCons (sDsp [((sC (.str "a")), (sVar 3))]) sNil))))))) (sRet (sC (.bool false))) sNx (fr l k o (.str u) c4 c5 c6 c7 c8 (some (.own (.list [E (.str u), E (.str "b"), E .none, E (.dict [(.str "a", .str u)])])))) =
      some (.nx (fr l k o (.str u) c4 c5 c6 c7 c8 (some (.val (.list [E (.str u), E (.str "b"), E .none, E (.dict [(.str "a", .str u)])]))))) := by
  have r := rows_ne h
  have f1 := fld_D (.str u)
  have f2 := fld_D (.str "b")
  have f3 := fld_D .none
  have f4 := fld_D (.dict [(.str "a", .str u)])
  have a1 : sLc (gN 11) sYes (sFld "Blocked" "lock" (sVar 11)) [11] (iOf walkOf (sVar 9)) (fr l k o (.str u) c4 c5 c6 c7 c8 (some (.own (.list [E (.str u), E (.str "b"), E .none, E (.dict [(.str "a", .str u)])])))) = some (.fr (.list [.str u, .str "b", .none, .dict [(.str "a", .str u)]]), fr l k o (.str u) c4 c5 c6 c7 c8 (some (.val (.list [E (.str u), E (.str "b"), E .none, E (.dict [(.str "a", .str u)])])))) := by kernel_rfl
  have a2 : ∀ c9, sLst (sCons (sVar 3) (sCons (sC (.str "b")) (sCons (sC .none) (sCons (sDsp [((sC (.str "a")), (sVar 3))]) sNil)))) (fr l k o (.str u) c4 c5 c6 c7 c8 c9) = some (.fr (.list [.str u, .str "b", .none, .dict [(.str "a", .str u)]]), fr l k o (.str u) c4 c5 c6 c7 c8 c9) := fun c9 => by kernel_rfl
  generalize sLc (gN 11) sYes (sFld "Blocked" "lock" (sVar 11)) [11] (iOf walkOf (sVar 9)) = S1 at *
  generalize sLst (sCons (sVar 3) (sCons (sC (.str "b")) (sCons (sC .none) (sCons (sDsp [((sC (.str "a")), (sVar 3))]) sNil)))) = S2 at *
  simp -implicitDefEqProofs [a1, a2, r]
theorem shr_D (l : List D) (k o : D) (u : Str) (c4 c5 c6 c7 c9 : Option Cell) (c8 : Option D) :
    sShr 10 8 "Blocked" "lock" (sVar 3) (fr l k o (.str u) c4 c5 c6 c7 (c8.map .val) c9) = some (.nx (fr l k o (.str u) c4 c5 c6 c7 (some (.val (E (.list [.str u, .none])))) c9)) := by
  cases c8 with
  | none => kernel_rfl
  | some c => kernel_rfl
theorem shr_cmp (l : List D) (k o : D) (u : Str) (h : SeqAt.shaped (.list [.str u, .none]) = true) (c4 c5 c6 c7 c9 : Option Cell) :
    sIfS (sTest (sOp neX (sFld "Blocked" "lock" (sVar 8)) (sLst (sCons (sVar 3) (sCons (sC .none) sNil))))) (sRet (sC (.bool false))) sNx (fr l k o (.str u) c4 c5 c6 c7 (some (.val (E (.list [.str u, .none])))) c9) =
      some (.nx (fr l k o (.str u) c4 c5 c6 c7 (some (.val (E (.list [.str u, .none])))) c9)) := by
  have r := neX_sh h
  have a1 : sFld "Blocked" "lock" (sVar 8) (fr l k o (.str u) c4 c5 c6 c7 (some (.val (E (.list [.str u, .none])))) c9) = some (.val (.list [.str u, .none]), fr l k o (.str u) c4 c5 c6 c7 (some (.val (E (.list [.str u, .none])))) c9) := by kernel_rfl
  have a2 : ∀ c8, sLst (sCons (sVar 3) (sCons (sC .none) sNil)) (fr l k o (.str u) c4 c5 c6 c7 c8 c9) = some (.fr (.list [.str u, .none]), fr l k o (.str u) c4 c5 c6 c7 c8 c9) := fun c8 => by kernel_rfl
  generalize sFld "Blocked" "lock" (sVar 8) = S1 at *
  generalize sLst (sCons (sVar 3) (sCons (sC .none) sNil)) = S2 at *
  simp -implicitDefEqProofs [a1, a2, r]
theorem none_D (l : List D) (k o w : D) (c4 c5 c6 c7 c8 c9 : Option Cell) :
    sIfS (sTest (sOp isNotF (sFld "Blocked" "lock" (sExl0 "Blocked" "lock")) (sC .none))) (sRet (sC (.bool false))) sNx (fr l k o w c4 c5 c6 c7 c8 c9) = some (.nx (fr l k o w c4 c5 c6 c7 c8 c9)) := by kernel_rfl
theorem one_D (l : List D) (k o w : D) (c4 c5 c6 c7 c9 : Option Cell) : L1_law (fr l k o w c4 c5 c6 c7 (some (.val (excD "HoldError"))) c9) = some (.nx (fr l k o w c4 c5 c6 c7 (some (.val (excD "HoldError"))) c9)) := by kernel_rfl
theorem holds_D {b : SemS} (l : List D) (k o w : D) (c4 c5 c6 c7 c9 : Option Cell) (c8 : Option D) (X : D) (hX : excD "HoldError" = X) (h : b (fr l k o w c4 c5 c6 c7 (some (.val X)) c9) = some (.nx (fr l k o w c4 c5 c6 c7 (some (.val X)) c9))) :
    sFor (iOf walkOf (sLst (sCons (sNew0 "HoldError") (sCons (sNew1 "HoldError" (sVar 3)) sNil)))) (gN 8) b (fr l k o w c4 c5 c6 c7 (c8.map .val) c9) = some (.nx (fr l k o w c4 c5 c6 c7 (some (.val X)) c9)) := by
  have z2 : (2 : Nat) ≤ sizeLine := by decide
  unfold fr at h ⊢
  cases c8 with
  | none => simp -implicitDefEqProofs [forL, h, hX, z2]
  | some c => simp -implicitDefEqProofs [forL, h, hX, z2]
end Pv.K72
end
section
set_option Elab.async false
set_option linter.all false
set_option autoImplicit false
set_option maxRecDepth 100000
set_option maxHeartbeats 4000000
namespace Pv.K72
open PySem L2 PySem.W Pv Pv.Pg Pv.Lw Pv.Ev
def okW (u : Str) : Bool := okVB (.str u) && okVB (.tuple [.str "a", .str u]) && okVB (.list [.str u]) && okVB (.list [.str u, .none])
def lockW (w : Str) : Str := "a lock: " ++ w
theorem lock_ok : ∀ w ∈ W, okW (lockW w) = true := by decide +kernel
theorem lock_len : ∀ w ∈ W, (("a lock: " : Str).length + w.length ≤ sizeLine) := by decide +kernel
theorem lock_add {w : Str} (hw : w ∈ W) : addF (.str "a lock: ") (.str w) = some (.str (lockW w), false) := if_pos (lock_len w hw)
theorem word_D {w : Str} (hw : w ∈ W) (NS : List D) (k : D) (x x1 : Int) (h : F__law_words [.list [.int x], .int 1] = some ((.list [.str w], true), [.list [.int x1]])) (c3 : Option D) (c4 c5 c6 c7 c8 c9 : Option Cell) :
    sSet 3 (sOp addF (sC (.str "a lock: ")) (sOp ixG (sCall [.r, .v] F__law_words (mR (sVar 2) (mV (sC (.int 1)) mNil))) (sC (.int 0)))) [some (.scr NS), some (.val k), some (.own (.list [.int x])), c3.map .val, c4, c5, c6, c7, c8, c9, none, none, none] =
      some (.nx (fr NS k (.list [.int x1]) (.str (lockW w)) c4 c5 c6 c7 c8 c9)) := by
  have a := lock_add hw
  have a0 : atI [PyData.str w] 0 = some (.str w) := rfl
  unfold fr
  cases c3 with
  | none => simp -implicitDefEqProofs [h, a, a0]
  | some c => simp -implicitDefEqProofs [h, a, a0]
theorem cell_S (ns : List Int) (k : Nat) (x : Int) (hx : F__law_cell [.list (ns.map .int), .int k] = some ((.int x, false), [])) (c2 : Option D) (c3 c4 c5 c6 c7 c8 c9 : Option Cell) :
    sSet 2 (sLst (sCons (sCall [.s, .v] F__law_cell (mS 0 (mV (sVar 1) mNil))) sNil)) [some (.scr (ns.map .int)), some (.val (.int (k : Nat))), c2.map .own, c3, c4, c5, c6, c7, c8, c9, none, none, none] =
      some (.nx [some (.scr (ns.map .int)), some (.val (.int (k : Nat))), some (.own (.list [.int x])), c3, c4, c5, c6, c7, c8, c9, none, none, none]) := by
  have z1 : (1 : Nat) ≤ sizeLine := by decide
  generalize ns.map PyData.int = NS at *
  cases c2 with
  | none => simp -implicitDefEqProofs [hx, z1]
  | some c => simp -implicitDefEqProofs [hx, z1]
theorem asg_D (l : List D) (k o w : D) (c4 c5 : Option D) (c6 c7 c8 c9 : Option Cell) :
    sAsg (sCall [.v] F__law_made (mV (sVar 3) mNil)) (gT 2 (gsCons (gN 4) (gsCons (gN 5) gsNil))) (fr l k o w (c4.map .val) (c5.map .val) c6 c7 c8 c9) = some (.nx (fr l k o w (some (.val (.list T17))) (some (.val (.list T17))) c6 c7 c8 c9)) := by
  have h := made_D w
  generalize T17 = T at *
  unfold fr
  cases c4 <;> cases c5 <;> simp -implicitDefEqProofs [h]
theorem int_ok : ∀ i : Nat, i < 1000 → okVB (.int (i : Nat)) = true := by decide +kernel
theorem vl_int (n : Int) (h0 : 0 ≤ n) (h1 : n < 1000) : Vl (.int n) (strVal (.int n)) := by
  have : okVB (.int n) = true := by
    obtain ⟨m, rfl⟩ := Int.eq_ofNat_of_zero_le h0
    exact int_ok m (by omega)
  exact .of (.ofB this)
theorem vl_big : Vl (.int (10 ^ 30)) (strVal (.int (10 ^ 30))) := ⟨neX_sh rfl, by kernel_rfl, rfl⟩
theorem vl_d0 : Vl (.dict []) (strVal (.dict [])) := ⟨neX_d0, by kernel_rfl, rfl⟩
theorem vals9 {u : Str} (hu : okW u = true) (n : Int) (h0 : 0 ≤ n) (h1 : n < 1000) : ∀ v ∈ nine u n (10 ^ 30), ∃ s, Vl v s := by
  unfold okW at hu
  simp only [Bool.and_eq_true] at hu
  obtain ⟨⟨⟨u1, u2⟩, u3⟩, _⟩ := hu
  intro v hv
  unfold nine at hv
  rcases List.mem_cons.mp hv with rfl | hv
  · exact ⟨_, .of (.ofB u1)⟩
  rcases List.mem_cons.mp hv with rfl | hv
  · exact ⟨_, .of (.ofB rfl)⟩
  rcases List.mem_cons.mp hv with rfl | hv
  · exact ⟨_, vl_int n h0 h1⟩
  rcases List.mem_cons.mp hv with rfl | hv
  · exact ⟨_, .of (.ofB u2)⟩
  rcases List.mem_cons.mp hv with rfl | hv
  · exact ⟨_, .of (.ofB u3)⟩
  rcases List.mem_cons.mp hv with rfl | hv
  · exact ⟨_, .of (.ofB rfl)⟩
  rcases List.mem_cons.mp hv with rfl | hv
  · exact ⟨_, vl_d0⟩
  rcases List.mem_cons.mp hv with rfl | hv
  · exact ⟨_, .of (.ofB (by decide +kernel))⟩
  rcases List.mem_cons.mp hv with rfl | hv
  · exact ⟨_, vl_big⟩
  cases hv
abbrev f0 (NS : List D) (c1 c2 c3 c4 c5 c6 c7 c8 c9 : Option D) : Ro := [some (.scr NS), c1.map .val, c2.map .own, c3.map .val, c4.map .val, c5.map .val, c6.map .val, c7.map .val, c8.map .val, c9.map .val, none, none, none]
theorem turn_D (ns : List Int) (k : Nat) (hk : k < 1000) (c2 c3 c4 c5 c6 c7 c8 c9 : Option D) :
    ∃ d2 d3 d4 d5 d6 d7 d8 d9 : Option D, L5_law (f0 (ns.map .int) (some (.int (k : Nat))) c2 c3 c4 c5 c6 c7 c8 c9) = some (.nx (f0 (ns.map .int) (some (.int (k : Nat))) d2 d3 d4 d5 d6 d7 d8 d9)) := by
  obtain ⟨x, hx⟩ := cell_D ns k hk
  obtain ⟨x1, ws, w1, w2, w3, w4⟩ := words_D x 1 (by omega)
  obtain ⟨w, rfl⟩ := List.length_eq_one_iff.mp w2
  have hw : w ∈ W := w4 w List.mem_cons_self
  have w1 : F__law_words [.list [.int x], .int 1] = some ((.list [.str w], true), [.list [.int x1]]) := w1
  have ho := lock_ok w hw
  have v9 := vals9 ho (x1 % 1000) (Int.emod_nonneg _ (by decide)) (Int.emod_lt_of_pos _ (by decide))
  have so : SeqAt.shaped (.str (lockW w)) = true ∧ SeqAt.shaped (.list [.str (lockW w), .none]) = true := by
    unfold okW at ho
    simp only [Bool.and_eq_true] at ho
    exact ⟨(OkV.ofB ho.1.1.1).shaped, (OkV.ofB ho.2).shaped⟩
  obtain ⟨v8, v7, nn⟩ := vals_D (b := L3_law) E (ns.map .int) (.int (k : Nat)) (.list [.int (x1 / 1000)]) (.str (lockW w)) (some (.val (.list T17))) (some (.val (.list T17))) (some (.val (.list T17))) (c9.map .val) (nine (lockW w) (x1 % 1000) (10 ^ 30)) c7 c8
    (fun v hv c8 => by
      obtain ⟨s, hs⟩ := v9 v hv
      exact three_D hs _ _ _ _ _ _ _ _ c8) (by simp [nine])
  have n9 := nine_D (b := L3_law) x1 (10 ^ 30) pow30 (lockW w) (ns.map .int) (.int (k : Nat)) (some (.val (.list T17))) (some (.val (.list T17))) (some (.val (.list T17))) (c7.map .val) (c8.map .val) (c9.map .val)
  refine ⟨some (.list [.int (x1 / 1000)]), some (.str (lockW w)), some (.list T17), some (.list T17), some (.list T17), some v7, some (excD "HoldError"), some (.list [E (.str (lockW w)), E (.str "b"), E .none, E (.dict [(.str "a", .str (lockW w))])]), ?_⟩
  refine seq_nx (cell_S ns k x hx c2 _ _ _ _ _ _ _) ?_
  refine seq_nx (word_D hw _ _ x x1 w1 c3 _ _ _ _ _ _) ?_
  refine seq_nx (asg_D _ _ _ _ c4 c5 _ _ _ _) ?_
  refine seq_nx (both_D T17 _ _ _ _ _ _ _ c6 (four_D _ _ _ _ _ _ c8)) ?_
  refine seq_nx (n9.trans nn) ?_
  refine seq_nx (rows_D _ _ _ _ _ _ _ _ _ c9) ?_
  refine seq_nx (cmp_D _ _ _ _ so.1 _ _ _ _ _) ?_
  refine seq_nx (shr_D _ _ _ _ _ _ _ _ _ (some v8)) ?_
  refine seq_nx (shr_cmp _ _ _ _ so.2 _ _ _ _ _) ?_
  refine seq_nx (none_D _ _ _ _ _ _ _ _ _ _) ?_
  exact holds_D _ _ _ _ _ _ _ _ _ (some (E (.list [.str (lockW w), .none]))) _ rfl (one_D _ _ _ _ _ _ _ _ _)
theorem turns (ns : List Int) : ∃ N : Nat, (if (1 : Int) > (if (5 : Int) < ns.length then 5 else (ns.length : Int)) then 1 else (if (5 : Int) < ns.length then 5 else (ns.length : Int))) = N ∧ N ≤ 5 := by
  by_cases h1 : (5 : Int) < ns.length
  · exact ⟨5, by simp [h1], by omega⟩
  · by_cases h2 : (1 : Int) > ns.length
    · exact ⟨1, by simp [h1, h2], by omega⟩
    · exact ⟨ns.length, by simp only [h1, if_false, h2], by omega⟩
theorem step_D (ns : List Int) (k : Nat) (hk : k < 1000) (b : SemS) (hb : ∀ c2 c3 c4 c5 c6 c7 c8 c9 : Option D, ∃ d2 d3 d4 d5 d6 d7 d8 d9 : Option D, b (f0 (ns.map .int) (some (.int (k : Nat))) c2 c3 c4 c5 c6 c7 c8 c9) = some (.nx (f0 (ns.map .int) (some (.int (k : Nat))) d2 d3 d4 d5 d6 d7 d8 d9)))
    (c1 c2 c3 c4 c5 c6 c7 c8 c9 : Option D) : ∃ d2 d3 d4 d5 d6 d7 d8 d9 : Option D, foP (gN 1) b (.int (k : Nat)) (f0 (ns.map .int) c1 c2 c3 c4 c5 c6 c7 c8 c9) = some (.nx (f0 (ns.map .int) (some (.int (k : Nat))) d2 d3 d4 d5 d6 d7 d8 d9)) := by
  obtain ⟨d2, d3, d4, d5, d6, d7, d8, d9, h⟩ := hb c2 c3 c4 c5 c6 c7 c8 c9
  refine ⟨d2, d3, d4, d5, d6, d7, d8, d9, ?_⟩
  rw [← h]
  generalize ns.map PyData.int = NS at *
  have e : gN 1 (.int (k : Nat)) (f0 NS c1 c2 c3 c4 c5 c6 c7 c8 c9) = some (f0 NS (some (.int (k : Nat))) c2 c3 c4 c5 c6 c7 c8 c9) := by
    unfold f0
    cases c1 <;> simp -implicitDefEqProofs
  unfold foP
  rw [e]
  simp [h]
theorem plain_law : ∀ ns : List Int, ns.length ≤ 63 → (∀ z ∈ ns, Builtin.Int.intBits z ≤ 1048576) → F_law [.list (ns.map PyData.int)] = some ((.bool true, false), []) := by
  intro ns hns _
  obtain ⟨N, eN, hN⟩ := turns ns
  have sN : small62 (N : Int) = true := small_of N (by omega)
  obtain ⟨ρ', L, c1, c2, c3, c4, c5, c6, c7, c8, c9, rfl⟩ := for_inv (g := gN 1) (b := L5_law) (k := fun i : Nat => PyData.int ((0 : Int) + i)) (fun ρ => ∃ (c1 c2 c3 c4 c5 c6 c7 c8 c9 : Option D), ρ = f0 (ns.map .int) c1 c2 c3 c4 c5 c6 c7 c8 c9)
    (List.range N) (f0 (ns.map .int) none none none none none none none none none) ⟨none, none, none, none, none, none, none, none, none, rfl⟩ (fun i hi ρ hρ => by
      obtain ⟨c1, c2, c3, c4, c5, c6, c7, c8, c9, rfl⟩ := hρ
      have hi := List.mem_range.mp hi
      obtain ⟨d2, d3, d4, d5, d6, d7, d8, d9, st⟩ := step_D ns i (by omega) L5_law (turn_D ns i (by omega)) c1 c2 c3 c4 c5 c6 c7 c8 c9
      rw [Int.zero_add]
      exact ⟨_, st, _, d2, d3, d4, d5, d6, d7, d8, d9, rfl⟩)
  have L : forL (gN 1) L5_law (rng 0 N) [some (.scr (ns.map .int)), none, none, none, none, none, none, none, none, none, none, none, none] = _ := L
  have bk : backsOf [Md.s] (f0 (ns.map .int) c1 c2 c3 c4 c5 c6 c7 c8 c9) = some [] := rfl
  unfold F_law b_law
  generalize L5_law = B at *
  unfold f0 at *
  simp -implicitDefEqProofs [eN, sN, ↓L, bk]
end Pv.K72
end
section
set_option Elab.async false
set_option linter.all false
set_option maxRecDepth 100000
namespace Pv.K72
open PySem PySem.Spec PyProof.Rows L2 PySem.W Pv Pv.Pg Pv.Lw Pv.Si
theorem tops {P : Program} {K : Fr'} {h : Heap} {mg : Str → Option Value} (X : K.In h) (G : h.Ns mainGlobals mg)
    {f1 : Addr} {od1 an1 : Option Addr} {sl1 : Array (Option Value)} {oc1 kV1 dc1 pm1 cd1 ct1 : Value} (a1 : PySem.W.nsIn K mainGlobals "_law_mixed" = some (some (.ref f1)))
    (l1 : K.lookup f1 = some ⟨oc1, od1, .func (PySem.W.fnOf "_law_mixed" "_law_mixed" (defArgs (top 21)) (defBody (top 21)) (defScope (top 21)) .none kV1 dc1 pm1 an1 cd1 ct1), sl1⟩) (c1 : PySem.W.codeIn K cd1 "_law_mixed" = true) (k1 : PySem.W.keepIn K (.ref f1) = true)
    {f2 : Addr} {od2 an2 : Option Addr} {sl2 : Array (Option Value)} {oc2 kV2 dc2 pm2 cd2 ct2 : Value} (a2 : PySem.W.nsIn K mainGlobals "_law_cell" = some (some (.ref f2)))
    (l2 : K.lookup f2 = some ⟨oc2, od2, .func (PySem.W.fnOf "_law_cell" "_law_cell" (defArgs (top 22)) (defBody (top 22)) (defScope (top 22)) .none kV2 dc2 pm2 an2 cd2 ct2), sl2⟩) (c2 : PySem.W.codeIn K cd2 "_law_cell" = true) (k2 : PySem.W.keepIn K (.ref f2) = true)
    {f3 : Addr} {od3 an3 : Option Addr} {sl3 : Array (Option Value)} {oc3 kV3 dc3 pm3 cd3 ct3 : Value} (a3 : PySem.W.nsIn K mainGlobals "_law_take" = some (some (.ref f3)))
    (l3 : K.lookup f3 = some ⟨oc3, od3, .func (PySem.W.fnOf "_law_take" "_law_take" (defArgs (top 23)) (defBody (top 23)) (defScope (top 23)) .none kV3 dc3 pm3 an3 cd3 ct3), sl3⟩) (c3 : PySem.W.codeIn K cd3 "_law_take" = true) (k3 : PySem.W.keepIn K (.ref f3) = true)
    {f4 : Addr} {od4 an4 : Option Addr} {sl4 : Array (Option Value)} {oc4 kV4 dc4 pm4 cd4 ct4 : Value} (a4 : PySem.W.nsIn K mainGlobals "_law_words" = some (some (.ref f4)))
    (l4 : K.lookup f4 = some ⟨oc4, od4, .func (PySem.W.fnOf "_law_words" "_law_words" (defArgs (top 24)) (defBody (top 24)) (defScope (top 24)) .none kV4 dc4 pm4 an4 cd4 ct4), sl4⟩) (c4 : PySem.W.codeIn K cd4 "_law_words" = true) (k4 : PySem.W.keepIn K (.ref f4) = true)
    {f5 : Addr} {od5 an5 : Option Addr} {sl5 : Array (Option Value)} {oc5 kV5 dc5 pm5 cd5 ct5 : Value} (a5 : PySem.W.nsIn K mainGlobals "_law_made" = some (some (.ref f5)))
    (l5 : K.lookup f5 = some ⟨oc5, od5, .func (PySem.W.fnOf "_law_made" "_law_made" (defArgs (top 25)) (defBody (top 25)) (defScope (top 25)) .none kV5 dc5 pm5 an5 cd5 ct5), sl5⟩) (c5 : PySem.W.codeIn K cd5 "_law_made" = true) (k5 : PySem.W.keepIn K (.ref f5) = true)
    {f6 : Addr} {od6 an6 : Option Addr} {sl6 : Array (Option Value)} {oc6 kV6 dc6 pm6 cd6 ct6 : Value} (a6 : PySem.W.nsIn K mainGlobals "_law_kinds" = some (some (.ref f6)))
    (l6 : K.lookup f6 = some ⟨oc6, od6, .func (PySem.W.fnOf "_law_kinds" "_law_kinds" (defArgs (top 26)) (defBody (top 26)) (defScope (top 26)) .none kV6 dc6 pm6 an6 cd6 ct6), sl6⟩) (c6 : PySem.W.codeIn K cd6 "_law_kinds" = true) (k6 : PySem.W.keepIn K (.ref f6) = true)
    {f7 : Addr} {od7 an7 : Option Addr} {sl7 : Array (Option Value)} {oc7 kV7 dc7 pm7 cd7 ct7 : Value} (a7 : PySem.W.nsIn K mainGlobals "_law_foreign" = some (some (.ref f7)))
    (l7 : K.lookup f7 = some ⟨oc7, od7, .func (PySem.W.fnOf "_law_foreign" "_law_foreign" (defArgs (top 27)) (defBody (top 27)) (defScope (top 27)) .none kV7 dc7 pm7 an7 cd7 ct7), sl7⟩) (c7 : PySem.W.codeIn K cd7 "_law_foreign" = true) (k7 : PySem.W.keepIn K (.ref f7) = true)
    {f8 : Addr} {od8 an8 : Option Addr} {sl8 : Array (Option Value)} {oc8 kV8 dc8 pm8 cd8 ct8 : Value} (a8 : PySem.W.nsIn K mainGlobals "_law_good" = some (some (.ref f8)))
    (l8 : K.lookup f8 = some ⟨oc8, od8, .func (PySem.W.fnOf "_law_good" "_law_good" (defArgs (top 28)) (defBody (top 28)) (defScope (top 28)) .none kV8 dc8 pm8 an8 cd8 ct8), sl8⟩) (c8 : PySem.W.codeIn K cd8 "_law_good" = true) (k8 : PySem.W.keepIn K (.ref f8) = true)
    {f9 : Addr} {od9 an9 : Option Addr} {sl9 : Array (Option Value)} {oc9 kV9 dc9 pm9 cd9 ct9 : Value} (a9 : PySem.W.nsIn K mainGlobals "law" = some (some (.ref f9)))
    (l9 : K.lookup f9 = some ⟨oc9, od9, .func (PySem.W.fnOf "law" "law" (defArgs (top 29)) (defBody (top 29)) (defScope (top 29)) .none kV9 dc9 pm9 an9 cd9 ct9), sl9⟩) (c9 : PySem.W.codeIn K cd9 "law" = true) (k9 : PySem.W.keepIn K (.ref f9) = true)
    (z_ArithmeticError : PySem.W.nsIn K mainGlobals "ArithmeticError" = some none)
    (z_AttributeError : PySem.W.nsIn K mainGlobals "AttributeError" = some none)
    (z_LookupError : PySem.W.nsIn K mainGlobals "LookupError" = some none)
    (z_RuntimeError : PySem.W.nsIn K mainGlobals "RuntimeError" = some none)
    (z_TypeError : PySem.W.nsIn K mainGlobals "TypeError" = some none)
    (z_ValueError : PySem.W.nsIn K mainGlobals "ValueError" = some none)
    (z_all : PySem.W.nsIn K mainGlobals "all" = some none)
    (z_any : PySem.W.nsIn K mainGlobals "any" = some none)
    (z_enumerate : PySem.W.nsIn K mainGlobals "enumerate" = some none)
    (z_int : PySem.W.nsIn K mainGlobals "int" = some none)
    (z_isinstance : PySem.W.nsIn K mainGlobals "isinstance" = some none)
    (z_len : PySem.W.nsIn K mainGlobals "len" = some none)
    (z_max : PySem.W.nsIn K mainGlobals "max" = some none)
    (z_min : PySem.W.nsIn K mainGlobals "min" = some none)
    (z_range : PySem.W.nsIn K mainGlobals "range" = some none)
    (z_str : PySem.W.nsIn K mainGlobals "str" = some none)
    (z_super : PySem.W.nsIn K mainGlobals "super" = some none)
    {C_Blocked : Addr} (e1_Blocked : PySem.W.nsIn K mainGlobals "Blocked" = some (some (.ref C_Blocked))) (e4_Blocked : PySem.W.subIn K (.ref C_Blocked) (.type "BaseException") = some true) (e5_Blocked : PySem.W.isClsIn K C_Blocked = true) (e6_Blocked : PySem.W.typeIn K (.ref C_Blocked) = some (.type "type")) (e7_Blocked : PySem.W.subIn K (.ref C_Blocked) (.ref C_Blocked) = some true)
    {C_Ended : Addr} (e1_Ended : PySem.W.nsIn K mainGlobals "Ended" = some (some (.ref C_Ended))) (e4_Ended : PySem.W.subIn K (.ref C_Ended) (.type "BaseException") = some true) (e5_Ended : PySem.W.isClsIn K C_Ended = true) (e6_Ended : PySem.W.typeIn K (.ref C_Ended) = some (.type "type")) (e7_Ended : PySem.W.subIn K (.ref C_Ended) (.ref C_Ended) = some true)
    {C_HoldError : Addr} (e1_HoldError : PySem.W.nsIn K mainGlobals "HoldError" = some (some (.ref C_HoldError))) (e4_HoldError : PySem.W.subIn K (.ref C_HoldError) (.type "BaseException") = some true) (e5_HoldError : PySem.W.isClsIn K C_HoldError = true) (e6_HoldError : PySem.W.typeIn K (.ref C_HoldError) = some (.type "type")) (e7_HoldError : PySem.W.subIn K (.ref C_HoldError) (.ref C_HoldError) = some true)
    {C_InvalidBodies : Addr} (e1_InvalidBodies : PySem.W.nsIn K mainGlobals "InvalidBodies" = some (some (.ref C_InvalidBodies))) (e4_InvalidBodies : PySem.W.subIn K (.ref C_InvalidBodies) (.type "BaseException") = some true) (e5_InvalidBodies : PySem.W.isClsIn K C_InvalidBodies = true) (e6_InvalidBodies : PySem.W.typeIn K (.ref C_InvalidBodies) = some (.type "type")) (e7_InvalidBodies : PySem.W.subIn K (.ref C_InvalidBodies) (.ref C_InvalidBodies) = some true)
    {C_InvalidBody : Addr} (e1_InvalidBody : PySem.W.nsIn K mainGlobals "InvalidBody" = some (some (.ref C_InvalidBody))) (e4_InvalidBody : PySem.W.subIn K (.ref C_InvalidBody) (.type "BaseException") = some true) (e5_InvalidBody : PySem.W.isClsIn K C_InvalidBody = true) (e6_InvalidBody : PySem.W.typeIn K (.ref C_InvalidBody) = some (.type "type")) (e7_InvalidBody : PySem.W.subIn K (.ref C_InvalidBody) (.ref C_InvalidBody) = some true)
    {C_InvalidBook : Addr} (e1_InvalidBook : PySem.W.nsIn K mainGlobals "InvalidBook" = some (some (.ref C_InvalidBook))) (e4_InvalidBook : PySem.W.subIn K (.ref C_InvalidBook) (.type "BaseException") = some true) (e5_InvalidBook : PySem.W.isClsIn K C_InvalidBook = true) (e6_InvalidBook : PySem.W.typeIn K (.ref C_InvalidBook) = some (.type "type")) (e7_InvalidBook : PySem.W.subIn K (.ref C_InvalidBook) (.ref C_InvalidBook) = some true)
    {C_InvalidEvents : Addr} (e1_InvalidEvents : PySem.W.nsIn K mainGlobals "InvalidEvents" = some (some (.ref C_InvalidEvents))) (e4_InvalidEvents : PySem.W.subIn K (.ref C_InvalidEvents) (.type "BaseException") = some true) (e5_InvalidEvents : PySem.W.isClsIn K C_InvalidEvents = true) (e6_InvalidEvents : PySem.W.typeIn K (.ref C_InvalidEvents) = some (.type "type")) (e7_InvalidEvents : PySem.W.subIn K (.ref C_InvalidEvents) (.ref C_InvalidEvents) = some true)
    {C_InvalidFrame : Addr} (e1_InvalidFrame : PySem.W.nsIn K mainGlobals "InvalidFrame" = some (some (.ref C_InvalidFrame))) (e4_InvalidFrame : PySem.W.subIn K (.ref C_InvalidFrame) (.type "BaseException") = some true) (e5_InvalidFrame : PySem.W.isClsIn K C_InvalidFrame = true) (e6_InvalidFrame : PySem.W.typeIn K (.ref C_InvalidFrame) = some (.type "type")) (e7_InvalidFrame : PySem.W.subIn K (.ref C_InvalidFrame) (.ref C_InvalidFrame) = some true)
    {C_InvalidGroup : Addr} (e1_InvalidGroup : PySem.W.nsIn K mainGlobals "InvalidGroup" = some (some (.ref C_InvalidGroup))) (e4_InvalidGroup : PySem.W.subIn K (.ref C_InvalidGroup) (.type "BaseException") = some true) (e5_InvalidGroup : PySem.W.isClsIn K C_InvalidGroup = true) (e6_InvalidGroup : PySem.W.typeIn K (.ref C_InvalidGroup) = some (.type "type")) (e7_InvalidGroup : PySem.W.subIn K (.ref C_InvalidGroup) (.ref C_InvalidGroup) = some true)
    {C_InvalidLocks : Addr} (e1_InvalidLocks : PySem.W.nsIn K mainGlobals "InvalidLocks" = some (some (.ref C_InvalidLocks))) (e4_InvalidLocks : PySem.W.subIn K (.ref C_InvalidLocks) (.type "BaseException") = some true) (e5_InvalidLocks : PySem.W.isClsIn K C_InvalidLocks = true) (e6_InvalidLocks : PySem.W.typeIn K (.ref C_InvalidLocks) = some (.type "type")) (e7_InvalidLocks : PySem.W.subIn K (.ref C_InvalidLocks) (.ref C_InvalidLocks) = some true)
    {C_InvalidName : Addr} (e1_InvalidName : PySem.W.nsIn K mainGlobals "InvalidName" = some (some (.ref C_InvalidName))) (e4_InvalidName : PySem.W.subIn K (.ref C_InvalidName) (.type "BaseException") = some true) (e5_InvalidName : PySem.W.isClsIn K C_InvalidName = true) (e6_InvalidName : PySem.W.typeIn K (.ref C_InvalidName) = some (.type "type")) (e7_InvalidName : PySem.W.subIn K (.ref C_InvalidName) (.ref C_InvalidName) = some true)
    {C_InvalidNames : Addr} (e1_InvalidNames : PySem.W.nsIn K mainGlobals "InvalidNames" = some (some (.ref C_InvalidNames))) (e4_InvalidNames : PySem.W.subIn K (.ref C_InvalidNames) (.type "BaseException") = some true) (e5_InvalidNames : PySem.W.isClsIn K C_InvalidNames = true) (e6_InvalidNames : PySem.W.typeIn K (.ref C_InvalidNames) = some (.type "type")) (e7_InvalidNames : PySem.W.subIn K (.ref C_InvalidNames) (.ref C_InvalidNames) = some true)
    {C_InvalidNumber : Addr} (e1_InvalidNumber : PySem.W.nsIn K mainGlobals "InvalidNumber" = some (some (.ref C_InvalidNumber))) (e4_InvalidNumber : PySem.W.subIn K (.ref C_InvalidNumber) (.type "BaseException") = some true) (e5_InvalidNumber : PySem.W.isClsIn K C_InvalidNumber = true) (e6_InvalidNumber : PySem.W.typeIn K (.ref C_InvalidNumber) = some (.type "type")) (e7_InvalidNumber : PySem.W.subIn K (.ref C_InvalidNumber) (.ref C_InvalidNumber) = some true)
    {C_InvalidProfile : Addr} (e1_InvalidProfile : PySem.W.nsIn K mainGlobals "InvalidProfile" = some (some (.ref C_InvalidProfile))) (e4_InvalidProfile : PySem.W.subIn K (.ref C_InvalidProfile) (.type "BaseException") = some true) (e5_InvalidProfile : PySem.W.isClsIn K C_InvalidProfile = true) (e6_InvalidProfile : PySem.W.typeIn K (.ref C_InvalidProfile) = some (.type "type")) (e7_InvalidProfile : PySem.W.subIn K (.ref C_InvalidProfile) (.ref C_InvalidProfile) = some true)
    {C_InvalidProfiles : Addr} (e1_InvalidProfiles : PySem.W.nsIn K mainGlobals "InvalidProfiles" = some (some (.ref C_InvalidProfiles))) (e4_InvalidProfiles : PySem.W.subIn K (.ref C_InvalidProfiles) (.type "BaseException") = some true) (e5_InvalidProfiles : PySem.W.isClsIn K C_InvalidProfiles = true) (e6_InvalidProfiles : PySem.W.typeIn K (.ref C_InvalidProfiles) = some (.type "type")) (e7_InvalidProfiles : PySem.W.subIn K (.ref C_InvalidProfiles) (.ref C_InvalidProfiles) = some true)
    {C_InvalidText : Addr} (e1_InvalidText : PySem.W.nsIn K mainGlobals "InvalidText" = some (some (.ref C_InvalidText))) (e4_InvalidText : PySem.W.subIn K (.ref C_InvalidText) (.type "BaseException") = some true) (e5_InvalidText : PySem.W.isClsIn K C_InvalidText = true) (e6_InvalidText : PySem.W.typeIn K (.ref C_InvalidText) = some (.type "type")) (e7_InvalidText : PySem.W.subIn K (.ref C_InvalidText) (.ref C_InvalidText) = some true)
    {C_InvalidWay : Addr} (e1_InvalidWay : PySem.W.nsIn K mainGlobals "InvalidWay" = some (some (.ref C_InvalidWay))) (e4_InvalidWay : PySem.W.subIn K (.ref C_InvalidWay) (.type "BaseException") = some true) (e5_InvalidWay : PySem.W.isClsIn K C_InvalidWay = true) (e6_InvalidWay : PySem.W.typeIn K (.ref C_InvalidWay) = some (.type "type")) (e7_InvalidWay : PySem.W.subIn K (.ref C_InvalidWay) (.ref C_InvalidWay) = some true)
    {C_NothingToUndo : Addr} (e1_NothingToUndo : PySem.W.nsIn K mainGlobals "NothingToUndo" = some (some (.ref C_NothingToUndo))) (e4_NothingToUndo : PySem.W.subIn K (.ref C_NothingToUndo) (.type "BaseException") = some true) (e5_NothingToUndo : PySem.W.isClsIn K C_NothingToUndo = true) (e6_NothingToUndo : PySem.W.typeIn K (.ref C_NothingToUndo) = some (.type "type")) (e7_NothingToUndo : PySem.W.subIn K (.ref C_NothingToUndo) (.ref C_NothingToUndo) = some true)
    {C_TooLarge : Addr} (e1_TooLarge : PySem.W.nsIn K mainGlobals "TooLarge" = some (some (.ref C_TooLarge))) (e4_TooLarge : PySem.W.subIn K (.ref C_TooLarge) (.type "BaseException") = some true) (e5_TooLarge : PySem.W.isClsIn K C_TooLarge = true) (e6_TooLarge : PySem.W.typeIn K (.ref C_TooLarge) = some (.type "type")) (e7_TooLarge : PySem.W.subIn K (.ref C_TooLarge) (.ref C_TooLarge) = some true)
    (e2_Ended : PySem.W.excIn K C_Ended [.type "ValueError", .type "Exception", .type "BaseException", .type "object"] "ValueError.__new__" = true) (e3_Ended : PySem.W.keepIn K (.ref C_Ended) = true)
    (e2_HoldError : PySem.W.excIn K C_HoldError [.type "ValueError", .type "Exception", .type "BaseException", .type "object"] "ValueError.__new__" = true) (e3_HoldError : PySem.W.keepIn K (.ref C_HoldError) = true)
    (e2_InvalidBodies : PySem.W.excIn K C_InvalidBodies [.type "ValueError", .type "Exception", .type "BaseException", .type "object"] "ValueError.__new__" = true) (e3_InvalidBodies : PySem.W.keepIn K (.ref C_InvalidBodies) = true)
    (e2_InvalidBody : PySem.W.excIn K C_InvalidBody [.type "ValueError", .type "Exception", .type "BaseException", .type "object"] "ValueError.__new__" = true) (e3_InvalidBody : PySem.W.keepIn K (.ref C_InvalidBody) = true)
    (e2_InvalidBook : PySem.W.excIn K C_InvalidBook [.type "ValueError", .type "Exception", .type "BaseException", .type "object"] "ValueError.__new__" = true) (e3_InvalidBook : PySem.W.keepIn K (.ref C_InvalidBook) = true)
    (e2_InvalidEvents : PySem.W.excIn K C_InvalidEvents [.type "ValueError", .type "Exception", .type "BaseException", .type "object"] "ValueError.__new__" = true) (e3_InvalidEvents : PySem.W.keepIn K (.ref C_InvalidEvents) = true)
    (e2_InvalidFrame : PySem.W.excIn K C_InvalidFrame [.type "ValueError", .type "Exception", .type "BaseException", .type "object"] "ValueError.__new__" = true) (e3_InvalidFrame : PySem.W.keepIn K (.ref C_InvalidFrame) = true)
    (e2_InvalidGroup : PySem.W.excIn K C_InvalidGroup [.type "ValueError", .type "Exception", .type "BaseException", .type "object"] "ValueError.__new__" = true) (e3_InvalidGroup : PySem.W.keepIn K (.ref C_InvalidGroup) = true)
    (e2_InvalidLocks : PySem.W.excIn K C_InvalidLocks [.type "ValueError", .type "Exception", .type "BaseException", .type "object"] "ValueError.__new__" = true) (e3_InvalidLocks : PySem.W.keepIn K (.ref C_InvalidLocks) = true)
    (e2_InvalidName : PySem.W.excIn K C_InvalidName [.type "ValueError", .type "Exception", .type "BaseException", .type "object"] "ValueError.__new__" = true) (e3_InvalidName : PySem.W.keepIn K (.ref C_InvalidName) = true)
    (e2_InvalidNames : PySem.W.excIn K C_InvalidNames [.type "ValueError", .type "Exception", .type "BaseException", .type "object"] "ValueError.__new__" = true) (e3_InvalidNames : PySem.W.keepIn K (.ref C_InvalidNames) = true)
    (e2_InvalidNumber : PySem.W.excIn K C_InvalidNumber [.type "ValueError", .type "Exception", .type "BaseException", .type "object"] "ValueError.__new__" = true) (e3_InvalidNumber : PySem.W.keepIn K (.ref C_InvalidNumber) = true)
    (e2_InvalidProfile : PySem.W.excIn K C_InvalidProfile [.type "ValueError", .type "Exception", .type "BaseException", .type "object"] "ValueError.__new__" = true) (e3_InvalidProfile : PySem.W.keepIn K (.ref C_InvalidProfile) = true)
    (e2_InvalidProfiles : PySem.W.excIn K C_InvalidProfiles [.type "ValueError", .type "Exception", .type "BaseException", .type "object"] "ValueError.__new__" = true) (e3_InvalidProfiles : PySem.W.keepIn K (.ref C_InvalidProfiles) = true)
    (e2_InvalidText : PySem.W.excIn K C_InvalidText [.type "ValueError", .type "Exception", .type "BaseException", .type "object"] "ValueError.__new__" = true) (e3_InvalidText : PySem.W.keepIn K (.ref C_InvalidText) = true)
    (e2_InvalidWay : PySem.W.excIn K C_InvalidWay [.type "ValueError", .type "Exception", .type "BaseException", .type "object"] "ValueError.__new__" = true) (e3_InvalidWay : PySem.W.keepIn K (.ref C_InvalidWay) = true)
    (e2_NothingToUndo : PySem.W.excIn K C_NothingToUndo [.type "ValueError", .type "Exception", .type "BaseException", .type "object"] "ValueError.__new__" = true) (e3_NothingToUndo : PySem.W.keepIn K (.ref C_NothingToUndo) = true)
    (e2_TooLarge : PySem.W.excIn K C_TooLarge [.type "ValueError", .type "Exception", .type "BaseException", .type "object"] "ValueError.__new__" = true) (e3_TooLarge : PySem.W.keepIn K (.ref C_TooLarge) = true)
    {f0_Blocked : Addr} {fd_Blocked : FuncData} (y1_Blocked : PySem.W.findIn K (.ref C_Blocked) "__init__" = some (some (.ref f0_Blocked))) (y2_Blocked : PySem.W.typeIn K (.ref f0_Blocked) = some (.type "function")) (y3_Blocked : OexC K C_Blocked) (y4_Blocked : SiF P K C_Blocked f0_Blocked "lock" "self" "lock" fd_Blocked) (y5_Blocked : SiB K fd_Blocked "self" "lock") (y6_Blocked : PySem.W.findIn K (.ref C_Blocked) "lock" = some none)
    (w1 : PySem.W.specialIn K (.builtin "object.__class__") "__get__" = some (some (.builtin "getset_descriptor.__get__"))) (w2 : PySem.W.takesIn K (.builtin "object.__class__") = some true)
    (x1_InvalidBody : PySem.W.findIn K (.ref C_InvalidBody) "__getattribute__" = some (some (.builtin "BaseException.__getattribute__"))) (x2_InvalidBody : PySem.W.findIn K (.ref C_InvalidBody) "__getattr__" = some none) (x3_InvalidBody : PySem.W.hasDictIn K C_InvalidBody = true)
    (x4_InvalidBody : PySem.W.findIn K (.ref C_InvalidBody) "__class__" = some (some (.builtin "object.__class__"))) (x5_InvalidBody : PySem.W.mroIn K C_InvalidBody (.type "object") = some true)
    (x1_InvalidBodies : PySem.W.findIn K (.ref C_InvalidBodies) "__getattribute__" = some (some (.builtin "BaseException.__getattribute__"))) (x2_InvalidBodies : PySem.W.findIn K (.ref C_InvalidBodies) "__getattr__" = some none) (x3_InvalidBodies : PySem.W.hasDictIn K C_InvalidBodies = true)
    (x4_InvalidBodies : PySem.W.findIn K (.ref C_InvalidBodies) "__class__" = some (some (.builtin "object.__class__"))) (x5_InvalidBodies : PySem.W.mroIn K C_InvalidBodies (.type "object") = some true)
    (x1_InvalidName : PySem.W.findIn K (.ref C_InvalidName) "__getattribute__" = some (some (.builtin "BaseException.__getattribute__"))) (x2_InvalidName : PySem.W.findIn K (.ref C_InvalidName) "__getattr__" = some none) (x3_InvalidName : PySem.W.hasDictIn K C_InvalidName = true)
    (x4_InvalidName : PySem.W.findIn K (.ref C_InvalidName) "__class__" = some (some (.builtin "object.__class__"))) (x5_InvalidName : PySem.W.mroIn K C_InvalidName (.type "object") = some true)
    (x1_InvalidNames : PySem.W.findIn K (.ref C_InvalidNames) "__getattribute__" = some (some (.builtin "BaseException.__getattribute__"))) (x2_InvalidNames : PySem.W.findIn K (.ref C_InvalidNames) "__getattr__" = some none) (x3_InvalidNames : PySem.W.hasDictIn K C_InvalidNames = true)
    (x4_InvalidNames : PySem.W.findIn K (.ref C_InvalidNames) "__class__" = some (some (.builtin "object.__class__"))) (x5_InvalidNames : PySem.W.mroIn K C_InvalidNames (.type "object") = some true)
    (x1_InvalidWay : PySem.W.findIn K (.ref C_InvalidWay) "__getattribute__" = some (some (.builtin "BaseException.__getattribute__"))) (x2_InvalidWay : PySem.W.findIn K (.ref C_InvalidWay) "__getattr__" = some none) (x3_InvalidWay : PySem.W.hasDictIn K C_InvalidWay = true)
    (x4_InvalidWay : PySem.W.findIn K (.ref C_InvalidWay) "__class__" = some (some (.builtin "object.__class__"))) (x5_InvalidWay : PySem.W.mroIn K C_InvalidWay (.type "object") = some true)
    (x1_InvalidEvents : PySem.W.findIn K (.ref C_InvalidEvents) "__getattribute__" = some (some (.builtin "BaseException.__getattribute__"))) (x2_InvalidEvents : PySem.W.findIn K (.ref C_InvalidEvents) "__getattr__" = some none) (x3_InvalidEvents : PySem.W.hasDictIn K C_InvalidEvents = true)
    (x4_InvalidEvents : PySem.W.findIn K (.ref C_InvalidEvents) "__class__" = some (some (.builtin "object.__class__"))) (x5_InvalidEvents : PySem.W.mroIn K C_InvalidEvents (.type "object") = some true)
    (x1_InvalidProfile : PySem.W.findIn K (.ref C_InvalidProfile) "__getattribute__" = some (some (.builtin "BaseException.__getattribute__"))) (x2_InvalidProfile : PySem.W.findIn K (.ref C_InvalidProfile) "__getattr__" = some none) (x3_InvalidProfile : PySem.W.hasDictIn K C_InvalidProfile = true)
    (x4_InvalidProfile : PySem.W.findIn K (.ref C_InvalidProfile) "__class__" = some (some (.builtin "object.__class__"))) (x5_InvalidProfile : PySem.W.mroIn K C_InvalidProfile (.type "object") = some true)
    (x1_InvalidProfiles : PySem.W.findIn K (.ref C_InvalidProfiles) "__getattribute__" = some (some (.builtin "BaseException.__getattribute__"))) (x2_InvalidProfiles : PySem.W.findIn K (.ref C_InvalidProfiles) "__getattr__" = some none) (x3_InvalidProfiles : PySem.W.hasDictIn K C_InvalidProfiles = true)
    (x4_InvalidProfiles : PySem.W.findIn K (.ref C_InvalidProfiles) "__class__" = some (some (.builtin "object.__class__"))) (x5_InvalidProfiles : PySem.W.mroIn K C_InvalidProfiles (.type "object") = some true)
    (x1_InvalidGroup : PySem.W.findIn K (.ref C_InvalidGroup) "__getattribute__" = some (some (.builtin "BaseException.__getattribute__"))) (x2_InvalidGroup : PySem.W.findIn K (.ref C_InvalidGroup) "__getattr__" = some none) (x3_InvalidGroup : PySem.W.hasDictIn K C_InvalidGroup = true)
    (x4_InvalidGroup : PySem.W.findIn K (.ref C_InvalidGroup) "__class__" = some (some (.builtin "object.__class__"))) (x5_InvalidGroup : PySem.W.mroIn K C_InvalidGroup (.type "object") = some true)
    (x1_InvalidLocks : PySem.W.findIn K (.ref C_InvalidLocks) "__getattribute__" = some (some (.builtin "BaseException.__getattribute__"))) (x2_InvalidLocks : PySem.W.findIn K (.ref C_InvalidLocks) "__getattr__" = some none) (x3_InvalidLocks : PySem.W.hasDictIn K C_InvalidLocks = true)
    (x4_InvalidLocks : PySem.W.findIn K (.ref C_InvalidLocks) "__class__" = some (some (.builtin "object.__class__"))) (x5_InvalidLocks : PySem.W.mroIn K C_InvalidLocks (.type "object") = some true)
    (x1_InvalidFrame : PySem.W.findIn K (.ref C_InvalidFrame) "__getattribute__" = some (some (.builtin "BaseException.__getattribute__"))) (x2_InvalidFrame : PySem.W.findIn K (.ref C_InvalidFrame) "__getattr__" = some none) (x3_InvalidFrame : PySem.W.hasDictIn K C_InvalidFrame = true)
    (x4_InvalidFrame : PySem.W.findIn K (.ref C_InvalidFrame) "__class__" = some (some (.builtin "object.__class__"))) (x5_InvalidFrame : PySem.W.mroIn K C_InvalidFrame (.type "object") = some true)
    (x1_InvalidBook : PySem.W.findIn K (.ref C_InvalidBook) "__getattribute__" = some (some (.builtin "BaseException.__getattribute__"))) (x2_InvalidBook : PySem.W.findIn K (.ref C_InvalidBook) "__getattr__" = some none) (x3_InvalidBook : PySem.W.hasDictIn K C_InvalidBook = true)
    (x4_InvalidBook : PySem.W.findIn K (.ref C_InvalidBook) "__class__" = some (some (.builtin "object.__class__"))) (x5_InvalidBook : PySem.W.mroIn K C_InvalidBook (.type "object") = some true)
    (x1_InvalidNumber : PySem.W.findIn K (.ref C_InvalidNumber) "__getattribute__" = some (some (.builtin "BaseException.__getattribute__"))) (x2_InvalidNumber : PySem.W.findIn K (.ref C_InvalidNumber) "__getattr__" = some none) (x3_InvalidNumber : PySem.W.hasDictIn K C_InvalidNumber = true)
    (x4_InvalidNumber : PySem.W.findIn K (.ref C_InvalidNumber) "__class__" = some (some (.builtin "object.__class__"))) (x5_InvalidNumber : PySem.W.mroIn K C_InvalidNumber (.type "object") = some true)
    (x1_InvalidText : PySem.W.findIn K (.ref C_InvalidText) "__getattribute__" = some (some (.builtin "BaseException.__getattribute__"))) (x2_InvalidText : PySem.W.findIn K (.ref C_InvalidText) "__getattr__" = some none) (x3_InvalidText : PySem.W.hasDictIn K C_InvalidText = true)
    (x4_InvalidText : PySem.W.findIn K (.ref C_InvalidText) "__class__" = some (some (.builtin "object.__class__"))) (x5_InvalidText : PySem.W.mroIn K C_InvalidText (.type "object") = some true)
    (x1_TooLarge : PySem.W.findIn K (.ref C_TooLarge) "__getattribute__" = some (some (.builtin "BaseException.__getattribute__"))) (x2_TooLarge : PySem.W.findIn K (.ref C_TooLarge) "__getattr__" = some none) (x3_TooLarge : PySem.W.hasDictIn K C_TooLarge = true)
    (x4_TooLarge : PySem.W.findIn K (.ref C_TooLarge) "__class__" = some (some (.builtin "object.__class__"))) (x5_TooLarge : PySem.W.mroIn K C_TooLarge (.type "object") = some true)
    (x1_Ended : PySem.W.findIn K (.ref C_Ended) "__getattribute__" = some (some (.builtin "BaseException.__getattribute__"))) (x2_Ended : PySem.W.findIn K (.ref C_Ended) "__getattr__" = some none) (x3_Ended : PySem.W.hasDictIn K C_Ended = true)
    (x4_Ended : PySem.W.findIn K (.ref C_Ended) "__class__" = some (some (.builtin "object.__class__"))) (x5_Ended : PySem.W.mroIn K C_Ended (.type "object") = some true)
    (x1_NothingToUndo : PySem.W.findIn K (.ref C_NothingToUndo) "__getattribute__" = some (some (.builtin "BaseException.__getattribute__"))) (x2_NothingToUndo : PySem.W.findIn K (.ref C_NothingToUndo) "__getattr__" = some none) (x3_NothingToUndo : PySem.W.hasDictIn K C_NothingToUndo = true)
    (x4_NothingToUndo : PySem.W.findIn K (.ref C_NothingToUndo) "__class__" = some (some (.builtin "object.__class__"))) (x5_NothingToUndo : PySem.W.mroIn K C_NothingToUndo (.type "object") = some true)
    (x1_Blocked : PySem.W.findIn K (.ref C_Blocked) "__getattribute__" = some (some (.builtin "BaseException.__getattribute__"))) (x2_Blocked : PySem.W.findIn K (.ref C_Blocked) "__getattr__" = some none) (x3_Blocked : PySem.W.hasDictIn K C_Blocked = true)
    (x4_Blocked : PySem.W.findIn K (.ref C_Blocked) "__class__" = some (some (.builtin "object.__class__"))) (x5_Blocked : PySem.W.mroIn K C_Blocked (.type "object") = some true)
    (x1_HoldError : PySem.W.findIn K (.ref C_HoldError) "__getattribute__" = some (some (.builtin "BaseException.__getattribute__"))) (x2_HoldError : PySem.W.findIn K (.ref C_HoldError) "__getattr__" = some none) (x3_HoldError : PySem.W.hasDictIn K C_HoldError = true)
    (x4_HoldError : PySem.W.findIn K (.ref C_HoldError) "__class__" = some (some (.builtin "object.__class__"))) (x5_HoldError : PySem.W.mroIn K C_HoldError (.type "object") = some true)
    (s_ArithmeticError : subAll K (.type "ArithmeticError") [(C_InvalidBody, false), (C_InvalidBodies, false), (C_InvalidName, false), (C_InvalidNames, false), (C_InvalidWay, false), (C_InvalidEvents, false), (C_InvalidProfile, false), (C_InvalidProfiles, false), (C_InvalidGroup, false), (C_InvalidLocks, false), (C_InvalidFrame, false), (C_InvalidBook, false), (C_InvalidNumber, false), (C_InvalidText, false), (C_TooLarge, false), (C_Ended, false), (C_NothingToUndo, false), (C_Blocked, false), (C_HoldError, false)] = true)
    (s_AttributeError : subAll K (.type "AttributeError") [(C_InvalidBody, false), (C_InvalidBodies, false), (C_InvalidName, false), (C_InvalidNames, false), (C_InvalidWay, false), (C_InvalidEvents, false), (C_InvalidProfile, false), (C_InvalidProfiles, false), (C_InvalidGroup, false), (C_InvalidLocks, false), (C_InvalidFrame, false), (C_InvalidBook, false), (C_InvalidNumber, false), (C_InvalidText, false), (C_TooLarge, false), (C_Ended, false), (C_NothingToUndo, false), (C_Blocked, false), (C_HoldError, false)] = true)
    (s_Blocked : subAll K (.ref C_Blocked) [(C_InvalidBody, false), (C_InvalidBodies, false), (C_InvalidName, false), (C_InvalidNames, false), (C_InvalidWay, false), (C_InvalidEvents, false), (C_InvalidProfile, false), (C_InvalidProfiles, false), (C_InvalidGroup, false), (C_InvalidLocks, false), (C_InvalidFrame, false), (C_InvalidBook, false), (C_InvalidNumber, false), (C_InvalidText, false), (C_TooLarge, false), (C_Ended, false), (C_NothingToUndo, false), (C_Blocked, true), (C_HoldError, false)] = true)
    (s_Ended : subAll K (.ref C_Ended) [(C_InvalidBody, false), (C_InvalidBodies, false), (C_InvalidName, false), (C_InvalidNames, false), (C_InvalidWay, false), (C_InvalidEvents, false), (C_InvalidProfile, false), (C_InvalidProfiles, false), (C_InvalidGroup, false), (C_InvalidLocks, false), (C_InvalidFrame, false), (C_InvalidBook, false), (C_InvalidNumber, false), (C_InvalidText, false), (C_TooLarge, false), (C_Ended, true), (C_NothingToUndo, false), (C_Blocked, false), (C_HoldError, false)] = true)
    (s_HoldError : subAll K (.ref C_HoldError) [(C_InvalidBody, true), (C_InvalidBodies, true), (C_InvalidName, true), (C_InvalidNames, true), (C_InvalidWay, true), (C_InvalidEvents, true), (C_InvalidProfile, true), (C_InvalidProfiles, true), (C_InvalidGroup, true), (C_InvalidLocks, true), (C_InvalidFrame, true), (C_InvalidBook, true), (C_InvalidNumber, true), (C_InvalidText, true), (C_TooLarge, true), (C_Ended, true), (C_NothingToUndo, true), (C_Blocked, true), (C_HoldError, true)] = true)
    (s_InvalidBodies : subAll K (.ref C_InvalidBodies) [(C_InvalidBody, false), (C_InvalidBodies, true), (C_InvalidName, false), (C_InvalidNames, false), (C_InvalidWay, false), (C_InvalidEvents, false), (C_InvalidProfile, false), (C_InvalidProfiles, false), (C_InvalidGroup, false), (C_InvalidLocks, false), (C_InvalidFrame, false), (C_InvalidBook, false), (C_InvalidNumber, false), (C_InvalidText, false), (C_TooLarge, false), (C_Ended, false), (C_NothingToUndo, false), (C_Blocked, false), (C_HoldError, false)] = true)
    (s_InvalidBody : subAll K (.ref C_InvalidBody) [(C_InvalidBody, true), (C_InvalidBodies, false), (C_InvalidName, false), (C_InvalidNames, false), (C_InvalidWay, false), (C_InvalidEvents, false), (C_InvalidProfile, false), (C_InvalidProfiles, false), (C_InvalidGroup, false), (C_InvalidLocks, false), (C_InvalidFrame, false), (C_InvalidBook, false), (C_InvalidNumber, false), (C_InvalidText, false), (C_TooLarge, false), (C_Ended, false), (C_NothingToUndo, false), (C_Blocked, false), (C_HoldError, false)] = true)
    (s_InvalidBook : subAll K (.ref C_InvalidBook) [(C_InvalidBody, false), (C_InvalidBodies, false), (C_InvalidName, false), (C_InvalidNames, false), (C_InvalidWay, false), (C_InvalidEvents, false), (C_InvalidProfile, false), (C_InvalidProfiles, false), (C_InvalidGroup, false), (C_InvalidLocks, false), (C_InvalidFrame, false), (C_InvalidBook, true), (C_InvalidNumber, false), (C_InvalidText, false), (C_TooLarge, false), (C_Ended, false), (C_NothingToUndo, false), (C_Blocked, false), (C_HoldError, false)] = true)
    (s_InvalidEvents : subAll K (.ref C_InvalidEvents) [(C_InvalidBody, false), (C_InvalidBodies, false), (C_InvalidName, false), (C_InvalidNames, false), (C_InvalidWay, false), (C_InvalidEvents, true), (C_InvalidProfile, false), (C_InvalidProfiles, false), (C_InvalidGroup, false), (C_InvalidLocks, false), (C_InvalidFrame, false), (C_InvalidBook, false), (C_InvalidNumber, false), (C_InvalidText, false), (C_TooLarge, false), (C_Ended, false), (C_NothingToUndo, false), (C_Blocked, false), (C_HoldError, false)] = true)
    (s_InvalidFrame : subAll K (.ref C_InvalidFrame) [(C_InvalidBody, false), (C_InvalidBodies, false), (C_InvalidName, false), (C_InvalidNames, false), (C_InvalidWay, false), (C_InvalidEvents, false), (C_InvalidProfile, false), (C_InvalidProfiles, false), (C_InvalidGroup, false), (C_InvalidLocks, false), (C_InvalidFrame, true), (C_InvalidBook, false), (C_InvalidNumber, false), (C_InvalidText, false), (C_TooLarge, false), (C_Ended, false), (C_NothingToUndo, false), (C_Blocked, false), (C_HoldError, false)] = true)
    (s_InvalidGroup : subAll K (.ref C_InvalidGroup) [(C_InvalidBody, false), (C_InvalidBodies, false), (C_InvalidName, false), (C_InvalidNames, false), (C_InvalidWay, false), (C_InvalidEvents, false), (C_InvalidProfile, false), (C_InvalidProfiles, false), (C_InvalidGroup, true), (C_InvalidLocks, false), (C_InvalidFrame, false), (C_InvalidBook, false), (C_InvalidNumber, false), (C_InvalidText, false), (C_TooLarge, false), (C_Ended, false), (C_NothingToUndo, false), (C_Blocked, false), (C_HoldError, false)] = true)
    (s_InvalidLocks : subAll K (.ref C_InvalidLocks) [(C_InvalidBody, false), (C_InvalidBodies, false), (C_InvalidName, false), (C_InvalidNames, false), (C_InvalidWay, false), (C_InvalidEvents, false), (C_InvalidProfile, false), (C_InvalidProfiles, false), (C_InvalidGroup, false), (C_InvalidLocks, true), (C_InvalidFrame, false), (C_InvalidBook, false), (C_InvalidNumber, false), (C_InvalidText, false), (C_TooLarge, false), (C_Ended, false), (C_NothingToUndo, false), (C_Blocked, false), (C_HoldError, false)] = true)
    (s_InvalidName : subAll K (.ref C_InvalidName) [(C_InvalidBody, false), (C_InvalidBodies, false), (C_InvalidName, true), (C_InvalidNames, false), (C_InvalidWay, false), (C_InvalidEvents, false), (C_InvalidProfile, false), (C_InvalidProfiles, false), (C_InvalidGroup, false), (C_InvalidLocks, false), (C_InvalidFrame, false), (C_InvalidBook, false), (C_InvalidNumber, false), (C_InvalidText, false), (C_TooLarge, false), (C_Ended, false), (C_NothingToUndo, false), (C_Blocked, false), (C_HoldError, false)] = true)
    (s_InvalidNames : subAll K (.ref C_InvalidNames) [(C_InvalidBody, false), (C_InvalidBodies, false), (C_InvalidName, false), (C_InvalidNames, true), (C_InvalidWay, false), (C_InvalidEvents, false), (C_InvalidProfile, false), (C_InvalidProfiles, false), (C_InvalidGroup, false), (C_InvalidLocks, false), (C_InvalidFrame, false), (C_InvalidBook, false), (C_InvalidNumber, false), (C_InvalidText, false), (C_TooLarge, false), (C_Ended, false), (C_NothingToUndo, false), (C_Blocked, false), (C_HoldError, false)] = true)
    (s_InvalidNumber : subAll K (.ref C_InvalidNumber) [(C_InvalidBody, false), (C_InvalidBodies, false), (C_InvalidName, false), (C_InvalidNames, false), (C_InvalidWay, false), (C_InvalidEvents, false), (C_InvalidProfile, false), (C_InvalidProfiles, false), (C_InvalidGroup, false), (C_InvalidLocks, false), (C_InvalidFrame, false), (C_InvalidBook, false), (C_InvalidNumber, true), (C_InvalidText, false), (C_TooLarge, false), (C_Ended, false), (C_NothingToUndo, false), (C_Blocked, false), (C_HoldError, false)] = true)
    (s_InvalidProfile : subAll K (.ref C_InvalidProfile) [(C_InvalidBody, false), (C_InvalidBodies, false), (C_InvalidName, false), (C_InvalidNames, false), (C_InvalidWay, false), (C_InvalidEvents, false), (C_InvalidProfile, true), (C_InvalidProfiles, false), (C_InvalidGroup, false), (C_InvalidLocks, false), (C_InvalidFrame, false), (C_InvalidBook, false), (C_InvalidNumber, false), (C_InvalidText, false), (C_TooLarge, false), (C_Ended, false), (C_NothingToUndo, false), (C_Blocked, false), (C_HoldError, false)] = true)
    (s_InvalidProfiles : subAll K (.ref C_InvalidProfiles) [(C_InvalidBody, false), (C_InvalidBodies, false), (C_InvalidName, false), (C_InvalidNames, false), (C_InvalidWay, false), (C_InvalidEvents, false), (C_InvalidProfile, false), (C_InvalidProfiles, true), (C_InvalidGroup, false), (C_InvalidLocks, false), (C_InvalidFrame, false), (C_InvalidBook, false), (C_InvalidNumber, false), (C_InvalidText, false), (C_TooLarge, false), (C_Ended, false), (C_NothingToUndo, false), (C_Blocked, false), (C_HoldError, false)] = true)
    (s_InvalidText : subAll K (.ref C_InvalidText) [(C_InvalidBody, false), (C_InvalidBodies, false), (C_InvalidName, false), (C_InvalidNames, false), (C_InvalidWay, false), (C_InvalidEvents, false), (C_InvalidProfile, false), (C_InvalidProfiles, false), (C_InvalidGroup, false), (C_InvalidLocks, false), (C_InvalidFrame, false), (C_InvalidBook, false), (C_InvalidNumber, false), (C_InvalidText, true), (C_TooLarge, false), (C_Ended, false), (C_NothingToUndo, false), (C_Blocked, false), (C_HoldError, false)] = true)
    (s_InvalidWay : subAll K (.ref C_InvalidWay) [(C_InvalidBody, false), (C_InvalidBodies, false), (C_InvalidName, false), (C_InvalidNames, false), (C_InvalidWay, true), (C_InvalidEvents, false), (C_InvalidProfile, false), (C_InvalidProfiles, false), (C_InvalidGroup, false), (C_InvalidLocks, false), (C_InvalidFrame, false), (C_InvalidBook, false), (C_InvalidNumber, false), (C_InvalidText, false), (C_TooLarge, false), (C_Ended, false), (C_NothingToUndo, false), (C_Blocked, false), (C_HoldError, false)] = true)
    (s_LookupError : subAll K (.type "LookupError") [(C_InvalidBody, false), (C_InvalidBodies, false), (C_InvalidName, false), (C_InvalidNames, false), (C_InvalidWay, false), (C_InvalidEvents, false), (C_InvalidProfile, false), (C_InvalidProfiles, false), (C_InvalidGroup, false), (C_InvalidLocks, false), (C_InvalidFrame, false), (C_InvalidBook, false), (C_InvalidNumber, false), (C_InvalidText, false), (C_TooLarge, false), (C_Ended, false), (C_NothingToUndo, false), (C_Blocked, false), (C_HoldError, false)] = true)
    (s_NothingToUndo : subAll K (.ref C_NothingToUndo) [(C_InvalidBody, false), (C_InvalidBodies, false), (C_InvalidName, false), (C_InvalidNames, false), (C_InvalidWay, false), (C_InvalidEvents, false), (C_InvalidProfile, false), (C_InvalidProfiles, false), (C_InvalidGroup, false), (C_InvalidLocks, false), (C_InvalidFrame, false), (C_InvalidBook, false), (C_InvalidNumber, false), (C_InvalidText, false), (C_TooLarge, false), (C_Ended, false), (C_NothingToUndo, true), (C_Blocked, false), (C_HoldError, false)] = true)
    (s_RuntimeError : subAll K (.type "RuntimeError") [(C_InvalidBody, false), (C_InvalidBodies, false), (C_InvalidName, false), (C_InvalidNames, false), (C_InvalidWay, false), (C_InvalidEvents, false), (C_InvalidProfile, false), (C_InvalidProfiles, false), (C_InvalidGroup, false), (C_InvalidLocks, false), (C_InvalidFrame, false), (C_InvalidBook, false), (C_InvalidNumber, false), (C_InvalidText, false), (C_TooLarge, false), (C_Ended, false), (C_NothingToUndo, false), (C_Blocked, false), (C_HoldError, false)] = true)
    (s_TooLarge : subAll K (.ref C_TooLarge) [(C_InvalidBody, false), (C_InvalidBodies, false), (C_InvalidName, false), (C_InvalidNames, false), (C_InvalidWay, false), (C_InvalidEvents, false), (C_InvalidProfile, false), (C_InvalidProfiles, false), (C_InvalidGroup, false), (C_InvalidLocks, false), (C_InvalidFrame, false), (C_InvalidBook, false), (C_InvalidNumber, false), (C_InvalidText, false), (C_TooLarge, true), (C_Ended, false), (C_NothingToUndo, false), (C_Blocked, false), (C_HoldError, false)] = true)
    (s_TypeError : subAll K (.type "TypeError") [(C_InvalidBody, false), (C_InvalidBodies, false), (C_InvalidName, false), (C_InvalidNames, false), (C_InvalidWay, false), (C_InvalidEvents, false), (C_InvalidProfile, false), (C_InvalidProfiles, false), (C_InvalidGroup, false), (C_InvalidLocks, false), (C_InvalidFrame, false), (C_InvalidBook, false), (C_InvalidNumber, false), (C_InvalidText, false), (C_TooLarge, false), (C_Ended, false), (C_NothingToUndo, false), (C_Blocked, false), (C_HoldError, false)] = true)
    (s_ValueError : subAll K (.type "ValueError") [(C_InvalidBody, true), (C_InvalidBodies, true), (C_InvalidName, true), (C_InvalidNames, true), (C_InvalidWay, true), (C_InvalidEvents, true), (C_InvalidProfile, true), (C_InvalidProfiles, true), (C_InvalidGroup, true), (C_InvalidLocks, true), (C_InvalidFrame, true), (C_InvalidBook, true), (C_InvalidNumber, true), (C_InvalidText, true), (C_TooLarge, true), (C_Ended, true), (C_NothingToUndo, true), (C_Blocked, true), (C_HoldError, true)] = true) : Tops P K mg :=
  ⟨Here.mk_ X G a1 l1 c1 k1, Here.mk_ X G a2 l2 c2 k2, Here.mk_ X G a3 l3 c3 k3, Here.mk_ X G a4 l4 c4 k4, Here.mk_ X G a5 l5 c5 k5, Here.mk_ X G a6 l6 c6 k6, Here.mk_ X G a7 l7 c7 k7, Here.mk_ X G a8 l8 c8 k8, Here.mk_ X G a9 l9 c9 k9, PySem.W.mg_none_of X G z_ArithmeticError, PySem.W.mg_none_of X G z_AttributeError, PySem.W.mg_none_of X G z_LookupError, PySem.W.mg_none_of X G z_RuntimeError, PySem.W.mg_none_of X G z_TypeError, PySem.W.mg_none_of X G z_ValueError, PySem.W.mg_none_of X G z_all, PySem.W.mg_none_of X G z_any, PySem.W.mg_none_of X G z_enumerate, PySem.W.mg_none_of X G z_int, PySem.W.mg_none_of X G z_isinstance, PySem.W.mg_none_of X G z_len, PySem.W.mg_none_of X G z_max, PySem.W.mg_none_of X G z_min, PySem.W.mg_none_of X G z_range, PySem.W.mg_none_of X G z_str, PySem.W.mg_none_of X G z_super, NewF.mk_ X G e1_Ended e2_Ended e3_Ended, NewF.mk_ X G e1_HoldError e2_HoldError e3_HoldError, NewF.mk_ X G e1_InvalidBodies e2_InvalidBodies e3_InvalidBodies, NewF.mk_ X G e1_InvalidBody e2_InvalidBody e3_InvalidBody, NewF.mk_ X G e1_InvalidBook e2_InvalidBook e3_InvalidBook, NewF.mk_ X G e1_InvalidEvents e2_InvalidEvents e3_InvalidEvents, NewF.mk_ X G e1_InvalidFrame e2_InvalidFrame e3_InvalidFrame, NewF.mk_ X G e1_InvalidGroup e2_InvalidGroup e3_InvalidGroup, NewF.mk_ X G e1_InvalidLocks e2_InvalidLocks e3_InvalidLocks, NewF.mk_ X G e1_InvalidName e2_InvalidName e3_InvalidName, NewF.mk_ X G e1_InvalidNames e2_InvalidNames e3_InvalidNames, NewF.mk_ X G e1_InvalidNumber e2_InvalidNumber e3_InvalidNumber, NewF.mk_ X G e1_InvalidProfile e2_InvalidProfile e3_InvalidProfile, NewF.mk_ X G e1_InvalidProfiles e2_InvalidProfiles e3_InvalidProfiles, NewF.mk_ X G e1_InvalidText e2_InvalidText e3_InvalidText, NewF.mk_ X G e1_InvalidWay e2_InvalidWay e3_InvalidWay, NewF.mk_ X G e1_NothingToUndo e2_NothingToUndo e3_NothingToUndo, NewF.mk_ X G e1_TooLarge e2_TooLarge e3_TooLarge, ⟨_, _, _, PySem.W.mg_of X G e1_Blocked, e1_Blocked, y3_Blocked, y4_Blocked, y1_Blocked, y2_Blocked, y5_Blocked, ⟨x1_Blocked, x2_Blocked, e4_Blocked, x3_Blocked⟩, y6_Blocked⟩, (allC ⟨C_InvalidBody, e1_InvalidBody, ⟨x1_InvalidBody, x2_InvalidBody, e4_InvalidBody, x3_InvalidBody, x4_InvalidBody, w1, w2, x5_InvalidBody⟩, kitOne_bltn (by decide +kernel) (sub_at 0 s_ArithmeticError rfl)⟩ (allC ⟨C_InvalidBodies, e1_InvalidBodies, ⟨x1_InvalidBodies, x2_InvalidBodies, e4_InvalidBodies, x3_InvalidBodies, x4_InvalidBodies, w1, w2, x5_InvalidBodies⟩, kitOne_bltn (by decide +kernel) (sub_at 1 s_ArithmeticError rfl)⟩ (allC ⟨C_InvalidName, e1_InvalidName, ⟨x1_InvalidName, x2_InvalidName, e4_InvalidName, x3_InvalidName, x4_InvalidName, w1, w2, x5_InvalidName⟩, kitOne_bltn (by decide +kernel) (sub_at 2 s_ArithmeticError rfl)⟩ (allC ⟨C_InvalidNames, e1_InvalidNames, ⟨x1_InvalidNames, x2_InvalidNames, e4_InvalidNames, x3_InvalidNames, x4_InvalidNames, w1, w2, x5_InvalidNames⟩, kitOne_bltn (by decide +kernel) (sub_at 3 s_ArithmeticError rfl)⟩ (allC ⟨C_InvalidWay, e1_InvalidWay, ⟨x1_InvalidWay, x2_InvalidWay, e4_InvalidWay, x3_InvalidWay, x4_InvalidWay, w1, w2, x5_InvalidWay⟩, kitOne_bltn (by decide +kernel) (sub_at 4 s_ArithmeticError rfl)⟩ (allC ⟨C_InvalidEvents, e1_InvalidEvents, ⟨x1_InvalidEvents, x2_InvalidEvents, e4_InvalidEvents, x3_InvalidEvents, x4_InvalidEvents, w1, w2, x5_InvalidEvents⟩, kitOne_bltn (by decide +kernel) (sub_at 5 s_ArithmeticError rfl)⟩ (allC ⟨C_InvalidProfile, e1_InvalidProfile, ⟨x1_InvalidProfile, x2_InvalidProfile, e4_InvalidProfile, x3_InvalidProfile, x4_InvalidProfile, w1, w2, x5_InvalidProfile⟩, kitOne_bltn (by decide +kernel) (sub_at 6 s_ArithmeticError rfl)⟩ (allC ⟨C_InvalidProfiles, e1_InvalidProfiles, ⟨x1_InvalidProfiles, x2_InvalidProfiles, e4_InvalidProfiles, x3_InvalidProfiles, x4_InvalidProfiles, w1, w2, x5_InvalidProfiles⟩, kitOne_bltn (by decide +kernel) (sub_at 7 s_ArithmeticError rfl)⟩ (allC ⟨C_InvalidGroup, e1_InvalidGroup, ⟨x1_InvalidGroup, x2_InvalidGroup, e4_InvalidGroup, x3_InvalidGroup, x4_InvalidGroup, w1, w2, x5_InvalidGroup⟩, kitOne_bltn (by decide +kernel) (sub_at 8 s_ArithmeticError rfl)⟩ (allC ⟨C_InvalidLocks, e1_InvalidLocks, ⟨x1_InvalidLocks, x2_InvalidLocks, e4_InvalidLocks, x3_InvalidLocks, x4_InvalidLocks, w1, w2, x5_InvalidLocks⟩, kitOne_bltn (by decide +kernel) (sub_at 9 s_ArithmeticError rfl)⟩ (allC ⟨C_InvalidFrame, e1_InvalidFrame, ⟨x1_InvalidFrame, x2_InvalidFrame, e4_InvalidFrame, x3_InvalidFrame, x4_InvalidFrame, w1, w2, x5_InvalidFrame⟩, kitOne_bltn (by decide +kernel) (sub_at 10 s_ArithmeticError rfl)⟩ (allC ⟨C_InvalidBook, e1_InvalidBook, ⟨x1_InvalidBook, x2_InvalidBook, e4_InvalidBook, x3_InvalidBook, x4_InvalidBook, w1, w2, x5_InvalidBook⟩, kitOne_bltn (by decide +kernel) (sub_at 11 s_ArithmeticError rfl)⟩ (allC ⟨C_InvalidNumber, e1_InvalidNumber, ⟨x1_InvalidNumber, x2_InvalidNumber, e4_InvalidNumber, x3_InvalidNumber, x4_InvalidNumber, w1, w2, x5_InvalidNumber⟩, kitOne_bltn (by decide +kernel) (sub_at 12 s_ArithmeticError rfl)⟩ (allC ⟨C_InvalidText, e1_InvalidText, ⟨x1_InvalidText, x2_InvalidText, e4_InvalidText, x3_InvalidText, x4_InvalidText, w1, w2, x5_InvalidText⟩, kitOne_bltn (by decide +kernel) (sub_at 13 s_ArithmeticError rfl)⟩ (allC ⟨C_TooLarge, e1_TooLarge, ⟨x1_TooLarge, x2_TooLarge, e4_TooLarge, x3_TooLarge, x4_TooLarge, w1, w2, x5_TooLarge⟩, kitOne_bltn (by decide +kernel) (sub_at 14 s_ArithmeticError rfl)⟩ (allC ⟨C_Ended, e1_Ended, ⟨x1_Ended, x2_Ended, e4_Ended, x3_Ended, x4_Ended, w1, w2, x5_Ended⟩, kitOne_bltn (by decide +kernel) (sub_at 15 s_ArithmeticError rfl)⟩ (allC ⟨C_NothingToUndo, e1_NothingToUndo, ⟨x1_NothingToUndo, x2_NothingToUndo, e4_NothingToUndo, x3_NothingToUndo, x4_NothingToUndo, w1, w2, x5_NothingToUndo⟩, kitOne_bltn (by decide +kernel) (sub_at 16 s_ArithmeticError rfl)⟩ (allC ⟨C_Blocked, e1_Blocked, ⟨x1_Blocked, x2_Blocked, e4_Blocked, x3_Blocked, x4_Blocked, w1, w2, x5_Blocked⟩, kitOne_bltn (by decide +kernel) (sub_at 17 s_ArithmeticError rfl)⟩ (allC ⟨C_HoldError, e1_HoldError, ⟨x1_HoldError, x2_HoldError, e4_HoldError, x3_HoldError, x4_HoldError, w1, w2, x5_HoldError⟩, kitOne_bltn (by decide +kernel) (sub_at 18 s_ArithmeticError rfl)⟩ allN))))))))))))))))))), (allC ⟨C_InvalidBody, e1_InvalidBody, ⟨x1_InvalidBody, x2_InvalidBody, e4_InvalidBody, x3_InvalidBody, x4_InvalidBody, w1, w2, x5_InvalidBody⟩, kitOne_bltn (by decide +kernel) (sub_at 0 s_AttributeError rfl)⟩ (allC ⟨C_InvalidBodies, e1_InvalidBodies, ⟨x1_InvalidBodies, x2_InvalidBodies, e4_InvalidBodies, x3_InvalidBodies, x4_InvalidBodies, w1, w2, x5_InvalidBodies⟩, kitOne_bltn (by decide +kernel) (sub_at 1 s_AttributeError rfl)⟩ (allC ⟨C_InvalidName, e1_InvalidName, ⟨x1_InvalidName, x2_InvalidName, e4_InvalidName, x3_InvalidName, x4_InvalidName, w1, w2, x5_InvalidName⟩, kitOne_bltn (by decide +kernel) (sub_at 2 s_AttributeError rfl)⟩ (allC ⟨C_InvalidNames, e1_InvalidNames, ⟨x1_InvalidNames, x2_InvalidNames, e4_InvalidNames, x3_InvalidNames, x4_InvalidNames, w1, w2, x5_InvalidNames⟩, kitOne_bltn (by decide +kernel) (sub_at 3 s_AttributeError rfl)⟩ (allC ⟨C_InvalidWay, e1_InvalidWay, ⟨x1_InvalidWay, x2_InvalidWay, e4_InvalidWay, x3_InvalidWay, x4_InvalidWay, w1, w2, x5_InvalidWay⟩, kitOne_bltn (by decide +kernel) (sub_at 4 s_AttributeError rfl)⟩ (allC ⟨C_InvalidEvents, e1_InvalidEvents, ⟨x1_InvalidEvents, x2_InvalidEvents, e4_InvalidEvents, x3_InvalidEvents, x4_InvalidEvents, w1, w2, x5_InvalidEvents⟩, kitOne_bltn (by decide +kernel) (sub_at 5 s_AttributeError rfl)⟩ (allC ⟨C_InvalidProfile, e1_InvalidProfile, ⟨x1_InvalidProfile, x2_InvalidProfile, e4_InvalidProfile, x3_InvalidProfile, x4_InvalidProfile, w1, w2, x5_InvalidProfile⟩, kitOne_bltn (by decide +kernel) (sub_at 6 s_AttributeError rfl)⟩ (allC ⟨C_InvalidProfiles, e1_InvalidProfiles, ⟨x1_InvalidProfiles, x2_InvalidProfiles, e4_InvalidProfiles, x3_InvalidProfiles, x4_InvalidProfiles, w1, w2, x5_InvalidProfiles⟩, kitOne_bltn (by decide +kernel) (sub_at 7 s_AttributeError rfl)⟩ (allC ⟨C_InvalidGroup, e1_InvalidGroup, ⟨x1_InvalidGroup, x2_InvalidGroup, e4_InvalidGroup, x3_InvalidGroup, x4_InvalidGroup, w1, w2, x5_InvalidGroup⟩, kitOne_bltn (by decide +kernel) (sub_at 8 s_AttributeError rfl)⟩ (allC ⟨C_InvalidLocks, e1_InvalidLocks, ⟨x1_InvalidLocks, x2_InvalidLocks, e4_InvalidLocks, x3_InvalidLocks, x4_InvalidLocks, w1, w2, x5_InvalidLocks⟩, kitOne_bltn (by decide +kernel) (sub_at 9 s_AttributeError rfl)⟩ (allC ⟨C_InvalidFrame, e1_InvalidFrame, ⟨x1_InvalidFrame, x2_InvalidFrame, e4_InvalidFrame, x3_InvalidFrame, x4_InvalidFrame, w1, w2, x5_InvalidFrame⟩, kitOne_bltn (by decide +kernel) (sub_at 10 s_AttributeError rfl)⟩ (allC ⟨C_InvalidBook, e1_InvalidBook, ⟨x1_InvalidBook, x2_InvalidBook, e4_InvalidBook, x3_InvalidBook, x4_InvalidBook, w1, w2, x5_InvalidBook⟩, kitOne_bltn (by decide +kernel) (sub_at 11 s_AttributeError rfl)⟩ (allC ⟨C_InvalidNumber, e1_InvalidNumber, ⟨x1_InvalidNumber, x2_InvalidNumber, e4_InvalidNumber, x3_InvalidNumber, x4_InvalidNumber, w1, w2, x5_InvalidNumber⟩, kitOne_bltn (by decide +kernel) (sub_at 12 s_AttributeError rfl)⟩ (allC ⟨C_InvalidText, e1_InvalidText, ⟨x1_InvalidText, x2_InvalidText, e4_InvalidText, x3_InvalidText, x4_InvalidText, w1, w2, x5_InvalidText⟩, kitOne_bltn (by decide +kernel) (sub_at 13 s_AttributeError rfl)⟩ (allC ⟨C_TooLarge, e1_TooLarge, ⟨x1_TooLarge, x2_TooLarge, e4_TooLarge, x3_TooLarge, x4_TooLarge, w1, w2, x5_TooLarge⟩, kitOne_bltn (by decide +kernel) (sub_at 14 s_AttributeError rfl)⟩ (allC ⟨C_Ended, e1_Ended, ⟨x1_Ended, x2_Ended, e4_Ended, x3_Ended, x4_Ended, w1, w2, x5_Ended⟩, kitOne_bltn (by decide +kernel) (sub_at 15 s_AttributeError rfl)⟩ (allC ⟨C_NothingToUndo, e1_NothingToUndo, ⟨x1_NothingToUndo, x2_NothingToUndo, e4_NothingToUndo, x3_NothingToUndo, x4_NothingToUndo, w1, w2, x5_NothingToUndo⟩, kitOne_bltn (by decide +kernel) (sub_at 16 s_AttributeError rfl)⟩ (allC ⟨C_Blocked, e1_Blocked, ⟨x1_Blocked, x2_Blocked, e4_Blocked, x3_Blocked, x4_Blocked, w1, w2, x5_Blocked⟩, kitOne_bltn (by decide +kernel) (sub_at 17 s_AttributeError rfl)⟩ (allC ⟨C_HoldError, e1_HoldError, ⟨x1_HoldError, x2_HoldError, e4_HoldError, x3_HoldError, x4_HoldError, w1, w2, x5_HoldError⟩, kitOne_bltn (by decide +kernel) (sub_at 18 s_AttributeError rfl)⟩ allN))))))))))))))))))), ⟨C_Blocked, PySem.W.mg_of X G e1_Blocked, (allC ⟨C_InvalidBody, e1_InvalidBody, ⟨x1_InvalidBody, x2_InvalidBody, e4_InvalidBody, x3_InvalidBody, x4_InvalidBody, w1, w2, x5_InvalidBody⟩, kitOne_no e5_Blocked e6_Blocked e7_InvalidBody (sub_at 0 s_Blocked rfl)⟩ (allC ⟨C_InvalidBodies, e1_InvalidBodies, ⟨x1_InvalidBodies, x2_InvalidBodies, e4_InvalidBodies, x3_InvalidBodies, x4_InvalidBodies, w1, w2, x5_InvalidBodies⟩, kitOne_no e5_Blocked e6_Blocked e7_InvalidBodies (sub_at 1 s_Blocked rfl)⟩ (allC ⟨C_InvalidName, e1_InvalidName, ⟨x1_InvalidName, x2_InvalidName, e4_InvalidName, x3_InvalidName, x4_InvalidName, w1, w2, x5_InvalidName⟩, kitOne_no e5_Blocked e6_Blocked e7_InvalidName (sub_at 2 s_Blocked rfl)⟩ (allC ⟨C_InvalidNames, e1_InvalidNames, ⟨x1_InvalidNames, x2_InvalidNames, e4_InvalidNames, x3_InvalidNames, x4_InvalidNames, w1, w2, x5_InvalidNames⟩, kitOne_no e5_Blocked e6_Blocked e7_InvalidNames (sub_at 3 s_Blocked rfl)⟩ (allC ⟨C_InvalidWay, e1_InvalidWay, ⟨x1_InvalidWay, x2_InvalidWay, e4_InvalidWay, x3_InvalidWay, x4_InvalidWay, w1, w2, x5_InvalidWay⟩, kitOne_no e5_Blocked e6_Blocked e7_InvalidWay (sub_at 4 s_Blocked rfl)⟩ (allC ⟨C_InvalidEvents, e1_InvalidEvents, ⟨x1_InvalidEvents, x2_InvalidEvents, e4_InvalidEvents, x3_InvalidEvents, x4_InvalidEvents, w1, w2, x5_InvalidEvents⟩, kitOne_no e5_Blocked e6_Blocked e7_InvalidEvents (sub_at 5 s_Blocked rfl)⟩ (allC ⟨C_InvalidProfile, e1_InvalidProfile, ⟨x1_InvalidProfile, x2_InvalidProfile, e4_InvalidProfile, x3_InvalidProfile, x4_InvalidProfile, w1, w2, x5_InvalidProfile⟩, kitOne_no e5_Blocked e6_Blocked e7_InvalidProfile (sub_at 6 s_Blocked rfl)⟩ (allC ⟨C_InvalidProfiles, e1_InvalidProfiles, ⟨x1_InvalidProfiles, x2_InvalidProfiles, e4_InvalidProfiles, x3_InvalidProfiles, x4_InvalidProfiles, w1, w2, x5_InvalidProfiles⟩, kitOne_no e5_Blocked e6_Blocked e7_InvalidProfiles (sub_at 7 s_Blocked rfl)⟩ (allC ⟨C_InvalidGroup, e1_InvalidGroup, ⟨x1_InvalidGroup, x2_InvalidGroup, e4_InvalidGroup, x3_InvalidGroup, x4_InvalidGroup, w1, w2, x5_InvalidGroup⟩, kitOne_no e5_Blocked e6_Blocked e7_InvalidGroup (sub_at 8 s_Blocked rfl)⟩ (allC ⟨C_InvalidLocks, e1_InvalidLocks, ⟨x1_InvalidLocks, x2_InvalidLocks, e4_InvalidLocks, x3_InvalidLocks, x4_InvalidLocks, w1, w2, x5_InvalidLocks⟩, kitOne_no e5_Blocked e6_Blocked e7_InvalidLocks (sub_at 9 s_Blocked rfl)⟩ (allC ⟨C_InvalidFrame, e1_InvalidFrame, ⟨x1_InvalidFrame, x2_InvalidFrame, e4_InvalidFrame, x3_InvalidFrame, x4_InvalidFrame, w1, w2, x5_InvalidFrame⟩, kitOne_no e5_Blocked e6_Blocked e7_InvalidFrame (sub_at 10 s_Blocked rfl)⟩ (allC ⟨C_InvalidBook, e1_InvalidBook, ⟨x1_InvalidBook, x2_InvalidBook, e4_InvalidBook, x3_InvalidBook, x4_InvalidBook, w1, w2, x5_InvalidBook⟩, kitOne_no e5_Blocked e6_Blocked e7_InvalidBook (sub_at 11 s_Blocked rfl)⟩ (allC ⟨C_InvalidNumber, e1_InvalidNumber, ⟨x1_InvalidNumber, x2_InvalidNumber, e4_InvalidNumber, x3_InvalidNumber, x4_InvalidNumber, w1, w2, x5_InvalidNumber⟩, kitOne_no e5_Blocked e6_Blocked e7_InvalidNumber (sub_at 12 s_Blocked rfl)⟩ (allC ⟨C_InvalidText, e1_InvalidText, ⟨x1_InvalidText, x2_InvalidText, e4_InvalidText, x3_InvalidText, x4_InvalidText, w1, w2, x5_InvalidText⟩, kitOne_no e5_Blocked e6_Blocked e7_InvalidText (sub_at 13 s_Blocked rfl)⟩ (allC ⟨C_TooLarge, e1_TooLarge, ⟨x1_TooLarge, x2_TooLarge, e4_TooLarge, x3_TooLarge, x4_TooLarge, w1, w2, x5_TooLarge⟩, kitOne_no e5_Blocked e6_Blocked e7_TooLarge (sub_at 14 s_Blocked rfl)⟩ (allC ⟨C_Ended, e1_Ended, ⟨x1_Ended, x2_Ended, e4_Ended, x3_Ended, x4_Ended, w1, w2, x5_Ended⟩, kitOne_no e5_Blocked e6_Blocked e7_Ended (sub_at 15 s_Blocked rfl)⟩ (allC ⟨C_NothingToUndo, e1_NothingToUndo, ⟨x1_NothingToUndo, x2_NothingToUndo, e4_NothingToUndo, x3_NothingToUndo, x4_NothingToUndo, w1, w2, x5_NothingToUndo⟩, kitOne_no e5_Blocked e6_Blocked e7_NothingToUndo (sub_at 16 s_Blocked rfl)⟩ (allC ⟨C_Blocked, e1_Blocked, ⟨x1_Blocked, x2_Blocked, e4_Blocked, x3_Blocked, x4_Blocked, w1, w2, x5_Blocked⟩, kitOne_yes e5_Blocked e6_Blocked (sub_at 17 s_Blocked rfl)⟩ (allC ⟨C_HoldError, e1_HoldError, ⟨x1_HoldError, x2_HoldError, e4_HoldError, x3_HoldError, x4_HoldError, w1, w2, x5_HoldError⟩, kitOne_no e5_Blocked e6_Blocked e7_HoldError (sub_at 18 s_Blocked rfl)⟩ allN)))))))))))))))))))⟩, ⟨C_Ended, PySem.W.mg_of X G e1_Ended, (allC ⟨C_InvalidBody, e1_InvalidBody, ⟨x1_InvalidBody, x2_InvalidBody, e4_InvalidBody, x3_InvalidBody, x4_InvalidBody, w1, w2, x5_InvalidBody⟩, kitOne_no e5_Ended e6_Ended e7_InvalidBody (sub_at 0 s_Ended rfl)⟩ (allC ⟨C_InvalidBodies, e1_InvalidBodies, ⟨x1_InvalidBodies, x2_InvalidBodies, e4_InvalidBodies, x3_InvalidBodies, x4_InvalidBodies, w1, w2, x5_InvalidBodies⟩, kitOne_no e5_Ended e6_Ended e7_InvalidBodies (sub_at 1 s_Ended rfl)⟩ (allC ⟨C_InvalidName, e1_InvalidName, ⟨x1_InvalidName, x2_InvalidName, e4_InvalidName, x3_InvalidName, x4_InvalidName, w1, w2, x5_InvalidName⟩, kitOne_no e5_Ended e6_Ended e7_InvalidName (sub_at 2 s_Ended rfl)⟩ (allC ⟨C_InvalidNames, e1_InvalidNames, ⟨x1_InvalidNames, x2_InvalidNames, e4_InvalidNames, x3_InvalidNames, x4_InvalidNames, w1, w2, x5_InvalidNames⟩, kitOne_no e5_Ended e6_Ended e7_InvalidNames (sub_at 3 s_Ended rfl)⟩ (allC ⟨C_InvalidWay, e1_InvalidWay, ⟨x1_InvalidWay, x2_InvalidWay, e4_InvalidWay, x3_InvalidWay, x4_InvalidWay, w1, w2, x5_InvalidWay⟩, kitOne_no e5_Ended e6_Ended e7_InvalidWay (sub_at 4 s_Ended rfl)⟩ (allC ⟨C_InvalidEvents, e1_InvalidEvents, ⟨x1_InvalidEvents, x2_InvalidEvents, e4_InvalidEvents, x3_InvalidEvents, x4_InvalidEvents, w1, w2, x5_InvalidEvents⟩, kitOne_no e5_Ended e6_Ended e7_InvalidEvents (sub_at 5 s_Ended rfl)⟩ (allC ⟨C_InvalidProfile, e1_InvalidProfile, ⟨x1_InvalidProfile, x2_InvalidProfile, e4_InvalidProfile, x3_InvalidProfile, x4_InvalidProfile, w1, w2, x5_InvalidProfile⟩, kitOne_no e5_Ended e6_Ended e7_InvalidProfile (sub_at 6 s_Ended rfl)⟩ (allC ⟨C_InvalidProfiles, e1_InvalidProfiles, ⟨x1_InvalidProfiles, x2_InvalidProfiles, e4_InvalidProfiles, x3_InvalidProfiles, x4_InvalidProfiles, w1, w2, x5_InvalidProfiles⟩, kitOne_no e5_Ended e6_Ended e7_InvalidProfiles (sub_at 7 s_Ended rfl)⟩ (allC ⟨C_InvalidGroup, e1_InvalidGroup, ⟨x1_InvalidGroup, x2_InvalidGroup, e4_InvalidGroup, x3_InvalidGroup, x4_InvalidGroup, w1, w2, x5_InvalidGroup⟩, kitOne_no e5_Ended e6_Ended e7_InvalidGroup (sub_at 8 s_Ended rfl)⟩ (allC ⟨C_InvalidLocks, e1_InvalidLocks, ⟨x1_InvalidLocks, x2_InvalidLocks, e4_InvalidLocks, x3_InvalidLocks, x4_InvalidLocks, w1, w2, x5_InvalidLocks⟩, kitOne_no e5_Ended e6_Ended e7_InvalidLocks (sub_at 9 s_Ended rfl)⟩ (allC ⟨C_InvalidFrame, e1_InvalidFrame, ⟨x1_InvalidFrame, x2_InvalidFrame, e4_InvalidFrame, x3_InvalidFrame, x4_InvalidFrame, w1, w2, x5_InvalidFrame⟩, kitOne_no e5_Ended e6_Ended e7_InvalidFrame (sub_at 10 s_Ended rfl)⟩ (allC ⟨C_InvalidBook, e1_InvalidBook, ⟨x1_InvalidBook, x2_InvalidBook, e4_InvalidBook, x3_InvalidBook, x4_InvalidBook, w1, w2, x5_InvalidBook⟩, kitOne_no e5_Ended e6_Ended e7_InvalidBook (sub_at 11 s_Ended rfl)⟩ (allC ⟨C_InvalidNumber, e1_InvalidNumber, ⟨x1_InvalidNumber, x2_InvalidNumber, e4_InvalidNumber, x3_InvalidNumber, x4_InvalidNumber, w1, w2, x5_InvalidNumber⟩, kitOne_no e5_Ended e6_Ended e7_InvalidNumber (sub_at 12 s_Ended rfl)⟩ (allC ⟨C_InvalidText, e1_InvalidText, ⟨x1_InvalidText, x2_InvalidText, e4_InvalidText, x3_InvalidText, x4_InvalidText, w1, w2, x5_InvalidText⟩, kitOne_no e5_Ended e6_Ended e7_InvalidText (sub_at 13 s_Ended rfl)⟩ (allC ⟨C_TooLarge, e1_TooLarge, ⟨x1_TooLarge, x2_TooLarge, e4_TooLarge, x3_TooLarge, x4_TooLarge, w1, w2, x5_TooLarge⟩, kitOne_no e5_Ended e6_Ended e7_TooLarge (sub_at 14 s_Ended rfl)⟩ (allC ⟨C_Ended, e1_Ended, ⟨x1_Ended, x2_Ended, e4_Ended, x3_Ended, x4_Ended, w1, w2, x5_Ended⟩, kitOne_yes e5_Ended e6_Ended (sub_at 15 s_Ended rfl)⟩ (allC ⟨C_NothingToUndo, e1_NothingToUndo, ⟨x1_NothingToUndo, x2_NothingToUndo, e4_NothingToUndo, x3_NothingToUndo, x4_NothingToUndo, w1, w2, x5_NothingToUndo⟩, kitOne_no e5_Ended e6_Ended e7_NothingToUndo (sub_at 16 s_Ended rfl)⟩ (allC ⟨C_Blocked, e1_Blocked, ⟨x1_Blocked, x2_Blocked, e4_Blocked, x3_Blocked, x4_Blocked, w1, w2, x5_Blocked⟩, kitOne_no e5_Ended e6_Ended e7_Blocked (sub_at 17 s_Ended rfl)⟩ (allC ⟨C_HoldError, e1_HoldError, ⟨x1_HoldError, x2_HoldError, e4_HoldError, x3_HoldError, x4_HoldError, w1, w2, x5_HoldError⟩, kitOne_no e5_Ended e6_Ended e7_HoldError (sub_at 18 s_Ended rfl)⟩ allN)))))))))))))))))))⟩, ⟨C_HoldError, PySem.W.mg_of X G e1_HoldError, (allC ⟨C_InvalidBody, e1_InvalidBody, ⟨x1_InvalidBody, x2_InvalidBody, e4_InvalidBody, x3_InvalidBody, x4_InvalidBody, w1, w2, x5_InvalidBody⟩, kitOne_yes e5_HoldError e6_HoldError (sub_at 0 s_HoldError rfl)⟩ (allC ⟨C_InvalidBodies, e1_InvalidBodies, ⟨x1_InvalidBodies, x2_InvalidBodies, e4_InvalidBodies, x3_InvalidBodies, x4_InvalidBodies, w1, w2, x5_InvalidBodies⟩, kitOne_yes e5_HoldError e6_HoldError (sub_at 1 s_HoldError rfl)⟩ (allC ⟨C_InvalidName, e1_InvalidName, ⟨x1_InvalidName, x2_InvalidName, e4_InvalidName, x3_InvalidName, x4_InvalidName, w1, w2, x5_InvalidName⟩, kitOne_yes e5_HoldError e6_HoldError (sub_at 2 s_HoldError rfl)⟩ (allC ⟨C_InvalidNames, e1_InvalidNames, ⟨x1_InvalidNames, x2_InvalidNames, e4_InvalidNames, x3_InvalidNames, x4_InvalidNames, w1, w2, x5_InvalidNames⟩, kitOne_yes e5_HoldError e6_HoldError (sub_at 3 s_HoldError rfl)⟩ (allC ⟨C_InvalidWay, e1_InvalidWay, ⟨x1_InvalidWay, x2_InvalidWay, e4_InvalidWay, x3_InvalidWay, x4_InvalidWay, w1, w2, x5_InvalidWay⟩, kitOne_yes e5_HoldError e6_HoldError (sub_at 4 s_HoldError rfl)⟩ (allC ⟨C_InvalidEvents, e1_InvalidEvents, ⟨x1_InvalidEvents, x2_InvalidEvents, e4_InvalidEvents, x3_InvalidEvents, x4_InvalidEvents, w1, w2, x5_InvalidEvents⟩, kitOne_yes e5_HoldError e6_HoldError (sub_at 5 s_HoldError rfl)⟩ (allC ⟨C_InvalidProfile, e1_InvalidProfile, ⟨x1_InvalidProfile, x2_InvalidProfile, e4_InvalidProfile, x3_InvalidProfile, x4_InvalidProfile, w1, w2, x5_InvalidProfile⟩, kitOne_yes e5_HoldError e6_HoldError (sub_at 6 s_HoldError rfl)⟩ (allC ⟨C_InvalidProfiles, e1_InvalidProfiles, ⟨x1_InvalidProfiles, x2_InvalidProfiles, e4_InvalidProfiles, x3_InvalidProfiles, x4_InvalidProfiles, w1, w2, x5_InvalidProfiles⟩, kitOne_yes e5_HoldError e6_HoldError (sub_at 7 s_HoldError rfl)⟩ (allC ⟨C_InvalidGroup, e1_InvalidGroup, ⟨x1_InvalidGroup, x2_InvalidGroup, e4_InvalidGroup, x3_InvalidGroup, x4_InvalidGroup, w1, w2, x5_InvalidGroup⟩, kitOne_yes e5_HoldError e6_HoldError (sub_at 8 s_HoldError rfl)⟩ (allC ⟨C_InvalidLocks, e1_InvalidLocks, ⟨x1_InvalidLocks, x2_InvalidLocks, e4_InvalidLocks, x3_InvalidLocks, x4_InvalidLocks, w1, w2, x5_InvalidLocks⟩, kitOne_yes e5_HoldError e6_HoldError (sub_at 9 s_HoldError rfl)⟩ (allC ⟨C_InvalidFrame, e1_InvalidFrame, ⟨x1_InvalidFrame, x2_InvalidFrame, e4_InvalidFrame, x3_InvalidFrame, x4_InvalidFrame, w1, w2, x5_InvalidFrame⟩, kitOne_yes e5_HoldError e6_HoldError (sub_at 10 s_HoldError rfl)⟩ (allC ⟨C_InvalidBook, e1_InvalidBook, ⟨x1_InvalidBook, x2_InvalidBook, e4_InvalidBook, x3_InvalidBook, x4_InvalidBook, w1, w2, x5_InvalidBook⟩, kitOne_yes e5_HoldError e6_HoldError (sub_at 11 s_HoldError rfl)⟩ (allC ⟨C_InvalidNumber, e1_InvalidNumber, ⟨x1_InvalidNumber, x2_InvalidNumber, e4_InvalidNumber, x3_InvalidNumber, x4_InvalidNumber, w1, w2, x5_InvalidNumber⟩, kitOne_yes e5_HoldError e6_HoldError (sub_at 12 s_HoldError rfl)⟩ (allC ⟨C_InvalidText, e1_InvalidText, ⟨x1_InvalidText, x2_InvalidText, e4_InvalidText, x3_InvalidText, x4_InvalidText, w1, w2, x5_InvalidText⟩, kitOne_yes e5_HoldError e6_HoldError (sub_at 13 s_HoldError rfl)⟩ (allC ⟨C_TooLarge, e1_TooLarge, ⟨x1_TooLarge, x2_TooLarge, e4_TooLarge, x3_TooLarge, x4_TooLarge, w1, w2, x5_TooLarge⟩, kitOne_yes e5_HoldError e6_HoldError (sub_at 14 s_HoldError rfl)⟩ (allC ⟨C_Ended, e1_Ended, ⟨x1_Ended, x2_Ended, e4_Ended, x3_Ended, x4_Ended, w1, w2, x5_Ended⟩, kitOne_yes e5_HoldError e6_HoldError (sub_at 15 s_HoldError rfl)⟩ (allC ⟨C_NothingToUndo, e1_NothingToUndo, ⟨x1_NothingToUndo, x2_NothingToUndo, e4_NothingToUndo, x3_NothingToUndo, x4_NothingToUndo, w1, w2, x5_NothingToUndo⟩, kitOne_yes e5_HoldError e6_HoldError (sub_at 16 s_HoldError rfl)⟩ (allC ⟨C_Blocked, e1_Blocked, ⟨x1_Blocked, x2_Blocked, e4_Blocked, x3_Blocked, x4_Blocked, w1, w2, x5_Blocked⟩, kitOne_yes e5_HoldError e6_HoldError (sub_at 17 s_HoldError rfl)⟩ (allC ⟨C_HoldError, e1_HoldError, ⟨x1_HoldError, x2_HoldError, e4_HoldError, x3_HoldError, x4_HoldError, w1, w2, x5_HoldError⟩, kitOne_yes e5_HoldError e6_HoldError (sub_at 18 s_HoldError rfl)⟩ allN)))))))))))))))))))⟩, ⟨C_InvalidBodies, PySem.W.mg_of X G e1_InvalidBodies, (allC ⟨C_InvalidBody, e1_InvalidBody, ⟨x1_InvalidBody, x2_InvalidBody, e4_InvalidBody, x3_InvalidBody, x4_InvalidBody, w1, w2, x5_InvalidBody⟩, kitOne_no e5_InvalidBodies e6_InvalidBodies e7_InvalidBody (sub_at 0 s_InvalidBodies rfl)⟩ (allC ⟨C_InvalidBodies, e1_InvalidBodies, ⟨x1_InvalidBodies, x2_InvalidBodies, e4_InvalidBodies, x3_InvalidBodies, x4_InvalidBodies, w1, w2, x5_InvalidBodies⟩, kitOne_yes e5_InvalidBodies e6_InvalidBodies (sub_at 1 s_InvalidBodies rfl)⟩ (allC ⟨C_InvalidName, e1_InvalidName, ⟨x1_InvalidName, x2_InvalidName, e4_InvalidName, x3_InvalidName, x4_InvalidName, w1, w2, x5_InvalidName⟩, kitOne_no e5_InvalidBodies e6_InvalidBodies e7_InvalidName (sub_at 2 s_InvalidBodies rfl)⟩ (allC ⟨C_InvalidNames, e1_InvalidNames, ⟨x1_InvalidNames, x2_InvalidNames, e4_InvalidNames, x3_InvalidNames, x4_InvalidNames, w1, w2, x5_InvalidNames⟩, kitOne_no e5_InvalidBodies e6_InvalidBodies e7_InvalidNames (sub_at 3 s_InvalidBodies rfl)⟩ (allC ⟨C_InvalidWay, e1_InvalidWay, ⟨x1_InvalidWay, x2_InvalidWay, e4_InvalidWay, x3_InvalidWay, x4_InvalidWay, w1, w2, x5_InvalidWay⟩, kitOne_no e5_InvalidBodies e6_InvalidBodies e7_InvalidWay (sub_at 4 s_InvalidBodies rfl)⟩ (allC ⟨C_InvalidEvents, e1_InvalidEvents, ⟨x1_InvalidEvents, x2_InvalidEvents, e4_InvalidEvents, x3_InvalidEvents, x4_InvalidEvents, w1, w2, x5_InvalidEvents⟩, kitOne_no e5_InvalidBodies e6_InvalidBodies e7_InvalidEvents (sub_at 5 s_InvalidBodies rfl)⟩ (allC ⟨C_InvalidProfile, e1_InvalidProfile, ⟨x1_InvalidProfile, x2_InvalidProfile, e4_InvalidProfile, x3_InvalidProfile, x4_InvalidProfile, w1, w2, x5_InvalidProfile⟩, kitOne_no e5_InvalidBodies e6_InvalidBodies e7_InvalidProfile (sub_at 6 s_InvalidBodies rfl)⟩ (allC ⟨C_InvalidProfiles, e1_InvalidProfiles, ⟨x1_InvalidProfiles, x2_InvalidProfiles, e4_InvalidProfiles, x3_InvalidProfiles, x4_InvalidProfiles, w1, w2, x5_InvalidProfiles⟩, kitOne_no e5_InvalidBodies e6_InvalidBodies e7_InvalidProfiles (sub_at 7 s_InvalidBodies rfl)⟩ (allC ⟨C_InvalidGroup, e1_InvalidGroup, ⟨x1_InvalidGroup, x2_InvalidGroup, e4_InvalidGroup, x3_InvalidGroup, x4_InvalidGroup, w1, w2, x5_InvalidGroup⟩, kitOne_no e5_InvalidBodies e6_InvalidBodies e7_InvalidGroup (sub_at 8 s_InvalidBodies rfl)⟩ (allC ⟨C_InvalidLocks, e1_InvalidLocks, ⟨x1_InvalidLocks, x2_InvalidLocks, e4_InvalidLocks, x3_InvalidLocks, x4_InvalidLocks, w1, w2, x5_InvalidLocks⟩, kitOne_no e5_InvalidBodies e6_InvalidBodies e7_InvalidLocks (sub_at 9 s_InvalidBodies rfl)⟩ (allC ⟨C_InvalidFrame, e1_InvalidFrame, ⟨x1_InvalidFrame, x2_InvalidFrame, e4_InvalidFrame, x3_InvalidFrame, x4_InvalidFrame, w1, w2, x5_InvalidFrame⟩, kitOne_no e5_InvalidBodies e6_InvalidBodies e7_InvalidFrame (sub_at 10 s_InvalidBodies rfl)⟩ (allC ⟨C_InvalidBook, e1_InvalidBook, ⟨x1_InvalidBook, x2_InvalidBook, e4_InvalidBook, x3_InvalidBook, x4_InvalidBook, w1, w2, x5_InvalidBook⟩, kitOne_no e5_InvalidBodies e6_InvalidBodies e7_InvalidBook (sub_at 11 s_InvalidBodies rfl)⟩ (allC ⟨C_InvalidNumber, e1_InvalidNumber, ⟨x1_InvalidNumber, x2_InvalidNumber, e4_InvalidNumber, x3_InvalidNumber, x4_InvalidNumber, w1, w2, x5_InvalidNumber⟩, kitOne_no e5_InvalidBodies e6_InvalidBodies e7_InvalidNumber (sub_at 12 s_InvalidBodies rfl)⟩ (allC ⟨C_InvalidText, e1_InvalidText, ⟨x1_InvalidText, x2_InvalidText, e4_InvalidText, x3_InvalidText, x4_InvalidText, w1, w2, x5_InvalidText⟩, kitOne_no e5_InvalidBodies e6_InvalidBodies e7_InvalidText (sub_at 13 s_InvalidBodies rfl)⟩ (allC ⟨C_TooLarge, e1_TooLarge, ⟨x1_TooLarge, x2_TooLarge, e4_TooLarge, x3_TooLarge, x4_TooLarge, w1, w2, x5_TooLarge⟩, kitOne_no e5_InvalidBodies e6_InvalidBodies e7_TooLarge (sub_at 14 s_InvalidBodies rfl)⟩ (allC ⟨C_Ended, e1_Ended, ⟨x1_Ended, x2_Ended, e4_Ended, x3_Ended, x4_Ended, w1, w2, x5_Ended⟩, kitOne_no e5_InvalidBodies e6_InvalidBodies e7_Ended (sub_at 15 s_InvalidBodies rfl)⟩ (allC ⟨C_NothingToUndo, e1_NothingToUndo, ⟨x1_NothingToUndo, x2_NothingToUndo, e4_NothingToUndo, x3_NothingToUndo, x4_NothingToUndo, w1, w2, x5_NothingToUndo⟩, kitOne_no e5_InvalidBodies e6_InvalidBodies e7_NothingToUndo (sub_at 16 s_InvalidBodies rfl)⟩ (allC ⟨C_Blocked, e1_Blocked, ⟨x1_Blocked, x2_Blocked, e4_Blocked, x3_Blocked, x4_Blocked, w1, w2, x5_Blocked⟩, kitOne_no e5_InvalidBodies e6_InvalidBodies e7_Blocked (sub_at 17 s_InvalidBodies rfl)⟩ (allC ⟨C_HoldError, e1_HoldError, ⟨x1_HoldError, x2_HoldError, e4_HoldError, x3_HoldError, x4_HoldError, w1, w2, x5_HoldError⟩, kitOne_no e5_InvalidBodies e6_InvalidBodies e7_HoldError (sub_at 18 s_InvalidBodies rfl)⟩ allN)))))))))))))))))))⟩, ⟨C_InvalidBody, PySem.W.mg_of X G e1_InvalidBody, (allC ⟨C_InvalidBody, e1_InvalidBody, ⟨x1_InvalidBody, x2_InvalidBody, e4_InvalidBody, x3_InvalidBody, x4_InvalidBody, w1, w2, x5_InvalidBody⟩, kitOne_yes e5_InvalidBody e6_InvalidBody (sub_at 0 s_InvalidBody rfl)⟩ (allC ⟨C_InvalidBodies, e1_InvalidBodies, ⟨x1_InvalidBodies, x2_InvalidBodies, e4_InvalidBodies, x3_InvalidBodies, x4_InvalidBodies, w1, w2, x5_InvalidBodies⟩, kitOne_no e5_InvalidBody e6_InvalidBody e7_InvalidBodies (sub_at 1 s_InvalidBody rfl)⟩ (allC ⟨C_InvalidName, e1_InvalidName, ⟨x1_InvalidName, x2_InvalidName, e4_InvalidName, x3_InvalidName, x4_InvalidName, w1, w2, x5_InvalidName⟩, kitOne_no e5_InvalidBody e6_InvalidBody e7_InvalidName (sub_at 2 s_InvalidBody rfl)⟩ (allC ⟨C_InvalidNames, e1_InvalidNames, ⟨x1_InvalidNames, x2_InvalidNames, e4_InvalidNames, x3_InvalidNames, x4_InvalidNames, w1, w2, x5_InvalidNames⟩, kitOne_no e5_InvalidBody e6_InvalidBody e7_InvalidNames (sub_at 3 s_InvalidBody rfl)⟩ (allC ⟨C_InvalidWay, e1_InvalidWay, ⟨x1_InvalidWay, x2_InvalidWay, e4_InvalidWay, x3_InvalidWay, x4_InvalidWay, w1, w2, x5_InvalidWay⟩, kitOne_no e5_InvalidBody e6_InvalidBody e7_InvalidWay (sub_at 4 s_InvalidBody rfl)⟩ (allC ⟨C_InvalidEvents, e1_InvalidEvents, ⟨x1_InvalidEvents, x2_InvalidEvents, e4_InvalidEvents, x3_InvalidEvents, x4_InvalidEvents, w1, w2, x5_InvalidEvents⟩, kitOne_no e5_InvalidBody e6_InvalidBody e7_InvalidEvents (sub_at 5 s_InvalidBody rfl)⟩ (allC ⟨C_InvalidProfile, e1_InvalidProfile, ⟨x1_InvalidProfile, x2_InvalidProfile, e4_InvalidProfile, x3_InvalidProfile, x4_InvalidProfile, w1, w2, x5_InvalidProfile⟩, kitOne_no e5_InvalidBody e6_InvalidBody e7_InvalidProfile (sub_at 6 s_InvalidBody rfl)⟩ (allC ⟨C_InvalidProfiles, e1_InvalidProfiles, ⟨x1_InvalidProfiles, x2_InvalidProfiles, e4_InvalidProfiles, x3_InvalidProfiles, x4_InvalidProfiles, w1, w2, x5_InvalidProfiles⟩, kitOne_no e5_InvalidBody e6_InvalidBody e7_InvalidProfiles (sub_at 7 s_InvalidBody rfl)⟩ (allC ⟨C_InvalidGroup, e1_InvalidGroup, ⟨x1_InvalidGroup, x2_InvalidGroup, e4_InvalidGroup, x3_InvalidGroup, x4_InvalidGroup, w1, w2, x5_InvalidGroup⟩, kitOne_no e5_InvalidBody e6_InvalidBody e7_InvalidGroup (sub_at 8 s_InvalidBody rfl)⟩ (allC ⟨C_InvalidLocks, e1_InvalidLocks, ⟨x1_InvalidLocks, x2_InvalidLocks, e4_InvalidLocks, x3_InvalidLocks, x4_InvalidLocks, w1, w2, x5_InvalidLocks⟩, kitOne_no e5_InvalidBody e6_InvalidBody e7_InvalidLocks (sub_at 9 s_InvalidBody rfl)⟩ (allC ⟨C_InvalidFrame, e1_InvalidFrame, ⟨x1_InvalidFrame, x2_InvalidFrame, e4_InvalidFrame, x3_InvalidFrame, x4_InvalidFrame, w1, w2, x5_InvalidFrame⟩, kitOne_no e5_InvalidBody e6_InvalidBody e7_InvalidFrame (sub_at 10 s_InvalidBody rfl)⟩ (allC ⟨C_InvalidBook, e1_InvalidBook, ⟨x1_InvalidBook, x2_InvalidBook, e4_InvalidBook, x3_InvalidBook, x4_InvalidBook, w1, w2, x5_InvalidBook⟩, kitOne_no e5_InvalidBody e6_InvalidBody e7_InvalidBook (sub_at 11 s_InvalidBody rfl)⟩ (allC ⟨C_InvalidNumber, e1_InvalidNumber, ⟨x1_InvalidNumber, x2_InvalidNumber, e4_InvalidNumber, x3_InvalidNumber, x4_InvalidNumber, w1, w2, x5_InvalidNumber⟩, kitOne_no e5_InvalidBody e6_InvalidBody e7_InvalidNumber (sub_at 12 s_InvalidBody rfl)⟩ (allC ⟨C_InvalidText, e1_InvalidText, ⟨x1_InvalidText, x2_InvalidText, e4_InvalidText, x3_InvalidText, x4_InvalidText, w1, w2, x5_InvalidText⟩, kitOne_no e5_InvalidBody e6_InvalidBody e7_InvalidText (sub_at 13 s_InvalidBody rfl)⟩ (allC ⟨C_TooLarge, e1_TooLarge, ⟨x1_TooLarge, x2_TooLarge, e4_TooLarge, x3_TooLarge, x4_TooLarge, w1, w2, x5_TooLarge⟩, kitOne_no e5_InvalidBody e6_InvalidBody e7_TooLarge (sub_at 14 s_InvalidBody rfl)⟩ (allC ⟨C_Ended, e1_Ended, ⟨x1_Ended, x2_Ended, e4_Ended, x3_Ended, x4_Ended, w1, w2, x5_Ended⟩, kitOne_no e5_InvalidBody e6_InvalidBody e7_Ended (sub_at 15 s_InvalidBody rfl)⟩ (allC ⟨C_NothingToUndo, e1_NothingToUndo, ⟨x1_NothingToUndo, x2_NothingToUndo, e4_NothingToUndo, x3_NothingToUndo, x4_NothingToUndo, w1, w2, x5_NothingToUndo⟩, kitOne_no e5_InvalidBody e6_InvalidBody e7_NothingToUndo (sub_at 16 s_InvalidBody rfl)⟩ (allC ⟨C_Blocked, e1_Blocked, ⟨x1_Blocked, x2_Blocked, e4_Blocked, x3_Blocked, x4_Blocked, w1, w2, x5_Blocked⟩, kitOne_no e5_InvalidBody e6_InvalidBody e7_Blocked (sub_at 17 s_InvalidBody rfl)⟩ (allC ⟨C_HoldError, e1_HoldError, ⟨x1_HoldError, x2_HoldError, e4_HoldError, x3_HoldError, x4_HoldError, w1, w2, x5_HoldError⟩, kitOne_no e5_InvalidBody e6_InvalidBody e7_HoldError (sub_at 18 s_InvalidBody rfl)⟩ allN)))))))))))))))))))⟩, ⟨C_InvalidBook, PySem.W.mg_of X G e1_InvalidBook, (allC ⟨C_InvalidBody, e1_InvalidBody, ⟨x1_InvalidBody, x2_InvalidBody, e4_InvalidBody, x3_InvalidBody, x4_InvalidBody, w1, w2, x5_InvalidBody⟩, kitOne_no e5_InvalidBook e6_InvalidBook e7_InvalidBody (sub_at 0 s_InvalidBook rfl)⟩ (allC ⟨C_InvalidBodies, e1_InvalidBodies, ⟨x1_InvalidBodies, x2_InvalidBodies, e4_InvalidBodies, x3_InvalidBodies, x4_InvalidBodies, w1, w2, x5_InvalidBodies⟩, kitOne_no e5_InvalidBook e6_InvalidBook e7_InvalidBodies (sub_at 1 s_InvalidBook rfl)⟩ (allC ⟨C_InvalidName, e1_InvalidName, ⟨x1_InvalidName, x2_InvalidName, e4_InvalidName, x3_InvalidName, x4_InvalidName, w1, w2, x5_InvalidName⟩, kitOne_no e5_InvalidBook e6_InvalidBook e7_InvalidName (sub_at 2 s_InvalidBook rfl)⟩ (allC ⟨C_InvalidNames, e1_InvalidNames, ⟨x1_InvalidNames, x2_InvalidNames, e4_InvalidNames, x3_InvalidNames, x4_InvalidNames, w1, w2, x5_InvalidNames⟩, kitOne_no e5_InvalidBook e6_InvalidBook e7_InvalidNames (sub_at 3 s_InvalidBook rfl)⟩ (allC ⟨C_InvalidWay, e1_InvalidWay, ⟨x1_InvalidWay, x2_InvalidWay, e4_InvalidWay, x3_InvalidWay, x4_InvalidWay, w1, w2, x5_InvalidWay⟩, kitOne_no e5_InvalidBook e6_InvalidBook e7_InvalidWay (sub_at 4 s_InvalidBook rfl)⟩ (allC ⟨C_InvalidEvents, e1_InvalidEvents, ⟨x1_InvalidEvents, x2_InvalidEvents, e4_InvalidEvents, x3_InvalidEvents, x4_InvalidEvents, w1, w2, x5_InvalidEvents⟩, kitOne_no e5_InvalidBook e6_InvalidBook e7_InvalidEvents (sub_at 5 s_InvalidBook rfl)⟩ (allC ⟨C_InvalidProfile, e1_InvalidProfile, ⟨x1_InvalidProfile, x2_InvalidProfile, e4_InvalidProfile, x3_InvalidProfile, x4_InvalidProfile, w1, w2, x5_InvalidProfile⟩, kitOne_no e5_InvalidBook e6_InvalidBook e7_InvalidProfile (sub_at 6 s_InvalidBook rfl)⟩ (allC ⟨C_InvalidProfiles, e1_InvalidProfiles, ⟨x1_InvalidProfiles, x2_InvalidProfiles, e4_InvalidProfiles, x3_InvalidProfiles, x4_InvalidProfiles, w1, w2, x5_InvalidProfiles⟩, kitOne_no e5_InvalidBook e6_InvalidBook e7_InvalidProfiles (sub_at 7 s_InvalidBook rfl)⟩ (allC ⟨C_InvalidGroup, e1_InvalidGroup, ⟨x1_InvalidGroup, x2_InvalidGroup, e4_InvalidGroup, x3_InvalidGroup, x4_InvalidGroup, w1, w2, x5_InvalidGroup⟩, kitOne_no e5_InvalidBook e6_InvalidBook e7_InvalidGroup (sub_at 8 s_InvalidBook rfl)⟩ (allC ⟨C_InvalidLocks, e1_InvalidLocks, ⟨x1_InvalidLocks, x2_InvalidLocks, e4_InvalidLocks, x3_InvalidLocks, x4_InvalidLocks, w1, w2, x5_InvalidLocks⟩, kitOne_no e5_InvalidBook e6_InvalidBook e7_InvalidLocks (sub_at 9 s_InvalidBook rfl)⟩ (allC ⟨C_InvalidFrame, e1_InvalidFrame, ⟨x1_InvalidFrame, x2_InvalidFrame, e4_InvalidFrame, x3_InvalidFrame, x4_InvalidFrame, w1, w2, x5_InvalidFrame⟩, kitOne_no e5_InvalidBook e6_InvalidBook e7_InvalidFrame (sub_at 10 s_InvalidBook rfl)⟩ (allC ⟨C_InvalidBook, e1_InvalidBook, ⟨x1_InvalidBook, x2_InvalidBook, e4_InvalidBook, x3_InvalidBook, x4_InvalidBook, w1, w2, x5_InvalidBook⟩, kitOne_yes e5_InvalidBook e6_InvalidBook (sub_at 11 s_InvalidBook rfl)⟩ (allC ⟨C_InvalidNumber, e1_InvalidNumber, ⟨x1_InvalidNumber, x2_InvalidNumber, e4_InvalidNumber, x3_InvalidNumber, x4_InvalidNumber, w1, w2, x5_InvalidNumber⟩, kitOne_no e5_InvalidBook e6_InvalidBook e7_InvalidNumber (sub_at 12 s_InvalidBook rfl)⟩ (allC ⟨C_InvalidText, e1_InvalidText, ⟨x1_InvalidText, x2_InvalidText, e4_InvalidText, x3_InvalidText, x4_InvalidText, w1, w2, x5_InvalidText⟩, kitOne_no e5_InvalidBook e6_InvalidBook e7_InvalidText (sub_at 13 s_InvalidBook rfl)⟩ (allC ⟨C_TooLarge, e1_TooLarge, ⟨x1_TooLarge, x2_TooLarge, e4_TooLarge, x3_TooLarge, x4_TooLarge, w1, w2, x5_TooLarge⟩, kitOne_no e5_InvalidBook e6_InvalidBook e7_TooLarge (sub_at 14 s_InvalidBook rfl)⟩ (allC ⟨C_Ended, e1_Ended, ⟨x1_Ended, x2_Ended, e4_Ended, x3_Ended, x4_Ended, w1, w2, x5_Ended⟩, kitOne_no e5_InvalidBook e6_InvalidBook e7_Ended (sub_at 15 s_InvalidBook rfl)⟩ (allC ⟨C_NothingToUndo, e1_NothingToUndo, ⟨x1_NothingToUndo, x2_NothingToUndo, e4_NothingToUndo, x3_NothingToUndo, x4_NothingToUndo, w1, w2, x5_NothingToUndo⟩, kitOne_no e5_InvalidBook e6_InvalidBook e7_NothingToUndo (sub_at 16 s_InvalidBook rfl)⟩ (allC ⟨C_Blocked, e1_Blocked, ⟨x1_Blocked, x2_Blocked, e4_Blocked, x3_Blocked, x4_Blocked, w1, w2, x5_Blocked⟩, kitOne_no e5_InvalidBook e6_InvalidBook e7_Blocked (sub_at 17 s_InvalidBook rfl)⟩ (allC ⟨C_HoldError, e1_HoldError, ⟨x1_HoldError, x2_HoldError, e4_HoldError, x3_HoldError, x4_HoldError, w1, w2, x5_HoldError⟩, kitOne_no e5_InvalidBook e6_InvalidBook e7_HoldError (sub_at 18 s_InvalidBook rfl)⟩ allN)))))))))))))))))))⟩, ⟨C_InvalidEvents, PySem.W.mg_of X G e1_InvalidEvents, (allC ⟨C_InvalidBody, e1_InvalidBody, ⟨x1_InvalidBody, x2_InvalidBody, e4_InvalidBody, x3_InvalidBody, x4_InvalidBody, w1, w2, x5_InvalidBody⟩, kitOne_no e5_InvalidEvents e6_InvalidEvents e7_InvalidBody (sub_at 0 s_InvalidEvents rfl)⟩ (allC ⟨C_InvalidBodies, e1_InvalidBodies, ⟨x1_InvalidBodies, x2_InvalidBodies, e4_InvalidBodies, x3_InvalidBodies, x4_InvalidBodies, w1, w2, x5_InvalidBodies⟩, kitOne_no e5_InvalidEvents e6_InvalidEvents e7_InvalidBodies (sub_at 1 s_InvalidEvents rfl)⟩ (allC ⟨C_InvalidName, e1_InvalidName, ⟨x1_InvalidName, x2_InvalidName, e4_InvalidName, x3_InvalidName, x4_InvalidName, w1, w2, x5_InvalidName⟩, kitOne_no e5_InvalidEvents e6_InvalidEvents e7_InvalidName (sub_at 2 s_InvalidEvents rfl)⟩ (allC ⟨C_InvalidNames, e1_InvalidNames, ⟨x1_InvalidNames, x2_InvalidNames, e4_InvalidNames, x3_InvalidNames, x4_InvalidNames, w1, w2, x5_InvalidNames⟩, kitOne_no e5_InvalidEvents e6_InvalidEvents e7_InvalidNames (sub_at 3 s_InvalidEvents rfl)⟩ (allC ⟨C_InvalidWay, e1_InvalidWay, ⟨x1_InvalidWay, x2_InvalidWay, e4_InvalidWay, x3_InvalidWay, x4_InvalidWay, w1, w2, x5_InvalidWay⟩, kitOne_no e5_InvalidEvents e6_InvalidEvents e7_InvalidWay (sub_at 4 s_InvalidEvents rfl)⟩ (allC ⟨C_InvalidEvents, e1_InvalidEvents, ⟨x1_InvalidEvents, x2_InvalidEvents, e4_InvalidEvents, x3_InvalidEvents, x4_InvalidEvents, w1, w2, x5_InvalidEvents⟩, kitOne_yes e5_InvalidEvents e6_InvalidEvents (sub_at 5 s_InvalidEvents rfl)⟩ (allC ⟨C_InvalidProfile, e1_InvalidProfile, ⟨x1_InvalidProfile, x2_InvalidProfile, e4_InvalidProfile, x3_InvalidProfile, x4_InvalidProfile, w1, w2, x5_InvalidProfile⟩, kitOne_no e5_InvalidEvents e6_InvalidEvents e7_InvalidProfile (sub_at 6 s_InvalidEvents rfl)⟩ (allC ⟨C_InvalidProfiles, e1_InvalidProfiles, ⟨x1_InvalidProfiles, x2_InvalidProfiles, e4_InvalidProfiles, x3_InvalidProfiles, x4_InvalidProfiles, w1, w2, x5_InvalidProfiles⟩, kitOne_no e5_InvalidEvents e6_InvalidEvents e7_InvalidProfiles (sub_at 7 s_InvalidEvents rfl)⟩ (allC ⟨C_InvalidGroup, e1_InvalidGroup, ⟨x1_InvalidGroup, x2_InvalidGroup, e4_InvalidGroup, x3_InvalidGroup, x4_InvalidGroup, w1, w2, x5_InvalidGroup⟩, kitOne_no e5_InvalidEvents e6_InvalidEvents e7_InvalidGroup (sub_at 8 s_InvalidEvents rfl)⟩ (allC ⟨C_InvalidLocks, e1_InvalidLocks, ⟨x1_InvalidLocks, x2_InvalidLocks, e4_InvalidLocks, x3_InvalidLocks, x4_InvalidLocks, w1, w2, x5_InvalidLocks⟩, kitOne_no e5_InvalidEvents e6_InvalidEvents e7_InvalidLocks (sub_at 9 s_InvalidEvents rfl)⟩ (allC ⟨C_InvalidFrame, e1_InvalidFrame, ⟨x1_InvalidFrame, x2_InvalidFrame, e4_InvalidFrame, x3_InvalidFrame, x4_InvalidFrame, w1, w2, x5_InvalidFrame⟩, kitOne_no e5_InvalidEvents e6_InvalidEvents e7_InvalidFrame (sub_at 10 s_InvalidEvents rfl)⟩ (allC ⟨C_InvalidBook, e1_InvalidBook, ⟨x1_InvalidBook, x2_InvalidBook, e4_InvalidBook, x3_InvalidBook, x4_InvalidBook, w1, w2, x5_InvalidBook⟩, kitOne_no e5_InvalidEvents e6_InvalidEvents e7_InvalidBook (sub_at 11 s_InvalidEvents rfl)⟩ (allC ⟨C_InvalidNumber, e1_InvalidNumber, ⟨x1_InvalidNumber, x2_InvalidNumber, e4_InvalidNumber, x3_InvalidNumber, x4_InvalidNumber, w1, w2, x5_InvalidNumber⟩, kitOne_no e5_InvalidEvents e6_InvalidEvents e7_InvalidNumber (sub_at 12 s_InvalidEvents rfl)⟩ (allC ⟨C_InvalidText, e1_InvalidText, ⟨x1_InvalidText, x2_InvalidText, e4_InvalidText, x3_InvalidText, x4_InvalidText, w1, w2, x5_InvalidText⟩, kitOne_no e5_InvalidEvents e6_InvalidEvents e7_InvalidText (sub_at 13 s_InvalidEvents rfl)⟩ (allC ⟨C_TooLarge, e1_TooLarge, ⟨x1_TooLarge, x2_TooLarge, e4_TooLarge, x3_TooLarge, x4_TooLarge, w1, w2, x5_TooLarge⟩, kitOne_no e5_InvalidEvents e6_InvalidEvents e7_TooLarge (sub_at 14 s_InvalidEvents rfl)⟩ (allC ⟨C_Ended, e1_Ended, ⟨x1_Ended, x2_Ended, e4_Ended, x3_Ended, x4_Ended, w1, w2, x5_Ended⟩, kitOne_no e5_InvalidEvents e6_InvalidEvents e7_Ended (sub_at 15 s_InvalidEvents rfl)⟩ (allC ⟨C_NothingToUndo, e1_NothingToUndo, ⟨x1_NothingToUndo, x2_NothingToUndo, e4_NothingToUndo, x3_NothingToUndo, x4_NothingToUndo, w1, w2, x5_NothingToUndo⟩, kitOne_no e5_InvalidEvents e6_InvalidEvents e7_NothingToUndo (sub_at 16 s_InvalidEvents rfl)⟩ (allC ⟨C_Blocked, e1_Blocked, ⟨x1_Blocked, x2_Blocked, e4_Blocked, x3_Blocked, x4_Blocked, w1, w2, x5_Blocked⟩, kitOne_no e5_InvalidEvents e6_InvalidEvents e7_Blocked (sub_at 17 s_InvalidEvents rfl)⟩ (allC ⟨C_HoldError, e1_HoldError, ⟨x1_HoldError, x2_HoldError, e4_HoldError, x3_HoldError, x4_HoldError, w1, w2, x5_HoldError⟩, kitOne_no e5_InvalidEvents e6_InvalidEvents e7_HoldError (sub_at 18 s_InvalidEvents rfl)⟩ allN)))))))))))))))))))⟩, ⟨C_InvalidFrame, PySem.W.mg_of X G e1_InvalidFrame, (allC ⟨C_InvalidBody, e1_InvalidBody, ⟨x1_InvalidBody, x2_InvalidBody, e4_InvalidBody, x3_InvalidBody, x4_InvalidBody, w1, w2, x5_InvalidBody⟩, kitOne_no e5_InvalidFrame e6_InvalidFrame e7_InvalidBody (sub_at 0 s_InvalidFrame rfl)⟩ (allC ⟨C_InvalidBodies, e1_InvalidBodies, ⟨x1_InvalidBodies, x2_InvalidBodies, e4_InvalidBodies, x3_InvalidBodies, x4_InvalidBodies, w1, w2, x5_InvalidBodies⟩, kitOne_no e5_InvalidFrame e6_InvalidFrame e7_InvalidBodies (sub_at 1 s_InvalidFrame rfl)⟩ (allC ⟨C_InvalidName, e1_InvalidName, ⟨x1_InvalidName, x2_InvalidName, e4_InvalidName, x3_InvalidName, x4_InvalidName, w1, w2, x5_InvalidName⟩, kitOne_no e5_InvalidFrame e6_InvalidFrame e7_InvalidName (sub_at 2 s_InvalidFrame rfl)⟩ (allC ⟨C_InvalidNames, e1_InvalidNames, ⟨x1_InvalidNames, x2_InvalidNames, e4_InvalidNames, x3_InvalidNames, x4_InvalidNames, w1, w2, x5_InvalidNames⟩, kitOne_no e5_InvalidFrame e6_InvalidFrame e7_InvalidNames (sub_at 3 s_InvalidFrame rfl)⟩ (allC ⟨C_InvalidWay, e1_InvalidWay, ⟨x1_InvalidWay, x2_InvalidWay, e4_InvalidWay, x3_InvalidWay, x4_InvalidWay, w1, w2, x5_InvalidWay⟩, kitOne_no e5_InvalidFrame e6_InvalidFrame e7_InvalidWay (sub_at 4 s_InvalidFrame rfl)⟩ (allC ⟨C_InvalidEvents, e1_InvalidEvents, ⟨x1_InvalidEvents, x2_InvalidEvents, e4_InvalidEvents, x3_InvalidEvents, x4_InvalidEvents, w1, w2, x5_InvalidEvents⟩, kitOne_no e5_InvalidFrame e6_InvalidFrame e7_InvalidEvents (sub_at 5 s_InvalidFrame rfl)⟩ (allC ⟨C_InvalidProfile, e1_InvalidProfile, ⟨x1_InvalidProfile, x2_InvalidProfile, e4_InvalidProfile, x3_InvalidProfile, x4_InvalidProfile, w1, w2, x5_InvalidProfile⟩, kitOne_no e5_InvalidFrame e6_InvalidFrame e7_InvalidProfile (sub_at 6 s_InvalidFrame rfl)⟩ (allC ⟨C_InvalidProfiles, e1_InvalidProfiles, ⟨x1_InvalidProfiles, x2_InvalidProfiles, e4_InvalidProfiles, x3_InvalidProfiles, x4_InvalidProfiles, w1, w2, x5_InvalidProfiles⟩, kitOne_no e5_InvalidFrame e6_InvalidFrame e7_InvalidProfiles (sub_at 7 s_InvalidFrame rfl)⟩ (allC ⟨C_InvalidGroup, e1_InvalidGroup, ⟨x1_InvalidGroup, x2_InvalidGroup, e4_InvalidGroup, x3_InvalidGroup, x4_InvalidGroup, w1, w2, x5_InvalidGroup⟩, kitOne_no e5_InvalidFrame e6_InvalidFrame e7_InvalidGroup (sub_at 8 s_InvalidFrame rfl)⟩ (allC ⟨C_InvalidLocks, e1_InvalidLocks, ⟨x1_InvalidLocks, x2_InvalidLocks, e4_InvalidLocks, x3_InvalidLocks, x4_InvalidLocks, w1, w2, x5_InvalidLocks⟩, kitOne_no e5_InvalidFrame e6_InvalidFrame e7_InvalidLocks (sub_at 9 s_InvalidFrame rfl)⟩ (allC ⟨C_InvalidFrame, e1_InvalidFrame, ⟨x1_InvalidFrame, x2_InvalidFrame, e4_InvalidFrame, x3_InvalidFrame, x4_InvalidFrame, w1, w2, x5_InvalidFrame⟩, kitOne_yes e5_InvalidFrame e6_InvalidFrame (sub_at 10 s_InvalidFrame rfl)⟩ (allC ⟨C_InvalidBook, e1_InvalidBook, ⟨x1_InvalidBook, x2_InvalidBook, e4_InvalidBook, x3_InvalidBook, x4_InvalidBook, w1, w2, x5_InvalidBook⟩, kitOne_no e5_InvalidFrame e6_InvalidFrame e7_InvalidBook (sub_at 11 s_InvalidFrame rfl)⟩ (allC ⟨C_InvalidNumber, e1_InvalidNumber, ⟨x1_InvalidNumber, x2_InvalidNumber, e4_InvalidNumber, x3_InvalidNumber, x4_InvalidNumber, w1, w2, x5_InvalidNumber⟩, kitOne_no e5_InvalidFrame e6_InvalidFrame e7_InvalidNumber (sub_at 12 s_InvalidFrame rfl)⟩ (allC ⟨C_InvalidText, e1_InvalidText, ⟨x1_InvalidText, x2_InvalidText, e4_InvalidText, x3_InvalidText, x4_InvalidText, w1, w2, x5_InvalidText⟩, kitOne_no e5_InvalidFrame e6_InvalidFrame e7_InvalidText (sub_at 13 s_InvalidFrame rfl)⟩ (allC ⟨C_TooLarge, e1_TooLarge, ⟨x1_TooLarge, x2_TooLarge, e4_TooLarge, x3_TooLarge, x4_TooLarge, w1, w2, x5_TooLarge⟩, kitOne_no e5_InvalidFrame e6_InvalidFrame e7_TooLarge (sub_at 14 s_InvalidFrame rfl)⟩ (allC ⟨C_Ended, e1_Ended, ⟨x1_Ended, x2_Ended, e4_Ended, x3_Ended, x4_Ended, w1, w2, x5_Ended⟩, kitOne_no e5_InvalidFrame e6_InvalidFrame e7_Ended (sub_at 15 s_InvalidFrame rfl)⟩ (allC ⟨C_NothingToUndo, e1_NothingToUndo, ⟨x1_NothingToUndo, x2_NothingToUndo, e4_NothingToUndo, x3_NothingToUndo, x4_NothingToUndo, w1, w2, x5_NothingToUndo⟩, kitOne_no e5_InvalidFrame e6_InvalidFrame e7_NothingToUndo (sub_at 16 s_InvalidFrame rfl)⟩ (allC ⟨C_Blocked, e1_Blocked, ⟨x1_Blocked, x2_Blocked, e4_Blocked, x3_Blocked, x4_Blocked, w1, w2, x5_Blocked⟩, kitOne_no e5_InvalidFrame e6_InvalidFrame e7_Blocked (sub_at 17 s_InvalidFrame rfl)⟩ (allC ⟨C_HoldError, e1_HoldError, ⟨x1_HoldError, x2_HoldError, e4_HoldError, x3_HoldError, x4_HoldError, w1, w2, x5_HoldError⟩, kitOne_no e5_InvalidFrame e6_InvalidFrame e7_HoldError (sub_at 18 s_InvalidFrame rfl)⟩ allN)))))))))))))))))))⟩, ⟨C_InvalidGroup, PySem.W.mg_of X G e1_InvalidGroup, (allC ⟨C_InvalidBody, e1_InvalidBody, ⟨x1_InvalidBody, x2_InvalidBody, e4_InvalidBody, x3_InvalidBody, x4_InvalidBody, w1, w2, x5_InvalidBody⟩, kitOne_no e5_InvalidGroup e6_InvalidGroup e7_InvalidBody (sub_at 0 s_InvalidGroup rfl)⟩ (allC ⟨C_InvalidBodies, e1_InvalidBodies, ⟨x1_InvalidBodies, x2_InvalidBodies, e4_InvalidBodies, x3_InvalidBodies, x4_InvalidBodies, w1, w2, x5_InvalidBodies⟩, kitOne_no e5_InvalidGroup e6_InvalidGroup e7_InvalidBodies (sub_at 1 s_InvalidGroup rfl)⟩ (allC ⟨C_InvalidName, e1_InvalidName, ⟨x1_InvalidName, x2_InvalidName, e4_InvalidName, x3_InvalidName, x4_InvalidName, w1, w2, x5_InvalidName⟩, kitOne_no e5_InvalidGroup e6_InvalidGroup e7_InvalidName (sub_at 2 s_InvalidGroup rfl)⟩ (allC ⟨C_InvalidNames, e1_InvalidNames, ⟨x1_InvalidNames, x2_InvalidNames, e4_InvalidNames, x3_InvalidNames, x4_InvalidNames, w1, w2, x5_InvalidNames⟩, kitOne_no e5_InvalidGroup e6_InvalidGroup e7_InvalidNames (sub_at 3 s_InvalidGroup rfl)⟩ (allC ⟨C_InvalidWay, e1_InvalidWay, ⟨x1_InvalidWay, x2_InvalidWay, e4_InvalidWay, x3_InvalidWay, x4_InvalidWay, w1, w2, x5_InvalidWay⟩, kitOne_no e5_InvalidGroup e6_InvalidGroup e7_InvalidWay (sub_at 4 s_InvalidGroup rfl)⟩ (allC ⟨C_InvalidEvents, e1_InvalidEvents, ⟨x1_InvalidEvents, x2_InvalidEvents, e4_InvalidEvents, x3_InvalidEvents, x4_InvalidEvents, w1, w2, x5_InvalidEvents⟩, kitOne_no e5_InvalidGroup e6_InvalidGroup e7_InvalidEvents (sub_at 5 s_InvalidGroup rfl)⟩ (allC ⟨C_InvalidProfile, e1_InvalidProfile, ⟨x1_InvalidProfile, x2_InvalidProfile, e4_InvalidProfile, x3_InvalidProfile, x4_InvalidProfile, w1, w2, x5_InvalidProfile⟩, kitOne_no e5_InvalidGroup e6_InvalidGroup e7_InvalidProfile (sub_at 6 s_InvalidGroup rfl)⟩ (allC ⟨C_InvalidProfiles, e1_InvalidProfiles, ⟨x1_InvalidProfiles, x2_InvalidProfiles, e4_InvalidProfiles, x3_InvalidProfiles, x4_InvalidProfiles, w1, w2, x5_InvalidProfiles⟩, kitOne_no e5_InvalidGroup e6_InvalidGroup e7_InvalidProfiles (sub_at 7 s_InvalidGroup rfl)⟩ (allC ⟨C_InvalidGroup, e1_InvalidGroup, ⟨x1_InvalidGroup, x2_InvalidGroup, e4_InvalidGroup, x3_InvalidGroup, x4_InvalidGroup, w1, w2, x5_InvalidGroup⟩, kitOne_yes e5_InvalidGroup e6_InvalidGroup (sub_at 8 s_InvalidGroup rfl)⟩ (allC ⟨C_InvalidLocks, e1_InvalidLocks, ⟨x1_InvalidLocks, x2_InvalidLocks, e4_InvalidLocks, x3_InvalidLocks, x4_InvalidLocks, w1, w2, x5_InvalidLocks⟩, kitOne_no e5_InvalidGroup e6_InvalidGroup e7_InvalidLocks (sub_at 9 s_InvalidGroup rfl)⟩ (allC ⟨C_InvalidFrame, e1_InvalidFrame, ⟨x1_InvalidFrame, x2_InvalidFrame, e4_InvalidFrame, x3_InvalidFrame, x4_InvalidFrame, w1, w2, x5_InvalidFrame⟩, kitOne_no e5_InvalidGroup e6_InvalidGroup e7_InvalidFrame (sub_at 10 s_InvalidGroup rfl)⟩ (allC ⟨C_InvalidBook, e1_InvalidBook, ⟨x1_InvalidBook, x2_InvalidBook, e4_InvalidBook, x3_InvalidBook, x4_InvalidBook, w1, w2, x5_InvalidBook⟩, kitOne_no e5_InvalidGroup e6_InvalidGroup e7_InvalidBook (sub_at 11 s_InvalidGroup rfl)⟩ (allC ⟨C_InvalidNumber, e1_InvalidNumber, ⟨x1_InvalidNumber, x2_InvalidNumber, e4_InvalidNumber, x3_InvalidNumber, x4_InvalidNumber, w1, w2, x5_InvalidNumber⟩, kitOne_no e5_InvalidGroup e6_InvalidGroup e7_InvalidNumber (sub_at 12 s_InvalidGroup rfl)⟩ (allC ⟨C_InvalidText, e1_InvalidText, ⟨x1_InvalidText, x2_InvalidText, e4_InvalidText, x3_InvalidText, x4_InvalidText, w1, w2, x5_InvalidText⟩, kitOne_no e5_InvalidGroup e6_InvalidGroup e7_InvalidText (sub_at 13 s_InvalidGroup rfl)⟩ (allC ⟨C_TooLarge, e1_TooLarge, ⟨x1_TooLarge, x2_TooLarge, e4_TooLarge, x3_TooLarge, x4_TooLarge, w1, w2, x5_TooLarge⟩, kitOne_no e5_InvalidGroup e6_InvalidGroup e7_TooLarge (sub_at 14 s_InvalidGroup rfl)⟩ (allC ⟨C_Ended, e1_Ended, ⟨x1_Ended, x2_Ended, e4_Ended, x3_Ended, x4_Ended, w1, w2, x5_Ended⟩, kitOne_no e5_InvalidGroup e6_InvalidGroup e7_Ended (sub_at 15 s_InvalidGroup rfl)⟩ (allC ⟨C_NothingToUndo, e1_NothingToUndo, ⟨x1_NothingToUndo, x2_NothingToUndo, e4_NothingToUndo, x3_NothingToUndo, x4_NothingToUndo, w1, w2, x5_NothingToUndo⟩, kitOne_no e5_InvalidGroup e6_InvalidGroup e7_NothingToUndo (sub_at 16 s_InvalidGroup rfl)⟩ (allC ⟨C_Blocked, e1_Blocked, ⟨x1_Blocked, x2_Blocked, e4_Blocked, x3_Blocked, x4_Blocked, w1, w2, x5_Blocked⟩, kitOne_no e5_InvalidGroup e6_InvalidGroup e7_Blocked (sub_at 17 s_InvalidGroup rfl)⟩ (allC ⟨C_HoldError, e1_HoldError, ⟨x1_HoldError, x2_HoldError, e4_HoldError, x3_HoldError, x4_HoldError, w1, w2, x5_HoldError⟩, kitOne_no e5_InvalidGroup e6_InvalidGroup e7_HoldError (sub_at 18 s_InvalidGroup rfl)⟩ allN)))))))))))))))))))⟩, ⟨C_InvalidLocks, PySem.W.mg_of X G e1_InvalidLocks, (allC ⟨C_InvalidBody, e1_InvalidBody, ⟨x1_InvalidBody, x2_InvalidBody, e4_InvalidBody, x3_InvalidBody, x4_InvalidBody, w1, w2, x5_InvalidBody⟩, kitOne_no e5_InvalidLocks e6_InvalidLocks e7_InvalidBody (sub_at 0 s_InvalidLocks rfl)⟩ (allC ⟨C_InvalidBodies, e1_InvalidBodies, ⟨x1_InvalidBodies, x2_InvalidBodies, e4_InvalidBodies, x3_InvalidBodies, x4_InvalidBodies, w1, w2, x5_InvalidBodies⟩, kitOne_no e5_InvalidLocks e6_InvalidLocks e7_InvalidBodies (sub_at 1 s_InvalidLocks rfl)⟩ (allC ⟨C_InvalidName, e1_InvalidName, ⟨x1_InvalidName, x2_InvalidName, e4_InvalidName, x3_InvalidName, x4_InvalidName, w1, w2, x5_InvalidName⟩, kitOne_no e5_InvalidLocks e6_InvalidLocks e7_InvalidName (sub_at 2 s_InvalidLocks rfl)⟩ (allC ⟨C_InvalidNames, e1_InvalidNames, ⟨x1_InvalidNames, x2_InvalidNames, e4_InvalidNames, x3_InvalidNames, x4_InvalidNames, w1, w2, x5_InvalidNames⟩, kitOne_no e5_InvalidLocks e6_InvalidLocks e7_InvalidNames (sub_at 3 s_InvalidLocks rfl)⟩ (allC ⟨C_InvalidWay, e1_InvalidWay, ⟨x1_InvalidWay, x2_InvalidWay, e4_InvalidWay, x3_InvalidWay, x4_InvalidWay, w1, w2, x5_InvalidWay⟩, kitOne_no e5_InvalidLocks e6_InvalidLocks e7_InvalidWay (sub_at 4 s_InvalidLocks rfl)⟩ (allC ⟨C_InvalidEvents, e1_InvalidEvents, ⟨x1_InvalidEvents, x2_InvalidEvents, e4_InvalidEvents, x3_InvalidEvents, x4_InvalidEvents, w1, w2, x5_InvalidEvents⟩, kitOne_no e5_InvalidLocks e6_InvalidLocks e7_InvalidEvents (sub_at 5 s_InvalidLocks rfl)⟩ (allC ⟨C_InvalidProfile, e1_InvalidProfile, ⟨x1_InvalidProfile, x2_InvalidProfile, e4_InvalidProfile, x3_InvalidProfile, x4_InvalidProfile, w1, w2, x5_InvalidProfile⟩, kitOne_no e5_InvalidLocks e6_InvalidLocks e7_InvalidProfile (sub_at 6 s_InvalidLocks rfl)⟩ (allC ⟨C_InvalidProfiles, e1_InvalidProfiles, ⟨x1_InvalidProfiles, x2_InvalidProfiles, e4_InvalidProfiles, x3_InvalidProfiles, x4_InvalidProfiles, w1, w2, x5_InvalidProfiles⟩, kitOne_no e5_InvalidLocks e6_InvalidLocks e7_InvalidProfiles (sub_at 7 s_InvalidLocks rfl)⟩ (allC ⟨C_InvalidGroup, e1_InvalidGroup, ⟨x1_InvalidGroup, x2_InvalidGroup, e4_InvalidGroup, x3_InvalidGroup, x4_InvalidGroup, w1, w2, x5_InvalidGroup⟩, kitOne_no e5_InvalidLocks e6_InvalidLocks e7_InvalidGroup (sub_at 8 s_InvalidLocks rfl)⟩ (allC ⟨C_InvalidLocks, e1_InvalidLocks, ⟨x1_InvalidLocks, x2_InvalidLocks, e4_InvalidLocks, x3_InvalidLocks, x4_InvalidLocks, w1, w2, x5_InvalidLocks⟩, kitOne_yes e5_InvalidLocks e6_InvalidLocks (sub_at 9 s_InvalidLocks rfl)⟩ (allC ⟨C_InvalidFrame, e1_InvalidFrame, ⟨x1_InvalidFrame, x2_InvalidFrame, e4_InvalidFrame, x3_InvalidFrame, x4_InvalidFrame, w1, w2, x5_InvalidFrame⟩, kitOne_no e5_InvalidLocks e6_InvalidLocks e7_InvalidFrame (sub_at 10 s_InvalidLocks rfl)⟩ (allC ⟨C_InvalidBook, e1_InvalidBook, ⟨x1_InvalidBook, x2_InvalidBook, e4_InvalidBook, x3_InvalidBook, x4_InvalidBook, w1, w2, x5_InvalidBook⟩, kitOne_no e5_InvalidLocks e6_InvalidLocks e7_InvalidBook (sub_at 11 s_InvalidLocks rfl)⟩ (allC ⟨C_InvalidNumber, e1_InvalidNumber, ⟨x1_InvalidNumber, x2_InvalidNumber, e4_InvalidNumber, x3_InvalidNumber, x4_InvalidNumber, w1, w2, x5_InvalidNumber⟩, kitOne_no e5_InvalidLocks e6_InvalidLocks e7_InvalidNumber (sub_at 12 s_InvalidLocks rfl)⟩ (allC ⟨C_InvalidText, e1_InvalidText, ⟨x1_InvalidText, x2_InvalidText, e4_InvalidText, x3_InvalidText, x4_InvalidText, w1, w2, x5_InvalidText⟩, kitOne_no e5_InvalidLocks e6_InvalidLocks e7_InvalidText (sub_at 13 s_InvalidLocks rfl)⟩ (allC ⟨C_TooLarge, e1_TooLarge, ⟨x1_TooLarge, x2_TooLarge, e4_TooLarge, x3_TooLarge, x4_TooLarge, w1, w2, x5_TooLarge⟩, kitOne_no e5_InvalidLocks e6_InvalidLocks e7_TooLarge (sub_at 14 s_InvalidLocks rfl)⟩ (allC ⟨C_Ended, e1_Ended, ⟨x1_Ended, x2_Ended, e4_Ended, x3_Ended, x4_Ended, w1, w2, x5_Ended⟩, kitOne_no e5_InvalidLocks e6_InvalidLocks e7_Ended (sub_at 15 s_InvalidLocks rfl)⟩ (allC ⟨C_NothingToUndo, e1_NothingToUndo, ⟨x1_NothingToUndo, x2_NothingToUndo, e4_NothingToUndo, x3_NothingToUndo, x4_NothingToUndo, w1, w2, x5_NothingToUndo⟩, kitOne_no e5_InvalidLocks e6_InvalidLocks e7_NothingToUndo (sub_at 16 s_InvalidLocks rfl)⟩ (allC ⟨C_Blocked, e1_Blocked, ⟨x1_Blocked, x2_Blocked, e4_Blocked, x3_Blocked, x4_Blocked, w1, w2, x5_Blocked⟩, kitOne_no e5_InvalidLocks e6_InvalidLocks e7_Blocked (sub_at 17 s_InvalidLocks rfl)⟩ (allC ⟨C_HoldError, e1_HoldError, ⟨x1_HoldError, x2_HoldError, e4_HoldError, x3_HoldError, x4_HoldError, w1, w2, x5_HoldError⟩, kitOne_no e5_InvalidLocks e6_InvalidLocks e7_HoldError (sub_at 18 s_InvalidLocks rfl)⟩ allN)))))))))))))))))))⟩, ⟨C_InvalidName, PySem.W.mg_of X G e1_InvalidName, (allC ⟨C_InvalidBody, e1_InvalidBody, ⟨x1_InvalidBody, x2_InvalidBody, e4_InvalidBody, x3_InvalidBody, x4_InvalidBody, w1, w2, x5_InvalidBody⟩, kitOne_no e5_InvalidName e6_InvalidName e7_InvalidBody (sub_at 0 s_InvalidName rfl)⟩ (allC ⟨C_InvalidBodies, e1_InvalidBodies, ⟨x1_InvalidBodies, x2_InvalidBodies, e4_InvalidBodies, x3_InvalidBodies, x4_InvalidBodies, w1, w2, x5_InvalidBodies⟩, kitOne_no e5_InvalidName e6_InvalidName e7_InvalidBodies (sub_at 1 s_InvalidName rfl)⟩ (allC ⟨C_InvalidName, e1_InvalidName, ⟨x1_InvalidName, x2_InvalidName, e4_InvalidName, x3_InvalidName, x4_InvalidName, w1, w2, x5_InvalidName⟩, kitOne_yes e5_InvalidName e6_InvalidName (sub_at 2 s_InvalidName rfl)⟩ (allC ⟨C_InvalidNames, e1_InvalidNames, ⟨x1_InvalidNames, x2_InvalidNames, e4_InvalidNames, x3_InvalidNames, x4_InvalidNames, w1, w2, x5_InvalidNames⟩, kitOne_no e5_InvalidName e6_InvalidName e7_InvalidNames (sub_at 3 s_InvalidName rfl)⟩ (allC ⟨C_InvalidWay, e1_InvalidWay, ⟨x1_InvalidWay, x2_InvalidWay, e4_InvalidWay, x3_InvalidWay, x4_InvalidWay, w1, w2, x5_InvalidWay⟩, kitOne_no e5_InvalidName e6_InvalidName e7_InvalidWay (sub_at 4 s_InvalidName rfl)⟩ (allC ⟨C_InvalidEvents, e1_InvalidEvents, ⟨x1_InvalidEvents, x2_InvalidEvents, e4_InvalidEvents, x3_InvalidEvents, x4_InvalidEvents, w1, w2, x5_InvalidEvents⟩, kitOne_no e5_InvalidName e6_InvalidName e7_InvalidEvents (sub_at 5 s_InvalidName rfl)⟩ (allC ⟨C_InvalidProfile, e1_InvalidProfile, ⟨x1_InvalidProfile, x2_InvalidProfile, e4_InvalidProfile, x3_InvalidProfile, x4_InvalidProfile, w1, w2, x5_InvalidProfile⟩, kitOne_no e5_InvalidName e6_InvalidName e7_InvalidProfile (sub_at 6 s_InvalidName rfl)⟩ (allC ⟨C_InvalidProfiles, e1_InvalidProfiles, ⟨x1_InvalidProfiles, x2_InvalidProfiles, e4_InvalidProfiles, x3_InvalidProfiles, x4_InvalidProfiles, w1, w2, x5_InvalidProfiles⟩, kitOne_no e5_InvalidName e6_InvalidName e7_InvalidProfiles (sub_at 7 s_InvalidName rfl)⟩ (allC ⟨C_InvalidGroup, e1_InvalidGroup, ⟨x1_InvalidGroup, x2_InvalidGroup, e4_InvalidGroup, x3_InvalidGroup, x4_InvalidGroup, w1, w2, x5_InvalidGroup⟩, kitOne_no e5_InvalidName e6_InvalidName e7_InvalidGroup (sub_at 8 s_InvalidName rfl)⟩ (allC ⟨C_InvalidLocks, e1_InvalidLocks, ⟨x1_InvalidLocks, x2_InvalidLocks, e4_InvalidLocks, x3_InvalidLocks, x4_InvalidLocks, w1, w2, x5_InvalidLocks⟩, kitOne_no e5_InvalidName e6_InvalidName e7_InvalidLocks (sub_at 9 s_InvalidName rfl)⟩ (allC ⟨C_InvalidFrame, e1_InvalidFrame, ⟨x1_InvalidFrame, x2_InvalidFrame, e4_InvalidFrame, x3_InvalidFrame, x4_InvalidFrame, w1, w2, x5_InvalidFrame⟩, kitOne_no e5_InvalidName e6_InvalidName e7_InvalidFrame (sub_at 10 s_InvalidName rfl)⟩ (allC ⟨C_InvalidBook, e1_InvalidBook, ⟨x1_InvalidBook, x2_InvalidBook, e4_InvalidBook, x3_InvalidBook, x4_InvalidBook, w1, w2, x5_InvalidBook⟩, kitOne_no e5_InvalidName e6_InvalidName e7_InvalidBook (sub_at 11 s_InvalidName rfl)⟩ (allC ⟨C_InvalidNumber, e1_InvalidNumber, ⟨x1_InvalidNumber, x2_InvalidNumber, e4_InvalidNumber, x3_InvalidNumber, x4_InvalidNumber, w1, w2, x5_InvalidNumber⟩, kitOne_no e5_InvalidName e6_InvalidName e7_InvalidNumber (sub_at 12 s_InvalidName rfl)⟩ (allC ⟨C_InvalidText, e1_InvalidText, ⟨x1_InvalidText, x2_InvalidText, e4_InvalidText, x3_InvalidText, x4_InvalidText, w1, w2, x5_InvalidText⟩, kitOne_no e5_InvalidName e6_InvalidName e7_InvalidText (sub_at 13 s_InvalidName rfl)⟩ (allC ⟨C_TooLarge, e1_TooLarge, ⟨x1_TooLarge, x2_TooLarge, e4_TooLarge, x3_TooLarge, x4_TooLarge, w1, w2, x5_TooLarge⟩, kitOne_no e5_InvalidName e6_InvalidName e7_TooLarge (sub_at 14 s_InvalidName rfl)⟩ (allC ⟨C_Ended, e1_Ended, ⟨x1_Ended, x2_Ended, e4_Ended, x3_Ended, x4_Ended, w1, w2, x5_Ended⟩, kitOne_no e5_InvalidName e6_InvalidName e7_Ended (sub_at 15 s_InvalidName rfl)⟩ (allC ⟨C_NothingToUndo, e1_NothingToUndo, ⟨x1_NothingToUndo, x2_NothingToUndo, e4_NothingToUndo, x3_NothingToUndo, x4_NothingToUndo, w1, w2, x5_NothingToUndo⟩, kitOne_no e5_InvalidName e6_InvalidName e7_NothingToUndo (sub_at 16 s_InvalidName rfl)⟩ (allC ⟨C_Blocked, e1_Blocked, ⟨x1_Blocked, x2_Blocked, e4_Blocked, x3_Blocked, x4_Blocked, w1, w2, x5_Blocked⟩, kitOne_no e5_InvalidName e6_InvalidName e7_Blocked (sub_at 17 s_InvalidName rfl)⟩ (allC ⟨C_HoldError, e1_HoldError, ⟨x1_HoldError, x2_HoldError, e4_HoldError, x3_HoldError, x4_HoldError, w1, w2, x5_HoldError⟩, kitOne_no e5_InvalidName e6_InvalidName e7_HoldError (sub_at 18 s_InvalidName rfl)⟩ allN)))))))))))))))))))⟩, ⟨C_InvalidNames, PySem.W.mg_of X G e1_InvalidNames, (allC ⟨C_InvalidBody, e1_InvalidBody, ⟨x1_InvalidBody, x2_InvalidBody, e4_InvalidBody, x3_InvalidBody, x4_InvalidBody, w1, w2, x5_InvalidBody⟩, kitOne_no e5_InvalidNames e6_InvalidNames e7_InvalidBody (sub_at 0 s_InvalidNames rfl)⟩ (allC ⟨C_InvalidBodies, e1_InvalidBodies, ⟨x1_InvalidBodies, x2_InvalidBodies, e4_InvalidBodies, x3_InvalidBodies, x4_InvalidBodies, w1, w2, x5_InvalidBodies⟩, kitOne_no e5_InvalidNames e6_InvalidNames e7_InvalidBodies (sub_at 1 s_InvalidNames rfl)⟩ (allC ⟨C_InvalidName, e1_InvalidName, ⟨x1_InvalidName, x2_InvalidName, e4_InvalidName, x3_InvalidName, x4_InvalidName, w1, w2, x5_InvalidName⟩, kitOne_no e5_InvalidNames e6_InvalidNames e7_InvalidName (sub_at 2 s_InvalidNames rfl)⟩ (allC ⟨C_InvalidNames, e1_InvalidNames, ⟨x1_InvalidNames, x2_InvalidNames, e4_InvalidNames, x3_InvalidNames, x4_InvalidNames, w1, w2, x5_InvalidNames⟩, kitOne_yes e5_InvalidNames e6_InvalidNames (sub_at 3 s_InvalidNames rfl)⟩ (allC ⟨C_InvalidWay, e1_InvalidWay, ⟨x1_InvalidWay, x2_InvalidWay, e4_InvalidWay, x3_InvalidWay, x4_InvalidWay, w1, w2, x5_InvalidWay⟩, kitOne_no e5_InvalidNames e6_InvalidNames e7_InvalidWay (sub_at 4 s_InvalidNames rfl)⟩ (allC ⟨C_InvalidEvents, e1_InvalidEvents, ⟨x1_InvalidEvents, x2_InvalidEvents, e4_InvalidEvents, x3_InvalidEvents, x4_InvalidEvents, w1, w2, x5_InvalidEvents⟩, kitOne_no e5_InvalidNames e6_InvalidNames e7_InvalidEvents (sub_at 5 s_InvalidNames rfl)⟩ (allC ⟨C_InvalidProfile, e1_InvalidProfile, ⟨x1_InvalidProfile, x2_InvalidProfile, e4_InvalidProfile, x3_InvalidProfile, x4_InvalidProfile, w1, w2, x5_InvalidProfile⟩, kitOne_no e5_InvalidNames e6_InvalidNames e7_InvalidProfile (sub_at 6 s_InvalidNames rfl)⟩ (allC ⟨C_InvalidProfiles, e1_InvalidProfiles, ⟨x1_InvalidProfiles, x2_InvalidProfiles, e4_InvalidProfiles, x3_InvalidProfiles, x4_InvalidProfiles, w1, w2, x5_InvalidProfiles⟩, kitOne_no e5_InvalidNames e6_InvalidNames e7_InvalidProfiles (sub_at 7 s_InvalidNames rfl)⟩ (allC ⟨C_InvalidGroup, e1_InvalidGroup, ⟨x1_InvalidGroup, x2_InvalidGroup, e4_InvalidGroup, x3_InvalidGroup, x4_InvalidGroup, w1, w2, x5_InvalidGroup⟩, kitOne_no e5_InvalidNames e6_InvalidNames e7_InvalidGroup (sub_at 8 s_InvalidNames rfl)⟩ (allC ⟨C_InvalidLocks, e1_InvalidLocks, ⟨x1_InvalidLocks, x2_InvalidLocks, e4_InvalidLocks, x3_InvalidLocks, x4_InvalidLocks, w1, w2, x5_InvalidLocks⟩, kitOne_no e5_InvalidNames e6_InvalidNames e7_InvalidLocks (sub_at 9 s_InvalidNames rfl)⟩ (allC ⟨C_InvalidFrame, e1_InvalidFrame, ⟨x1_InvalidFrame, x2_InvalidFrame, e4_InvalidFrame, x3_InvalidFrame, x4_InvalidFrame, w1, w2, x5_InvalidFrame⟩, kitOne_no e5_InvalidNames e6_InvalidNames e7_InvalidFrame (sub_at 10 s_InvalidNames rfl)⟩ (allC ⟨C_InvalidBook, e1_InvalidBook, ⟨x1_InvalidBook, x2_InvalidBook, e4_InvalidBook, x3_InvalidBook, x4_InvalidBook, w1, w2, x5_InvalidBook⟩, kitOne_no e5_InvalidNames e6_InvalidNames e7_InvalidBook (sub_at 11 s_InvalidNames rfl)⟩ (allC ⟨C_InvalidNumber, e1_InvalidNumber, ⟨x1_InvalidNumber, x2_InvalidNumber, e4_InvalidNumber, x3_InvalidNumber, x4_InvalidNumber, w1, w2, x5_InvalidNumber⟩, kitOne_no e5_InvalidNames e6_InvalidNames e7_InvalidNumber (sub_at 12 s_InvalidNames rfl)⟩ (allC ⟨C_InvalidText, e1_InvalidText, ⟨x1_InvalidText, x2_InvalidText, e4_InvalidText, x3_InvalidText, x4_InvalidText, w1, w2, x5_InvalidText⟩, kitOne_no e5_InvalidNames e6_InvalidNames e7_InvalidText (sub_at 13 s_InvalidNames rfl)⟩ (allC ⟨C_TooLarge, e1_TooLarge, ⟨x1_TooLarge, x2_TooLarge, e4_TooLarge, x3_TooLarge, x4_TooLarge, w1, w2, x5_TooLarge⟩, kitOne_no e5_InvalidNames e6_InvalidNames e7_TooLarge (sub_at 14 s_InvalidNames rfl)⟩ (allC ⟨C_Ended, e1_Ended, ⟨x1_Ended, x2_Ended, e4_Ended, x3_Ended, x4_Ended, w1, w2, x5_Ended⟩, kitOne_no e5_InvalidNames e6_InvalidNames e7_Ended (sub_at 15 s_InvalidNames rfl)⟩ (allC ⟨C_NothingToUndo, e1_NothingToUndo, ⟨x1_NothingToUndo, x2_NothingToUndo, e4_NothingToUndo, x3_NothingToUndo, x4_NothingToUndo, w1, w2, x5_NothingToUndo⟩, kitOne_no e5_InvalidNames e6_InvalidNames e7_NothingToUndo (sub_at 16 s_InvalidNames rfl)⟩ (allC ⟨C_Blocked, e1_Blocked, ⟨x1_Blocked, x2_Blocked, e4_Blocked, x3_Blocked, x4_Blocked, w1, w2, x5_Blocked⟩, kitOne_no e5_InvalidNames e6_InvalidNames e7_Blocked (sub_at 17 s_InvalidNames rfl)⟩ (allC ⟨C_HoldError, e1_HoldError, ⟨x1_HoldError, x2_HoldError, e4_HoldError, x3_HoldError, x4_HoldError, w1, w2, x5_HoldError⟩, kitOne_no e5_InvalidNames e6_InvalidNames e7_HoldError (sub_at 18 s_InvalidNames rfl)⟩ allN)))))))))))))))))))⟩, ⟨C_InvalidNumber, PySem.W.mg_of X G e1_InvalidNumber, (allC ⟨C_InvalidBody, e1_InvalidBody, ⟨x1_InvalidBody, x2_InvalidBody, e4_InvalidBody, x3_InvalidBody, x4_InvalidBody, w1, w2, x5_InvalidBody⟩, kitOne_no e5_InvalidNumber e6_InvalidNumber e7_InvalidBody (sub_at 0 s_InvalidNumber rfl)⟩ (allC ⟨C_InvalidBodies, e1_InvalidBodies, ⟨x1_InvalidBodies, x2_InvalidBodies, e4_InvalidBodies, x3_InvalidBodies, x4_InvalidBodies, w1, w2, x5_InvalidBodies⟩, kitOne_no e5_InvalidNumber e6_InvalidNumber e7_InvalidBodies (sub_at 1 s_InvalidNumber rfl)⟩ (allC ⟨C_InvalidName, e1_InvalidName, ⟨x1_InvalidName, x2_InvalidName, e4_InvalidName, x3_InvalidName, x4_InvalidName, w1, w2, x5_InvalidName⟩, kitOne_no e5_InvalidNumber e6_InvalidNumber e7_InvalidName (sub_at 2 s_InvalidNumber rfl)⟩ (allC ⟨C_InvalidNames, e1_InvalidNames, ⟨x1_InvalidNames, x2_InvalidNames, e4_InvalidNames, x3_InvalidNames, x4_InvalidNames, w1, w2, x5_InvalidNames⟩, kitOne_no e5_InvalidNumber e6_InvalidNumber e7_InvalidNames (sub_at 3 s_InvalidNumber rfl)⟩ (allC ⟨C_InvalidWay, e1_InvalidWay, ⟨x1_InvalidWay, x2_InvalidWay, e4_InvalidWay, x3_InvalidWay, x4_InvalidWay, w1, w2, x5_InvalidWay⟩, kitOne_no e5_InvalidNumber e6_InvalidNumber e7_InvalidWay (sub_at 4 s_InvalidNumber rfl)⟩ (allC ⟨C_InvalidEvents, e1_InvalidEvents, ⟨x1_InvalidEvents, x2_InvalidEvents, e4_InvalidEvents, x3_InvalidEvents, x4_InvalidEvents, w1, w2, x5_InvalidEvents⟩, kitOne_no e5_InvalidNumber e6_InvalidNumber e7_InvalidEvents (sub_at 5 s_InvalidNumber rfl)⟩ (allC ⟨C_InvalidProfile, e1_InvalidProfile, ⟨x1_InvalidProfile, x2_InvalidProfile, e4_InvalidProfile, x3_InvalidProfile, x4_InvalidProfile, w1, w2, x5_InvalidProfile⟩, kitOne_no e5_InvalidNumber e6_InvalidNumber e7_InvalidProfile (sub_at 6 s_InvalidNumber rfl)⟩ (allC ⟨C_InvalidProfiles, e1_InvalidProfiles, ⟨x1_InvalidProfiles, x2_InvalidProfiles, e4_InvalidProfiles, x3_InvalidProfiles, x4_InvalidProfiles, w1, w2, x5_InvalidProfiles⟩, kitOne_no e5_InvalidNumber e6_InvalidNumber e7_InvalidProfiles (sub_at 7 s_InvalidNumber rfl)⟩ (allC ⟨C_InvalidGroup, e1_InvalidGroup, ⟨x1_InvalidGroup, x2_InvalidGroup, e4_InvalidGroup, x3_InvalidGroup, x4_InvalidGroup, w1, w2, x5_InvalidGroup⟩, kitOne_no e5_InvalidNumber e6_InvalidNumber e7_InvalidGroup (sub_at 8 s_InvalidNumber rfl)⟩ (allC ⟨C_InvalidLocks, e1_InvalidLocks, ⟨x1_InvalidLocks, x2_InvalidLocks, e4_InvalidLocks, x3_InvalidLocks, x4_InvalidLocks, w1, w2, x5_InvalidLocks⟩, kitOne_no e5_InvalidNumber e6_InvalidNumber e7_InvalidLocks (sub_at 9 s_InvalidNumber rfl)⟩ (allC ⟨C_InvalidFrame, e1_InvalidFrame, ⟨x1_InvalidFrame, x2_InvalidFrame, e4_InvalidFrame, x3_InvalidFrame, x4_InvalidFrame, w1, w2, x5_InvalidFrame⟩, kitOne_no e5_InvalidNumber e6_InvalidNumber e7_InvalidFrame (sub_at 10 s_InvalidNumber rfl)⟩ (allC ⟨C_InvalidBook, e1_InvalidBook, ⟨x1_InvalidBook, x2_InvalidBook, e4_InvalidBook, x3_InvalidBook, x4_InvalidBook, w1, w2, x5_InvalidBook⟩, kitOne_no e5_InvalidNumber e6_InvalidNumber e7_InvalidBook (sub_at 11 s_InvalidNumber rfl)⟩ (allC ⟨C_InvalidNumber, e1_InvalidNumber, ⟨x1_InvalidNumber, x2_InvalidNumber, e4_InvalidNumber, x3_InvalidNumber, x4_InvalidNumber, w1, w2, x5_InvalidNumber⟩, kitOne_yes e5_InvalidNumber e6_InvalidNumber (sub_at 12 s_InvalidNumber rfl)⟩ (allC ⟨C_InvalidText, e1_InvalidText, ⟨x1_InvalidText, x2_InvalidText, e4_InvalidText, x3_InvalidText, x4_InvalidText, w1, w2, x5_InvalidText⟩, kitOne_no e5_InvalidNumber e6_InvalidNumber e7_InvalidText (sub_at 13 s_InvalidNumber rfl)⟩ (allC ⟨C_TooLarge, e1_TooLarge, ⟨x1_TooLarge, x2_TooLarge, e4_TooLarge, x3_TooLarge, x4_TooLarge, w1, w2, x5_TooLarge⟩, kitOne_no e5_InvalidNumber e6_InvalidNumber e7_TooLarge (sub_at 14 s_InvalidNumber rfl)⟩ (allC ⟨C_Ended, e1_Ended, ⟨x1_Ended, x2_Ended, e4_Ended, x3_Ended, x4_Ended, w1, w2, x5_Ended⟩, kitOne_no e5_InvalidNumber e6_InvalidNumber e7_Ended (sub_at 15 s_InvalidNumber rfl)⟩ (allC ⟨C_NothingToUndo, e1_NothingToUndo, ⟨x1_NothingToUndo, x2_NothingToUndo, e4_NothingToUndo, x3_NothingToUndo, x4_NothingToUndo, w1, w2, x5_NothingToUndo⟩, kitOne_no e5_InvalidNumber e6_InvalidNumber e7_NothingToUndo (sub_at 16 s_InvalidNumber rfl)⟩ (allC ⟨C_Blocked, e1_Blocked, ⟨x1_Blocked, x2_Blocked, e4_Blocked, x3_Blocked, x4_Blocked, w1, w2, x5_Blocked⟩, kitOne_no e5_InvalidNumber e6_InvalidNumber e7_Blocked (sub_at 17 s_InvalidNumber rfl)⟩ (allC ⟨C_HoldError, e1_HoldError, ⟨x1_HoldError, x2_HoldError, e4_HoldError, x3_HoldError, x4_HoldError, w1, w2, x5_HoldError⟩, kitOne_no e5_InvalidNumber e6_InvalidNumber e7_HoldError (sub_at 18 s_InvalidNumber rfl)⟩ allN)))))))))))))))))))⟩, ⟨C_InvalidProfile, PySem.W.mg_of X G e1_InvalidProfile, (allC ⟨C_InvalidBody, e1_InvalidBody, ⟨x1_InvalidBody, x2_InvalidBody, e4_InvalidBody, x3_InvalidBody, x4_InvalidBody, w1, w2, x5_InvalidBody⟩, kitOne_no e5_InvalidProfile e6_InvalidProfile e7_InvalidBody (sub_at 0 s_InvalidProfile rfl)⟩ (allC ⟨C_InvalidBodies, e1_InvalidBodies, ⟨x1_InvalidBodies, x2_InvalidBodies, e4_InvalidBodies, x3_InvalidBodies, x4_InvalidBodies, w1, w2, x5_InvalidBodies⟩, kitOne_no e5_InvalidProfile e6_InvalidProfile e7_InvalidBodies (sub_at 1 s_InvalidProfile rfl)⟩ (allC ⟨C_InvalidName, e1_InvalidName, ⟨x1_InvalidName, x2_InvalidName, e4_InvalidName, x3_InvalidName, x4_InvalidName, w1, w2, x5_InvalidName⟩, kitOne_no e5_InvalidProfile e6_InvalidProfile e7_InvalidName (sub_at 2 s_InvalidProfile rfl)⟩ (allC ⟨C_InvalidNames, e1_InvalidNames, ⟨x1_InvalidNames, x2_InvalidNames, e4_InvalidNames, x3_InvalidNames, x4_InvalidNames, w1, w2, x5_InvalidNames⟩, kitOne_no e5_InvalidProfile e6_InvalidProfile e7_InvalidNames (sub_at 3 s_InvalidProfile rfl)⟩ (allC ⟨C_InvalidWay, e1_InvalidWay, ⟨x1_InvalidWay, x2_InvalidWay, e4_InvalidWay, x3_InvalidWay, x4_InvalidWay, w1, w2, x5_InvalidWay⟩, kitOne_no e5_InvalidProfile e6_InvalidProfile e7_InvalidWay (sub_at 4 s_InvalidProfile rfl)⟩ (allC ⟨C_InvalidEvents, e1_InvalidEvents, ⟨x1_InvalidEvents, x2_InvalidEvents, e4_InvalidEvents, x3_InvalidEvents, x4_InvalidEvents, w1, w2, x5_InvalidEvents⟩, kitOne_no e5_InvalidProfile e6_InvalidProfile e7_InvalidEvents (sub_at 5 s_InvalidProfile rfl)⟩ (allC ⟨C_InvalidProfile, e1_InvalidProfile, ⟨x1_InvalidProfile, x2_InvalidProfile, e4_InvalidProfile, x3_InvalidProfile, x4_InvalidProfile, w1, w2, x5_InvalidProfile⟩, kitOne_yes e5_InvalidProfile e6_InvalidProfile (sub_at 6 s_InvalidProfile rfl)⟩ (allC ⟨C_InvalidProfiles, e1_InvalidProfiles, ⟨x1_InvalidProfiles, x2_InvalidProfiles, e4_InvalidProfiles, x3_InvalidProfiles, x4_InvalidProfiles, w1, w2, x5_InvalidProfiles⟩, kitOne_no e5_InvalidProfile e6_InvalidProfile e7_InvalidProfiles (sub_at 7 s_InvalidProfile rfl)⟩ (allC ⟨C_InvalidGroup, e1_InvalidGroup, ⟨x1_InvalidGroup, x2_InvalidGroup, e4_InvalidGroup, x3_InvalidGroup, x4_InvalidGroup, w1, w2, x5_InvalidGroup⟩, kitOne_no e5_InvalidProfile e6_InvalidProfile e7_InvalidGroup (sub_at 8 s_InvalidProfile rfl)⟩ (allC ⟨C_InvalidLocks, e1_InvalidLocks, ⟨x1_InvalidLocks, x2_InvalidLocks, e4_InvalidLocks, x3_InvalidLocks, x4_InvalidLocks, w1, w2, x5_InvalidLocks⟩, kitOne_no e5_InvalidProfile e6_InvalidProfile e7_InvalidLocks (sub_at 9 s_InvalidProfile rfl)⟩ (allC ⟨C_InvalidFrame, e1_InvalidFrame, ⟨x1_InvalidFrame, x2_InvalidFrame, e4_InvalidFrame, x3_InvalidFrame, x4_InvalidFrame, w1, w2, x5_InvalidFrame⟩, kitOne_no e5_InvalidProfile e6_InvalidProfile e7_InvalidFrame (sub_at 10 s_InvalidProfile rfl)⟩ (allC ⟨C_InvalidBook, e1_InvalidBook, ⟨x1_InvalidBook, x2_InvalidBook, e4_InvalidBook, x3_InvalidBook, x4_InvalidBook, w1, w2, x5_InvalidBook⟩, kitOne_no e5_InvalidProfile e6_InvalidProfile e7_InvalidBook (sub_at 11 s_InvalidProfile rfl)⟩ (allC ⟨C_InvalidNumber, e1_InvalidNumber, ⟨x1_InvalidNumber, x2_InvalidNumber, e4_InvalidNumber, x3_InvalidNumber, x4_InvalidNumber, w1, w2, x5_InvalidNumber⟩, kitOne_no e5_InvalidProfile e6_InvalidProfile e7_InvalidNumber (sub_at 12 s_InvalidProfile rfl)⟩ (allC ⟨C_InvalidText, e1_InvalidText, ⟨x1_InvalidText, x2_InvalidText, e4_InvalidText, x3_InvalidText, x4_InvalidText, w1, w2, x5_InvalidText⟩, kitOne_no e5_InvalidProfile e6_InvalidProfile e7_InvalidText (sub_at 13 s_InvalidProfile rfl)⟩ (allC ⟨C_TooLarge, e1_TooLarge, ⟨x1_TooLarge, x2_TooLarge, e4_TooLarge, x3_TooLarge, x4_TooLarge, w1, w2, x5_TooLarge⟩, kitOne_no e5_InvalidProfile e6_InvalidProfile e7_TooLarge (sub_at 14 s_InvalidProfile rfl)⟩ (allC ⟨C_Ended, e1_Ended, ⟨x1_Ended, x2_Ended, e4_Ended, x3_Ended, x4_Ended, w1, w2, x5_Ended⟩, kitOne_no e5_InvalidProfile e6_InvalidProfile e7_Ended (sub_at 15 s_InvalidProfile rfl)⟩ (allC ⟨C_NothingToUndo, e1_NothingToUndo, ⟨x1_NothingToUndo, x2_NothingToUndo, e4_NothingToUndo, x3_NothingToUndo, x4_NothingToUndo, w1, w2, x5_NothingToUndo⟩, kitOne_no e5_InvalidProfile e6_InvalidProfile e7_NothingToUndo (sub_at 16 s_InvalidProfile rfl)⟩ (allC ⟨C_Blocked, e1_Blocked, ⟨x1_Blocked, x2_Blocked, e4_Blocked, x3_Blocked, x4_Blocked, w1, w2, x5_Blocked⟩, kitOne_no e5_InvalidProfile e6_InvalidProfile e7_Blocked (sub_at 17 s_InvalidProfile rfl)⟩ (allC ⟨C_HoldError, e1_HoldError, ⟨x1_HoldError, x2_HoldError, e4_HoldError, x3_HoldError, x4_HoldError, w1, w2, x5_HoldError⟩, kitOne_no e5_InvalidProfile e6_InvalidProfile e7_HoldError (sub_at 18 s_InvalidProfile rfl)⟩ allN)))))))))))))))))))⟩, ⟨C_InvalidProfiles, PySem.W.mg_of X G e1_InvalidProfiles, (allC ⟨C_InvalidBody, e1_InvalidBody, ⟨x1_InvalidBody, x2_InvalidBody, e4_InvalidBody, x3_InvalidBody, x4_InvalidBody, w1, w2, x5_InvalidBody⟩, kitOne_no e5_InvalidProfiles e6_InvalidProfiles e7_InvalidBody (sub_at 0 s_InvalidProfiles rfl)⟩ (allC ⟨C_InvalidBodies, e1_InvalidBodies, ⟨x1_InvalidBodies, x2_InvalidBodies, e4_InvalidBodies, x3_InvalidBodies, x4_InvalidBodies, w1, w2, x5_InvalidBodies⟩, kitOne_no e5_InvalidProfiles e6_InvalidProfiles e7_InvalidBodies (sub_at 1 s_InvalidProfiles rfl)⟩ (allC ⟨C_InvalidName, e1_InvalidName, ⟨x1_InvalidName, x2_InvalidName, e4_InvalidName, x3_InvalidName, x4_InvalidName, w1, w2, x5_InvalidName⟩, kitOne_no e5_InvalidProfiles e6_InvalidProfiles e7_InvalidName (sub_at 2 s_InvalidProfiles rfl)⟩ (allC ⟨C_InvalidNames, e1_InvalidNames, ⟨x1_InvalidNames, x2_InvalidNames, e4_InvalidNames, x3_InvalidNames, x4_InvalidNames, w1, w2, x5_InvalidNames⟩, kitOne_no e5_InvalidProfiles e6_InvalidProfiles e7_InvalidNames (sub_at 3 s_InvalidProfiles rfl)⟩ (allC ⟨C_InvalidWay, e1_InvalidWay, ⟨x1_InvalidWay, x2_InvalidWay, e4_InvalidWay, x3_InvalidWay, x4_InvalidWay, w1, w2, x5_InvalidWay⟩, kitOne_no e5_InvalidProfiles e6_InvalidProfiles e7_InvalidWay (sub_at 4 s_InvalidProfiles rfl)⟩ (allC ⟨C_InvalidEvents, e1_InvalidEvents, ⟨x1_InvalidEvents, x2_InvalidEvents, e4_InvalidEvents, x3_InvalidEvents, x4_InvalidEvents, w1, w2, x5_InvalidEvents⟩, kitOne_no e5_InvalidProfiles e6_InvalidProfiles e7_InvalidEvents (sub_at 5 s_InvalidProfiles rfl)⟩ (allC ⟨C_InvalidProfile, e1_InvalidProfile, ⟨x1_InvalidProfile, x2_InvalidProfile, e4_InvalidProfile, x3_InvalidProfile, x4_InvalidProfile, w1, w2, x5_InvalidProfile⟩, kitOne_no e5_InvalidProfiles e6_InvalidProfiles e7_InvalidProfile (sub_at 6 s_InvalidProfiles rfl)⟩ (allC ⟨C_InvalidProfiles, e1_InvalidProfiles, ⟨x1_InvalidProfiles, x2_InvalidProfiles, e4_InvalidProfiles, x3_InvalidProfiles, x4_InvalidProfiles, w1, w2, x5_InvalidProfiles⟩, kitOne_yes e5_InvalidProfiles e6_InvalidProfiles (sub_at 7 s_InvalidProfiles rfl)⟩ (allC ⟨C_InvalidGroup, e1_InvalidGroup, ⟨x1_InvalidGroup, x2_InvalidGroup, e4_InvalidGroup, x3_InvalidGroup, x4_InvalidGroup, w1, w2, x5_InvalidGroup⟩, kitOne_no e5_InvalidProfiles e6_InvalidProfiles e7_InvalidGroup (sub_at 8 s_InvalidProfiles rfl)⟩ (allC ⟨C_InvalidLocks, e1_InvalidLocks, ⟨x1_InvalidLocks, x2_InvalidLocks, e4_InvalidLocks, x3_InvalidLocks, x4_InvalidLocks, w1, w2, x5_InvalidLocks⟩, kitOne_no e5_InvalidProfiles e6_InvalidProfiles e7_InvalidLocks (sub_at 9 s_InvalidProfiles rfl)⟩ (allC ⟨C_InvalidFrame, e1_InvalidFrame, ⟨x1_InvalidFrame, x2_InvalidFrame, e4_InvalidFrame, x3_InvalidFrame, x4_InvalidFrame, w1, w2, x5_InvalidFrame⟩, kitOne_no e5_InvalidProfiles e6_InvalidProfiles e7_InvalidFrame (sub_at 10 s_InvalidProfiles rfl)⟩ (allC ⟨C_InvalidBook, e1_InvalidBook, ⟨x1_InvalidBook, x2_InvalidBook, e4_InvalidBook, x3_InvalidBook, x4_InvalidBook, w1, w2, x5_InvalidBook⟩, kitOne_no e5_InvalidProfiles e6_InvalidProfiles e7_InvalidBook (sub_at 11 s_InvalidProfiles rfl)⟩ (allC ⟨C_InvalidNumber, e1_InvalidNumber, ⟨x1_InvalidNumber, x2_InvalidNumber, e4_InvalidNumber, x3_InvalidNumber, x4_InvalidNumber, w1, w2, x5_InvalidNumber⟩, kitOne_no e5_InvalidProfiles e6_InvalidProfiles e7_InvalidNumber (sub_at 12 s_InvalidProfiles rfl)⟩ (allC ⟨C_InvalidText, e1_InvalidText, ⟨x1_InvalidText, x2_InvalidText, e4_InvalidText, x3_InvalidText, x4_InvalidText, w1, w2, x5_InvalidText⟩, kitOne_no e5_InvalidProfiles e6_InvalidProfiles e7_InvalidText (sub_at 13 s_InvalidProfiles rfl)⟩ (allC ⟨C_TooLarge, e1_TooLarge, ⟨x1_TooLarge, x2_TooLarge, e4_TooLarge, x3_TooLarge, x4_TooLarge, w1, w2, x5_TooLarge⟩, kitOne_no e5_InvalidProfiles e6_InvalidProfiles e7_TooLarge (sub_at 14 s_InvalidProfiles rfl)⟩ (allC ⟨C_Ended, e1_Ended, ⟨x1_Ended, x2_Ended, e4_Ended, x3_Ended, x4_Ended, w1, w2, x5_Ended⟩, kitOne_no e5_InvalidProfiles e6_InvalidProfiles e7_Ended (sub_at 15 s_InvalidProfiles rfl)⟩ (allC ⟨C_NothingToUndo, e1_NothingToUndo, ⟨x1_NothingToUndo, x2_NothingToUndo, e4_NothingToUndo, x3_NothingToUndo, x4_NothingToUndo, w1, w2, x5_NothingToUndo⟩, kitOne_no e5_InvalidProfiles e6_InvalidProfiles e7_NothingToUndo (sub_at 16 s_InvalidProfiles rfl)⟩ (allC ⟨C_Blocked, e1_Blocked, ⟨x1_Blocked, x2_Blocked, e4_Blocked, x3_Blocked, x4_Blocked, w1, w2, x5_Blocked⟩, kitOne_no e5_InvalidProfiles e6_InvalidProfiles e7_Blocked (sub_at 17 s_InvalidProfiles rfl)⟩ (allC ⟨C_HoldError, e1_HoldError, ⟨x1_HoldError, x2_HoldError, e4_HoldError, x3_HoldError, x4_HoldError, w1, w2, x5_HoldError⟩, kitOne_no e5_InvalidProfiles e6_InvalidProfiles e7_HoldError (sub_at 18 s_InvalidProfiles rfl)⟩ allN)))))))))))))))))))⟩, ⟨C_InvalidText, PySem.W.mg_of X G e1_InvalidText, (allC ⟨C_InvalidBody, e1_InvalidBody, ⟨x1_InvalidBody, x2_InvalidBody, e4_InvalidBody, x3_InvalidBody, x4_InvalidBody, w1, w2, x5_InvalidBody⟩, kitOne_no e5_InvalidText e6_InvalidText e7_InvalidBody (sub_at 0 s_InvalidText rfl)⟩ (allC ⟨C_InvalidBodies, e1_InvalidBodies, ⟨x1_InvalidBodies, x2_InvalidBodies, e4_InvalidBodies, x3_InvalidBodies, x4_InvalidBodies, w1, w2, x5_InvalidBodies⟩, kitOne_no e5_InvalidText e6_InvalidText e7_InvalidBodies (sub_at 1 s_InvalidText rfl)⟩ (allC ⟨C_InvalidName, e1_InvalidName, ⟨x1_InvalidName, x2_InvalidName, e4_InvalidName, x3_InvalidName, x4_InvalidName, w1, w2, x5_InvalidName⟩, kitOne_no e5_InvalidText e6_InvalidText e7_InvalidName (sub_at 2 s_InvalidText rfl)⟩ (allC ⟨C_InvalidNames, e1_InvalidNames, ⟨x1_InvalidNames, x2_InvalidNames, e4_InvalidNames, x3_InvalidNames, x4_InvalidNames, w1, w2, x5_InvalidNames⟩, kitOne_no e5_InvalidText e6_InvalidText e7_InvalidNames (sub_at 3 s_InvalidText rfl)⟩ (allC ⟨C_InvalidWay, e1_InvalidWay, ⟨x1_InvalidWay, x2_InvalidWay, e4_InvalidWay, x3_InvalidWay, x4_InvalidWay, w1, w2, x5_InvalidWay⟩, kitOne_no e5_InvalidText e6_InvalidText e7_InvalidWay (sub_at 4 s_InvalidText rfl)⟩ (allC ⟨C_InvalidEvents, e1_InvalidEvents, ⟨x1_InvalidEvents, x2_InvalidEvents, e4_InvalidEvents, x3_InvalidEvents, x4_InvalidEvents, w1, w2, x5_InvalidEvents⟩, kitOne_no e5_InvalidText e6_InvalidText e7_InvalidEvents (sub_at 5 s_InvalidText rfl)⟩ (allC ⟨C_InvalidProfile, e1_InvalidProfile, ⟨x1_InvalidProfile, x2_InvalidProfile, e4_InvalidProfile, x3_InvalidProfile, x4_InvalidProfile, w1, w2, x5_InvalidProfile⟩, kitOne_no e5_InvalidText e6_InvalidText e7_InvalidProfile (sub_at 6 s_InvalidText rfl)⟩ (allC ⟨C_InvalidProfiles, e1_InvalidProfiles, ⟨x1_InvalidProfiles, x2_InvalidProfiles, e4_InvalidProfiles, x3_InvalidProfiles, x4_InvalidProfiles, w1, w2, x5_InvalidProfiles⟩, kitOne_no e5_InvalidText e6_InvalidText e7_InvalidProfiles (sub_at 7 s_InvalidText rfl)⟩ (allC ⟨C_InvalidGroup, e1_InvalidGroup, ⟨x1_InvalidGroup, x2_InvalidGroup, e4_InvalidGroup, x3_InvalidGroup, x4_InvalidGroup, w1, w2, x5_InvalidGroup⟩, kitOne_no e5_InvalidText e6_InvalidText e7_InvalidGroup (sub_at 8 s_InvalidText rfl)⟩ (allC ⟨C_InvalidLocks, e1_InvalidLocks, ⟨x1_InvalidLocks, x2_InvalidLocks, e4_InvalidLocks, x3_InvalidLocks, x4_InvalidLocks, w1, w2, x5_InvalidLocks⟩, kitOne_no e5_InvalidText e6_InvalidText e7_InvalidLocks (sub_at 9 s_InvalidText rfl)⟩ (allC ⟨C_InvalidFrame, e1_InvalidFrame, ⟨x1_InvalidFrame, x2_InvalidFrame, e4_InvalidFrame, x3_InvalidFrame, x4_InvalidFrame, w1, w2, x5_InvalidFrame⟩, kitOne_no e5_InvalidText e6_InvalidText e7_InvalidFrame (sub_at 10 s_InvalidText rfl)⟩ (allC ⟨C_InvalidBook, e1_InvalidBook, ⟨x1_InvalidBook, x2_InvalidBook, e4_InvalidBook, x3_InvalidBook, x4_InvalidBook, w1, w2, x5_InvalidBook⟩, kitOne_no e5_InvalidText e6_InvalidText e7_InvalidBook (sub_at 11 s_InvalidText rfl)⟩ (allC ⟨C_InvalidNumber, e1_InvalidNumber, ⟨x1_InvalidNumber, x2_InvalidNumber, e4_InvalidNumber, x3_InvalidNumber, x4_InvalidNumber, w1, w2, x5_InvalidNumber⟩, kitOne_no e5_InvalidText e6_InvalidText e7_InvalidNumber (sub_at 12 s_InvalidText rfl)⟩ (allC ⟨C_InvalidText, e1_InvalidText, ⟨x1_InvalidText, x2_InvalidText, e4_InvalidText, x3_InvalidText, x4_InvalidText, w1, w2, x5_InvalidText⟩, kitOne_yes e5_InvalidText e6_InvalidText (sub_at 13 s_InvalidText rfl)⟩ (allC ⟨C_TooLarge, e1_TooLarge, ⟨x1_TooLarge, x2_TooLarge, e4_TooLarge, x3_TooLarge, x4_TooLarge, w1, w2, x5_TooLarge⟩, kitOne_no e5_InvalidText e6_InvalidText e7_TooLarge (sub_at 14 s_InvalidText rfl)⟩ (allC ⟨C_Ended, e1_Ended, ⟨x1_Ended, x2_Ended, e4_Ended, x3_Ended, x4_Ended, w1, w2, x5_Ended⟩, kitOne_no e5_InvalidText e6_InvalidText e7_Ended (sub_at 15 s_InvalidText rfl)⟩ (allC ⟨C_NothingToUndo, e1_NothingToUndo, ⟨x1_NothingToUndo, x2_NothingToUndo, e4_NothingToUndo, x3_NothingToUndo, x4_NothingToUndo, w1, w2, x5_NothingToUndo⟩, kitOne_no e5_InvalidText e6_InvalidText e7_NothingToUndo (sub_at 16 s_InvalidText rfl)⟩ (allC ⟨C_Blocked, e1_Blocked, ⟨x1_Blocked, x2_Blocked, e4_Blocked, x3_Blocked, x4_Blocked, w1, w2, x5_Blocked⟩, kitOne_no e5_InvalidText e6_InvalidText e7_Blocked (sub_at 17 s_InvalidText rfl)⟩ (allC ⟨C_HoldError, e1_HoldError, ⟨x1_HoldError, x2_HoldError, e4_HoldError, x3_HoldError, x4_HoldError, w1, w2, x5_HoldError⟩, kitOne_no e5_InvalidText e6_InvalidText e7_HoldError (sub_at 18 s_InvalidText rfl)⟩ allN)))))))))))))))))))⟩, ⟨C_InvalidWay, PySem.W.mg_of X G e1_InvalidWay, (allC ⟨C_InvalidBody, e1_InvalidBody, ⟨x1_InvalidBody, x2_InvalidBody, e4_InvalidBody, x3_InvalidBody, x4_InvalidBody, w1, w2, x5_InvalidBody⟩, kitOne_no e5_InvalidWay e6_InvalidWay e7_InvalidBody (sub_at 0 s_InvalidWay rfl)⟩ (allC ⟨C_InvalidBodies, e1_InvalidBodies, ⟨x1_InvalidBodies, x2_InvalidBodies, e4_InvalidBodies, x3_InvalidBodies, x4_InvalidBodies, w1, w2, x5_InvalidBodies⟩, kitOne_no e5_InvalidWay e6_InvalidWay e7_InvalidBodies (sub_at 1 s_InvalidWay rfl)⟩ (allC ⟨C_InvalidName, e1_InvalidName, ⟨x1_InvalidName, x2_InvalidName, e4_InvalidName, x3_InvalidName, x4_InvalidName, w1, w2, x5_InvalidName⟩, kitOne_no e5_InvalidWay e6_InvalidWay e7_InvalidName (sub_at 2 s_InvalidWay rfl)⟩ (allC ⟨C_InvalidNames, e1_InvalidNames, ⟨x1_InvalidNames, x2_InvalidNames, e4_InvalidNames, x3_InvalidNames, x4_InvalidNames, w1, w2, x5_InvalidNames⟩, kitOne_no e5_InvalidWay e6_InvalidWay e7_InvalidNames (sub_at 3 s_InvalidWay rfl)⟩ (allC ⟨C_InvalidWay, e1_InvalidWay, ⟨x1_InvalidWay, x2_InvalidWay, e4_InvalidWay, x3_InvalidWay, x4_InvalidWay, w1, w2, x5_InvalidWay⟩, kitOne_yes e5_InvalidWay e6_InvalidWay (sub_at 4 s_InvalidWay rfl)⟩ (allC ⟨C_InvalidEvents, e1_InvalidEvents, ⟨x1_InvalidEvents, x2_InvalidEvents, e4_InvalidEvents, x3_InvalidEvents, x4_InvalidEvents, w1, w2, x5_InvalidEvents⟩, kitOne_no e5_InvalidWay e6_InvalidWay e7_InvalidEvents (sub_at 5 s_InvalidWay rfl)⟩ (allC ⟨C_InvalidProfile, e1_InvalidProfile, ⟨x1_InvalidProfile, x2_InvalidProfile, e4_InvalidProfile, x3_InvalidProfile, x4_InvalidProfile, w1, w2, x5_InvalidProfile⟩, kitOne_no e5_InvalidWay e6_InvalidWay e7_InvalidProfile (sub_at 6 s_InvalidWay rfl)⟩ (allC ⟨C_InvalidProfiles, e1_InvalidProfiles, ⟨x1_InvalidProfiles, x2_InvalidProfiles, e4_InvalidProfiles, x3_InvalidProfiles, x4_InvalidProfiles, w1, w2, x5_InvalidProfiles⟩, kitOne_no e5_InvalidWay e6_InvalidWay e7_InvalidProfiles (sub_at 7 s_InvalidWay rfl)⟩ (allC ⟨C_InvalidGroup, e1_InvalidGroup, ⟨x1_InvalidGroup, x2_InvalidGroup, e4_InvalidGroup, x3_InvalidGroup, x4_InvalidGroup, w1, w2, x5_InvalidGroup⟩, kitOne_no e5_InvalidWay e6_InvalidWay e7_InvalidGroup (sub_at 8 s_InvalidWay rfl)⟩ (allC ⟨C_InvalidLocks, e1_InvalidLocks, ⟨x1_InvalidLocks, x2_InvalidLocks, e4_InvalidLocks, x3_InvalidLocks, x4_InvalidLocks, w1, w2, x5_InvalidLocks⟩, kitOne_no e5_InvalidWay e6_InvalidWay e7_InvalidLocks (sub_at 9 s_InvalidWay rfl)⟩ (allC ⟨C_InvalidFrame, e1_InvalidFrame, ⟨x1_InvalidFrame, x2_InvalidFrame, e4_InvalidFrame, x3_InvalidFrame, x4_InvalidFrame, w1, w2, x5_InvalidFrame⟩, kitOne_no e5_InvalidWay e6_InvalidWay e7_InvalidFrame (sub_at 10 s_InvalidWay rfl)⟩ (allC ⟨C_InvalidBook, e1_InvalidBook, ⟨x1_InvalidBook, x2_InvalidBook, e4_InvalidBook, x3_InvalidBook, x4_InvalidBook, w1, w2, x5_InvalidBook⟩, kitOne_no e5_InvalidWay e6_InvalidWay e7_InvalidBook (sub_at 11 s_InvalidWay rfl)⟩ (allC ⟨C_InvalidNumber, e1_InvalidNumber, ⟨x1_InvalidNumber, x2_InvalidNumber, e4_InvalidNumber, x3_InvalidNumber, x4_InvalidNumber, w1, w2, x5_InvalidNumber⟩, kitOne_no e5_InvalidWay e6_InvalidWay e7_InvalidNumber (sub_at 12 s_InvalidWay rfl)⟩ (allC ⟨C_InvalidText, e1_InvalidText, ⟨x1_InvalidText, x2_InvalidText, e4_InvalidText, x3_InvalidText, x4_InvalidText, w1, w2, x5_InvalidText⟩, kitOne_no e5_InvalidWay e6_InvalidWay e7_InvalidText (sub_at 13 s_InvalidWay rfl)⟩ (allC ⟨C_TooLarge, e1_TooLarge, ⟨x1_TooLarge, x2_TooLarge, e4_TooLarge, x3_TooLarge, x4_TooLarge, w1, w2, x5_TooLarge⟩, kitOne_no e5_InvalidWay e6_InvalidWay e7_TooLarge (sub_at 14 s_InvalidWay rfl)⟩ (allC ⟨C_Ended, e1_Ended, ⟨x1_Ended, x2_Ended, e4_Ended, x3_Ended, x4_Ended, w1, w2, x5_Ended⟩, kitOne_no e5_InvalidWay e6_InvalidWay e7_Ended (sub_at 15 s_InvalidWay rfl)⟩ (allC ⟨C_NothingToUndo, e1_NothingToUndo, ⟨x1_NothingToUndo, x2_NothingToUndo, e4_NothingToUndo, x3_NothingToUndo, x4_NothingToUndo, w1, w2, x5_NothingToUndo⟩, kitOne_no e5_InvalidWay e6_InvalidWay e7_NothingToUndo (sub_at 16 s_InvalidWay rfl)⟩ (allC ⟨C_Blocked, e1_Blocked, ⟨x1_Blocked, x2_Blocked, e4_Blocked, x3_Blocked, x4_Blocked, w1, w2, x5_Blocked⟩, kitOne_no e5_InvalidWay e6_InvalidWay e7_Blocked (sub_at 17 s_InvalidWay rfl)⟩ (allC ⟨C_HoldError, e1_HoldError, ⟨x1_HoldError, x2_HoldError, e4_HoldError, x3_HoldError, x4_HoldError, w1, w2, x5_HoldError⟩, kitOne_no e5_InvalidWay e6_InvalidWay e7_HoldError (sub_at 18 s_InvalidWay rfl)⟩ allN)))))))))))))))))))⟩, (allC ⟨C_InvalidBody, e1_InvalidBody, ⟨x1_InvalidBody, x2_InvalidBody, e4_InvalidBody, x3_InvalidBody, x4_InvalidBody, w1, w2, x5_InvalidBody⟩, kitOne_bltn (by decide +kernel) (sub_at 0 s_LookupError rfl)⟩ (allC ⟨C_InvalidBodies, e1_InvalidBodies, ⟨x1_InvalidBodies, x2_InvalidBodies, e4_InvalidBodies, x3_InvalidBodies, x4_InvalidBodies, w1, w2, x5_InvalidBodies⟩, kitOne_bltn (by decide +kernel) (sub_at 1 s_LookupError rfl)⟩ (allC ⟨C_InvalidName, e1_InvalidName, ⟨x1_InvalidName, x2_InvalidName, e4_InvalidName, x3_InvalidName, x4_InvalidName, w1, w2, x5_InvalidName⟩, kitOne_bltn (by decide +kernel) (sub_at 2 s_LookupError rfl)⟩ (allC ⟨C_InvalidNames, e1_InvalidNames, ⟨x1_InvalidNames, x2_InvalidNames, e4_InvalidNames, x3_InvalidNames, x4_InvalidNames, w1, w2, x5_InvalidNames⟩, kitOne_bltn (by decide +kernel) (sub_at 3 s_LookupError rfl)⟩ (allC ⟨C_InvalidWay, e1_InvalidWay, ⟨x1_InvalidWay, x2_InvalidWay, e4_InvalidWay, x3_InvalidWay, x4_InvalidWay, w1, w2, x5_InvalidWay⟩, kitOne_bltn (by decide +kernel) (sub_at 4 s_LookupError rfl)⟩ (allC ⟨C_InvalidEvents, e1_InvalidEvents, ⟨x1_InvalidEvents, x2_InvalidEvents, e4_InvalidEvents, x3_InvalidEvents, x4_InvalidEvents, w1, w2, x5_InvalidEvents⟩, kitOne_bltn (by decide +kernel) (sub_at 5 s_LookupError rfl)⟩ (allC ⟨C_InvalidProfile, e1_InvalidProfile, ⟨x1_InvalidProfile, x2_InvalidProfile, e4_InvalidProfile, x3_InvalidProfile, x4_InvalidProfile, w1, w2, x5_InvalidProfile⟩, kitOne_bltn (by decide +kernel) (sub_at 6 s_LookupError rfl)⟩ (allC ⟨C_InvalidProfiles, e1_InvalidProfiles, ⟨x1_InvalidProfiles, x2_InvalidProfiles, e4_InvalidProfiles, x3_InvalidProfiles, x4_InvalidProfiles, w1, w2, x5_InvalidProfiles⟩, kitOne_bltn (by decide +kernel) (sub_at 7 s_LookupError rfl)⟩ (allC ⟨C_InvalidGroup, e1_InvalidGroup, ⟨x1_InvalidGroup, x2_InvalidGroup, e4_InvalidGroup, x3_InvalidGroup, x4_InvalidGroup, w1, w2, x5_InvalidGroup⟩, kitOne_bltn (by decide +kernel) (sub_at 8 s_LookupError rfl)⟩ (allC ⟨C_InvalidLocks, e1_InvalidLocks, ⟨x1_InvalidLocks, x2_InvalidLocks, e4_InvalidLocks, x3_InvalidLocks, x4_InvalidLocks, w1, w2, x5_InvalidLocks⟩, kitOne_bltn (by decide +kernel) (sub_at 9 s_LookupError rfl)⟩ (allC ⟨C_InvalidFrame, e1_InvalidFrame, ⟨x1_InvalidFrame, x2_InvalidFrame, e4_InvalidFrame, x3_InvalidFrame, x4_InvalidFrame, w1, w2, x5_InvalidFrame⟩, kitOne_bltn (by decide +kernel) (sub_at 10 s_LookupError rfl)⟩ (allC ⟨C_InvalidBook, e1_InvalidBook, ⟨x1_InvalidBook, x2_InvalidBook, e4_InvalidBook, x3_InvalidBook, x4_InvalidBook, w1, w2, x5_InvalidBook⟩, kitOne_bltn (by decide +kernel) (sub_at 11 s_LookupError rfl)⟩ (allC ⟨C_InvalidNumber, e1_InvalidNumber, ⟨x1_InvalidNumber, x2_InvalidNumber, e4_InvalidNumber, x3_InvalidNumber, x4_InvalidNumber, w1, w2, x5_InvalidNumber⟩, kitOne_bltn (by decide +kernel) (sub_at 12 s_LookupError rfl)⟩ (allC ⟨C_InvalidText, e1_InvalidText, ⟨x1_InvalidText, x2_InvalidText, e4_InvalidText, x3_InvalidText, x4_InvalidText, w1, w2, x5_InvalidText⟩, kitOne_bltn (by decide +kernel) (sub_at 13 s_LookupError rfl)⟩ (allC ⟨C_TooLarge, e1_TooLarge, ⟨x1_TooLarge, x2_TooLarge, e4_TooLarge, x3_TooLarge, x4_TooLarge, w1, w2, x5_TooLarge⟩, kitOne_bltn (by decide +kernel) (sub_at 14 s_LookupError rfl)⟩ (allC ⟨C_Ended, e1_Ended, ⟨x1_Ended, x2_Ended, e4_Ended, x3_Ended, x4_Ended, w1, w2, x5_Ended⟩, kitOne_bltn (by decide +kernel) (sub_at 15 s_LookupError rfl)⟩ (allC ⟨C_NothingToUndo, e1_NothingToUndo, ⟨x1_NothingToUndo, x2_NothingToUndo, e4_NothingToUndo, x3_NothingToUndo, x4_NothingToUndo, w1, w2, x5_NothingToUndo⟩, kitOne_bltn (by decide +kernel) (sub_at 16 s_LookupError rfl)⟩ (allC ⟨C_Blocked, e1_Blocked, ⟨x1_Blocked, x2_Blocked, e4_Blocked, x3_Blocked, x4_Blocked, w1, w2, x5_Blocked⟩, kitOne_bltn (by decide +kernel) (sub_at 17 s_LookupError rfl)⟩ (allC ⟨C_HoldError, e1_HoldError, ⟨x1_HoldError, x2_HoldError, e4_HoldError, x3_HoldError, x4_HoldError, w1, w2, x5_HoldError⟩, kitOne_bltn (by decide +kernel) (sub_at 18 s_LookupError rfl)⟩ allN))))))))))))))))))), ⟨C_NothingToUndo, PySem.W.mg_of X G e1_NothingToUndo, (allC ⟨C_InvalidBody, e1_InvalidBody, ⟨x1_InvalidBody, x2_InvalidBody, e4_InvalidBody, x3_InvalidBody, x4_InvalidBody, w1, w2, x5_InvalidBody⟩, kitOne_no e5_NothingToUndo e6_NothingToUndo e7_InvalidBody (sub_at 0 s_NothingToUndo rfl)⟩ (allC ⟨C_InvalidBodies, e1_InvalidBodies, ⟨x1_InvalidBodies, x2_InvalidBodies, e4_InvalidBodies, x3_InvalidBodies, x4_InvalidBodies, w1, w2, x5_InvalidBodies⟩, kitOne_no e5_NothingToUndo e6_NothingToUndo e7_InvalidBodies (sub_at 1 s_NothingToUndo rfl)⟩ (allC ⟨C_InvalidName, e1_InvalidName, ⟨x1_InvalidName, x2_InvalidName, e4_InvalidName, x3_InvalidName, x4_InvalidName, w1, w2, x5_InvalidName⟩, kitOne_no e5_NothingToUndo e6_NothingToUndo e7_InvalidName (sub_at 2 s_NothingToUndo rfl)⟩ (allC ⟨C_InvalidNames, e1_InvalidNames, ⟨x1_InvalidNames, x2_InvalidNames, e4_InvalidNames, x3_InvalidNames, x4_InvalidNames, w1, w2, x5_InvalidNames⟩, kitOne_no e5_NothingToUndo e6_NothingToUndo e7_InvalidNames (sub_at 3 s_NothingToUndo rfl)⟩ (allC ⟨C_InvalidWay, e1_InvalidWay, ⟨x1_InvalidWay, x2_InvalidWay, e4_InvalidWay, x3_InvalidWay, x4_InvalidWay, w1, w2, x5_InvalidWay⟩, kitOne_no e5_NothingToUndo e6_NothingToUndo e7_InvalidWay (sub_at 4 s_NothingToUndo rfl)⟩ (allC ⟨C_InvalidEvents, e1_InvalidEvents, ⟨x1_InvalidEvents, x2_InvalidEvents, e4_InvalidEvents, x3_InvalidEvents, x4_InvalidEvents, w1, w2, x5_InvalidEvents⟩, kitOne_no e5_NothingToUndo e6_NothingToUndo e7_InvalidEvents (sub_at 5 s_NothingToUndo rfl)⟩ (allC ⟨C_InvalidProfile, e1_InvalidProfile, ⟨x1_InvalidProfile, x2_InvalidProfile, e4_InvalidProfile, x3_InvalidProfile, x4_InvalidProfile, w1, w2, x5_InvalidProfile⟩, kitOne_no e5_NothingToUndo e6_NothingToUndo e7_InvalidProfile (sub_at 6 s_NothingToUndo rfl)⟩ (allC ⟨C_InvalidProfiles, e1_InvalidProfiles, ⟨x1_InvalidProfiles, x2_InvalidProfiles, e4_InvalidProfiles, x3_InvalidProfiles, x4_InvalidProfiles, w1, w2, x5_InvalidProfiles⟩, kitOne_no e5_NothingToUndo e6_NothingToUndo e7_InvalidProfiles (sub_at 7 s_NothingToUndo rfl)⟩ (allC ⟨C_InvalidGroup, e1_InvalidGroup, ⟨x1_InvalidGroup, x2_InvalidGroup, e4_InvalidGroup, x3_InvalidGroup, x4_InvalidGroup, w1, w2, x5_InvalidGroup⟩, kitOne_no e5_NothingToUndo e6_NothingToUndo e7_InvalidGroup (sub_at 8 s_NothingToUndo rfl)⟩ (allC ⟨C_InvalidLocks, e1_InvalidLocks, ⟨x1_InvalidLocks, x2_InvalidLocks, e4_InvalidLocks, x3_InvalidLocks, x4_InvalidLocks, w1, w2, x5_InvalidLocks⟩, kitOne_no e5_NothingToUndo e6_NothingToUndo e7_InvalidLocks (sub_at 9 s_NothingToUndo rfl)⟩ (allC ⟨C_InvalidFrame, e1_InvalidFrame, ⟨x1_InvalidFrame, x2_InvalidFrame, e4_InvalidFrame, x3_InvalidFrame, x4_InvalidFrame, w1, w2, x5_InvalidFrame⟩, kitOne_no e5_NothingToUndo e6_NothingToUndo e7_InvalidFrame (sub_at 10 s_NothingToUndo rfl)⟩ (allC ⟨C_InvalidBook, e1_InvalidBook, ⟨x1_InvalidBook, x2_InvalidBook, e4_InvalidBook, x3_InvalidBook, x4_InvalidBook, w1, w2, x5_InvalidBook⟩, kitOne_no e5_NothingToUndo e6_NothingToUndo e7_InvalidBook (sub_at 11 s_NothingToUndo rfl)⟩ (allC ⟨C_InvalidNumber, e1_InvalidNumber, ⟨x1_InvalidNumber, x2_InvalidNumber, e4_InvalidNumber, x3_InvalidNumber, x4_InvalidNumber, w1, w2, x5_InvalidNumber⟩, kitOne_no e5_NothingToUndo e6_NothingToUndo e7_InvalidNumber (sub_at 12 s_NothingToUndo rfl)⟩ (allC ⟨C_InvalidText, e1_InvalidText, ⟨x1_InvalidText, x2_InvalidText, e4_InvalidText, x3_InvalidText, x4_InvalidText, w1, w2, x5_InvalidText⟩, kitOne_no e5_NothingToUndo e6_NothingToUndo e7_InvalidText (sub_at 13 s_NothingToUndo rfl)⟩ (allC ⟨C_TooLarge, e1_TooLarge, ⟨x1_TooLarge, x2_TooLarge, e4_TooLarge, x3_TooLarge, x4_TooLarge, w1, w2, x5_TooLarge⟩, kitOne_no e5_NothingToUndo e6_NothingToUndo e7_TooLarge (sub_at 14 s_NothingToUndo rfl)⟩ (allC ⟨C_Ended, e1_Ended, ⟨x1_Ended, x2_Ended, e4_Ended, x3_Ended, x4_Ended, w1, w2, x5_Ended⟩, kitOne_no e5_NothingToUndo e6_NothingToUndo e7_Ended (sub_at 15 s_NothingToUndo rfl)⟩ (allC ⟨C_NothingToUndo, e1_NothingToUndo, ⟨x1_NothingToUndo, x2_NothingToUndo, e4_NothingToUndo, x3_NothingToUndo, x4_NothingToUndo, w1, w2, x5_NothingToUndo⟩, kitOne_yes e5_NothingToUndo e6_NothingToUndo (sub_at 16 s_NothingToUndo rfl)⟩ (allC ⟨C_Blocked, e1_Blocked, ⟨x1_Blocked, x2_Blocked, e4_Blocked, x3_Blocked, x4_Blocked, w1, w2, x5_Blocked⟩, kitOne_no e5_NothingToUndo e6_NothingToUndo e7_Blocked (sub_at 17 s_NothingToUndo rfl)⟩ (allC ⟨C_HoldError, e1_HoldError, ⟨x1_HoldError, x2_HoldError, e4_HoldError, x3_HoldError, x4_HoldError, w1, w2, x5_HoldError⟩, kitOne_no e5_NothingToUndo e6_NothingToUndo e7_HoldError (sub_at 18 s_NothingToUndo rfl)⟩ allN)))))))))))))))))))⟩, (allC ⟨C_InvalidBody, e1_InvalidBody, ⟨x1_InvalidBody, x2_InvalidBody, e4_InvalidBody, x3_InvalidBody, x4_InvalidBody, w1, w2, x5_InvalidBody⟩, kitOne_bltn (by decide +kernel) (sub_at 0 s_RuntimeError rfl)⟩ (allC ⟨C_InvalidBodies, e1_InvalidBodies, ⟨x1_InvalidBodies, x2_InvalidBodies, e4_InvalidBodies, x3_InvalidBodies, x4_InvalidBodies, w1, w2, x5_InvalidBodies⟩, kitOne_bltn (by decide +kernel) (sub_at 1 s_RuntimeError rfl)⟩ (allC ⟨C_InvalidName, e1_InvalidName, ⟨x1_InvalidName, x2_InvalidName, e4_InvalidName, x3_InvalidName, x4_InvalidName, w1, w2, x5_InvalidName⟩, kitOne_bltn (by decide +kernel) (sub_at 2 s_RuntimeError rfl)⟩ (allC ⟨C_InvalidNames, e1_InvalidNames, ⟨x1_InvalidNames, x2_InvalidNames, e4_InvalidNames, x3_InvalidNames, x4_InvalidNames, w1, w2, x5_InvalidNames⟩, kitOne_bltn (by decide +kernel) (sub_at 3 s_RuntimeError rfl)⟩ (allC ⟨C_InvalidWay, e1_InvalidWay, ⟨x1_InvalidWay, x2_InvalidWay, e4_InvalidWay, x3_InvalidWay, x4_InvalidWay, w1, w2, x5_InvalidWay⟩, kitOne_bltn (by decide +kernel) (sub_at 4 s_RuntimeError rfl)⟩ (allC ⟨C_InvalidEvents, e1_InvalidEvents, ⟨x1_InvalidEvents, x2_InvalidEvents, e4_InvalidEvents, x3_InvalidEvents, x4_InvalidEvents, w1, w2, x5_InvalidEvents⟩, kitOne_bltn (by decide +kernel) (sub_at 5 s_RuntimeError rfl)⟩ (allC ⟨C_InvalidProfile, e1_InvalidProfile, ⟨x1_InvalidProfile, x2_InvalidProfile, e4_InvalidProfile, x3_InvalidProfile, x4_InvalidProfile, w1, w2, x5_InvalidProfile⟩, kitOne_bltn (by decide +kernel) (sub_at 6 s_RuntimeError rfl)⟩ (allC ⟨C_InvalidProfiles, e1_InvalidProfiles, ⟨x1_InvalidProfiles, x2_InvalidProfiles, e4_InvalidProfiles, x3_InvalidProfiles, x4_InvalidProfiles, w1, w2, x5_InvalidProfiles⟩, kitOne_bltn (by decide +kernel) (sub_at 7 s_RuntimeError rfl)⟩ (allC ⟨C_InvalidGroup, e1_InvalidGroup, ⟨x1_InvalidGroup, x2_InvalidGroup, e4_InvalidGroup, x3_InvalidGroup, x4_InvalidGroup, w1, w2, x5_InvalidGroup⟩, kitOne_bltn (by decide +kernel) (sub_at 8 s_RuntimeError rfl)⟩ (allC ⟨C_InvalidLocks, e1_InvalidLocks, ⟨x1_InvalidLocks, x2_InvalidLocks, e4_InvalidLocks, x3_InvalidLocks, x4_InvalidLocks, w1, w2, x5_InvalidLocks⟩, kitOne_bltn (by decide +kernel) (sub_at 9 s_RuntimeError rfl)⟩ (allC ⟨C_InvalidFrame, e1_InvalidFrame, ⟨x1_InvalidFrame, x2_InvalidFrame, e4_InvalidFrame, x3_InvalidFrame, x4_InvalidFrame, w1, w2, x5_InvalidFrame⟩, kitOne_bltn (by decide +kernel) (sub_at 10 s_RuntimeError rfl)⟩ (allC ⟨C_InvalidBook, e1_InvalidBook, ⟨x1_InvalidBook, x2_InvalidBook, e4_InvalidBook, x3_InvalidBook, x4_InvalidBook, w1, w2, x5_InvalidBook⟩, kitOne_bltn (by decide +kernel) (sub_at 11 s_RuntimeError rfl)⟩ (allC ⟨C_InvalidNumber, e1_InvalidNumber, ⟨x1_InvalidNumber, x2_InvalidNumber, e4_InvalidNumber, x3_InvalidNumber, x4_InvalidNumber, w1, w2, x5_InvalidNumber⟩, kitOne_bltn (by decide +kernel) (sub_at 12 s_RuntimeError rfl)⟩ (allC ⟨C_InvalidText, e1_InvalidText, ⟨x1_InvalidText, x2_InvalidText, e4_InvalidText, x3_InvalidText, x4_InvalidText, w1, w2, x5_InvalidText⟩, kitOne_bltn (by decide +kernel) (sub_at 13 s_RuntimeError rfl)⟩ (allC ⟨C_TooLarge, e1_TooLarge, ⟨x1_TooLarge, x2_TooLarge, e4_TooLarge, x3_TooLarge, x4_TooLarge, w1, w2, x5_TooLarge⟩, kitOne_bltn (by decide +kernel) (sub_at 14 s_RuntimeError rfl)⟩ (allC ⟨C_Ended, e1_Ended, ⟨x1_Ended, x2_Ended, e4_Ended, x3_Ended, x4_Ended, w1, w2, x5_Ended⟩, kitOne_bltn (by decide +kernel) (sub_at 15 s_RuntimeError rfl)⟩ (allC ⟨C_NothingToUndo, e1_NothingToUndo, ⟨x1_NothingToUndo, x2_NothingToUndo, e4_NothingToUndo, x3_NothingToUndo, x4_NothingToUndo, w1, w2, x5_NothingToUndo⟩, kitOne_bltn (by decide +kernel) (sub_at 16 s_RuntimeError rfl)⟩ (allC ⟨C_Blocked, e1_Blocked, ⟨x1_Blocked, x2_Blocked, e4_Blocked, x3_Blocked, x4_Blocked, w1, w2, x5_Blocked⟩, kitOne_bltn (by decide +kernel) (sub_at 17 s_RuntimeError rfl)⟩ (allC ⟨C_HoldError, e1_HoldError, ⟨x1_HoldError, x2_HoldError, e4_HoldError, x3_HoldError, x4_HoldError, w1, w2, x5_HoldError⟩, kitOne_bltn (by decide +kernel) (sub_at 18 s_RuntimeError rfl)⟩ allN))))))))))))))))))), ⟨C_TooLarge, PySem.W.mg_of X G e1_TooLarge, (allC ⟨C_InvalidBody, e1_InvalidBody, ⟨x1_InvalidBody, x2_InvalidBody, e4_InvalidBody, x3_InvalidBody, x4_InvalidBody, w1, w2, x5_InvalidBody⟩, kitOne_no e5_TooLarge e6_TooLarge e7_InvalidBody (sub_at 0 s_TooLarge rfl)⟩ (allC ⟨C_InvalidBodies, e1_InvalidBodies, ⟨x1_InvalidBodies, x2_InvalidBodies, e4_InvalidBodies, x3_InvalidBodies, x4_InvalidBodies, w1, w2, x5_InvalidBodies⟩, kitOne_no e5_TooLarge e6_TooLarge e7_InvalidBodies (sub_at 1 s_TooLarge rfl)⟩ (allC ⟨C_InvalidName, e1_InvalidName, ⟨x1_InvalidName, x2_InvalidName, e4_InvalidName, x3_InvalidName, x4_InvalidName, w1, w2, x5_InvalidName⟩, kitOne_no e5_TooLarge e6_TooLarge e7_InvalidName (sub_at 2 s_TooLarge rfl)⟩ (allC ⟨C_InvalidNames, e1_InvalidNames, ⟨x1_InvalidNames, x2_InvalidNames, e4_InvalidNames, x3_InvalidNames, x4_InvalidNames, w1, w2, x5_InvalidNames⟩, kitOne_no e5_TooLarge e6_TooLarge e7_InvalidNames (sub_at 3 s_TooLarge rfl)⟩ (allC ⟨C_InvalidWay, e1_InvalidWay, ⟨x1_InvalidWay, x2_InvalidWay, e4_InvalidWay, x3_InvalidWay, x4_InvalidWay, w1, w2, x5_InvalidWay⟩, kitOne_no e5_TooLarge e6_TooLarge e7_InvalidWay (sub_at 4 s_TooLarge rfl)⟩ (allC ⟨C_InvalidEvents, e1_InvalidEvents, ⟨x1_InvalidEvents, x2_InvalidEvents, e4_InvalidEvents, x3_InvalidEvents, x4_InvalidEvents, w1, w2, x5_InvalidEvents⟩, kitOne_no e5_TooLarge e6_TooLarge e7_InvalidEvents (sub_at 5 s_TooLarge rfl)⟩ (allC ⟨C_InvalidProfile, e1_InvalidProfile, ⟨x1_InvalidProfile, x2_InvalidProfile, e4_InvalidProfile, x3_InvalidProfile, x4_InvalidProfile, w1, w2, x5_InvalidProfile⟩, kitOne_no e5_TooLarge e6_TooLarge e7_InvalidProfile (sub_at 6 s_TooLarge rfl)⟩ (allC ⟨C_InvalidProfiles, e1_InvalidProfiles, ⟨x1_InvalidProfiles, x2_InvalidProfiles, e4_InvalidProfiles, x3_InvalidProfiles, x4_InvalidProfiles, w1, w2, x5_InvalidProfiles⟩, kitOne_no e5_TooLarge e6_TooLarge e7_InvalidProfiles (sub_at 7 s_TooLarge rfl)⟩ (allC ⟨C_InvalidGroup, e1_InvalidGroup, ⟨x1_InvalidGroup, x2_InvalidGroup, e4_InvalidGroup, x3_InvalidGroup, x4_InvalidGroup, w1, w2, x5_InvalidGroup⟩, kitOne_no e5_TooLarge e6_TooLarge e7_InvalidGroup (sub_at 8 s_TooLarge rfl)⟩ (allC ⟨C_InvalidLocks, e1_InvalidLocks, ⟨x1_InvalidLocks, x2_InvalidLocks, e4_InvalidLocks, x3_InvalidLocks, x4_InvalidLocks, w1, w2, x5_InvalidLocks⟩, kitOne_no e5_TooLarge e6_TooLarge e7_InvalidLocks (sub_at 9 s_TooLarge rfl)⟩ (allC ⟨C_InvalidFrame, e1_InvalidFrame, ⟨x1_InvalidFrame, x2_InvalidFrame, e4_InvalidFrame, x3_InvalidFrame, x4_InvalidFrame, w1, w2, x5_InvalidFrame⟩, kitOne_no e5_TooLarge e6_TooLarge e7_InvalidFrame (sub_at 10 s_TooLarge rfl)⟩ (allC ⟨C_InvalidBook, e1_InvalidBook, ⟨x1_InvalidBook, x2_InvalidBook, e4_InvalidBook, x3_InvalidBook, x4_InvalidBook, w1, w2, x5_InvalidBook⟩, kitOne_no e5_TooLarge e6_TooLarge e7_InvalidBook (sub_at 11 s_TooLarge rfl)⟩ (allC ⟨C_InvalidNumber, e1_InvalidNumber, ⟨x1_InvalidNumber, x2_InvalidNumber, e4_InvalidNumber, x3_InvalidNumber, x4_InvalidNumber, w1, w2, x5_InvalidNumber⟩, kitOne_no e5_TooLarge e6_TooLarge e7_InvalidNumber (sub_at 12 s_TooLarge rfl)⟩ (allC ⟨C_InvalidText, e1_InvalidText, ⟨x1_InvalidText, x2_InvalidText, e4_InvalidText, x3_InvalidText, x4_InvalidText, w1, w2, x5_InvalidText⟩, kitOne_no e5_TooLarge e6_TooLarge e7_InvalidText (sub_at 13 s_TooLarge rfl)⟩ (allC ⟨C_TooLarge, e1_TooLarge, ⟨x1_TooLarge, x2_TooLarge, e4_TooLarge, x3_TooLarge, x4_TooLarge, w1, w2, x5_TooLarge⟩, kitOne_yes e5_TooLarge e6_TooLarge (sub_at 14 s_TooLarge rfl)⟩ (allC ⟨C_Ended, e1_Ended, ⟨x1_Ended, x2_Ended, e4_Ended, x3_Ended, x4_Ended, w1, w2, x5_Ended⟩, kitOne_no e5_TooLarge e6_TooLarge e7_Ended (sub_at 15 s_TooLarge rfl)⟩ (allC ⟨C_NothingToUndo, e1_NothingToUndo, ⟨x1_NothingToUndo, x2_NothingToUndo, e4_NothingToUndo, x3_NothingToUndo, x4_NothingToUndo, w1, w2, x5_NothingToUndo⟩, kitOne_no e5_TooLarge e6_TooLarge e7_NothingToUndo (sub_at 16 s_TooLarge rfl)⟩ (allC ⟨C_Blocked, e1_Blocked, ⟨x1_Blocked, x2_Blocked, e4_Blocked, x3_Blocked, x4_Blocked, w1, w2, x5_Blocked⟩, kitOne_no e5_TooLarge e6_TooLarge e7_Blocked (sub_at 17 s_TooLarge rfl)⟩ (allC ⟨C_HoldError, e1_HoldError, ⟨x1_HoldError, x2_HoldError, e4_HoldError, x3_HoldError, x4_HoldError, w1, w2, x5_HoldError⟩, kitOne_no e5_TooLarge e6_TooLarge e7_HoldError (sub_at 18 s_TooLarge rfl)⟩ allN)))))))))))))))))))⟩, (allC ⟨C_InvalidBody, e1_InvalidBody, ⟨x1_InvalidBody, x2_InvalidBody, e4_InvalidBody, x3_InvalidBody, x4_InvalidBody, w1, w2, x5_InvalidBody⟩, kitOne_bltn (by decide +kernel) (sub_at 0 s_TypeError rfl)⟩ (allC ⟨C_InvalidBodies, e1_InvalidBodies, ⟨x1_InvalidBodies, x2_InvalidBodies, e4_InvalidBodies, x3_InvalidBodies, x4_InvalidBodies, w1, w2, x5_InvalidBodies⟩, kitOne_bltn (by decide +kernel) (sub_at 1 s_TypeError rfl)⟩ (allC ⟨C_InvalidName, e1_InvalidName, ⟨x1_InvalidName, x2_InvalidName, e4_InvalidName, x3_InvalidName, x4_InvalidName, w1, w2, x5_InvalidName⟩, kitOne_bltn (by decide +kernel) (sub_at 2 s_TypeError rfl)⟩ (allC ⟨C_InvalidNames, e1_InvalidNames, ⟨x1_InvalidNames, x2_InvalidNames, e4_InvalidNames, x3_InvalidNames, x4_InvalidNames, w1, w2, x5_InvalidNames⟩, kitOne_bltn (by decide +kernel) (sub_at 3 s_TypeError rfl)⟩ (allC ⟨C_InvalidWay, e1_InvalidWay, ⟨x1_InvalidWay, x2_InvalidWay, e4_InvalidWay, x3_InvalidWay, x4_InvalidWay, w1, w2, x5_InvalidWay⟩, kitOne_bltn (by decide +kernel) (sub_at 4 s_TypeError rfl)⟩ (allC ⟨C_InvalidEvents, e1_InvalidEvents, ⟨x1_InvalidEvents, x2_InvalidEvents, e4_InvalidEvents, x3_InvalidEvents, x4_InvalidEvents, w1, w2, x5_InvalidEvents⟩, kitOne_bltn (by decide +kernel) (sub_at 5 s_TypeError rfl)⟩ (allC ⟨C_InvalidProfile, e1_InvalidProfile, ⟨x1_InvalidProfile, x2_InvalidProfile, e4_InvalidProfile, x3_InvalidProfile, x4_InvalidProfile, w1, w2, x5_InvalidProfile⟩, kitOne_bltn (by decide +kernel) (sub_at 6 s_TypeError rfl)⟩ (allC ⟨C_InvalidProfiles, e1_InvalidProfiles, ⟨x1_InvalidProfiles, x2_InvalidProfiles, e4_InvalidProfiles, x3_InvalidProfiles, x4_InvalidProfiles, w1, w2, x5_InvalidProfiles⟩, kitOne_bltn (by decide +kernel) (sub_at 7 s_TypeError rfl)⟩ (allC ⟨C_InvalidGroup, e1_InvalidGroup, ⟨x1_InvalidGroup, x2_InvalidGroup, e4_InvalidGroup, x3_InvalidGroup, x4_InvalidGroup, w1, w2, x5_InvalidGroup⟩, kitOne_bltn (by decide +kernel) (sub_at 8 s_TypeError rfl)⟩ (allC ⟨C_InvalidLocks, e1_InvalidLocks, ⟨x1_InvalidLocks, x2_InvalidLocks, e4_InvalidLocks, x3_InvalidLocks, x4_InvalidLocks, w1, w2, x5_InvalidLocks⟩, kitOne_bltn (by decide +kernel) (sub_at 9 s_TypeError rfl)⟩ (allC ⟨C_InvalidFrame, e1_InvalidFrame, ⟨x1_InvalidFrame, x2_InvalidFrame, e4_InvalidFrame, x3_InvalidFrame, x4_InvalidFrame, w1, w2, x5_InvalidFrame⟩, kitOne_bltn (by decide +kernel) (sub_at 10 s_TypeError rfl)⟩ (allC ⟨C_InvalidBook, e1_InvalidBook, ⟨x1_InvalidBook, x2_InvalidBook, e4_InvalidBook, x3_InvalidBook, x4_InvalidBook, w1, w2, x5_InvalidBook⟩, kitOne_bltn (by decide +kernel) (sub_at 11 s_TypeError rfl)⟩ (allC ⟨C_InvalidNumber, e1_InvalidNumber, ⟨x1_InvalidNumber, x2_InvalidNumber, e4_InvalidNumber, x3_InvalidNumber, x4_InvalidNumber, w1, w2, x5_InvalidNumber⟩, kitOne_bltn (by decide +kernel) (sub_at 12 s_TypeError rfl)⟩ (allC ⟨C_InvalidText, e1_InvalidText, ⟨x1_InvalidText, x2_InvalidText, e4_InvalidText, x3_InvalidText, x4_InvalidText, w1, w2, x5_InvalidText⟩, kitOne_bltn (by decide +kernel) (sub_at 13 s_TypeError rfl)⟩ (allC ⟨C_TooLarge, e1_TooLarge, ⟨x1_TooLarge, x2_TooLarge, e4_TooLarge, x3_TooLarge, x4_TooLarge, w1, w2, x5_TooLarge⟩, kitOne_bltn (by decide +kernel) (sub_at 14 s_TypeError rfl)⟩ (allC ⟨C_Ended, e1_Ended, ⟨x1_Ended, x2_Ended, e4_Ended, x3_Ended, x4_Ended, w1, w2, x5_Ended⟩, kitOne_bltn (by decide +kernel) (sub_at 15 s_TypeError rfl)⟩ (allC ⟨C_NothingToUndo, e1_NothingToUndo, ⟨x1_NothingToUndo, x2_NothingToUndo, e4_NothingToUndo, x3_NothingToUndo, x4_NothingToUndo, w1, w2, x5_NothingToUndo⟩, kitOne_bltn (by decide +kernel) (sub_at 16 s_TypeError rfl)⟩ (allC ⟨C_Blocked, e1_Blocked, ⟨x1_Blocked, x2_Blocked, e4_Blocked, x3_Blocked, x4_Blocked, w1, w2, x5_Blocked⟩, kitOne_bltn (by decide +kernel) (sub_at 17 s_TypeError rfl)⟩ (allC ⟨C_HoldError, e1_HoldError, ⟨x1_HoldError, x2_HoldError, e4_HoldError, x3_HoldError, x4_HoldError, w1, w2, x5_HoldError⟩, kitOne_bltn (by decide +kernel) (sub_at 18 s_TypeError rfl)⟩ allN))))))))))))))))))), (allC ⟨C_InvalidBody, e1_InvalidBody, ⟨x1_InvalidBody, x2_InvalidBody, e4_InvalidBody, x3_InvalidBody, x4_InvalidBody, w1, w2, x5_InvalidBody⟩, kitOne_bltn (by decide +kernel) (sub_at 0 s_ValueError rfl)⟩ (allC ⟨C_InvalidBodies, e1_InvalidBodies, ⟨x1_InvalidBodies, x2_InvalidBodies, e4_InvalidBodies, x3_InvalidBodies, x4_InvalidBodies, w1, w2, x5_InvalidBodies⟩, kitOne_bltn (by decide +kernel) (sub_at 1 s_ValueError rfl)⟩ (allC ⟨C_InvalidName, e1_InvalidName, ⟨x1_InvalidName, x2_InvalidName, e4_InvalidName, x3_InvalidName, x4_InvalidName, w1, w2, x5_InvalidName⟩, kitOne_bltn (by decide +kernel) (sub_at 2 s_ValueError rfl)⟩ (allC ⟨C_InvalidNames, e1_InvalidNames, ⟨x1_InvalidNames, x2_InvalidNames, e4_InvalidNames, x3_InvalidNames, x4_InvalidNames, w1, w2, x5_InvalidNames⟩, kitOne_bltn (by decide +kernel) (sub_at 3 s_ValueError rfl)⟩ (allC ⟨C_InvalidWay, e1_InvalidWay, ⟨x1_InvalidWay, x2_InvalidWay, e4_InvalidWay, x3_InvalidWay, x4_InvalidWay, w1, w2, x5_InvalidWay⟩, kitOne_bltn (by decide +kernel) (sub_at 4 s_ValueError rfl)⟩ (allC ⟨C_InvalidEvents, e1_InvalidEvents, ⟨x1_InvalidEvents, x2_InvalidEvents, e4_InvalidEvents, x3_InvalidEvents, x4_InvalidEvents, w1, w2, x5_InvalidEvents⟩, kitOne_bltn (by decide +kernel) (sub_at 5 s_ValueError rfl)⟩ (allC ⟨C_InvalidProfile, e1_InvalidProfile, ⟨x1_InvalidProfile, x2_InvalidProfile, e4_InvalidProfile, x3_InvalidProfile, x4_InvalidProfile, w1, w2, x5_InvalidProfile⟩, kitOne_bltn (by decide +kernel) (sub_at 6 s_ValueError rfl)⟩ (allC ⟨C_InvalidProfiles, e1_InvalidProfiles, ⟨x1_InvalidProfiles, x2_InvalidProfiles, e4_InvalidProfiles, x3_InvalidProfiles, x4_InvalidProfiles, w1, w2, x5_InvalidProfiles⟩, kitOne_bltn (by decide +kernel) (sub_at 7 s_ValueError rfl)⟩ (allC ⟨C_InvalidGroup, e1_InvalidGroup, ⟨x1_InvalidGroup, x2_InvalidGroup, e4_InvalidGroup, x3_InvalidGroup, x4_InvalidGroup, w1, w2, x5_InvalidGroup⟩, kitOne_bltn (by decide +kernel) (sub_at 8 s_ValueError rfl)⟩ (allC ⟨C_InvalidLocks, e1_InvalidLocks, ⟨x1_InvalidLocks, x2_InvalidLocks, e4_InvalidLocks, x3_InvalidLocks, x4_InvalidLocks, w1, w2, x5_InvalidLocks⟩, kitOne_bltn (by decide +kernel) (sub_at 9 s_ValueError rfl)⟩ (allC ⟨C_InvalidFrame, e1_InvalidFrame, ⟨x1_InvalidFrame, x2_InvalidFrame, e4_InvalidFrame, x3_InvalidFrame, x4_InvalidFrame, w1, w2, x5_InvalidFrame⟩, kitOne_bltn (by decide +kernel) (sub_at 10 s_ValueError rfl)⟩ (allC ⟨C_InvalidBook, e1_InvalidBook, ⟨x1_InvalidBook, x2_InvalidBook, e4_InvalidBook, x3_InvalidBook, x4_InvalidBook, w1, w2, x5_InvalidBook⟩, kitOne_bltn (by decide +kernel) (sub_at 11 s_ValueError rfl)⟩ (allC ⟨C_InvalidNumber, e1_InvalidNumber, ⟨x1_InvalidNumber, x2_InvalidNumber, e4_InvalidNumber, x3_InvalidNumber, x4_InvalidNumber, w1, w2, x5_InvalidNumber⟩, kitOne_bltn (by decide +kernel) (sub_at 12 s_ValueError rfl)⟩ (allC ⟨C_InvalidText, e1_InvalidText, ⟨x1_InvalidText, x2_InvalidText, e4_InvalidText, x3_InvalidText, x4_InvalidText, w1, w2, x5_InvalidText⟩, kitOne_bltn (by decide +kernel) (sub_at 13 s_ValueError rfl)⟩ (allC ⟨C_TooLarge, e1_TooLarge, ⟨x1_TooLarge, x2_TooLarge, e4_TooLarge, x3_TooLarge, x4_TooLarge, w1, w2, x5_TooLarge⟩, kitOne_bltn (by decide +kernel) (sub_at 14 s_ValueError rfl)⟩ (allC ⟨C_Ended, e1_Ended, ⟨x1_Ended, x2_Ended, e4_Ended, x3_Ended, x4_Ended, w1, w2, x5_Ended⟩, kitOne_bltn (by decide +kernel) (sub_at 15 s_ValueError rfl)⟩ (allC ⟨C_NothingToUndo, e1_NothingToUndo, ⟨x1_NothingToUndo, x2_NothingToUndo, e4_NothingToUndo, x3_NothingToUndo, x4_NothingToUndo, w1, w2, x5_NothingToUndo⟩, kitOne_bltn (by decide +kernel) (sub_at 16 s_ValueError rfl)⟩ (allC ⟨C_Blocked, e1_Blocked, ⟨x1_Blocked, x2_Blocked, e4_Blocked, x3_Blocked, x4_Blocked, w1, w2, x5_Blocked⟩, kitOne_bltn (by decide +kernel) (sub_at 17 s_ValueError rfl)⟩ (allC ⟨C_HoldError, e1_HoldError, ⟨x1_HoldError, x2_HoldError, e4_HoldError, x3_HoldError, x4_HoldError, w1, w2, x5_HoldError⟩, kitOne_bltn (by decide +kernel) (sub_at 18 s_ValueError rfl)⟩ allN)))))))))))))))))))⟩
theorem walk_law {l : PySem.W.OpenLaw} {q : Program} {loose : List Str} {XP : (Str → Option Value) → Heap → Prop} {YP : World → Heap → Prop} {d : DefRec} {K : Params → PySem.W.Frag} (hn : l.most = some 63) (hdf : d.params.defaults = []) (hd : d.name = "law") (hY : ∀ (w : World) (h : Heap), YP w h → (K w.params).In h)
    (F : ∀ (w : World) (mg : Str → Option Value) (h : Heap), (K w.params).In h → h.Ns mainGlobals mg → Tops l.prog (K w.params) mg)
    (hfn : ∀ ns : List Int, ns.length ≤ 63 → (∀ z ∈ ns, Builtin.Int.intBits z ≤ 1048576) → F_law [.list (ns.map PyData.int)] = some ((.bool true, false), [])) : PySem.W.WalkO q loose XP YP l.row.toRowW d [] (fun f vs => PySem.call f vs) :=
  walk_ofG (n := 63) (k := 3) (x := "_law_script") hn (by decide) hdf ⟨rfl, by decide, by decide⟩ hY (fun w mg h KX G base _ _ => by rw [hd]; exact c_law (F w mg h KX G)) hfn
end Pv.K72
open PySem PySem.W PyProof.Rows
set_option maxRecDepth 100000 in
set_option maxHeartbeats 0 in
theorem PySem.Challenge.cw_nestedholds_k72_errors_created_holds : PySem.Challenge.rw_nestedholds_k72_errors_created.Holds := by
  w_on; o_law; k_head; (case hw => w_witness2)
  k_fill
  refine Pv.K72.walk_law (l := PySem.Challenge.rw_nestedholds_k72_errors_created) rfl rfl rfl (fun w h Y => PySem.W.kIn_of Y) ?F Pv.K72.plain_law
  case F =>
    intro w mg h KX G
    refine' Pv.K72.tops KX G ?a1 ?l1 ?c1 ?k1 ?a2 ?l2 ?c2 ?k2 ?a3 ?l3 ?c3 ?k3 ?a4 ?l4 ?c4 ?k4 ?a5 ?l5 ?c5 ?k5 ?a6 ?l6 ?c6 ?k6 ?a7 ?l7 ?c7 ?k7 ?a8 ?l8 ?c8 ?k8 ?a9 ?l9 ?c9 ?k9 ?z_ArithmeticError ?z_AttributeError ?z_LookupError ?z_RuntimeError ?z_TypeError ?z_ValueError ?z_all ?z_any ?z_enumerate ?z_int ?z_isinstance ?z_len ?z_max ?z_min ?z_range ?z_str ?z_super ?e1_Blocked ?e4_Blocked ?e5_Blocked ?e6_Blocked ?e7_Blocked ?e1_Ended ?e4_Ended ?e5_Ended ?e6_Ended ?e7_Ended ?e1_HoldError ?e4_HoldError ?e5_HoldError ?e6_HoldError ?e7_HoldError ?e1_InvalidBodies ?e4_InvalidBodies ?e5_InvalidBodies ?e6_InvalidBodies ?e7_InvalidBodies ?e1_InvalidBody ?e4_InvalidBody ?e5_InvalidBody ?e6_InvalidBody ?e7_InvalidBody ?e1_InvalidBook ?e4_InvalidBook ?e5_InvalidBook ?e6_InvalidBook ?e7_InvalidBook ?e1_InvalidEvents ?e4_InvalidEvents ?e5_InvalidEvents ?e6_InvalidEvents ?e7_InvalidEvents ?e1_InvalidFrame ?e4_InvalidFrame ?e5_InvalidFrame ?e6_InvalidFrame ?e7_InvalidFrame ?e1_InvalidGroup ?e4_InvalidGroup ?e5_InvalidGroup ?e6_InvalidGroup ?e7_InvalidGroup ?e1_InvalidLocks ?e4_InvalidLocks ?e5_InvalidLocks ?e6_InvalidLocks ?e7_InvalidLocks ?e1_InvalidName ?e4_InvalidName ?e5_InvalidName ?e6_InvalidName ?e7_InvalidName ?e1_InvalidNames ?e4_InvalidNames ?e5_InvalidNames ?e6_InvalidNames ?e7_InvalidNames ?e1_InvalidNumber ?e4_InvalidNumber ?e5_InvalidNumber ?e6_InvalidNumber ?e7_InvalidNumber ?e1_InvalidProfile ?e4_InvalidProfile ?e5_InvalidProfile ?e6_InvalidProfile ?e7_InvalidProfile ?e1_InvalidProfiles ?e4_InvalidProfiles ?e5_InvalidProfiles ?e6_InvalidProfiles ?e7_InvalidProfiles ?e1_InvalidText ?e4_InvalidText ?e5_InvalidText ?e6_InvalidText ?e7_InvalidText ?e1_InvalidWay ?e4_InvalidWay ?e5_InvalidWay ?e6_InvalidWay ?e7_InvalidWay ?e1_NothingToUndo ?e4_NothingToUndo ?e5_NothingToUndo ?e6_NothingToUndo ?e7_NothingToUndo ?e1_TooLarge ?e4_TooLarge ?e5_TooLarge ?e6_TooLarge ?e7_TooLarge ?e2_Ended ?e3_Ended ?e2_HoldError ?e3_HoldError ?e2_InvalidBodies ?e3_InvalidBodies ?e2_InvalidBody ?e3_InvalidBody ?e2_InvalidBook ?e3_InvalidBook ?e2_InvalidEvents ?e3_InvalidEvents ?e2_InvalidFrame ?e3_InvalidFrame ?e2_InvalidGroup ?e3_InvalidGroup ?e2_InvalidLocks ?e3_InvalidLocks ?e2_InvalidName ?e3_InvalidName ?e2_InvalidNames ?e3_InvalidNames ?e2_InvalidNumber ?e3_InvalidNumber ?e2_InvalidProfile ?e3_InvalidProfile ?e2_InvalidProfiles ?e3_InvalidProfiles ?e2_InvalidText ?e3_InvalidText ?e2_InvalidWay ?e3_InvalidWay ?e2_NothingToUndo ?e3_NothingToUndo ?e2_TooLarge ?e3_TooLarge ?y1_Blocked ?y2_Blocked ?y3_Blocked ?y4_Blocked ?y5_Blocked ?y6_Blocked ?w1 ?w2 ?x1_InvalidBody ?x2_InvalidBody ?x3_InvalidBody ?x4_InvalidBody ?x5_InvalidBody ?x1_InvalidBodies ?x2_InvalidBodies ?x3_InvalidBodies ?x4_InvalidBodies ?x5_InvalidBodies ?x1_InvalidName ?x2_InvalidName ?x3_InvalidName ?x4_InvalidName ?x5_InvalidName ?x1_InvalidNames ?x2_InvalidNames ?x3_InvalidNames ?x4_InvalidNames ?x5_InvalidNames ?x1_InvalidWay ?x2_InvalidWay ?x3_InvalidWay ?x4_InvalidWay ?x5_InvalidWay ?x1_InvalidEvents ?x2_InvalidEvents ?x3_InvalidEvents ?x4_InvalidEvents ?x5_InvalidEvents ?x1_InvalidProfile ?x2_InvalidProfile ?x3_InvalidProfile ?x4_InvalidProfile ?x5_InvalidProfile ?x1_InvalidProfiles ?x2_InvalidProfiles ?x3_InvalidProfiles ?x4_InvalidProfiles ?x5_InvalidProfiles ?x1_InvalidGroup ?x2_InvalidGroup ?x3_InvalidGroup ?x4_InvalidGroup ?x5_InvalidGroup ?x1_InvalidLocks ?x2_InvalidLocks ?x3_InvalidLocks ?x4_InvalidLocks ?x5_InvalidLocks ?x1_InvalidFrame ?x2_InvalidFrame ?x3_InvalidFrame ?x4_InvalidFrame ?x5_InvalidFrame ?x1_InvalidBook ?x2_InvalidBook ?x3_InvalidBook ?x4_InvalidBook ?x5_InvalidBook ?x1_InvalidNumber ?x2_InvalidNumber ?x3_InvalidNumber ?x4_InvalidNumber ?x5_InvalidNumber ?x1_InvalidText ?x2_InvalidText ?x3_InvalidText ?x4_InvalidText ?x5_InvalidText ?x1_TooLarge ?x2_TooLarge ?x3_TooLarge ?x4_TooLarge ?x5_TooLarge ?x1_Ended ?x2_Ended ?x3_Ended ?x4_Ended ?x5_Ended ?x1_NothingToUndo ?x2_NothingToUndo ?x3_NothingToUndo ?x4_NothingToUndo ?x5_NothingToUndo ?x1_Blocked ?x2_Blocked ?x3_Blocked ?x4_Blocked ?x5_Blocked ?x1_HoldError ?x2_HoldError ?x3_HoldError ?x4_HoldError ?x5_HoldError ?s_ArithmeticError ?s_AttributeError ?s_Blocked ?s_Ended ?s_HoldError ?s_InvalidBodies ?s_InvalidBody ?s_InvalidBook ?s_InvalidEvents ?s_InvalidFrame ?s_InvalidGroup ?s_InvalidLocks ?s_InvalidName ?s_InvalidNames ?s_InvalidNumber ?s_InvalidProfile ?s_InvalidProfiles ?s_InvalidText ?s_InvalidWay ?s_LookupError ?s_NothingToUndo ?s_RuntimeError ?s_TooLarge ?s_TypeError ?s_ValueError
    (case a1 => k_is)
    (case l1 => k_is)
    (case c1 => k_is)
    (case k1 => k_is)
    (case a2 => k_is)
    (case l2 => k_is)
    (case c2 => k_is)
    (case k2 => k_is)
    (case a3 => k_is)
    (case l3 => k_is)
    (case c3 => k_is)
    (case k3 => k_is)
    (case a4 => k_is)
    (case l4 => k_is)
    (case c4 => k_is)
    (case k4 => k_is)
    (case a5 => k_is)
    (case l5 => k_is)
    (case c5 => k_is)
    (case k5 => k_is)
    (case a6 => k_is)
    (case l6 => k_is)
    (case c6 => k_is)
    (case k6 => k_is)
    (case a7 => k_is)
    (case l7 => k_is)
    (case c7 => k_is)
    (case k7 => k_is)
    (case a8 => k_is)
    (case l8 => k_is)
    (case c8 => k_is)
    (case k8 => k_is)
    (case a9 => k_is)
    (case l9 => k_is)
    (case c9 => k_is)
    (case k9 => k_is)
    (case z_ArithmeticError => k_is)
    (case z_AttributeError => k_is)
    (case z_LookupError => k_is)
    (case z_RuntimeError => k_is)
    (case z_TypeError => k_is)
    (case z_ValueError => k_is)
    (case z_all => k_is)
    (case z_any => k_is)
    (case z_enumerate => k_is)
    (case z_int => k_is)
    (case z_isinstance => k_is)
    (case z_len => k_is)
    (case z_max => k_is)
    (case z_min => k_is)
    (case z_range => k_is)
    (case z_str => k_is)
    (case z_super => k_is)
    (case e1_Blocked => k_is)
    (case e4_Blocked => k_is)
    (case e5_Blocked => k_is)
    (case e6_Blocked => k_is)
    (case e7_Blocked => first | rfl | k_is)
    (case e1_Ended => k_is)
    (case e4_Ended => k_is)
    (case e5_Ended => k_is)
    (case e6_Ended => k_is)
    (case e7_Ended => first | rfl | k_is)
    (case e1_HoldError => k_is)
    (case e4_HoldError => k_is)
    (case e5_HoldError => k_is)
    (case e6_HoldError => k_is)
    (case e7_HoldError => first | rfl | k_is)
    (case e1_InvalidBodies => k_is)
    (case e4_InvalidBodies => k_is)
    (case e5_InvalidBodies => k_is)
    (case e6_InvalidBodies => k_is)
    (case e7_InvalidBodies => first | rfl | k_is)
    (case e1_InvalidBody => k_is)
    (case e4_InvalidBody => k_is)
    (case e5_InvalidBody => k_is)
    (case e6_InvalidBody => k_is)
    (case e7_InvalidBody => first | rfl | k_is)
    (case e1_InvalidBook => k_is)
    (case e4_InvalidBook => k_is)
    (case e5_InvalidBook => k_is)
    (case e6_InvalidBook => k_is)
    (case e7_InvalidBook => first | rfl | k_is)
    (case e1_InvalidEvents => k_is)
    (case e4_InvalidEvents => k_is)
    (case e5_InvalidEvents => k_is)
    (case e6_InvalidEvents => k_is)
    (case e7_InvalidEvents => first | rfl | k_is)
    (case e1_InvalidFrame => k_is)
    (case e4_InvalidFrame => k_is)
    (case e5_InvalidFrame => k_is)
    (case e6_InvalidFrame => k_is)
    (case e7_InvalidFrame => first | rfl | k_is)
    (case e1_InvalidGroup => k_is)
    (case e4_InvalidGroup => k_is)
    (case e5_InvalidGroup => k_is)
    (case e6_InvalidGroup => k_is)
    (case e7_InvalidGroup => first | rfl | k_is)
    (case e1_InvalidLocks => k_is)
    (case e4_InvalidLocks => k_is)
    (case e5_InvalidLocks => k_is)
    (case e6_InvalidLocks => k_is)
    (case e7_InvalidLocks => first | rfl | k_is)
    (case e1_InvalidName => k_is)
    (case e4_InvalidName => k_is)
    (case e5_InvalidName => k_is)
    (case e6_InvalidName => k_is)
    (case e7_InvalidName => first | rfl | k_is)
    (case e1_InvalidNames => k_is)
    (case e4_InvalidNames => k_is)
    (case e5_InvalidNames => k_is)
    (case e6_InvalidNames => k_is)
    (case e7_InvalidNames => first | rfl | k_is)
    (case e1_InvalidNumber => k_is)
    (case e4_InvalidNumber => k_is)
    (case e5_InvalidNumber => k_is)
    (case e6_InvalidNumber => k_is)
    (case e7_InvalidNumber => first | rfl | k_is)
    (case e1_InvalidProfile => k_is)
    (case e4_InvalidProfile => k_is)
    (case e5_InvalidProfile => k_is)
    (case e6_InvalidProfile => k_is)
    (case e7_InvalidProfile => first | rfl | k_is)
    (case e1_InvalidProfiles => k_is)
    (case e4_InvalidProfiles => k_is)
    (case e5_InvalidProfiles => k_is)
    (case e6_InvalidProfiles => k_is)
    (case e7_InvalidProfiles => first | rfl | k_is)
    (case e1_InvalidText => k_is)
    (case e4_InvalidText => k_is)
    (case e5_InvalidText => k_is)
    (case e6_InvalidText => k_is)
    (case e7_InvalidText => first | rfl | k_is)
    (case e1_InvalidWay => k_is)
    (case e4_InvalidWay => k_is)
    (case e5_InvalidWay => k_is)
    (case e6_InvalidWay => k_is)
    (case e7_InvalidWay => first | rfl | k_is)
    (case e1_NothingToUndo => k_is)
    (case e4_NothingToUndo => k_is)
    (case e5_NothingToUndo => k_is)
    (case e6_NothingToUndo => k_is)
    (case e7_NothingToUndo => first | rfl | k_is)
    (case e1_TooLarge => k_is)
    (case e4_TooLarge => k_is)
    (case e5_TooLarge => k_is)
    (case e6_TooLarge => k_is)
    (case e7_TooLarge => first | rfl | k_is)
    (case e2_Ended => k_exc)
    (case e3_Ended => k_is)
    (case e2_HoldError => k_exc)
    (case e3_HoldError => k_is)
    (case e2_InvalidBodies => k_exc)
    (case e3_InvalidBodies => k_is)
    (case e2_InvalidBody => k_exc)
    (case e3_InvalidBody => k_is)
    (case e2_InvalidBook => k_exc)
    (case e3_InvalidBook => k_is)
    (case e2_InvalidEvents => k_exc)
    (case e3_InvalidEvents => k_is)
    (case e2_InvalidFrame => k_exc)
    (case e3_InvalidFrame => k_is)
    (case e2_InvalidGroup => k_exc)
    (case e3_InvalidGroup => k_is)
    (case e2_InvalidLocks => k_exc)
    (case e3_InvalidLocks => k_is)
    (case e2_InvalidName => k_exc)
    (case e3_InvalidName => k_is)
    (case e2_InvalidNames => k_exc)
    (case e3_InvalidNames => k_is)
    (case e2_InvalidNumber => k_exc)
    (case e3_InvalidNumber => k_is)
    (case e2_InvalidProfile => k_exc)
    (case e3_InvalidProfile => k_is)
    (case e2_InvalidProfiles => k_exc)
    (case e3_InvalidProfiles => k_is)
    (case e2_InvalidText => k_exc)
    (case e3_InvalidText => k_is)
    (case e2_InvalidWay => k_exc)
    (case e3_InvalidWay => k_is)
    (case e2_NothingToUndo => k_exc)
    (case e3_NothingToUndo => k_is)
    (case e2_TooLarge => k_exc)
    (case e3_TooLarge => k_is)
    (case y1_Blocked => k_is)
    (case y2_Blocked => k_is)
    (case y3_Blocked => exact ⟨⟨_, _, _, _, _, _, _, _, _, _, _, _, _, _, _, by k_is, by kernel_rfl⟩, by k_is, by k_is, by k_is, by k_is⟩)
    (case y4_Blocked => 
      refine' Pv.Si.SiF.mk PySem.F.excBase_ValueError rfl ?hbody ?hf ?hcd ?hp ?har ?hsa ?hsl ?hal ?hsd ?had ?hcell0 ?hco ?hgen ?hk ?hcode ?hvs ?hfile ?hcell ?hD ?hsub ?hks ?hkc ?htop ?hth ?hm ?hB ?hq ?hset ?hno ?hcl ?hmro ?hdict ?hs ?hi ?hs0 ?he
      (case hf => k_is)
      (case hbody => rfl)
      (case hcd => k_is)
      (case hp => rfl)
      (case har => rfl)
      (case hsa => kernel_rfl)
      (case hsl => kernel_rfl)
      (case hal => kernel_rfl)
      (case hsd => kernel_rfl)
      (case had => kernel_rfl)
      (case hcell0 => decide +kernel)
      (case hco => rfl)
      (case hgen => rfl)
      (case hk => rfl)
      (case hcode => k_is)
      (case hvs => rfl)
      (case hfile => kernel_rfl)
      (case hcell => k_is)
      (case hD => k_is)
      (case hsub => k_is)
      (case hks => kernel_rfl)
      (case hkc => kernel_rfl)
      (case htop => kernel_rfl)
      (case hth => k_is)
      (case hm => kernel_rfl)
      (case hB => k_is)
      (case hq => kernel_rfl)
      (case hset => k_is)
      (case hno => k_is)
      (case hcl => k_is)
      (case hmro => kernel_rfl)
      (case hdict => rfl)
      (case hs => (intro L; rfl))
      (case hi => (intro L; rfl))
      (case hs0 => (intro L; rfl))
      (case he => (intro L; rfl)))
    (case y5_Blocked => exact Pv.siB_lock rfl (by k_is))
    (case y6_Blocked => k_is)
    (case w1 => k_is)
    (case w2 => k_is)
    (case x1_InvalidBody => k_is)
    (case x2_InvalidBody => k_is)
    (case x3_InvalidBody => k_is)
    (case x4_InvalidBody => k_is)
    (case x5_InvalidBody => k_is)
    (case x1_InvalidBodies => k_is)
    (case x2_InvalidBodies => k_is)
    (case x3_InvalidBodies => k_is)
    (case x4_InvalidBodies => k_is)
    (case x5_InvalidBodies => k_is)
    (case x1_InvalidName => k_is)
    (case x2_InvalidName => k_is)
    (case x3_InvalidName => k_is)
    (case x4_InvalidName => k_is)
    (case x5_InvalidName => k_is)
    (case x1_InvalidNames => k_is)
    (case x2_InvalidNames => k_is)
    (case x3_InvalidNames => k_is)
    (case x4_InvalidNames => k_is)
    (case x5_InvalidNames => k_is)
    (case x1_InvalidWay => k_is)
    (case x2_InvalidWay => k_is)
    (case x3_InvalidWay => k_is)
    (case x4_InvalidWay => k_is)
    (case x5_InvalidWay => k_is)
    (case x1_InvalidEvents => k_is)
    (case x2_InvalidEvents => k_is)
    (case x3_InvalidEvents => k_is)
    (case x4_InvalidEvents => k_is)
    (case x5_InvalidEvents => k_is)
    (case x1_InvalidProfile => k_is)
    (case x2_InvalidProfile => k_is)
    (case x3_InvalidProfile => k_is)
    (case x4_InvalidProfile => k_is)
    (case x5_InvalidProfile => k_is)
    (case x1_InvalidProfiles => k_is)
    (case x2_InvalidProfiles => k_is)
    (case x3_InvalidProfiles => k_is)
    (case x4_InvalidProfiles => k_is)
    (case x5_InvalidProfiles => k_is)
    (case x1_InvalidGroup => k_is)
    (case x2_InvalidGroup => k_is)
    (case x3_InvalidGroup => k_is)
    (case x4_InvalidGroup => k_is)
    (case x5_InvalidGroup => k_is)
    (case x1_InvalidLocks => k_is)
    (case x2_InvalidLocks => k_is)
    (case x3_InvalidLocks => k_is)
    (case x4_InvalidLocks => k_is)
    (case x5_InvalidLocks => k_is)
    (case x1_InvalidFrame => k_is)
    (case x2_InvalidFrame => k_is)
    (case x3_InvalidFrame => k_is)
    (case x4_InvalidFrame => k_is)
    (case x5_InvalidFrame => k_is)
    (case x1_InvalidBook => k_is)
    (case x2_InvalidBook => k_is)
    (case x3_InvalidBook => k_is)
    (case x4_InvalidBook => k_is)
    (case x5_InvalidBook => k_is)
    (case x1_InvalidNumber => k_is)
    (case x2_InvalidNumber => k_is)
    (case x3_InvalidNumber => k_is)
    (case x4_InvalidNumber => k_is)
    (case x5_InvalidNumber => k_is)
    (case x1_InvalidText => k_is)
    (case x2_InvalidText => k_is)
    (case x3_InvalidText => k_is)
    (case x4_InvalidText => k_is)
    (case x5_InvalidText => k_is)
    (case x1_TooLarge => k_is)
    (case x2_TooLarge => k_is)
    (case x3_TooLarge => k_is)
    (case x4_TooLarge => k_is)
    (case x5_TooLarge => k_is)
    (case x1_Ended => k_is)
    (case x2_Ended => k_is)
    (case x3_Ended => k_is)
    (case x4_Ended => k_is)
    (case x5_Ended => k_is)
    (case x1_NothingToUndo => k_is)
    (case x2_NothingToUndo => k_is)
    (case x3_NothingToUndo => k_is)
    (case x4_NothingToUndo => k_is)
    (case x5_NothingToUndo => k_is)
    (case x1_Blocked => k_is)
    (case x2_Blocked => k_is)
    (case x3_Blocked => k_is)
    (case x4_Blocked => k_is)
    (case x5_Blocked => k_is)
    (case x1_HoldError => k_is)
    (case x2_HoldError => k_is)
    (case x3_HoldError => k_is)
    (case x4_HoldError => k_is)
    (case x5_HoldError => k_is)
    (case s_ArithmeticError => kernel_rfl)
    (case s_AttributeError => kernel_rfl)
    (case s_Blocked => kernel_rfl)
    (case s_Ended => kernel_rfl)
    (case s_HoldError => kernel_rfl)
    (case s_InvalidBodies => kernel_rfl)
    (case s_InvalidBody => kernel_rfl)
    (case s_InvalidBook => kernel_rfl)
    (case s_InvalidEvents => kernel_rfl)
    (case s_InvalidFrame => kernel_rfl)
    (case s_InvalidGroup => kernel_rfl)
    (case s_InvalidLocks => kernel_rfl)
    (case s_InvalidName => kernel_rfl)
    (case s_InvalidNames => kernel_rfl)
    (case s_InvalidNumber => kernel_rfl)
    (case s_InvalidProfile => kernel_rfl)
    (case s_InvalidProfiles => kernel_rfl)
    (case s_InvalidText => kernel_rfl)
    (case s_InvalidWay => kernel_rfl)
    (case s_LookupError => kernel_rfl)
    (case s_NothingToUndo => kernel_rfl)
    (case s_RuntimeError => kernel_rfl)
    (case s_TooLarge => kernel_rfl)
    (case s_TypeError => kernel_rfl)
    (case s_ValueError => kernel_rfl)
end
