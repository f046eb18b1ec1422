import PyProof.Rows.All
import Wide.All
import OpenK.AllK
import Wide.FinOn
import HandS.ForMost
import HandS.Deep
import HandS.IsInst
import HandS.DictComp
import HandS.Zip
import HandS.TupAny
import HandS.Wide
import HandS.Rev
import HandS.Flow
import HandS.Style
import HandS.Walk
import KE.LtData
import HandS.TupMul
import HandS.DictEq
import PyProof.StrOps2
import KE.OsSortAny
import KE.SortData
import KE.LtSeq
import HandS.Call
import HandS.List
import HandS.Set
import HandS.SetFor
import HandS.Strs
import HandS.ExcValue
import PyProof.TupleOfSeq
import HandS.More
import HandS.WordsDict
import PyProof.ReprRoads
import PyProof.Rows.StrMeet
import HandS.RaiseMore
import HandS.Small
import HandS.Iter
import KE.GoesMore
import KE.GoesEnum
import PyProof.DictUpdate
import HandS.Words
import HandS.Ends
import HandS.EndBits
import KE.KRevSl
import PyProof.TupleOfStr
import PyProof.Rows.RegFStrParts
import HandS.Records
import HandS.TupSets
import KE.KeyNested
import KE.KDictKeyed
import HandS.NoneIn
import HandS.Conv
import PyProof.StrWalks
import KE.KDictPairs
import PySem.Challenge.RW_nestedholds_k11_blockers
set_option Elab.async false
section
set_option Elab.async false
set_option linter.all false
set_option maxRecDepth 100000
set_option maxHeartbeats 1000000
namespace Pv
open PySem PySem.Spec PyProof.Rows L2

abbrev D := PyData
abbrev St := L2.St
abbrev Fr' := PySem.W.Frag

def isDct : HO → Prop
  | .dK _ => True
  | .dT _ => True
  | _ => False
def Le (F H : Hp) : Prop := ∀ b o, F b = some o → H b = some o ∨ (isDct o ∧ ∃ od, H b = some (.frz od o))
theorem Le.refl (F : Hp) : Le F F := fun _ _ h => .inl h
theorem Le.of {F H : Hp} (h : Same F H) : Le F H := fun b o e => .inl (h b o e)
theorem Le.pre {F G H : Hp} (h : Same F G) (k : Le G H) : Le F H := fun b o e => k b o (h b o e)
theorem Le.post {F G H : Hp} (h : Le F G) (k : Same G H) : Le F H := fun b o e => by
  rcases h b o e with e | ⟨m, od, e⟩
  · exact .inl (k _ _ e)
  · exact .inr ⟨m, od, k _ _ e⟩
theorem Le.rd {F H : Hp} (h : Le F H) {a : Addr} {u : HO} (r : Rd F a u) : Rd H a u := by
  rcases r with r | ⟨od, r⟩
  · rcases h a u r with e | ⟨_, od, e⟩
    · exact .inl e
    · exact .inr ⟨od, e⟩
  · rcases h a _ r with e | ⟨m, _⟩
    · exact .inr ⟨od, e⟩
    · exact m.elim
theorem Le.sql {K : Fr'} {F H : Hp} (h : Le F H) {a : Addr} {xs : List V} (r : SqL K F a xs) : SqL K H a xs := by
  rcases r with r | r
  · exact .inl (h.rd r)
  · exact .inr r
theorem Le.sqt {K : Fr'} {F H : Hp} (h : Le F H) {a : Addr} {xs : List V} (r : SqT K F a xs) : SqT K H a xs := by
  rcases r with r | r
  · exact .inl (h.rd r)
  · exact .inr r
theorem Le.lst {F H : Hp} (h : Le F H) {a : Addr} {xs : List V} (r : F a = some (.lst xs)) : H a = some (.lst xs) := by
  rcases h a _ r with e | ⟨m, _⟩
  · exact e
  · exact m.elim
theorem Le.none {F H : Hp} (h : Le F H) {a : Addr} (e : H a = none) : F a = none := by
  cases q : F a with
  | none => rfl
  | some o =>
    rcases h a o q with z | ⟨_, od, z⟩ <;> (rw [e] at z; cases z)

def Strong (K : Fr') (F : Hp) (a : Addr) (xs : List V) : Prop := (∃ o, F a = some (.frz o (.tup xs)) ∧ o.dict = none) ∨ ∃ o, K.lookup a = some o ∧ o.dict = none
def needS : List D → Bool
  | [] => true
  | .tuple _ :: _ => true
  | _ => false
def TupOk (K : Fr') (F : Hp) (a : Addr) (xs : List V) (ds : List D) : Prop := SqT K F a xs ∧ (needS ds = true → Strong K F a xs)
theorem Le.strong {K : Fr'} {F H : Hp} (h : Le F H) {a : Addr} {xs : List V} (r : Strong K F a xs) : Strong K H a xs := by
  rcases r with ⟨o, e, hd⟩ | r
  · rcases h a _ e with q | ⟨m, _⟩
    · exact .inl ⟨o, q, hd⟩
    · exact m.elim
  · exact .inr r
theorem Le.tok {K : Fr'} {F H : Hp} (h : Le F H) {a : Addr} {xs : List V} {ds : List D} (r : TupOk K F a xs ds) : TupOk K H a xs ds := ⟨h.sqt r.1, fun z => h.strong (r.2 z)⟩

def keyD : Key → D
  | .inl i => .int i
  | .inr x => .str x

mutual
inductive Rp (K : Fr') (F : Hp) : V → D → Prop
  | non : Rp K F .non .none
  | bl (b : Bool) : Rp K F (.bl b) (.bool b)
  | int (i : Int) : Rp K F (.int i) (.int i)
  | str (x : Str) : Rp K F (.str x) (.str x)
  | lst {a : Addr} {xs : List V} {ds : List D} : F a = some (.lst xs) → RpA K F xs ds → Rp K F (.ref a) (.list ds)
  | tup {a : Addr} {xs : List V} {ds : List D} : TupOk K F a xs ds → RpA K F xs ds → Rp K F (.ref a) (.tuple ds)
  | dic {a : Addr} {kvs : List (Key × V)} {es : List (D × D)} : Rd F a (.dK kvs) → RpD K F kvs es → Rp K F (.ref a) (.dict es)
inductive RpA (K : Fr') (F : Hp) : List V → List D → Prop
  | nil : RpA K F [] []
  | cons {v : V} {vs : List V} {d : D} {ds : List D} : Rp K F v d → RpA K F vs ds → RpA K F (v :: vs) (d :: ds)
inductive RpD (K : Fr') (F : Hp) : List (Key × V) → List (D × D) → Prop
  | nil : RpD K F [] []
  | cons {k : Key} {v : V} {kvs : List (Key × V)} {d : D} {es : List (D × D)} : Rp K F v d → RpD K F kvs es → RpD K F ((k, v) :: kvs) ((keyD k, d) :: es)
end

mutual
theorem Rp.mono {K : Fr'} {F H : Hp} (h : Le F H) : ∀ {v : V} {d : D}, Rp K F v d → Rp K H v d
  | _, _, .non => .non
  | _, _, .bl b => .bl b
  | _, _, .int i => .int i
  | _, _, .str x => .str x
  | _, _, .lst s r => .lst (h.lst s) (RpA.mono h r)
  | _, _, .tup s r => .tup (h.tok s) (RpA.mono h r)
  | _, _, .dic s r => .dic (h.rd s) (RpD.mono h r)
theorem RpA.mono {K : Fr'} {F H : Hp} (h : Le F H) : ∀ {vs : List V} {ds : List D}, RpA K F vs ds → RpA K H vs ds
  | _, _, .nil => .nil
  | _, _, .cons r t => .cons (Rp.mono h r) (RpA.mono h t)
theorem RpD.mono {K : Fr'} {F H : Hp} (h : Le F H) : ∀ {vs : List (Key × V)} {ds : List (D × D)}, RpD K F vs ds → RpD K H vs ds
  | _, _, .nil => .nil
  | _, _, .cons r t => .cons (Rp.mono h r) (RpD.mono h t)
end
theorem RpA.length {K : Fr'} {F : Hp} : ∀ {vs : List V} {ds : List D}, RpA K F vs ds → vs.length = ds.length
  | _, _, .nil => rfl
  | _, _, .cons _ t => congrArg (· + 1) (RpA.length t)
theorem RpA.get {K : Fr'} {F : Hp} : ∀ {vs : List V} {ds : List D}, RpA K F vs ds → ∀ (i : Nat) (d : D), ds[i]? = some d → ∃ v, vs[i]? = some v ∧ Rp K F v d
  | _, _, .nil, i, d, e => by simp at e
  | _, _, .cons r t, 0, d, e => by simp at e; subst e; exact ⟨_, rfl, r⟩
  | _, _, .cons r t, i + 1, d, e => by
    obtain ⟨v, h1, h2⟩ := RpA.get t i d (by simpa using e)
    exact ⟨v, by simpa using h1, h2⟩
theorem RpA.get' {K : Fr'} {F : Hp} : ∀ {vs : List V} {ds : List D}, RpA K F vs ds → ∀ (i : Nat) (v : V), vs[i]? = some v → ∃ d, ds[i]? = some d ∧ Rp K F v d
  | _, _, .nil, i, d, e => by simp at e
  | _, _, .cons r t, 0, d, e => by simp at e; subst e; exact ⟨_, rfl, r⟩
  | _, _, .cons r t, i + 1, d, e => by
    obtain ⟨v, h1, h2⟩ := RpA.get' t i d (by simpa using e)
    exact ⟨v, by simpa using h1, h2⟩
theorem RpA.append {K : Fr'} {F : Hp} : ∀ {vs us : List V} {ds es : List D}, RpA K F vs ds → RpA K F us es → RpA K F (vs ++ us) (ds ++ es)
  | _, _, _, _, .nil, r => r
  | _, _, _, _, .cons r t, q => .cons r (RpA.append t q)
theorem RpA.drop {K : Fr'} {F : Hp} : ∀ {vs : List V} {ds : List D} (n : Nat), RpA K F vs ds → RpA K F (vs.drop n) (ds.drop n)
  | _, _, 0, r => r
  | _, _, _ + 1, .nil => .nil
  | _, _, n + 1, .cons _ t => RpA.drop n t
theorem RpA.take {K : Fr'} {F : Hp} : ∀ {vs : List V} {ds : List D} (n : Nat), RpA K F vs ds → RpA K F (vs.take n) (ds.take n)
  | _, _, 0, r => by simp; exact .nil
  | _, _, _ + 1, .nil => .nil
  | _, _, n + 1, .cons r t => .cons r (RpA.take n t)
theorem RpA.set {K : Fr'} {F : Hp} {v : V} {d : D} (q : Rp K F v d) : ∀ {vs : List V} {ds : List D} (i : Nat), RpA K F vs ds → RpA K F (vs.set i v) (ds.set i d)
  | _, _, _, .nil => .nil
  | _, _, 0, .cons _ t => .cons q t
  | _, _, i + 1, .cons r t => .cons r (RpA.set q i t)
theorem RpA.reverse {K : Fr'} {F : Hp} : ∀ {vs : List V} {ds : List D}, RpA K F vs ds → RpA K F vs.reverse ds.reverse
  | _, _, .nil => .nil
  | _, _, .cons r t => by rw [List.reverse_cons, List.reverse_cons]; exact RpA.append (RpA.reverse t) (.cons r .nil)
theorem RpD.length {K : Fr'} {F : Hp} : ∀ {vs : List (Key × V)} {ds : List (D × D)}, RpD K F vs ds → vs.length = ds.length
  | _, _, .nil => rfl
  | _, _, .cons _ t => congrArg (· + 1) (RpD.length t)

mutual
def plain : D → Bool
  | .list ds => plainA ds
  | .tuple ds => plainA ds
  | .dict _ => false
  | _ => true
def plainA : List D → Bool
  | [] => true
  | d :: ds => plain d && plainA ds
end
mutual
theorem Rp.dp {K : Fr'} {F : Hp} : ∀ {v : V} {d : D}, Rp K F v d → plain d = true → Dp K F v d
  | _, _, .non, _ => .non
  | _, _, .bl b, _ => .bl b
  | _, _, .int i, _ => .int i
  | _, _, .str x, _ => .str x
  | _, _, .lst s r, h => .lst (.inl (.inl s)) (RpA.dp r (by simpa [plain] using h))
  | _, _, .tup s r, h => .tup s.1 (RpA.dp r (by simpa [plain] using h))
  | _, _, .dic s r, h => by simp [plain] at h
theorem RpA.dp {K : Fr'} {F : Hp} : ∀ {vs : List V} {ds : List D}, RpA K F vs ds → plainA ds = true → DpAll K F vs ds
  | _, _, .nil, _ => .nil
  | _, _, .cons r t, h => by
    simp only [plainA, Bool.and_eq_true] at h
    exact .cons (Rp.dp r h.1) (RpA.dp t h.2)
end

inductive Cell
  | val (d : D)
  | own (d : D)
  | byr (d : D)
  | scr (ds : List D)
def Cell.d : Cell → D
  | .val d => d
  | .own d => d
  | .byr d => d
  | .scr ds => .list ds
def Cell.owned : Cell → Bool
  | .val _ => false
  | .own _ => true
  | .byr _ => true
  | .scr _ => false
abbrev Ro := List (Option Cell)

def OwnO (K : Fr') (F : Hp) : Option HO → D → Prop
  | some (.lst xs), .list ds => RpA K F xs ds
  | some (.dK kvs), .dict es => RpD K F kvs es
  | _, _ => False
theorem OwnO.mono {K : Fr'} {F G : Hp} (h : Le F G) {o : Option HO} {d : D} (q : OwnO K F o d) : OwnO K G o d := by
  unfold OwnO at q ⊢
  split at q
  · exact q.mono h
  · exact q.mono h
  · exact q.elim
theorem OwnO.mut {K : Fr'} {F : Hp} {o : Option HO} {d : D} (q : OwnO K F o d) : Mut o ∧ ∃ u, o = some u := by
  unfold OwnO at q
  split at q
  · exact ⟨trivial, _, rfl⟩
  · exact ⟨trivial, _, rfl⟩
  · exact q.elim
def OwnV (K : Fr') (W F H : Hp) (v : V) (d : D) : Prop := ∃ a, v = .ref a ∧ W a = none ∧ F a = none ∧ OwnO K F (H a) d
def CellOk (K : Fr') (W F H : Hp) : Cell → V → Prop
  | .val d, v => Rp K F v d
  | .own d, v => OwnV K W F H v d
  | .byr d, v => OwnV K W F H v d
  | .scr ds, v => ∃ a xs, v = .ref a ∧ SqL K F a xs ∧ RpA K F xs ds

def Dis (W F : Hp) : Prop := ∀ b, W b ≠ Option.none → F b = Option.none ∨ ∃ o u, W b = some (.frz o u)
structure Rel (K : Fr') (P : List (Nat × Addr)) (W F H : Hp) (σ : St) (ρ : Ro) : Prop where
  fh : Le F H
  wh : Same W H
  len : σ.length = ρ.length
  cell : ∀ (i : Nat) (c : Cell), ρ[i]? = some (some c) → ∃ v, σ[i]? = some (some v) ∧ CellOk K W F H c v
  inj : ∀ (i j : Nat) (c e : Cell) (a : Addr), i ≠ j → ρ[i]? = some (some c) → ρ[j]? = some (some e) → c.owned = true → e.owned = true → σ[i]? = some (some (.ref a)) → σ[j]? = some (some (.ref a)) → False
  pin : ∀ p ∈ P, σ[p.1]? = some (some (.ref p.2)) ∧ ∃ d, ρ[p.1]? = some (some (.byr d))
  dis : Dis W F

structure Ext (W F F' : Hp) : Prop where
  same : Same F F'
  off : ∀ b, W b ≠ none → F' b = F b
theorem Ext.refl (W F : Hp) : Ext W F F := ⟨Same.refl F, fun _ _ => rfl⟩
theorem Ext.trans {W F F1 F2 : Hp} (h : Ext W F F1) (k : Ext W F1 F2) : Ext W F F2 := ⟨h.same.trans k.same, fun b e => (k.off b e).trans (h.off b e)⟩

inductive Rv
  | val (d : D)
  | fr (d : D)
  | at (i : Nat)
def RvOk (K : Fr') (W F H : Hp) (σ : St) (ρ : Ro) : Rv → V → Prop
  | .val d, v => Rp K F v d
  | .fr d, v => OwnV K W F H v d ∧ ∀ (i : Nat) (c : Cell), ρ[i]? = some (some c) → c.owned = true → σ[i]? ≠ some (some v)
  | .at i, v => σ[i]? = some (some v)
def look (ρ : Ro) : Rv → Option D
  | .val d => some d
  | .fr d => some d
  | .at i => match ρ[i]? with
    | some (some (.val d)) => some d
    | some (some (.own d)) => some d
    | some (some (.byr d)) => some d
    | _ => none
def settle : Rv → Rv
  | .fr d => .val d
  | r => r
def frz (ρ : Ro) : Rv → Option (D × Ro)
  | .val d => some (d, ρ)
  | .fr d => some (d, ρ)
  | .at i => match ρ[i]? with
    | some (some (.val d)) => some (d, ρ)
    | some (some (.own d)) => some (d, ρ.set i (some (.val d)))
    | _ => none

def Lk (K : Fr') (F H : Hp) (v : V) (d : D) : Prop := Rp K F v d ∨ ∃ a, v = .ref a ∧ OwnO K F (H a) d

section
variable {K : Fr'} {P : List (Nat × Addr)} {W F H F' H' : Hp} {σ : St} {ρ ρ' : Ro} {v : V} {d : D} {r : Rv} {c : Cell}

theorem CellOk.lkv (h : CellOk K W F H (.val d) v) : Lk K F H v d := .inl h
theorem CellOk.lko (h : CellOk K W F H (.own d) v) : Lk K F H v d := by
  obtain ⟨a, e, _, _, q⟩ := h; exact .inr ⟨a, e, q⟩
theorem CellOk.lkb (h : CellOk K W F H (.byr d) v) : Lk K F H v d := by
  obtain ⟨a, e, _, _, q⟩ := h; exact .inr ⟨a, e, q⟩
theorem Rel.lk (R : Rel K P W F H σ ρ) (h : RvOk K W F H σ ρ r v) (e : look ρ r = some d) : Lk K F H v d := by
  cases r with
  | val z => cases e; exact .inl h
  | fr z => cases e; obtain ⟨⟨a, ea, _, _, q⟩, _⟩ := h; exact .inr ⟨a, ea, q⟩
  | «at» i =>
    unfold look at e
    simp only at e
    have this : σ[i]? = some (some v) := h
    split at e
    · rename_i c hc
      cases e
      obtain ⟨u, hu, hk⟩ := R.cell i _ hc
      rw [this] at hu; cases hu
      exact hk.lkv
    · rename_i c hc
      cases e
      obtain ⟨u, hu, hk⟩ := R.cell i _ hc
      rw [this] at hu; cases hu
      exact hk.lko
    · rename_i c hc
      cases e
      obtain ⟨u, hu, hk⟩ := R.cell i _ hc
      rw [this] at hu; cases hu
      exact hk.lkb
    · cases e
theorem Lk.rp (h : Le F H) (l : Lk K F H v d) : Rp K H v d := by
  rcases l with l | ⟨a, rfl, q⟩
  · exact l.mono h
  · unfold OwnO at q
    split at q
    · rename_i xs ds e
      exact .lst e (q.mono h)
    · rename_i kvs es e
      exact .dic (.inl e) (q.mono h)
    · exact q.elim
theorem Lk.list {ds : List D} (h : Le F H) (l : Lk K F H v (.list ds)) : ∃ a xs, v = .ref a ∧ H a = some (.lst xs) ∧ RpA K F xs ds := by
  rcases l with l | ⟨a, rfl, q⟩
  · cases l with
    | lst s r => exact ⟨_, _, rfl, h.lst s, r⟩
  · unfold OwnO at q
    split at q
    · rename_i xs ds e hq
      cases hq
      exact ⟨a, xs, rfl, e, q⟩
    · rename_i hq; cases hq
    · exact q.elim
theorem Lk.tuple {ds : List D} (h : Le F H) (l : Lk K F H v (.tuple ds)) : ∃ a xs, v = .ref a ∧ SqT K H a xs ∧ RpA K F xs ds ∧ Rp K F v (.tuple ds) := by
  rcases l with l | ⟨a, rfl, q⟩
  · cases l with
    | tup s r => exact ⟨_, _, rfl, h.sqt s.1, r, .tup s r⟩
  · unfold OwnO at q
    split at q
    · rename_i hq; cases hq
    · rename_i hq; cases hq
    · exact q.elim
theorem Lk.dict {es : List (D × D)} (h : Le F H) (l : Lk K F H v (.dict es)) : ∃ a kvs, v = .ref a ∧ Rd H a (.dK kvs) ∧ RpD K F kvs es := by
  rcases l with l | ⟨a, rfl, q⟩
  · cases l with
    | dic s r => exact ⟨_, _, rfl, h.rd s, r⟩
  · unfold OwnO at q
    split at q
    · rename_i hq; cases hq
    · rename_i kvs es e hq
      cases hq
      exact ⟨a, kvs, rfl, .inl e, q⟩
    · exact q.elim
theorem Lk.int {i : Int} (l : Lk K F H v (.int i)) : v = .int i := by
  rcases l with l | ⟨a, rfl, q⟩
  · cases l; rfl
  · unfold OwnO at q; split at q <;> first | (rename_i hq; cases hq) | exact q.elim
theorem Lk.str {i : Str} (l : Lk K F H v (.str i)) : v = .str i := by
  rcases l with l | ⟨a, rfl, q⟩
  · cases l; rfl
  · unfold OwnO at q; split at q <;> first | (rename_i hq; cases hq) | exact q.elim
theorem Lk.bool {i : Bool} (l : Lk K F H v (.bool i)) : v = .bl i := by
  rcases l with l | ⟨a, rfl, q⟩
  · cases l; rfl
  · unfold OwnO at q; split at q <;> first | (rename_i hq; cases hq) | exact q.elim
theorem Lk.none (l : Lk K F H v .none) : v = .non := by
  rcases l with l | ⟨a, rfl, q⟩
  · cases l; rfl
  · unfold OwnO at q; split at q <;> first | (rename_i hq; cases hq) | exact q.elim

structure Grow (F H F' H' : Hp) : Prop where
  hs : Same H H'
  fs : Same F F'
  off : ∀ b, H b ≠ none → F' b = F b
  le : Le F' H'
theorem Grow.refl (h : Le F H) : Grow F H F H := ⟨Same.refl H, Same.refl F, fun _ _ => rfl, h⟩
theorem Same.ne {H H' : Hp} (h : Same H H') {b : Addr} (e : H b ≠ Option.none) : H' b ≠ Option.none := by
  cases q : H b with
  | none => exact absurd q e
  | some o => rw [h b o q]; exact fun z => nomatch z
theorem Grow.ext (g : Grow F H F' H') (w : Same W H) : Ext W F F' := ⟨g.fs, fun b e => g.off b (Same.ne w e)⟩
theorem Rel.grow (R : Rel K P W F H σ ρ) (g : Grow F H F' H') : Rel K P W F' H' σ ρ where
  fh := g.le
  wh := R.wh.trans g.hs
  len := R.len
  cell := fun i c e => by
    obtain ⟨v, hv, hc⟩ := R.cell i c e
    refine ⟨v, hv, ?_⟩
    cases c with
    | val d => exact Rp.mono (Le.of g.fs) hc
    | own d =>
      obtain ⟨a, ea, hw, hf, q⟩ := hc
      obtain ⟨_, u, hu⟩ := q.mut
      exact ⟨a, ea, hw, by rw [g.off a (by rw [hu]; exact fun z => nomatch z)]; exact hf, by rw [g.hs a u hu, ← hu]; exact q.mono (Le.of g.fs)⟩
    | byr d =>
      obtain ⟨a, ea, hw, hf, q⟩ := hc
      obtain ⟨_, u, hu⟩ := q.mut
      exact ⟨a, ea, hw, by rw [g.off a (by rw [hu]; exact fun z => nomatch z)]; exact hf, by rw [g.hs a u hu, ← hu]; exact q.mono (Le.of g.fs)⟩
    | scr ds => obtain ⟨a, xs, ea, s, r⟩ := hc; exact ⟨a, xs, ea, (Le.of g.fs).sql s, r.mono (Le.of g.fs)⟩
  inj := R.inj
  pin := R.pin
  dis := fun b e => (R.dis b e).imp (fun z => (g.off b (Same.ne R.wh e)).trans z) id

theorem Rel.lessW {W' : Hp} (h : Same W W') (R : Rel K P W' F H σ ρ) : Rel K P W F H σ ρ where
  fh := R.fh
  wh := h.trans R.wh
  len := R.len
  cell := fun i c e => by
    have k : ∀ a, W' a = Option.none → W a = Option.none := fun a e => by
      cases q : W a with
      | none => rfl
      | some u => rw [h a u q] at e; cases e
    obtain ⟨v, hv, hc⟩ := R.cell i c e
    refine ⟨v, hv, ?_⟩
    cases c with
    | val d => exact hc
    | own d => obtain ⟨b, eb, hw, q⟩ := hc; exact ⟨b, eb, k b hw, q⟩
    | byr d => obtain ⟨b, eb, hw, q⟩ := hc; exact ⟨b, eb, k b hw, q⟩
    | scr ds => exact hc
  inj := R.inj
  pin := R.pin
  dis := fun b e => by
    obtain ⟨u, hu⟩ := Option.ne_none_iff_exists'.mp e
    have := h b u hu
    rcases R.dis b (by rw [this]; exact fun z => nomatch z) with q | ⟨o, u', q⟩
    · exact .inl q
    · right; rw [this] at q; cases q; exact ⟨o, u', hu⟩
theorem Ext.less {W W' F F' : Hp} (h : Same W W') (x : Ext W' F F') : Ext W F F' := ⟨x.same, fun b e => x.off b (Same.ne h e)⟩
def frzAt (F H : Hp) (a : Addr) : Hp := fun b => if b = a then H a else F b
theorem frzAt_same {a : Addr} : frzAt F H a a = H a := if_pos rfl
theorem frzAt_ne {a b : Addr} (h : b ≠ a) : frzAt F H a b = F b := if_neg h
theorem frzAt_ext {a : Addr} (hw : W a = none) (hf : F a = none) : Ext W F (frzAt F H a) where
  same := fun b o e => by
    rw [frzAt_ne (ne_of_none e hf)]; exact e
  off := fun b e => by
    refine frzAt_ne fun z => ?_
    subst z; exact e hw
theorem frzAt_le {a : Addr} (h : Le F H) : Le (frzAt F H a) H := fun b o e => by
  by_cases hb : b = a
  · subst hb; rw [frzAt_same] at e; exact .inl e
  · rw [frzAt_ne hb] at e; exact h b o e
theorem OwnO.rp {a : Addr} (q : OwnO K F (H a) d) (h : Same F (frzAt F H a)) : Rp K (frzAt F H a) (.ref a) d := by
  unfold OwnO at q
  split at q
  · rename_i xs ds e
    exact .lst (by rw [frzAt_same]; exact e) (q.mono (Le.of h))
  · rename_i kvs es e
    exact .dic (.inl (by rw [frzAt_same]; exact e)) (q.mono (Le.of h))
  · exact q.elim
theorem Rel.frzAt (R : Rel K P W F H σ ρ) {a : Addr} (hw : W a = Option.none) (hf : F a = Option.none)
    (hn : ∀ (i : Nat) (c : Cell), ρ[i]? = some (some c) → c.owned = true → σ[i]? ≠ some (some (.ref a))) : Rel K P W (frzAt F H a) H σ ρ where
  fh := frzAt_le R.fh
  wh := R.wh
  len := R.len
  cell := fun i c e => by
    obtain ⟨v, hv, hc⟩ := R.cell i c e
    refine ⟨v, hv, ?_⟩
    have sm := (frzAt_ext (H := H) hw hf).same
    cases c with
    | val d => exact Rp.mono (Le.of sm) hc
    | own d =>
      obtain ⟨b, eb, hwb, hfb, q⟩ := hc
      have hne : b ≠ a := fun z => hn i _ e rfl (by rw [hv, eb, z])
      exact ⟨b, eb, hwb, by rw [frzAt_ne hne]; exact hfb, q.mono (Le.of sm)⟩
    | byr d =>
      obtain ⟨b, eb, hwb, hfb, q⟩ := hc
      have hne : b ≠ a := fun z => hn i _ e rfl (by rw [hv, eb, z])
      exact ⟨b, eb, hwb, by rw [frzAt_ne hne]; exact hfb, q.mono (Le.of sm)⟩
    | scr ds => obtain ⟨a, xs, ea, s, r⟩ := hc; exact ⟨a, xs, ea, (Le.of sm).sql s, r.mono (Le.of sm)⟩
  inj := R.inj
  pin := R.pin
  dis := fun b e => (R.dis b e).imp (fun z => (frzAt_ne (fun z => e (by rw [z]; exact hw))).trans z) id
theorem set_get {i j : Nat} {c : Option Cell} {e : Cell} (h : (ρ.set i c)[j]? = some (some e)) : (j = i ∧ c = some e) ∨ (j ≠ i ∧ ρ[j]? = some (some e)) := by
  by_cases hj : j = i
  · subst hj
    left
    refine ⟨rfl, ?_⟩
    rw [List.getElem?_set_self'] at h
    cases q : ρ[j]? with
    | none => rw [q] at h; cases h
    | some z => rw [q] at h; simpa using h
  · right
    refine ⟨hj, ?_⟩
    rw [List.getElem?_set_ne (fun z => hj z.symm)] at h
    exact h
theorem Rel.settle (R : Rel K P W F H σ ρ) (h : RvOk K W F H σ ρ r v) : ∃ F', Ext W F F' ∧ Rel K P W F' H σ ρ ∧ RvOk K W F' H σ ρ (settle r) v := by
  cases r with
  | val d => exact ⟨F, Ext.refl _ _, R, h⟩
  | «at» i => exact ⟨F, Ext.refl _ _, R, h⟩
  | fr d =>
    obtain ⟨⟨a, ea, hw, hf, q⟩, hn⟩ := h
    subst ea
    exact ⟨_, frzAt_ext hw hf, R.frzAt hw hf hn, q.rp (frzAt_ext hw hf).same⟩
theorem Rel.cellFrz (R : Rel K P W F H σ ρ) {i : Nat} (hc : ρ[i]? = some (some (.own d))) (hv : σ[i]? = some (some v)) :
    ∃ F', Ext W F F' ∧ Rel K P W F' H σ (ρ.set i (some (.val d))) ∧ Rp K F' v d := by
  obtain ⟨u, hu, a, ea, hw, hf, q⟩ := R.cell i _ hc
  rw [hv] at hu; cases hu
  subst ea
  have sm := (frzAt_ext (H := H) hw hf).same
  have rp : Rp K (Pv.frzAt F H a) (.ref a) d := q.rp sm
  refine ⟨Pv.frzAt F H a, frzAt_ext hw hf, ?_, rp⟩
  constructor
  · exact frzAt_le R.fh
  · exact R.wh
  · rw [List.length_set]; exact R.len
  · intro j c e
    rcases set_get e with ⟨rfl, z⟩ | ⟨hj, z⟩
    · cases z; exact ⟨_, hv, rp⟩
    · obtain ⟨w, hw', hk⟩ := R.cell j c z
      refine ⟨w, hw', ?_⟩
      cases c with
      | val d => exact Rp.mono (Le.of sm) hk
      | own d =>
        obtain ⟨b, eb, hwb, hfb, qb⟩ := hk
        have hne : b ≠ a := fun y => R.inj i j _ _ a (fun y => hj y.symm) hc z rfl rfl hv (by rw [hw', eb, y])
        exact ⟨b, eb, hwb, by rw [frzAt_ne hne]; exact hfb, qb.mono (Le.of sm)⟩
      | byr d =>
        obtain ⟨b, eb, hwb, hfb, qb⟩ := hk
        have hne : b ≠ a := fun y => R.inj i j _ _ a (fun y => hj y.symm) hc z rfl rfl hv (by rw [hw', eb, y])
        exact ⟨b, eb, hwb, by rw [frzAt_ne hne]; exact hfb, qb.mono (Le.of sm)⟩
      | scr ds => obtain ⟨b, xs, eb, s, r⟩ := hk; exact ⟨b, xs, eb, (Le.of sm).sql s, r.mono (Le.of sm)⟩
  · intro j k c e b hjk h1 h2 o1 o2 s1 s2
    rcases set_get h1 with ⟨rfl, z⟩ | ⟨hj, z⟩
    · cases z; cases o1
    · rcases set_get h2 with ⟨rfl, z2⟩ | ⟨hk, z2⟩
      · cases z2; cases o2
      · exact R.inj j k c e b hjk z z2 o1 o2 s1 s2
  · intro p hp
    obtain ⟨h1, d', h2⟩ := R.pin p hp
    refine ⟨h1, d', ?_⟩
    have : p.1 ≠ i := fun z => by rw [z, hc] at h2; cases h2
    rw [List.getElem?_set_ne (fun z => this z.symm)]; exact h2
  · exact fun b e => (R.dis b e).imp (fun z => (frzAt_ne (fun z => e (by rw [z]; exact hw))).trans z) id
theorem Rel.frz (R : Rel K P W F H σ ρ) (h : RvOk K W F H σ ρ r v) (e : frz ρ r = some (d, ρ')) : ∃ F', Ext W F F' ∧ Rel K P W F' H σ ρ' ∧ Rp K F' v d := by
  cases r with
  | val z => cases e; exact ⟨F, Ext.refl _ _, R, h⟩
  | fr z =>
    cases e
    obtain ⟨⟨a, ea, hw, hf, q⟩, hn⟩ := h
    subst ea
    exact ⟨_, frzAt_ext hw hf, R.frzAt hw hf hn, q.rp (frzAt_ext hw hf).same⟩
  | «at» i =>
    unfold Pv.frz at e
    simp only at e
    split at e
    · rename_i z hc
      cases e
      obtain ⟨u, hu, hk⟩ := R.cell i _ hc
      have : σ[i]? = some (some v) := h
      rw [this] at hu; cases hu
      exact ⟨F, Ext.refl _ _, R, hk⟩
    · rename_i z hc
      cases e
      exact R.cellFrz hc h
    · cases e
end
end Pv
end
section
set_option Elab.async false
set_option linter.all false
set_option maxRecDepth 100000
set_option maxHeartbeats 1000000
namespace Pv
open PySem PySem.Spec PyProof.Rows L2

def Post (K : Fr') (F H : Hp) (Q : VK) : D × Bool → Prop
  | (z, false) => ∀ v F' H', Grow F H F' H' → Rp K F' v z → Q v H'
  | (z, true) => ∀ p F' H', Grow F H F' H' → H p = none → F' p = none → OwnO K F' (H' p) z → Q (.ref p) H'
def mkR : D × Bool → Rv
  | (z, false) => .val z
  | (z, true) => .fr z
section
variable {K : Fr'} {P : List (Nat × Addr)} {W F H F' H' : Hp} {σ : St} {ρ ρ' : Ro} {v : V} {d : D} {r : Rv} {c : Cell} {Q : VK} {zb : D × Bool}
theorem post_of (R : Rel K P W F H σ ρ) (q : ∀ v H' F', Ext W F F' → Rel K P W F' H' σ ρ → RvOk K W F' H' σ ρ (mkR zb) v → Q v H') : Post K F H Q zb := by
  obtain ⟨z, b⟩ := zb
  cases b with
  | false => exact fun v F' H' g rp => q v H' F' (g.ext R.wh) (R.grow g) rp
  | true =>
    intro p F' H' g hp hf o
    refine q _ H' F' (g.ext R.wh) (R.grow g) ⟨⟨p, rfl, ?_, hf, o⟩, fun i c e ow es => ?_⟩
    · cases e : W p with
      | none => rfl
      | some u => have := R.wh p u e; rw [hp] at this; cases this
    · obtain ⟨v', hv, hk⟩ := R.cell i c e
      rw [es] at hv
      cases hv
      have : ∃ a, V.ref p = .ref a ∧ ∃ u, H a = some u := by
        cases c with
        | val d => cases ow
        | own d => obtain ⟨a, ea, _, _, o⟩ := hk; exact ⟨a, ea, o.mut.2⟩
        | byr d => obtain ⟨a, ea, _, _, o⟩ := hk; exact ⟨a, ea, o.mut.2⟩
        | scr ds => cases ow
      obtain ⟨a, ea, u, hu⟩ := this
      cases ea
      rw [hp] at hu; cases hu
theorem Post.old (h : Le F H) (rp : Rp K F v d) (q : Post K F H Q (d, false)) : Q v H := q v F H (Grow.refl h) rp
theorem Post.lk (h : Le F H) (hd : Mut (H' 0) → True) (rp : Rp K F v d) (q : Post K F H Q (d, false)) : Q v H := q.old h rp
theorem Grow.both (h : Le F H) {p : Addr} (hp : H p = none) (o : HO) : Grow F H (upd F p o) (upd H p o) where
  hs := fun b u e => by rw [upd_ne (ne_of_none e hp)]; exact e
  fs := fun b u e => by rw [upd_ne (ne_of_none e (h.none hp))]; exact e
  off := fun b e => upd_ne fun z => e (by rw [z]; exact hp)
  le := fun b u e => by
    by_cases hb : b = p
    · subst hb; rw [upd_same] at e ⊢; exact .inl e
    · rw [upd_ne hb] at e ⊢; exact h b u e
theorem Grow.heap (h : Le F H) {p : Addr} (hp : H p = none) (o : HO) : Grow F H F (upd H p o) where
  hs := fun b u e => by rw [upd_ne (ne_of_none e hp)]; exact e
  fs := Same.refl F
  off := fun b e => rfl
  le := h.post fun b u e => by rw [upd_ne (ne_of_none e hp)]; exact e
theorem Post.tup {xs : List V} {ds : List D} (h : Le F H) (r : RpA K F xs ds) (q : Post K F H Q (.tuple ds, false)) : ∀ p o, H p = none → o.dict = none → Q (.ref p) (upd H p (.frz o (.tup xs))) := fun p o hp ho =>
  q _ _ _ (Grow.both h hp _) (.tup ⟨.inl (.inr ⟨o, upd_same⟩), fun _ => .inl ⟨o, upd_same, ho⟩⟩ (r.mono (Le.of (Grow.both h hp _).fs)))
theorem Post.tupW {xs : List V} {ds : List D} (hw : needS ds = false) (h : Le F H) (r : RpA K F xs ds) (q : Post K F H Q (.tuple ds, false)) : ∀ p, H p = none → Q (.ref p) (upd H p (.tup xs)) := fun p hp =>
  q _ _ _ (Grow.both h hp _) (.tup ⟨.inl (.inl upd_same), fun z => by rw [hw] at z; cases z⟩ (r.mono (Le.of (Grow.both h hp _).fs)))
theorem Post.lst {xs : List V} {ds : List D} (h : Le F H) (r : RpA K F xs ds) (q : Post K F H Q (.list ds, true)) : ∀ p, H p = none → Q (.ref p) (upd H p (.lst xs)) := fun p hp =>
  q _ _ _ (Grow.heap h hp _) hp (h.none hp) (by rw [upd_same]; exact r)
theorem Post.dct {xs : List (Key × V)} {es : List (D × D)} (h : Le F H) (r : RpD K F xs es) (q : Post K F H Q (.dict es, true)) : ∀ p, H p = none → Q (.ref p) (upd H p (.dK xs)) := fun p hp =>
  q _ _ _ (Grow.heap h hp _) hp (h.none hp) (by rw [upd_same]; exact r)
end

abbrev SemE := Ro → Option (Rv × Ro)
abbrev SemT := Ro → Option (Bool × Ro)
abbrev SemA := Ro → Option (List D × Ro)
abbrev SemP := Ro → Option (List Rv × Ro)
def tD (K : Fr') (f : SemE) : TE := fun σ H Q => ∃ P W F ρ r ρ', Rel K P W F H σ ρ ∧ f ρ = some (r, ρ') ∧ ∀ v H' F', Ext W F F' → Rel K P W F' H' σ ρ' → RvOk K W F' H' σ ρ' r v → Q v H'
def tDT (K : Fr') (f : SemT) : TT := fun σ H Q => ∃ P W F ρ b ρ', Rel K P W F H σ ρ ∧ f ρ = some (b, ρ') ∧ ∀ H' F', Ext W F F' → Rel K P W F' H' σ ρ' → Q b H'
def tDA (K : Fr') (f : SemA) : TA := fun σ H Q => ∃ P W F ρ ds ρ', Rel K P W F H σ ρ ∧ f ρ = some (ds, ρ') ∧ ∀ vs H' F', Ext W F F' → Rel K P W F' H' σ ρ' → RpA K F' vs ds → Q vs H'
def tDP (K : Fr') (f : SemP) : TA := fun σ H Q => ∃ P W F ρ rs ρ', Rel K P W F H σ ρ ∧ f ρ = some (rs, ρ') ∧ ∀ vs H' F', Ext W F F' → Rel K P W F' H' σ ρ' → Paired (fun v r => ∀ d, look ρ' r = some d → Lk K F' H' v d) vs rs → Q vs H'

structure DE (X : Cx) (e : Expr) (f : SemE) : Prop where
  pe : PE X e (tD X.K f)
structure DT (X : Cx) (e : Expr) (f : SemT) : Prop where
  pt : PT X e (tDT X.K f)
structure DA (X : Cx) (es : List Expr) (f : SemA) : Prop where
  pa : PA X es (tDA X.K f)
structure DP (X : Cx) (es : List Expr) (f : SemP) : Prop where
  pa : PA X es (tDP X.K f)
theorem _root_.L2.PE.pvi {X : Cx} {e : Expr} {t t' : TE} (h : PE X e t) (i : ∀ σ H Q, t' σ H Q → t σ H Q) : PE X e t' := ⟨fun pins s σ H Q I q => h.run pins s σ H Q I (i σ H Q q)⟩
theorem _root_.L2.PT.pvi {X : Cx} {e : Expr} {t t' : TT} (h : PT X e t) (i : ∀ σ H Q, t' σ H Q → t σ H Q) : PT X e t' := ⟨fun pins s σ H Q I q => h.run pins s σ H Q I (i σ H Q q)⟩
theorem _root_.L2.PA.pvi {X : Cx} {e : List Expr} {t t' : TA} (h : PA X e t) (i : ∀ σ H Q, t' σ H Q → t σ H Q) : PA X e t' := ⟨fun pos pins s σ H Q I q => h.run pos pins s σ H Q I (i σ H Q q)⟩
theorem _root_.L2.PW.pvi {X : Cx} {e : Expr} {t t' : TT} (h : PW X e t) (i : ∀ σ H Q, t' σ H Q → t σ H Q) : PW X e t' := ⟨fun whole pins s σ H Q I q => h.run whole pins s σ H Q I (i σ H Q q)⟩

def sVar (i : Nat) : SemE := fun ρ => match ρ[i]? with
  | some (some (.val d)) => some (.val d, ρ)
  | some (some (.own _)) => some (.at i, ρ)
  | some (some (.byr _)) => some (.at i, ρ)
  | _ => none
def sC (d : D) : SemE := fun ρ => some (.val d, ρ)
section
variable {X : Cx}
theorem de_var {i : Nat} {x : Str} {pos : Pos} (h : PE X (.Name x pos) (tVar i)) : DE X (.Name x pos) (sVar i) := by
  refine ⟨h.pvi fun σ H Q q => ?_⟩
  obtain ⟨P, W, F, ρ, r, ρ', R, e, q⟩ := q
  unfold sVar at e
  split at e
  · rename_i d hc
    cases e
    obtain ⟨v, hv, hk⟩ := R.cell i _ hc
    exact ⟨v, hv, q v H F (Ext.refl _ _) R hk⟩
  · rename_i c hc
    cases e
    obtain ⟨v, hv, hk⟩ := R.cell i _ hc
    exact ⟨v, hv, q v H F (Ext.refl _ _) R hv⟩
  · rename_i c hc
    cases e
    obtain ⟨v, hv, hk⟩ := R.cell i _ hc
    exact ⟨v, hv, q v H F (Ext.refl _ _) R hv⟩
  · cases e
theorem de_c {e : Expr} {v : V} {d : D} (h : PE X e (tC v)) (k : ∀ F : Hp, Rp X.K F v d) : DE X e (sC d) := by
  refine ⟨h.pvi fun σ H Q q => ?_⟩
  obtain ⟨P, W, F, ρ, r, ρ', R, e, q⟩ := q
  cases e
  exact q v H F (Ext.refl _ _) R (k F)
theorem de_int {i : Int} {j pos} : DE X (.Constant (.int i) j pos) (sC (.int i)) := de_c pe_int fun _ => .int i
theorem de_str {i : Str} {j pos} : DE X (.Constant (.str i) j pos) (sC (.str i)) := de_c pe_str fun _ => .str i
theorem de_bool {i : Bool} {j pos} : DE X (.Constant (.bool i) j pos) (sC (.bool i)) := de_c pe_bl fun _ => .bl i
def sNil : SemA := fun ρ => some ([], ρ)
def sCons (f : SemE) (g : SemA) : SemA := fun ρ => (f ρ).bind fun (r, ρ1) => (frz ρ1 r).bind fun (d, ρ2) => (g ρ2).bind fun (ds, ρ3) => some (d :: ds, ρ3)
theorem da_nil : DA X [] sNil := by
  refine ⟨pa_nil.pvi fun σ H Q q => ?_⟩
  obtain ⟨P, W, F, ρ, r, ρ', R, e, q⟩ := q
  cases e
  exact q [] H F (Ext.refl _ _) R .nil
theorem da_cons {e : Expr} {es : List Expr} {f : SemE} {g : SemA} (a : DE X e f) (b : DA X es g) (hs : starEach (e :: es) X.env = (false, eval e X.env) :: starEach es X.env := by rfl) : DA X (e :: es) (sCons f g) := by
  refine ⟨(pa_cons a.pe b.pa hs).pvi fun σ H Q q => ?_⟩
  obtain ⟨P, W, F, ρ, ds, ρ', R, e, q⟩ := q
  simp only [sCons, Option.bind_eq_some_iff, Prod.exists] at e
  obtain ⟨r, ρ1, e1, d, ρ2, e2, ds', ρ3, e3, e4⟩ := e
  cases e4
  refine ⟨P, W, F, ρ, r, ρ1, R, e1, fun v H1 F1 x1 R1 o1 => ?_⟩
  obtain ⟨F2, x2, R2, rp⟩ := R1.frz o1 e2
  refine ⟨P, W, F2, ρ2, ds', ρ', R2, e3, fun vs H3 F3 x3 R3 rs => ?_⟩
  exact q _ H3 F3 ((x1.trans x2).trans x3) R3 (.cons (rp.mono (Le.of x3.same)) rs)
def pNil : SemP := fun ρ => some ([], ρ)
def pCons (f : SemE) (g : SemP) : SemP := fun ρ => (f ρ).bind fun (r, ρ1) => (g ρ1).bind fun (ds, ρ3) => some (settle r :: ds, ρ3)
theorem dp_nil : DP X [] pNil := by
  refine ⟨pa_nil.pvi fun σ H Q q => ?_⟩
  obtain ⟨P, W, F, ρ, r, ρ', R, e, q⟩ := q
  cases e
  exact q [] H F (Ext.refl _ _) R .nil
theorem lk_later {K : Fr'} {P : List (Nat × Addr)} {W F H F' H' : Hp} {σ : St} {ρ ρ' : Ro} {v : V} {r : Rv} (h : RvOk K W F H σ ρ (settle r) v) (x : Same F F') (R : Rel K P W F' H' σ ρ') : ∀ d, look ρ' (settle r) = some d → Lk K F' H' v d := by
  intro d e
  refine R.lk ?_ e
  cases r with
  | val z => exact Rp.mono (Le.of x) h
  | fr z => exact Rp.mono (Le.of x) h
  | «at» i => exact h
theorem dp_cons {e : Expr} {es : List Expr} {f : SemE} {g : SemP} (a : DE X e f) (b : DP X es g) (hs : starEach (e :: es) X.env = (false, eval e X.env) :: starEach es X.env := by rfl) : DP X (e :: es) (pCons f g) := by
  refine ⟨(pa_cons a.pe b.pa hs).pvi fun σ H Q q => ?_⟩
  obtain ⟨P, W, F, ρ, ds, ρ', R, e, q⟩ := q
  simp only [pCons, Option.bind_eq_some_iff, Prod.exists] at e
  obtain ⟨r, ρ1, e1, ds', ρ3, e3, e4⟩ := e
  cases e4
  refine ⟨P, W, F, ρ, r, ρ1, R, e1, fun v H1 F1 x1 R1 o1 => ?_⟩
  obtain ⟨F2, x2, R2, o2⟩ := R1.settle o1
  refine ⟨P, W, F2, ρ1, ds', ρ', R2, e3, fun vs H3 F3 x3 R3 rs => ?_⟩
  exact q _ H3 F3 ((x1.trans x2).trans x3) R3 (.cons (lk_later o2 x3.same R3) rs)

def tTupS (t : TA) : TE := fun σ H Q => t σ H fun xs H1 => xs.length ≤ sizeLine ∧ ∀ p o, H1 p = none → o.dict = none → Q (.ref p) (upd H1 p (.frz o (.tup xs)))
theorem new_tupS {X : Cx} {pins : List (Addr × Obj)} {σ : St} {H : Hp} {s : Shared} {Q : VK} (I : Inv X pins σ H s) {xs : List V} {us : List Value} (r : Vals xs us) (hz : xs.length ≤ sizeLine) (q : ∀ p o, H p = none → o.dict = none → Q (.ref p) (upd H p (.frz o (.tup xs)))) :
    EP X pins σ Q (.ref s.heap.objs.size) { s with heap := s.heap.push { cls := .type "tuple", data := .seq us.toArray } } := by
  refine ⟨.ref s.heap.objs.size, _, I.laid (t' := s.toks) (o := .frz { cls := .type "tuple", data := .seq us.toArray } (.tup xs)) (fun b u e => Heap.get?_push_of_some _ e) (Nat.le_refl _) ?_, rfl, q _ _ (I.hok.fresh (Nat.le_refl _)) rfl⟩
  exact ⟨Heap.get?_push_size _ rfl, hz, us, r, IsTup.new _ _⟩
theorem pe_tupS {X : Cx} {es : List Expr} {t : TA} {x1 pos} (h : PA X es t) : PE X (.Tuple es x1 pos) (tTupS t) := by
  refine ⟨fun pins s σ H Q I hq => ?_⟩
  refine wpAny_Tuple_spliced (thn (h.run pos pins s σ H _ I hq) fun us s1 ⟨xs, H1, I1, r, z, q⟩ => ⟨by rw [← r.length]; exact z, ?_⟩)
  exact new_tupS I1 r z q
def sTup (f : SemA) : SemE := fun ρ => (f ρ).bind fun (ds, ρ1) => if ds.length ≤ sizeLine then some (.val (.tuple ds), ρ1) else none
def sLst (f : SemA) : SemE := fun ρ => (f ρ).bind fun (ds, ρ1) => if ds.length ≤ sizeLine then some (.fr (.list ds), ρ1) else none
theorem de_tup {es : List Expr} {f : SemA} {x1 pos} (a : DA X es f) : DE X (.Tuple es x1 pos) (sTup f) := by
  refine ⟨(pe_tupS a.pa).pvi fun σ H Q q => ?_⟩
  obtain ⟨P, W, F, ρ, r, ρ', R, e, q⟩ := q
  simp only [sTup, Option.bind_eq_some_iff, Prod.exists] at e
  obtain ⟨ds, ρ1, e1, e2⟩ := e
  split at e2
  · cases e2
    refine ⟨P, W, F, ρ, ds, ρ', R, e1, fun vs H1 F1 x1 R1 rs => ⟨by rw [rs.length]; assumption, ?_⟩⟩
    exact Post.tup R1.fh rs (post_of R1 fun v H' F' x2 R2 o => q v H' F' (x1.trans x2) R2 o)
  · cases e2
theorem de_lst {es : List Expr} {f : SemA} {pos} (a : DA X es f) : DE X (.List es pos) (sLst f) := by
  refine ⟨(pe_lst a.pa).pvi fun σ H Q q => ?_⟩
  obtain ⟨P, W, F, ρ, r, ρ', R, e, q⟩ := q
  simp only [sLst, Option.bind_eq_some_iff, Prod.exists] at e
  obtain ⟨ds, ρ1, e1, e2⟩ := e
  split at e2
  · cases e2
    refine ⟨P, W, F, ρ, ds, ρ', R, e1, fun vs H1 F1 x1 R1 rs => ⟨by rw [rs.length]; assumption, ?_⟩⟩
    exact Post.lst R1.fh rs (post_of (zb := (.list ds, true)) R1 fun v H' F' x2 R2 o => q v H' F' (x1.trans x2) R2 o)
  · cases e2

abbrev Op2 := D → D → Option (D × Bool)
abbrev OpN := List D → Option (D × Bool)
def rS (K : Fr') (f : Op2) : R2 := fun x y H Q => ∃ F d e zb, Le F H ∧ Lk K F H x d ∧ Lk K F H y e ∧ f d e = some zb ∧ Post K F H Q zb
def rCS (K : Fr') (f : OpN) : List V → Hp → VK → Prop := fun xs H Q => ∃ F ds zb, Le F H ∧ Paired (Lk K F H) xs ds ∧ f ds = some zb ∧ Post K F H Q zb
def sOp (op : Op2) (f g : SemE) : SemE := fun ρ => (f ρ).bind fun (r1, ρ1) => (g ρ1).bind fun (r2, ρ2) => (look ρ2 (settle r1)).bind fun d => (look ρ2 (settle r2)).bind fun e => (op d e).bind fun zb => some (mkR zb, ρ2)
theorem sOp_ok {K : Fr'} {op : Op2} {f g : SemE} {σ : St} {H : Hp} {Q : VK} (q : tD K (sOp op f g) σ H Q) : tOp (rS K op) (tD K f) (tD K g) σ H Q := by
  obtain ⟨P, W, F, ρ, r, ρ', R, e, q⟩ := q
  simp only [sOp, Option.bind_eq_some_iff, Prod.exists] at e
  obtain ⟨r1, ρ1, e1, r2, ρ2, e2, d, e3, e', e4, z, b, e5, e6⟩ := e
  cases e6
  refine ⟨P, W, F, ρ, r1, ρ1, R, e1, fun v H1 F1 x1 R1 o1 => ?_⟩
  obtain ⟨F2, x2, R2, o2⟩ := R1.settle o1
  refine ⟨P, W, F2, ρ1, r2, ρ', R2, e2, fun u H3 F3 x3 R3 o3 => ?_⟩
  obtain ⟨F4, x4, R4, o4⟩ := R3.settle o3
  refine ⟨F4, d, e', (z, b), R4.fh, lk_later o2 (x3.trans x4).same R4 d e3, R4.lk o4 e4, e5, ?_⟩
  exact post_of R4 fun v H' F' x5 R5 o => q v H' F' ((((x1.trans x2).trans x3).trans x4).trans x5) R5 o
theorem de_op {op : Operator} {o : Op2} {a b : Expr} {f g : SemE} {pos : Pos} (ho : OpR X (binaryOp op) (rS X.K o)) (ha : DE X a f) (hb : DE X b g) : DE X (.BinOp a op b pos) (sOp o f g) :=
  ⟨(pe_op ho ha.pe hb.pe).pvi fun _ _ _ => sOp_ok⟩
theorem de_cmp {op : CmpOp} {o : Op2} {a b : Expr} {f g : SemE} {pos : Pos} (ho : OpR X (compareOp op) (rS X.K o)) (ha : DE X a f) (hb : DE X b g) (hm : behindInMarks op b = false) : DE X (.Compare a [op] [b] pos) (sOp o f g) :=
  ⟨(pe_cmpR ho ha.pe hb.pe hm).pvi fun _ _ _ => sOp_ok⟩
def asB : D → Option Bool
  | .bool b => some b
  | _ => none
def sTest (f : SemE) : SemT := fun ρ => (f ρ).bind fun (r, ρ1) => (look ρ1 r).bind fun d => (asB d).bind fun b => some (b, ρ1)
theorem asB_eq {d : D} {b : Bool} (h : asB d = some b) : d = .bool b := by
  unfold asB at h
  split at h
  · cases h; rfl
  · cases h
theorem sTest_ok {K : Fr'} {f : SemE} {σ : St} {H : Hp} {Q : Bool → Hp → Prop} (q : tDT K (sTest f) σ H Q) : tD K f σ H fun x H' => ∃ k, x = .bl k ∧ Q k H' := by
  obtain ⟨P, W, F, ρ, b, ρ', R, e, q⟩ := q
  simp only [sTest, Option.bind_eq_some_iff, Prod.exists] at e
  obtain ⟨r, ρ1, e1, d, e2, k, e3, e4⟩ := e
  cases e4
  refine ⟨P, W, F, ρ, r, _, R, e1, fun v H1 F1 x1 R1 o1 => ⟨b, ?_, q H1 F1 x1 R1⟩⟩
  have l := R1.lk o1 e2
  rw [asB_eq e3] at l
  exact l.bool
theorem dt_cmp {op : CmpOp} {o : Op2} {a b : Expr} {f g : SemE} {pos : Pos} (ho : OpR X (compareOp op) (rS X.K o)) (ha : DE X a f) (hb : DE X b g) (hm : behindInMarks op b = false) : DT X (.Compare a [op] [b] pos) (sTest (sOp o f g)) := by
  refine ⟨(pt_cmpR ho ha.pe hb.pe hm).pvi fun σ H Q q => ?_⟩
  exact sOp_ok (sTest_ok q)
def sChain (op op' : Op2) (f g h : SemE) : SemE := fun ρ => (f ρ).bind fun (r1, ρ1) => (g ρ1).bind fun (r2, ρ2) => (look ρ2 (settle r1)).bind fun d => (look ρ2 (settle r2)).bind fun e => (op d e).bind fun zb => (asB zb.1).bind fun k => if zb.2 = true then none else if k = true then (h ρ2).bind fun (r3, ρ3) => (look ρ3 (settle r2)).bind fun e' => (look ρ3 (settle r3)).bind fun w => (op' e' w).bind fun zb' => some (mkR zb', ρ3) else some (.val (.bool false), ρ2)
theorem sChain_ok {K : Fr'} {op op' : Op2} {f g h : SemE} {σ : St} {H : Hp} {Q : VK} (q : tD K (sChain op op' f g h) σ H Q) : tChain (rS K op) (rS K op') (tD K f) (tD K g) (tD K h) σ H Q := by
  obtain ⟨P, W, F, ρ, r, ρ', R, e, q⟩ := q
  simp only [sChain, Option.bind_eq_some_iff, Prod.exists] at e
  obtain ⟨r1, ρ1, e1, r2, ρ2, e2, d, e3, e', e4, z, b, e5, k, e6, e7⟩ := e
  cases b with
  | true => simp at e7
  | false =>
    simp only [Bool.false_eq_true, if_false] at e7
    have ez := asB_eq e6
    subst ez
    refine ⟨P, W, F, ρ, r1, ρ1, R, e1, fun v H1 F1 x1 R1 o1 => ?_⟩
    obtain ⟨F2, x2, R2, o2⟩ := R1.settle o1
    refine ⟨P, W, F2, ρ1, r2, ρ2, R2, e2, fun u H3 F3 x3 R3 o3 => ?_⟩
    obtain ⟨F4, x4, R4, o4⟩ := R3.settle o3
    refine ⟨F4, d, e', _, R4.fh, lk_later o2 (x3.trans x4).same R4 d e3, R4.lk o4 e4, e5, ?_⟩
    intro w F5 H5 g5 rp
    have R5 := R4.grow g5
    have x5 := g5.ext R4.wh
    cases rp
    refine ⟨k, rfl, ?_⟩
    have o5 : RvOk K W F5 H5 σ ρ2 (settle r2) u := by
      cases r2 with
      | val z => exact Rp.mono (Le.of x5.same) o4
      | fr z => exact Rp.mono (Le.of x5.same) o4
      | «at» i => exact o4
    cases k with
    | true =>
      simp only [if_true, Option.bind_eq_some_iff, Prod.exists] at e7 ⊢
      obtain ⟨r3, ρ3, e8, e'', e9, w', e10, z2, b2, e11, e12⟩ := e7
      cases e12
      refine ⟨P, W, F5, ρ2, r3, ρ', R5, e8, fun t H6 F6 x6 R6 o6 => ?_⟩
      obtain ⟨F7, x7, R7, o7⟩ := R6.settle o6
      refine ⟨F7, e'', w', (z2, b2), R7.fh, lk_later o5 (x6.trans x7).same R7 e'' e9, R7.lk o7 e10, e11, ?_⟩
      exact post_of R7 fun v H' F' x8 R8 o => q v H' F' (((((((x1.trans x2).trans x3).trans x4).trans x5).trans x6).trans x7).trans x8) R8 o
    | false =>
      simp only [Bool.false_eq_true, if_false] at e7 ⊢
      cases e7
      exact q _ H5 F5 ((((x1.trans x2).trans x3).trans x4).trans x5) R5 (.bl false)
theorem de_chain {op op' : CmpOp} {o o' : Op2} {a b c : Expr} {f g h : SemE} {pos : Pos} (ho : OpR X (compareOp op) (rS X.K o)) (ho' : OpR X (compareOp op') (rS X.K o')) (ha : DE X a f) (hb : DE X b g) (hc : DE X c h)
    (hm : lastMarks [op, op'] [b, c] = false := by with_unfolding_all rfl) : DE X (.Compare a [op, op'] [b, c] pos) (sChain o o' f g h) :=
  ⟨(pe_chain ho ho' ha.pe hb.pe hc.pe hm).pvi fun _ _ _ => sChain_ok⟩
def truth : D → Option Bool
  | .none => some false
  | .bool b => some b
  | .int i => some (i != 0)
  | .str x => if x.length ≤ sizeLine then some ((x.length : Int) != 0) else none
  | .list ds => some (!ds.isEmpty)
  | .tuple ds => some (!ds.isEmpty)
  | .dict _ => none
def sTruth (f : SemE) : SemT := fun ρ => (f ρ).bind fun (r, ρ1) => (look ρ1 r).bind fun d => (truth d).bind fun b => some (b, ρ1)
theorem RpA.isEmpty {K : Fr'} {F : Hp} {vs : List V} {ds : List D} (r : RpA K F vs ds) : vs.isEmpty = ds.isEmpty := by cases r <;> rfl
theorem tru_lk {K : Fr'} {F H : Hp} {v : V} {d : D} {k : Bool} (h : Le F H) (l : Lk K F H v d) (e : truth d = some k) : TruV K v H k := by
  cases d with
  | none => rw [l.none]; cases e; exact rfl
  | bool b => rw [l.bool]; cases e; exact rfl
  | int i => rw [l.int]; cases e; exact rfl
  | str x =>
    rw [l.str]
    unfold truth at e
    simp only at e
    split at e
    · cases e; exact ⟨by assumption, rfl⟩
    · cases e
  | list ds =>
    obtain ⟨a, xs, rfl, s, r⟩ := l.list h
    cases e
    exact .inl ⟨xs, .inl (.inl s), by rw [r.isEmpty]⟩
  | tuple ds =>
    obtain ⟨a, xs, rfl, s, r, _⟩ := l.tuple h
    cases e
    exact .inr (.inl ⟨xs, s, by rw [r.isEmpty]⟩)
  | dict es => cases e
theorem dt_truth {a : Expr} {f : SemE} (ha : DE X a f) (he : ∀ whole, isTrue a X.env whole = (do let v ← whole; standAt a.pos; holding [v] (truthy v)) := by intro _; rfl) : DT X a (sTruth f) := by
  refine ⟨(pt_truth ha.pe he).pvi fun σ H Q q => ?_⟩
  obtain ⟨P, W, F, ρ, b, ρ', R, e, q⟩ := q
  simp only [sTruth, Option.bind_eq_some_iff, Prod.exists] at e
  obtain ⟨r, ρ1, e1, d, e2, k, e3, e4⟩ := e
  cases e4
  exact ⟨P, W, F, ρ, r, _, R, e1, fun v H1 F1 x1 R1 o1 => ⟨b, tru_lk R1.fh (R1.lk o1 e2) e3, q H1 F1 x1 R1⟩⟩
structure DW (X : Cx) (e : Expr) (f : SemT) : Prop where
  pw : PW X e (tDT X.K f)
def sAnd (f g : SemT) : SemT := fun ρ => (f ρ).bind fun (b, ρ1) => if b = true then g ρ1 else some (false, ρ1)
def sOr (f g : SemT) : SemT := fun ρ => (f ρ).bind fun (b, ρ1) => if b = true then some (true, ρ1) else g ρ1
def sNot (f : SemT) : SemT := fun ρ => (f ρ).bind fun (b, ρ1) => some (!b, ρ1)
theorem dw_or1 {a : Expr} {f : SemT} {pos : Pos} (h : DT X a f) : DW X (.BoolOp .Or [a] pos) f := ⟨pw_or1 h.pt⟩
theorem dw_or {a b : Expr} {rest : List Expr} {f g : SemT} {pos : Pos} (h : DT X a f) (k : DW X (.BoolOp .Or (b :: rest) pos) g) : DW X (.BoolOp .Or (a :: b :: rest) pos) (sOr f g) := by
  refine ⟨(pw_or h.pt k.pw).pvi fun σ H Q q => ?_⟩
  obtain ⟨P, W, F, ρ, b, ρ', R, e, q⟩ := q
  simp only [sOr, Option.bind_eq_some_iff, Prod.exists] at e
  obtain ⟨c, ρ1, e1, e2⟩ := e
  refine ⟨P, W, F, ρ, c, ρ1, R, e1, fun H1 F1 x1 R1 => ?_⟩
  cases c with
  | true =>
    simp only [if_true] at e2 ⊢
    cases e2
    exact q H1 F1 x1 R1
  | false =>
    simp only [Bool.false_eq_true, if_false] at e2 ⊢
    exact ⟨P, W, F1, ρ1, b, ρ', R1, e2, fun H2 F2 x2 R2 => q H2 F2 (x1.trans x2) R2⟩
theorem DW.dt {e : Expr} {f : SemT} (h : DW X e f) : DT X e f := ⟨h.pw.pt⟩
theorem dt_not {a : Expr} {f : SemT} {pos : Pos} (h : DT X a f) : DT X (.UnaryOp .Not a pos) (sNot f) := by
  refine ⟨(pt_not h.pt).pvi fun σ H Q q => ?_⟩
  obtain ⟨P, W, F, ρ, b, ρ', R, e, q⟩ := q
  simp only [sNot, Option.bind_eq_some_iff, Prod.exists] at e
  obtain ⟨c, ρ1, e1, e2⟩ := e
  cases e2
  exact ⟨P, W, F, ρ, c, _, R, e1, q⟩
def sIf (c : SemT) (f g : SemE) : SemE := fun ρ => (c ρ).bind fun (b, ρ1) => if b = true then f ρ1 else g ρ1
theorem de_if {c a b : Expr} {h : SemT} {f g : SemE} {pos : Pos} (hc : DT X c h) (ha : DE X a f) (hb : DE X b g) : DE X (.IfExp c a b pos) (sIf h f g) := by
  refine ⟨(pe_ifExp hc.pt ha.pe hb.pe).pvi fun σ H Q q => ?_⟩
  obtain ⟨P, W, F, ρ, r, ρ', R, e, q⟩ := q
  simp only [sIf, Option.bind_eq_some_iff, Prod.exists] at e
  obtain ⟨b, ρ1, e1, e2⟩ := e
  refine ⟨P, W, F, ρ, b, ρ1, R, e1, fun H1 F1 x1 R1 => ?_⟩
  cases b with
  | true =>
    simp only [if_true] at e2 ⊢
    exact ⟨P, W, F1, ρ1, r, ρ', R1, e2, fun v H2 F2 x2 R2 o => q v H2 F2 (x1.trans x2) R2 o⟩
  | false =>
    simp only [Bool.false_eq_true, if_false] at e2 ⊢
    exact ⟨P, W, F1, ρ1, r, ρ', R1, e2, fun v H2 F2 x2 R2 o => q v H2 F2 (x1.trans x2) R2 o⟩
def sAndV (f g : SemE) : SemE := fun ρ => (sTest f ρ).bind fun (b, ρ1) => if b = true then g ρ1 else some (.val (.bool false), ρ1)
def sOrV (f g : SemE) : SemE := fun ρ => (sTest f ρ).bind fun (b, ρ1) => if b = true then some (.val (.bool true), ρ1) else g ρ1
def sNotV (f : SemE) : SemE := fun ρ => (sTest f ρ).bind fun (b, ρ1) => some (.val (.bool !b), ρ1)
theorem de_one {a : Expr} {op} {f : SemE} {pos : Pos} (h : DE X a f) : DE X (.BoolOp op [a] pos) f := ⟨pe_one h.pe⟩
theorem de_and {a b : Expr} {rest : List Expr} {f g : SemE} {pos : Pos} (h : DE X a f) (k : DE X (.BoolOp .And (b :: rest) pos) g) : DE X (.BoolOp .And (a :: b :: rest) pos) (sAndV f g) := by
  refine ⟨(pe_and h.pe k.pe).pvi fun σ H Q q => ?_⟩
  obtain ⟨P, W, F, ρ, r, ρ', R, e, q⟩ := q
  simp only [sAndV, Option.bind_eq_some_iff, Prod.exists] at e
  obtain ⟨b, ρ1, e1, e2⟩ := e
  refine sTest_ok (K := X.K) (Q := fun c H1 => if c = true then tD X.K g σ H1 Q else Q (.bl false) H1) ⟨P, W, F, ρ, b, ρ1, R, e1, fun H1 F1 x1 R1 => ?_⟩
  cases b with
  | true =>
    simp only [if_true] at e2 ⊢
    exact ⟨P, W, F1, ρ1, r, ρ', R1, e2, fun v H2 F2 x2 R2 o => q v H2 F2 (x1.trans x2) R2 o⟩
  | false =>
    simp only [Bool.false_eq_true, if_false] at e2 ⊢
    cases e2
    exact q _ H1 F1 x1 R1 (.bl false)
theorem de_or {a b : Expr} {rest : List Expr} {f g : SemE} {pos : Pos} (h : DE X a f) (k : DE X (.BoolOp .Or (b :: rest) pos) g) : DE X (.BoolOp .Or (a :: b :: rest) pos) (sOrV f g) := by
  refine ⟨(pe_or h.pe k.pe).pvi fun σ H Q q => ?_⟩
  obtain ⟨P, W, F, ρ, r, ρ', R, e, q⟩ := q
  simp only [sOrV, Option.bind_eq_some_iff, Prod.exists] at e
  obtain ⟨b, ρ1, e1, e2⟩ := e
  refine sTest_ok (K := X.K) (Q := fun c H1 => if c = true then Q (.bl true) H1 else tD X.K g σ H1 Q) ⟨P, W, F, ρ, b, ρ1, R, e1, fun H1 F1 x1 R1 => ?_⟩
  cases b with
  | false =>
    simp only [Bool.false_eq_true, if_false] at e2 ⊢
    exact ⟨P, W, F1, ρ1, r, ρ', R1, e2, fun v H2 F2 x2 R2 o => q v H2 F2 (x1.trans x2) R2 o⟩
  | true =>
    simp only [if_true] at e2 ⊢
    cases e2
    exact q _ H1 F1 x1 R1 (.bl true)
theorem de_not {a : Expr} {f : SemE} {pos : Pos} (h : DE X a f) : DE X (.UnaryOp .Not a pos) (sNotV f) := by
  refine ⟨(pe_not h.pe).pvi fun σ H Q q => ?_⟩
  obtain ⟨P, W, F, ρ, r, ρ', R, e, q⟩ := q
  simp only [sNotV, Option.bind_eq_some_iff, Prod.exists] at e
  obtain ⟨b, ρ1, e1, e2⟩ := e
  cases e2
  exact sTest_ok (K := X.K) (Q := fun c H1 => Q (.bl (!c)) H1) ⟨P, W, F, ρ, b, _, R, e1, fun H1 F1 x1 R1 => q _ H1 F1 x1 R1 (.bl _)⟩

theorem de_ix {o : Op2} {a b : Expr} {f g : SemE} {pos : Pos} (hr : IxR X (rS X.K o)) (ha : DE X a f) (hb : DE X b g) (hs : PlainIx b := by intro _ _; rfl) : DE X (.Subscript a b pos) (sOp o f g) :=
  ⟨(pe_ix hr ha.pe hb.pe hs).pvi fun _ _ _ => sOp_ok⟩
structure DO (X : Cx) (e : Option Expr) (f : Ro → Option (Option Int × Ro)) : Prop where
  po : PO X e fun σ H Q => ∃ P W F ρ b ρ', Rel X.K P W F H σ ρ ∧ f ρ = some (b, ρ') ∧ ∀ H' F', Ext W F F' → Rel X.K P W F' H' σ ρ' → Q b H'
def asI : D → Option Int
  | .int i => some i
  | _ => none
theorem asI_eq {d : D} {b : Int} (h : asI d = some b) : d = .int b := by
  unfold asI at h
  split at h
  · cases h; rfl
  · cases h
def oNone : Ro → Option (Option Int × Ro) := fun ρ => some (none, ρ)
def oSome (f : SemE) : Ro → Option (Option Int × Ro) := fun ρ => (f ρ).bind fun (r, ρ1) => (look ρ1 r).bind fun d => (asI d).bind fun i => some (some i, ρ1)
theorem do_none : DO X none oNone := by
  refine ⟨⟨fun pins s σ H Q I q => po_none.run pins s σ H Q I ?_⟩⟩
  obtain ⟨P, W, F, ρ, r, ρ', R, e, q⟩ := q
  cases e
  exact q H F (Ext.refl _ _) R
theorem do_some {e : Expr} {f : SemE} (h : DE X e f) : DO X (some e) (oSome f) := by
  refine ⟨⟨fun pins s σ H Q I q => (po_some h.pe).run pins s σ H Q I ?_⟩⟩
  obtain ⟨P, W, F, ρ, b, ρ', R, e, q⟩ := q
  simp only [oSome, Option.bind_eq_some_iff, Prod.exists] at e
  obtain ⟨r, ρ1, e1, d, e2, i, e3, e4⟩ := e
  cases e4
  refine ⟨P, W, F, ρ, r, _, R, e1, fun v H1 F1 x1 R1 o1 => ⟨i, ?_, q H1 F1 x1 R1⟩⟩
  have l := R1.lk o1 e2
  rw [asI_eq e3] at l
  exact l.int
def rSl (K : Fr') (f : D → Option Int → Option Int → Option (D × Bool)) : V → Option Int → Option Int → Hp → VK → Prop := fun x lo hi H Q => ∃ F d zb, Le F H ∧ Lk K F H x d ∧ f d lo hi = some zb ∧ Post K F H Q zb
def sSl (o : D → Option Int → Option Int → Option (D × Bool)) (f : SemE) (l h : Ro → Option (Option Int × Ro)) : SemE := fun ρ => (f ρ).bind fun (r, ρ1) => (l ρ1).bind fun (lo, ρ2) => (h ρ2).bind fun (hi, ρ3) => (look ρ3 (settle r)).bind fun d => (o d lo hi).bind fun zb => some (mkR zb, ρ3)
theorem de_slice {o : D → Option Int → Option Int → Option (D × Bool)} {a : Expr} {lo hi : Option Expr} {f : SemE} {l h : Ro → Option (Option Int × Ro)} {p2 pos : Pos} (hr : SlR X (rSl X.K o)) (ha : DE X a f) (hl : DO X lo l) (hh : DO X hi h) : DE X (.Subscript a (.Slice lo hi none p2) pos) (sSl o f l h) := by
  refine ⟨(pe_slice hr ha.pe hl.po hh.po).pvi fun σ H Q q => ?_⟩
  obtain ⟨P, W, F, ρ, r, ρ', R, e, q⟩ := q
  simp only [sSl, Option.bind_eq_some_iff, Prod.exists] at e
  obtain ⟨r1, ρ1, e1, lo, ρ2, e2, hi, ρ3, e3, d, e4, z, b, e5, e6⟩ := e
  cases e6
  refine ⟨P, W, F, ρ, r1, ρ1, R, e1, fun v H1 F1 x1 R1 o1 => ?_⟩
  obtain ⟨F2, x2, R2, o2⟩ := R1.settle o1
  refine ⟨P, W, F2, ρ1, lo, ρ2, R2, e2, fun H3 F3 x3 R3 => ?_⟩
  refine ⟨P, W, F3, ρ2, hi, ρ', R3, e3, fun H4 F4 x4 R4 => ?_⟩
  refine ⟨F4, d, (z, b), R4.fh, lk_later o2 (x3.trans x4).same R4 d e4, e5, ?_⟩
  exact post_of R4 fun v H' F' x5 R5 o => q v H' F' ((((x1.trans x2).trans x3).trans x4).trans x5) R5 o

def looks (ρ : Ro) : List Rv → Option (List D)
  | [] => some []
  | r :: rs => (look ρ r).bind fun d => (looks ρ rs).bind fun ds => some (d :: ds)
theorem looks_ok {K : Fr'} {F H : Hp} {ρ : Ro} : ∀ {rs : List Rv} {vs : List V} {ds : List D}, Paired (fun v r => ∀ d, look ρ r = some d → Lk K F H v d) vs rs → looks ρ rs = some ds → Paired (Lk K F H) vs ds
  | _, _, _, .nil, e => by cases e; exact .nil
  | _, _, _, .cons r t, e => by
    simp only [looks, Option.bind_eq_some_iff] at e
    obtain ⟨d, e1, ds, e2, e3⟩ := e
    cases e3
    exact .cons (r d e1) (looks_ok t e2)
def sCB (o : OpN) (f : SemP) : SemE := fun ρ => (f ρ).bind fun (rs, ρ1) => (looks ρ1 rs).bind fun ds => (o ds).bind fun zb => some (mkR zb, ρ1)
theorem sCB_ok {K : Fr'} {o : OpN} {f : SemP} {σ : St} {H : Hp} {Q : VK} (q : tD K (sCB o f) σ H Q) : tCB (rCS K o) (tDP K f) σ H Q := by
  obtain ⟨P, W, F, ρ, r, ρ', R, e, q⟩ := q
  simp only [sCB, Option.bind_eq_some_iff, Prod.exists] at e
  obtain ⟨rs, ρ1, e1, ds, e2, z, b, e3, e4⟩ := e
  cases e4
  refine ⟨P, W, F, ρ, rs, _, R, e1, fun vs H1 F1 x1 R1 ls => ?_⟩
  exact ⟨F1, ds, (z, b), R1.fh, looks_ok ls e2, e3, post_of R1 fun v H' F' x2 R2 o => q v H' F' (x1.trans x2) R2 o⟩
theorem de_callB {x : Str} {id : String} {o : OpN} {e : Expr} {es : List Expr} {f : SemP} {p pos : Pos} (hc : CallR X (.builtin id) (rCS X.K o)) (hg : Gl X x) (hm : X.mg x = none) (hv : bootBuiltins x = some (.builtin id)) (ha : DP X (e :: es) f) (hn : x ≠ "__name__" := by decide) (hdb : (x == ("__debug__" : Str)) = false := by decide)
    (he : starEach (e :: es) X.env = (false, eval e X.env) :: starEach es X.env := by rfl) (hpl : (backTo pos (starEach es X.env)).any (·.1) = false := by rfl) : DE X (.Call (.Name x p) (e :: es) [] pos) (sCB o f) :=
  ⟨(pe_callB hc hg hm hv ha.pa hn hdb he hpl).pvi fun _ _ _ => sCB_ok⟩
theorem de_callTy {x : Str} {T : String} {o : OpN} {e : Expr} {es : List Expr} {f : SemP} {p pos : Pos} (hc : CallR X (.type T) (rCS X.K o)) (hg : Gl X x) (hm : X.mg x = none) (hv : bootBuiltins x = some (.type T)) (ha : DP X (e :: es) f) (hn : x ≠ "__name__" := by decide) (hdb : (x == ("__debug__" : Str)) = false := by decide)
    (he : starEach (e :: es) X.env = (false, eval e X.env) :: starEach es X.env := by rfl) (hpl : (backTo pos (starEach es X.env)).any (·.1) = false := by rfl) : DE X (.Call (.Name x p) (e :: es) [] pos) (sCB o f) :=
  ⟨(pe_callTy hc hg hm hv ha.pa hn hdb he hpl).pvi fun _ _ _ => sCB_ok⟩
end
end Pv
end
section
set_option Elab.async false
set_option linter.all false
set_option maxRecDepth 100000
set_option maxHeartbeats 1000000
namespace Pv
open PySem PySem.Spec PyProof.Rows L2

inductive Out
  | nx (ρ : Ro)
  | rt (r : Rv) (ρ : Ro)
  | bk (ρ : Ro)
  | ct (ρ : Ro)
abbrev SemS := Ro → Option Out
def OutQ (K : Fr') (P : List (Nat × Addr)) (W F : Hp) (D : Ends) : Out → Prop
  | .nx ρ => ∀ σ H F', Ext W F F' → Rel K P W F' H σ ρ → D.nx σ H
  | .bk ρ => ∀ σ H F', Ext W F F' → Rel K P W F' H σ ρ → D.bk σ H
  | .ct ρ => ∀ σ H F', Ext W F F' → Rel K P W F' H σ ρ → D.ct σ H
  | .rt r ρ => ∀ v σ H F', Ext W F F' → Rel K P W F' H σ ρ → RvOk K W F' H σ ρ r v → D.rt v H
theorem OutQ.ext {K : Fr'} {P : List (Nat × Addr)} {W F F1 : Hp} {D : Ends} {o : Out} (h : OutQ K P W F D o) (x : Ext W F F1) : OutQ K P W F1 D o := by
  cases o with
  | nx ρ => exact fun σ H F' y R => h σ H F' (x.trans y) R
  | bk ρ => exact fun σ H F' y R => h σ H F' (x.trans y) R
  | ct ρ => exact fun σ H F' y R => h σ H F' (x.trans y) R
  | rt r ρ => exact fun v σ H F' y R o => h v σ H F' (x.trans y) R o
def tDS (K : Fr') (f : SemS) : TS := fun D σ H => ∃ P W F ρ o, Rel K P W F H σ ρ ∧ f ρ = some o ∧ OutQ K P W F D o
structure DS (X : Cx) (st : Stmt) (f : SemS) : Prop where
  ps : PS X st (tDS X.K f)
structure DSs (X : Cx) (st : List Stmt) (f : SemS) : Prop where
  ps : PSs X st (tDS X.K f)
theorem _root_.L2.PS.pvi {X : Cx} {e : Stmt} {t t' : TS} (h : PS X e t) (i : ∀ D σ H, t' D σ H → t D σ H) : PS X e t' := ⟨fun pins s σ H D I q => h.run pins s σ H D I (i D σ H q)⟩
theorem _root_.L2.PSs.pvi {X : Cx} {e : List Stmt} {t t' : TS} (h : PSs X e t) (i : ∀ D σ H, t' D σ H → t D σ H) : PSs X e t' := ⟨fun pins s σ H D I q => h.run pins s σ H D I (i D σ H q)⟩

section
variable {X : Cx}
def sNx : SemS := fun ρ => some (.nx ρ)
def sStuck : SemS := fun _ => none
def thenS : Out → SemS → Option Out
  | .nx ρ, g => g ρ
  | o, _ => some o
def sSeq (f g : SemS) : SemS := fun ρ => (f ρ).bind fun o => thenS o g
theorem ds_never {st : Stmt} : DS X st sStuck := ⟨ps_never.pvi fun D σ H ⟨_, _, _, _, _, _, e, _⟩ => by cases e⟩
theorem dss_nil : DSs X [] sNx := ⟨pss_nil.pvi fun D σ H ⟨P, W, F, ρ, o, R, e, q⟩ => by cases e; exact q σ H F (Ext.refl _ _) R⟩
theorem dss_one {st : Stmt} {f : SemS} (h : DS X st f) : DSs X [st] f := ⟨pss_one h.ps⟩
theorem dss_cons {st : Stmt} {rest : List Stmt} {f g : SemS} (h : DS X st f) (k : DSs X rest g) : DSs X (st :: rest) (sSeq f g) := by
  refine ⟨(pss_cons h.ps k.ps).pvi fun D σ H q => ?_⟩
  obtain ⟨P, W, F, ρ, o, R, e, q⟩ := q
  simp only [sSeq, Option.bind_eq_some_iff] at e
  obtain ⟨o1, e1, e2⟩ := e
  refine ⟨P, W, F, ρ, o1, R, e1, ?_⟩
  cases o1 with
  | nx ρ1 => exact fun σ1 H1 F1 x1 R1 => ⟨P, W, F1, ρ1, o, R1, e2, q.ext x1⟩
  | bk ρ1 => cases e2; exact q
  | ct ρ1 => cases e2; exact q
  | rt r ρ1 => cases e2; exact q

def slotOk (ρ : Ro) (i : Nat) : Bool := match ρ[i]? with
  | none => false
  | some (some (.byr _)) => false
  | some (some (.scr _)) => false
  | _ => true
def store (i : Nat) (r : Rv) (ρ : Ro) : Option Ro := if slotOk ρ i = true then (match r with
  | .val d => some (ρ.set i (some (.val d)))
  | .fr d => some (ρ.set i (some (.own d)))
  | .at j => (frz ρ (.at j)).bind fun (d, ρ2) => some (ρ2.set i (some (.val d)))) else none
theorem slot_pin {K : Fr'} {P : List (Nat × Addr)} {W F H : Hp} {σ : St} {ρ : Ro} (R : Rel K P W F H σ ρ) {i : Nat} (h : slotOk ρ i = true) : ∀ p ∈ P, p.1 ≠ i := fun p hp z => by
  obtain ⟨_, d, e⟩ := R.pin p hp
  rw [z] at e
  unfold slotOk at h
  rw [e] at h
  cases h
theorem Rel.setVal {K : Fr'} {P : List (Nat × Addr)} {W F H : Hp} {σ : St} {ρ : Ro} {i : Nat} {v : V} {d : D} (R : Rel K P W F H σ ρ) (hp : ∀ p ∈ P, p.1 ≠ i) (rp : Rp K F v d) (hi : i < ρ.length) :
    Rel K P W F H (σ.set i (some v)) (ρ.set i (some (.val d))) where
  fh := R.fh
  wh := R.wh
  len := by rw [List.length_set, List.length_set]; exact R.len
  cell := fun j c e => by
    rcases set_get e with ⟨rfl, z⟩ | ⟨hj, z⟩
    · cases z
      exact ⟨v, by rw [List.getElem?_set_self (by rw [R.len]; exact hi)], rp⟩
    · obtain ⟨w, hw, hk⟩ := R.cell j c z
      exact ⟨w, by rw [List.getElem?_set_ne (fun y => hj y.symm)]; exact hw, hk⟩
  inj := fun j k c e a hjk h1 h2 o1 o2 s1 s2 => by
    rcases set_get h1 with ⟨rfl, z⟩ | ⟨hj, z⟩
    · cases z; cases o1
    · rcases set_get h2 with ⟨rfl, z2⟩ | ⟨hk, z2⟩
      · cases z2; cases o2
      · rw [List.getElem?_set_ne (fun y => hj y.symm)] at s1
        rw [List.getElem?_set_ne (fun y => hk y.symm)] at s2
        exact R.inj j k c e a hjk z z2 o1 o2 s1 s2
  pin := fun p q => by
    obtain ⟨h1, d', h2⟩ := R.pin p q
    refine ⟨by rw [List.getElem?_set_ne (fun y => hp p q y.symm)]; exact h1, d', by rw [List.getElem?_set_ne (fun y => hp p q y.symm)]; exact h2⟩
  dis := R.dis
theorem Rel.setOwn {K : Fr'} {P : List (Nat × Addr)} {W F H : Hp} {σ : St} {ρ : Ro} {i : Nat} {v : V} {d : D} (R : Rel K P W F H σ ρ) (hp : ∀ p ∈ P, p.1 ≠ i) (ho : RvOk K W F H σ ρ (.fr d) v) (hi : i < ρ.length) :
    Rel K P W F H (σ.set i (some v)) (ρ.set i (some (.own d))) where
  fh := R.fh
  wh := R.wh
  len := by rw [List.length_set, List.length_set]; exact R.len
  cell := fun j c e => by
    rcases set_get e with ⟨rfl, z⟩ | ⟨hj, z⟩
    · cases z
      exact ⟨v, by rw [List.getElem?_set_self (by rw [R.len]; exact hi)], ho.1⟩
    · obtain ⟨w, hw, hk⟩ := R.cell j c z
      exact ⟨w, by rw [List.getElem?_set_ne (fun y => hj y.symm)]; exact hw, hk⟩
  inj := fun j k c e a hjk h1 h2 o1 o2 s1 s2 => by
    rcases set_get h1 with ⟨rfl, z⟩ | ⟨hj, z⟩
    · rcases set_get h2 with ⟨rfl, z2⟩ | ⟨hk, z2⟩
      · exact hjk rfl
      · rw [List.getElem?_set_self (by rw [R.len]; exact hi)] at s1
        rw [List.getElem?_set_ne (fun y => hk y.symm)] at s2
        cases s1
        exact ho.2 k e z2 o2 s2
    · rcases set_get h2 with ⟨rfl, z2⟩ | ⟨hk, z2⟩
      · rw [List.getElem?_set_self (by rw [R.len]; exact hi)] at s2
        rw [List.getElem?_set_ne (fun y => hj y.symm)] at s1
        cases s2
        exact ho.2 j c z o1 s1
      · rw [List.getElem?_set_ne (fun y => hj y.symm)] at s1
        rw [List.getElem?_set_ne (fun y => hk y.symm)] at s2
        exact R.inj j k c e a hjk z z2 o1 o2 s1 s2
  pin := fun p q => by
    obtain ⟨h1, d', h2⟩ := R.pin p q
    refine ⟨by rw [List.getElem?_set_ne (fun y => hp p q y.symm)]; exact h1, d', by rw [List.getElem?_set_ne (fun y => hp p q y.symm)]; exact h2⟩
  dis := R.dis
theorem slot_lt {ρ : Ro} {i : Nat} (h : slotOk ρ i = true) : i < ρ.length := by
  unfold slotOk at h
  cases e : ρ[i]? with
  | none => rw [e] at h; cases h
  | some c => exact (List.getElem?_eq_some_iff.mp e).1
theorem frz_len {ρ ρ' : Ro} {r : Rv} {d : D} (e : frz ρ r = some (d, ρ')) : ρ'.length = ρ.length := by
  unfold frz at e
  split at e
  · cases e; rfl
  · cases e; rfl
  · split at e
    · cases e; rfl
    · cases e; rw [List.length_set]
    · cases e
theorem Rel.store {K : Fr'} {P : List (Nat × Addr)} {W F H : Hp} {σ : St} {ρ ρ' : Ro} {i : Nat} {v : V} {r : Rv} (R : Rel K P W F H σ ρ) (ho : RvOk K W F H σ ρ r v) (e : store i r ρ = some ρ') :
    ∃ F', Ext W F F' ∧ Rel K P W F' H (σ.set i (some v)) ρ' := by
  unfold Pv.store at e
  split at e
  · rename_i hs
    have hp := slot_pin R hs
    have hl := slot_lt hs
    cases r with
    | val d => cases e; exact ⟨F, Ext.refl _ _, R.setVal hp ho hl⟩
    | fr d => cases e; exact ⟨F, Ext.refl _ _, R.setOwn hp ho hl⟩
    | «at» j =>
      simp only [Option.bind_eq_some_iff, Prod.exists] at e
      obtain ⟨d, ρ2, e1, e2⟩ := e
      cases e2
      obtain ⟨F', x, R', rp⟩ := R.frz ho e1
      exact ⟨F', x, R'.setVal hp rp (by rw [frz_len e1]; exact hl)⟩
  · cases e
def sSet (i : Nat) (f : SemE) : SemS := fun ρ => (f ρ).bind fun (r, ρ1) => (store i r ρ1).bind fun ρ2 => some (.nx ρ2)
theorem sSet_ok {K : Fr'} {i : Nat} {f : SemE} {D : Ends} {σ : St} {H : Hp} (q : tDS K (sSet i f) D σ H) : tAsg (tD K f) (gName i) D σ H := by
  obtain ⟨P, W, F, ρ, o, R, e, q⟩ := q
  simp only [sSet, Option.bind_eq_some_iff, Prod.exists] at e
  obtain ⟨r, ρ1, e1, ρ2, e2, e3⟩ := e
  cases e3
  refine ⟨P, W, F, ρ, r, ρ1, R, e1, fun v H1 F1 x1 R1 o1 => ?_⟩
  obtain ⟨F2, x2, R2⟩ := R1.store o1 e2
  exact q _ H1 F2 (x1.trans x2) R2
theorem ds_set {i : Nat} {x : Str} {e : Expr} {f : SemE} {pos pos' : Pos} (h : PS X (.Assign [.Name x pos'] e pos) (tAsg (tD X.K f) (gName i))) : DS X (.Assign [.Name x pos'] e pos) (sSet i f) :=
  ⟨h.pvi fun _ _ _ => sSet_ok⟩

abbrev SemG := D → Ro → Option Ro
abbrev SemGs := List D → Ro → Option Ro
def Off (vs : List Nat) (σ σ' : St) : Prop := σ'.length = σ.length ∧ ∀ j, j ∉ vs → σ'[j]? = σ[j]?
theorem Off.refl (vs : List Nat) (σ : St) : Off vs σ σ := ⟨rfl, fun _ _ => rfl⟩
theorem Off.trans {vs us : List Nat} {σ σ1 σ2 : St} (a : Off vs σ σ1) (b : Off us σ1 σ2) : Off (vs ++ us) σ σ2 :=
  ⟨b.1.trans a.1, fun j h => (b.2 j fun z => h (List.mem_append_right _ z)).trans (a.2 j fun z => h (List.mem_append_left _ z))⟩
def tDG (K : Fr') (vs : List Nat) (g : SemG) : TG := fun v σ H Q => ∃ P W F ρ d ρ', Rel K P W F H σ ρ ∧ Rp K F v d ∧ g d ρ = some ρ' ∧ ∀ σ' H' F', Ext W F F' → Rel K P W F' H' σ' ρ' → Off vs σ σ' → Q σ' H'
def tDGs (K : Fr') (vs : List Nat) (g : SemGs) : TGs := fun us σ H Q => ∃ P W F ρ ds ρ', Rel K P W F H σ ρ ∧ RpA K F us ds ∧ g ds ρ = some ρ' ∧ ∀ σ' H' F', Ext W F F' → Rel K P W F' H' σ' ρ' → Off vs σ σ' → Q σ' H'
structure DG (X : Cx) (e : Expr) (vs : List Nat) (g : SemG) : Prop where
  pg : PG X e (tDG X.K vs g)
structure DGs (X : Cx) (e : List Expr) (vs : List Nat) (g : SemGs) : Prop where
  pg : PGs X e (tDGs X.K vs g)
theorem _root_.L2.PG.pvi {X : Cx} {e : Expr} {t t' : TG} (h : PG X e t) (i : ∀ v σ H Q, t' v σ H Q → t v σ H Q) : PG X e t' := ⟨fun pins s σ H v u Q I r q => h.run pins s σ H v u Q I r (i v σ H Q q)⟩
theorem _root_.L2.PGs.pvi {X : Cx} {e : List Expr} {t t' : TGs} (h : PGs X e t) (i : ∀ v σ H Q, t' v σ H Q → t v σ H Q) : PGs X e t' := ⟨fun pins s σ H v u Q I r q => h.run pins s σ H v u Q I r (i v σ H Q q)⟩
def gN (i : Nat) : SemG := fun d ρ => store i (.val d) ρ
def gsNil : SemGs := fun ds ρ => match ds with
  | [] => some ρ
  | _ => none
def gsCons (g : SemG) (h : SemGs) : SemGs := fun ds ρ => match ds with
  | d :: ds => (g d ρ).bind fun ρ1 => h ds ρ1
  | [] => none
def gT (n : Nat) (g : SemGs) : SemG := fun d ρ => match d with
  | .tuple ds => if ds.length = n then g ds ρ else none
  | _ => none
theorem dg_name {i : Nat} {x : Str} {pos : Pos} (h : PG X (.Name x pos) (gName i)) : DG X (.Name x pos) [i] (gN i) := by
  refine ⟨h.pvi fun v σ H Q q => ?_⟩
  obtain ⟨P, W, F, ρ, d, ρ', R, rp, e, q⟩ := q
  obtain ⟨F2, x2, R2⟩ := R.store (r := .val d) rp e
  exact q _ H F2 x2 R2 ⟨by rw [List.length_set], fun j hj => List.getElem?_set_ne (fun z => hj (by rw [z]; exact List.mem_singleton.mpr rfl))⟩
theorem dgs_nil : DGs X [] [] gsNil := by
  refine ⟨pgs_nil.pvi fun v σ H Q q => ?_⟩
  obtain ⟨P, W, F, ρ, d, ρ', R, rp, e, q⟩ := q
  cases rp with
  | nil => cases e; exact ⟨rfl, q _ H F (Ext.refl _ _) R (Off.refl _ _)⟩
  | cons r t => cases e
theorem dgs_cons {e : Expr} {es : List Expr} {g : SemG} {h : SemGs} {vs us : List Nat} (a : DG X e vs g) (b : DGs X es us h) (hs : (assignEach (e :: es) X.env).map (·.2) = assign e X.env :: (assignEach es X.env).map (·.2) := by rfl) : DGs X (e :: es) (vs ++ us) (gsCons g h) := by
  refine ⟨(pgs_cons a.pg b.pg hs).pvi fun v σ H Q q => ?_⟩
  obtain ⟨P, W, F, ρ, d, ρ', R, rp, e, q⟩ := q
  cases rp with
  | nil => cases e
  | @cons v vs d ds r t =>
    simp only [gsCons, Option.bind_eq_some_iff] at e
    obtain ⟨ρ1, e1, e2⟩ := e
    refine ⟨v, vs, rfl, P, W, F, ρ, d, ρ1, R, r, e1, fun σ1 H1 F1 x1 R1 f1 => ?_⟩
    exact ⟨P, W, F1, ρ1, ds, ρ', R1, t.mono (Le.of x1.same), e2, fun σ2 H2 F2 x2 R2 f2 => q σ2 H2 F2 (x1.trans x2) R2 (f1.trans f2)⟩
theorem dg_tup {es : List Expr} {k n : Nat} {g : SemGs} {vs : List Nat} {pos : Pos} (h : DGs X es vs g) (hc : X.calm = true) (hn : (assignEach es X.env).length = n := by rfl) (hst : (assignEach es X.env).findIdx? (·.1) = none := by rfl) : DG X (.Tuple es k pos) vs (gT n g) := by
  refine ⟨(pg_tup hc h.pg hn hst).pvi fun v σ H Q q => ?_⟩
  obtain ⟨P, W, F, ρ, d, ρ', R, rp, e, q⟩ := q
  unfold gT at e
  split at e
  · rename_i ds
    split at e
    · rename_i hl
      cases rp with
      | tup s r => exact ⟨_, _, rfl, R.fh.sqt s.1, by rw [r.length]; exact hl, P, W, F, ρ, ds, ρ', R, r, e, q⟩
    · cases e
  · cases e
def sAsg (f : SemE) (g : SemG) : SemS := fun ρ => (f ρ).bind fun (r, ρ1) => (frz ρ1 r).bind fun (d, ρ2) => (g d ρ2).bind fun ρ3 => some (.nx ρ3)
def sRet (f : SemE) : SemS := fun ρ => (f ρ).bind fun (r, ρ1) => match r with
  | .at i => (match ρ1[i]? with
    | some (some (.own d)) => some (.rt (.fr d) (ρ1.set i none))
    | some (some (.val d)) => some (.rt (.val d) ρ1)
    | _ => none)
  | r => some (.rt r ρ1)
theorem Rel.clear {K : Fr'} {P : List (Nat × Addr)} {W F H : Hp} {σ : St} {ρ : Ro} {i : Nat} (R : Rel K P W F H σ ρ) (hp : ∀ p ∈ P, p.1 ≠ i) : Rel K P W F H σ (ρ.set i none) where
  fh := R.fh
  wh := R.wh
  len := by rw [List.length_set]; exact R.len
  cell := fun j c e => by
    rcases set_get e with ⟨rfl, z⟩ | ⟨hj, z⟩
    · cases z
    · exact R.cell j c z
  inj := fun j k c e a hjk h1 h2 o1 o2 s1 s2 => by
    rcases set_get h1 with ⟨rfl, z⟩ | ⟨hj, z⟩
    · cases z
    · rcases set_get h2 with ⟨rfl, z2⟩ | ⟨hk, z2⟩
      · cases z2
      · exact R.inj j k c e a hjk z z2 o1 o2 s1 s2
  pin := fun p q => by
    obtain ⟨h1, d', h2⟩ := R.pin p q
    exact ⟨h1, d', by rw [List.getElem?_set_ne (fun y => hp p q y.symm)]; exact h2⟩
  dis := R.dis
theorem ds_ret {e : Expr} {f : SemE} {pos : Pos} (he : DE X e f) : DS X (.Return (some e) pos) (sRet f) := by
  refine ⟨(ps_ret he.pe).pvi fun D σ H q => ?_⟩
  obtain ⟨P, W, F, ρ, o, R, e, q⟩ := q
  simp only [sRet, Option.bind_eq_some_iff, Prod.exists] at e
  obtain ⟨r, ρ1, e1, e2⟩ := e
  refine ⟨P, W, F, ρ, r, ρ1, R, e1, fun v H1 F1 x1 R1 o1 => ?_⟩
  cases r with
  | val d => cases e2; exact q v σ H1 F1 x1 R1 o1
  | fr d => cases e2; exact q v σ H1 F1 x1 R1 o1
  | «at» i =>
    simp only at e2
    split at e2
    · rename_i d hc
      cases e2
      obtain ⟨u, hu, hk⟩ := R1.cell i _ hc
      have hv : σ[i]? = some (some v) := o1
      rw [hv] at hu; cases hu
      have hp : ∀ p ∈ P, p.1 ≠ i := fun p hp z => by
        obtain ⟨_, d', h2⟩ := R1.pin p hp
        rw [z, hc] at h2; cases h2
      refine q v σ H1 F1 x1 (R1.clear hp) ⟨hk, fun j c e ow es => ?_⟩
      rcases set_get e with ⟨rfl, z⟩ | ⟨hj, z⟩
      · cases z
      · obtain ⟨a, ea, _⟩ := hk
        subst ea
        exact R1.inj j i c _ a hj z hc ow rfl es hv
    · rename_i d hc
      cases e2
      obtain ⟨u, hu, hk⟩ := R1.cell i _ hc
      have hv : σ[i]? = some (some v) := o1
      rw [hv] at hu; cases hu
      exact q v σ H1 F1 x1 R1 hk
    · cases e2
def sRetN : SemS := fun ρ => some (.rt (.val .none) ρ)
def sExpr (f : SemE) : SemS := fun ρ => (f ρ).bind fun (_, ρ1) => some (.nx ρ1)
theorem ds_expr {e : Expr} {f : SemE} {pos : Pos} (he : DE X e f) (hs : swapsWith e none pos.line X.env = pure false := by rfl) : DS X (.Expr e pos) (sExpr f) := by
  refine ⟨(ps_expr he.pe hs).pvi fun D σ H q => ?_⟩
  obtain ⟨P, W, F, ρ, o, R, e, q⟩ := q
  simp only [sExpr, Option.bind_eq_some_iff, Prod.exists] at e
  obtain ⟨r, ρ1, e1, e2⟩ := e
  cases e2
  exact ⟨P, W, F, ρ, r, ρ1, R, e1, fun v H1 F1 x1 R1 o1 => q σ H1 F1 x1 R1⟩
def sIfS (c : SemT) (f g : SemS) : SemS := fun ρ => (c ρ).bind fun (b, ρ1) => if b = true then f ρ1 else g ρ1
theorem ds_if {c : Expr} {a b : List Stmt} {h : SemT} {f g : SemS} {pos : Pos} (hc : DT X c h) (ha : DSs X a f) (hb : DSs X b g) : DS X (.If c a b pos) (sIfS h f g) := by
  refine ⟨(ps_if hc.pt ha.ps hb.ps).pvi fun D σ H q => ?_⟩
  obtain ⟨P, W, F, ρ, o, R, e, q⟩ := q
  simp only [sIfS, Option.bind_eq_some_iff, Prod.exists] at e
  obtain ⟨b, ρ1, e1, e2⟩ := e
  refine ⟨P, W, F, ρ, b, ρ1, R, e1, fun H1 F1 x1 R1 => ?_⟩
  cases b with
  | true =>
    simp only [if_true] at e2 ⊢
    exact ⟨P, W, F1, ρ1, o, R1, e2, q.ext x1⟩
  | false =>
    simp only [Bool.false_eq_true, if_false] at e2 ⊢
    exact ⟨P, W, F1, ρ1, o, R1, e2, q.ext x1⟩

def sWhile (c : SemT) (b : SemS) : Nat → SemS
  | 0 => fun _ => none
  | n + 1 => fun ρ => (c ρ).bind fun (k, ρ1) => if k = true then (b ρ1).bind fun o => (match o with
      | .nx ρ2 => sWhile c b n ρ2
      | .ct ρ2 => sWhile c b n ρ2
      | .bk ρ2 => some (.nx ρ2)
      | .rt r ρ2 => some (.rt r ρ2)) else some (.nx ρ1)
theorem ds_while {c : Expr} {body : List Stmt} {h : SemT} {f : SemS} {pos : Pos} {n : Nat} (hc : DT X c h) (hb : DSs X body f) (hp : PassesOwn (model X.prog X.w) X.A X.env X.xe) : DS X (.While c body [] pos) (sWhile h f n) := by
  refine ⟨(ps_while hp hc.pt hb.ps).pvi fun D σ H q => ?_⟩
  obtain ⟨P, W, F, ρ, o, R, e, q⟩ := q
  refine ⟨fun m σ H => ∃ F1 ρ1, Ext W F F1 ∧ Rel X.K P W F1 H σ ρ1 ∧ sWhile h f m ρ1 = some o, ⟨n, F, ρ, Ext.refl _ _, R, e⟩, ?_⟩
  rintro m σ H ⟨F1, ρ1, x1, R1, e1⟩
  cases m with
  | zero => cases e1
  | succ m =>
    simp only [sWhile, Option.bind_eq_some_iff, Prod.exists] at e1
    obtain ⟨k, ρ2, e2, e3⟩ := e1
    refine ⟨P, W, F1, ρ1, k, ρ2, R1, e2, fun H2 F2 x2 R2 => ?_⟩
    cases k with
    | false =>
      simp only [Bool.false_eq_true, if_false] at e3 ⊢
      cases e3
      exact q σ H2 F2 (x1.trans x2) R2
    | true =>
      simp only [if_true, Option.bind_eq_some_iff] at e3 ⊢
      obtain ⟨o1, e4, e5⟩ := e3
      refine ⟨fun σ' H' => ∃ F3 ρ3, Ext W F F3 ∧ Rel X.K P W F3 H' σ' ρ3 ∧ sWhile h f m ρ3 = some o, fun σ' H' w => ⟨m, Nat.lt_succ_self m, w⟩, P, W, F2, ρ2, o1, R2, e4, ?_⟩
      cases o1 with
      | nx ρ3 => exact fun σ3 H3 F3 x3 R3 => ⟨F3, ρ3, (x1.trans x2).trans x3, R3, e5⟩
      | ct ρ3 => exact fun σ3 H3 F3 x3 R3 => ⟨F3, ρ3, (x1.trans x2).trans x3, R3, e5⟩
      | bk ρ3 => cases e5; exact fun σ3 H3 F3 x3 R3 => q σ3 H3 F3 ((x1.trans x2).trans x3) R3
      | rt r ρ3 => cases e5; exact fun v σ3 H3 F3 x3 R3 o3 => q v σ3 H3 F3 ((x1.trans x2).trans x3) R3 o3

theorem RvOk.lessW {K : Fr'} {W W' F H : Hp} {σ : St} {ρ : Ro} {r : Rv} {v : V} (h : Same W W') (o : RvOk K W' F H σ ρ r v) : RvOk K W F H σ ρ r v := by
  cases r with
  | val d => exact o
  | «at» i => exact o
  | fr d =>
    obtain ⟨⟨a, ea, hw, q⟩, hn⟩ := o
    refine ⟨⟨a, ea, ?_, q⟩, hn⟩
    cases e : W a with
    | none => rfl
    | some u => rw [h a u e] at hw; cases hw
def SameZ (W H : Hp) : Prop := ∀ b o u, W b = some (.frz o u) → H b = some (.frz o u)
structure WalkD (K : Fr') (W F : Hp) (J : It) (ds : List D) : Prop where
  ex : ∃ G Y, Walk J ds.length G Y ∧ (∀ F' H, Same F F' → Le F' H → SameZ W H → G H) ∧
    ∀ (i : Nat) (d : D) (F' H H' : Hp) (x : V), Same F F' → Le F' H → ds[i]? = some d → Y i H x H' → ∃ F2, Grow F' H F2 H' ∧ Rp K F2 x d
abbrev SemI := Ro → Option (List D × Ro)
def tDI (K : Fr') (f : SemI) : TI := fun σ H R => ∃ P W F ρ ds ρ', Rel K P W F H σ ρ ∧ f ρ = some (ds, ρ') ∧ ∀ J H' W' F', Same W W' → Ext W F F' → Rel K P W' F' H' σ ρ' → WalkD K W' F' J ds → R J H'
structure DI (X : Cx) (tg iter : Expr) (f : SemI) : Prop where
  pi : PI X tg iter (tDI X.K f)
theorem _root_.L2.PI.pvi {X : Cx} {tg e : Expr} {t t' : TI} (h : PI X tg e t) (i : ∀ σ H Q, t' σ H Q → t σ H Q) : PI X tg e t' := ⟨fun pins s σ H Q I q => h.run pins s σ H Q I (i σ H Q q)⟩
def forL (g : SemG) (b : SemS) : List D → Ro → Option Out
  | [], ρ => some (.nx ρ)
  | d :: ds, ρ => (g d ρ).bind fun ρ1 => (b ρ1).bind fun o => (match o with
      | .nx ρ2 => forL g b ds ρ2
      | .ct ρ2 => forL g b ds ρ2
      | .bk ρ2 => some (.nx ρ2)
      | .rt r ρ2 => some (.rt r ρ2))
def sFor (it : SemI) (g : SemG) (b : SemS) : SemS := fun ρ => (it ρ).bind fun (ds, ρ1) => forL g b ds ρ1
theorem ds_for {tg iter : Expr} {body : List Stmt} {it : SemI} {g : SemG} {b : SemS} {vs : List Nat} {pos : Pos} (hi : DI X tg iter it) (hg : DG X tg vs g) (hb : DSs X body b) (hp : PassesOwn (model X.prog X.w) X.A X.env X.xe) (hc : X.calm = true)
    (hs : ∀ x, foldedSetIterable iter X.env x = pure x := by intro _; rfl) : DS X (.For tg iter body [] pos) (sFor it g b) := by
  refine ⟨(ps_for hp hc hi.pi hg.pg hb.ps hs).pvi fun D σ H q => ?_⟩
  obtain ⟨P, W, F, ρ, o, R, e, q⟩ := q
  simp only [sFor, Option.bind_eq_some_iff, Prod.exists] at e
  obtain ⟨ds, ρ1, e1, e2⟩ := e
  refine ⟨P, W, F, ρ, ds, ρ1, R, e1, fun J H1 W1 F1 sw x1 R1 w => ?_⟩
  obtain ⟨G, Y, w, hG, hY⟩ := w.ex
  refine for_it w (fun i σ H => ∃ F2 ρ2, Ext W1 F1 F2 ∧ Rel X.K P W1 F2 H σ ρ2 ∧ forL g b (ds.drop i) ρ2 = some o) ⟨F1, ρ1, Ext.refl _ _, R1, by simpa using e2⟩ (fun i σ H hi ⟨F2, ρ2, x2, R2, _⟩ => hG F2 H x2.same R2.fh fun b o u e => R2.wh b _ e) ?_ ?_
  · rintro i x σ H H' hi ⟨F2, ρ2, x2, R2, e3⟩ y
    have hd : ds[i]? = some ds[i] := List.getElem?_eq_getElem hi
    obtain ⟨F3, g3, rp⟩ := hY i _ F2 H H' x x2.same R2.fh hd y
    rw [List.drop_eq_getElem_cons hi] at e3
    simp only [forL, Option.bind_eq_some_iff] at e3
    obtain ⟨ρ3, e4, o1, e5, e6⟩ := e3
    have x3 := x2.trans (g3.ext R2.wh)
    refine ⟨P, W1, F3, ρ2, ds[i], ρ3, R2.grow g3, rp, e4, fun σ4 H4 F4 x4 R4 _ => ?_⟩
    refine ⟨P, W1, F4, ρ3, o1, R4, e5, ?_⟩
    cases o1 with
    | nx ρ5 => exact fun σ5 H5 F5 x5 R5 => ⟨F5, ρ5, (x3.trans x4).trans x5, R5, e6⟩
    | ct ρ5 => exact fun σ5 H5 F5 x5 R5 => ⟨F5, ρ5, (x3.trans x4).trans x5, R5, e6⟩
    | bk ρ5 => cases e6; exact fun σ5 H5 F5 x5 R5 => q σ5 H5 F5 (x1.trans ((x3.trans x4).trans x5 |>.less sw)) (R5.lessW sw)
    | rt r ρ5 => cases e6; exact fun v σ5 H5 F5 x5 R5 o5 => q v σ5 H5 F5 (x1.trans ((x3.trans x4).trans x5 |>.less sw)) (R5.lessW sw) (o5.lessW sw)
  · rintro σ H ⟨F2, ρ2, x2, R2, e3⟩
    rw [List.drop_length] at e3
    cases e3
    exact q σ H F2 (x1.trans (x2.less sw)) (R2.lessW sw)
def asL : D → Option (List D)
  | .list ds => some ds
  | _ => none
def asT : D → Option (List D)
  | .tuple ds => some ds
  | _ => none
def iL (f : SemE) : SemI := fun ρ => (f ρ).bind fun (r, ρ1) => (frz ρ1 r).bind fun (d, ρ2) => (asL d).bind fun ds => some (ds, ρ2)
def iT (f : SemE) : SemI := fun ρ => (f ρ).bind fun (r, ρ1) => (frz ρ1 r).bind fun (d, ρ2) => (asT d).bind fun ds => some (ds, ρ2)
theorem asL_eq {d : D} {b : List D} (h : asL d = some b) : d = .list b := by
  unfold asL at h
  split at h
  · cases h; rfl
  · cases h
theorem asT_eq {d : D} {b : List D} (h : asT d = some b) : d = .tuple b := by
  unfold asT at h
  split at h
  · cases h; rfl
  · cases h
theorem walkD_list {K : Fr'} {W F : Hp} {a : Addr} {xs : List V} {ds : List D} (s : F a = some (.lst xs)) (r : RpA K F xs ds) : WalkD K W F (Itl K a) ds := by
  refine ⟨_, _, r.length ▸ walk_list (K := K) (a := a) (xs := xs), fun F' H x l _ => .inl (.inl (l.lst (x _ _ s))), ?_⟩
  rintro i d F' H H' x sm l hd ⟨rfl, e⟩
  obtain ⟨v, hv, rp⟩ := r.get i d hd
  rw [e] at hv; cases hv
  exact ⟨F', Grow.refl l, rp.mono (Le.of sm)⟩
theorem walkD_tup {K : Fr'} {W F : Hp} {a : Addr} {xs : List V} {ds : List D} (s : SqT K F a xs) (r : RpA K F xs ds) : WalkD K W F (Itt K a) ds := by
  refine ⟨_, _, r.length ▸ walk_tup (K := K) (a := a) (xs := xs), fun F' H x l _ => l.sqt ((Le.of x).sqt s), ?_⟩
  rintro i d F' H H' x sm l hd ⟨rfl, e⟩
  obtain ⟨v, hv, rp⟩ := r.get i d hd
  rw [e] at hv; cases hv
  exact ⟨F', Grow.refl l, rp.mono (Le.of sm)⟩
theorem di_list {tg e : Expr} {f : SemE} (h : DE X e f) (p : PI X tg e (iList X.K (tD X.K f))) : DI X tg e (iL f) := by
  refine ⟨p.pvi fun σ H Q q => ?_⟩
  obtain ⟨P, W, F, ρ, ds, ρ', R, e, q⟩ := q
  simp only [iL, Option.bind_eq_some_iff, Prod.exists] at e
  obtain ⟨r, ρ1, e1, d, ρ2, e2, ds', e3, e4⟩ := e
  cases e4
  refine ⟨P, W, F, ρ, r, ρ1, R, e1, fun v H1 F1 x1 R1 o1 => ?_⟩
  obtain ⟨F2, x2, R2, rp⟩ := R1.frz o1 e2
  rw [asL_eq e3] at rp
  cases rp with
  | lst s r => exact ⟨_, rfl, ⟨_, .inl (.inl (R2.fh.lst s))⟩, q _ H1 W F2 (Same.refl W) (x1.trans x2) R2 (walkD_list s r)⟩
theorem di_tup {tg e : Expr} {f : SemE} (h : DE X e f) (p : PI X tg e (iTup X.K (tD X.K f))) : DI X tg e (iT f) := by
  refine ⟨p.pvi fun σ H Q q => ?_⟩
  obtain ⟨P, W, F, ρ, ds, ρ', R, e, q⟩ := q
  simp only [iT, Option.bind_eq_some_iff, Prod.exists] at e
  obtain ⟨r, ρ1, e1, d, ρ2, e2, ds', e3, e4⟩ := e
  cases e4
  refine ⟨P, W, F, ρ, r, ρ1, R, e1, fun v H1 F1 x1 R1 o1 => ?_⟩
  obtain ⟨F2, x2, R2, rp⟩ := R1.frz o1 e2
  rw [asT_eq e3] at rp
  cases rp with
  | tup s r => exact ⟨_, rfl, ⟨_, R2.fh.sqt s.1⟩, q _ H1 W F2 (Same.refl W) (x1.trans x2) R2 (walkD_tup s.1 r)⟩
def small62 (i : Int) : Bool := decide (-(2 ^ 62) ≤ i) && decide (i < 2 ^ 62)
def rng (lo : Int) (n : Nat) : List D := (List.range n).map fun i => .int (lo + (i : Nat))
def iR1 (f : SemP) : SemI := fun ρ => (f ρ).bind fun (rs, ρ1) => (looks ρ1 rs).bind fun ds => match ds with
  | [.int j] => if small62 j = true then some (rng 0 j.toNat, ρ1) else none
  | _ => none
def iR2 (f : SemP) : SemI := fun ρ => (f ρ).bind fun (rs, ρ1) => (looks ρ1 rs).bind fun ds => match ds with
  | [.int i, .int j] => if (small62 i && small62 j) = true then some (rng i (j - i).toNat, ρ1) else none
  | _ => none
theorem walkD_rng {K : Fr'} {W F : Hp} {lo : Int} {n : Nat} : WalkD K W F (Itr lo n) (rng lo n) := by
  have hl : (rng lo n).length = n := by unfold rng; rw [List.length_map, List.length_range]
  refine ⟨_, _, (by rw [hl]; exact walk_range (lo := lo) (n := n)), fun _ _ _ _ _ => trivial, ?_⟩
  rintro i d F' H H' x sm l hd ⟨rfl, e⟩
  subst e
  unfold rng at hd
  rw [List.getElem?_map] at hd
  cases hr : (List.range n)[i]? with
  | none => rw [hr] at hd; cases hd
  | some j =>
    rw [hr] at hd
    have hj : j = i := by
      rw [List.getElem?_eq_some_iff] at hr
      obtain ⟨h1, h2⟩ := hr
      rw [List.getElem_range] at h2
      exact h2.symm
    subst hj
    cases hd
    exact ⟨F', Grow.refl l, .int _⟩
theorem di_range1 {tg a : Expr} {f : SemP} {p0 pos : Pos} (h : DP X [a] f) (p : PI X tg (.Call (.Name "range" p0) [a] [] pos) (iRng1 (tDP X.K f))) : DI X tg (.Call (.Name "range" p0) [a] [] pos) (iR1 f) := by
  refine ⟨p.pvi fun σ H Q q => ?_⟩
  obtain ⟨P, W, F, ρ, ds, ρ', R, e, q⟩ := q
  simp only [iR1, Option.bind_eq_some_iff, Prod.exists] at e
  obtain ⟨rs, ρ1, e1, es, e2, e3⟩ := e
  split at e3
  · rename_i j
    split at e3
    · rename_i hj
      cases e3
      refine ⟨P, W, F, ρ, rs, _, R, e1, fun vs H1 F1 x1 R1 ls => ?_⟩
      have k := looks_ok ls e2
      cases k with
      | cons l t =>
        cases t
        rw [l.int]
        unfold small62 at hj
        simp only [Bool.and_eq_true, decide_eq_true_eq] at hj
        exact ⟨j, rfl, hj.1, hj.2, q _ H1 W F1 (Same.refl W) x1 R1 walkD_rng⟩
    · cases e3
  · cases e3
end
end Pv
end
section
set_option Elab.async false
set_option linter.all false
set_option maxRecDepth 100000
set_option maxHeartbeats 1000000
namespace Pv
open PySem PySem.Spec PyProof.Rows L2

theorem Ext.un {W F F' : Hp} {a : Addr} {o : HO} (x : Ext (upd W a o) F F') : Ext W F F' := ⟨x.same, fun b e => x.off b (by
  by_cases hb : b = a
  · subst hb; rw [upd_same]; exact fun z => nomatch z
  · rw [upd_ne hb]; exact e)⟩
theorem upd_none {W : Hp} {a b : Addr} {o : HO} (h : upd W a o b = none) : b ≠ a ∧ W b = none := by
  by_cases hb : b = a
  · subst hb; rw [upd_same] at h; cases h
  · rw [upd_ne hb] at h; exact ⟨hb, h⟩
section
variable {K : Fr'} {P : List (Nat × Addr)} {W F H F' H' : Hp} {σ σ' : St} {ρ ρ' : Ro} {v : V} {d : D} {r : Rv} {c : Cell} {a : Addr} {o : HO}
theorem CellOk.w {W1 : Hp} (h : CellOk K W F H c v) (k : ∀ b, W b = none → (∃ u, H b = some u) → W1 b = none) : CellOk K W1 F H c v := by
  cases c with
  | val d => exact h
  | own d => obtain ⟨b, e, hw, hf, q⟩ := h; exact ⟨b, e, k b hw q.mut.2, hf, q⟩
  | byr d => obtain ⟨b, e, hw, hf, q⟩ := h; exact ⟨b, e, k b hw q.mut.2, hf, q⟩
  | scr ds => exact h
theorem Rel.protect (R : Rel K P W F H σ ρ) (ha : H a = some o) (hfa : F a = none) (hn : ∀ (i : Nat) (c : Cell), ρ[i]? = some (some c) → c.owned = true → σ[i]? ≠ some (some (.ref a))) : Rel K P (upd W a o) F H σ ρ where
  fh := R.fh
  wh := fun b u e => by
    by_cases hb : b = a
    · subst hb; rw [upd_same] at e; cases e; exact ha
    · rw [upd_ne hb] at e; exact R.wh b u e
  len := R.len
  cell := fun i c e => by
    obtain ⟨v, hv, hk⟩ := R.cell i c e
    refine ⟨v, hv, ?_⟩
    cases c with
    | val d => exact hk
    | own d => obtain ⟨b, eb, hw, hf, q⟩ := hk; exact ⟨b, eb, by rw [upd_ne (fun z => hn i _ e rfl (by rw [hv, eb, z]))]; exact hw, hf, q⟩
    | byr d => obtain ⟨b, eb, hw, hf, q⟩ := hk; exact ⟨b, eb, by rw [upd_ne (fun z => hn i _ e rfl (by rw [hv, eb, z]))]; exact hw, hf, q⟩
    | scr ds => exact hk
  inj := R.inj
  pin := R.pin
  dis := fun b e => by
    by_cases hb : b = a
    · rw [hb]; exact .inl hfa
    · rw [upd_ne hb] at e ⊢; exact R.dis b e
theorem Rel.unprotect (R : Rel K P (upd W a o) F H σ ρ) (hw : W a = none) : Rel K P W F H σ ρ where
  fh := R.fh
  wh := fun b u e => R.wh b u (by rw [upd_ne (ne_of_none e hw)]; exact e)
  len := R.len
  cell := fun i c e => by
    obtain ⟨v, hv, hk⟩ := R.cell i c e
    exact ⟨v, hv, hk.w fun b hb _ => (upd_none hb).2⟩
  inj := R.inj
  pin := R.pin
  dis := fun b e => by
    have hb : b ≠ a := fun z => e (by rw [z]; exact hw)
    have := R.dis b (by rw [upd_ne hb]; exact e)
    rw [upd_ne hb] at this
    exact this
theorem Rel.noown (R : Rel K P (upd W a o) F H σ ρ) : ∀ (i : Nat) (c : Cell), ρ[i]? = some (some c) → c.owned = true → σ[i]? ≠ some (some (.ref a)) := fun i c e ow es => by
  obtain ⟨v, hv, hk⟩ := R.cell i c e
  rw [es] at hv; cases hv
  cases c with
  | val d => cases ow
  | own d => obtain ⟨b, eb, hw, _⟩ := hk; cases eb; exact (upd_none hw).1 rfl
  | byr d => obtain ⟨b, eb, hw, _⟩ := hk; cases eb; exact (upd_none hw).1 rfl
  | scr ds => cases ow
theorem Rel.kept {o' : HO} (R : Rel K P (upd W a o) F H σ ρ) (hf : F a = none) : Rel K P (upd W a o') F (upd H a o') σ ρ where
  fh := fun b u e => by
    rw [upd_ne (ne_of_none e hf)]; exact R.fh b u e
  wh := fun b u e => by
    by_cases hb : b = a
    · subst hb; rw [upd_same] at e ⊢; exact e
    · rw [upd_ne hb] at e ⊢; exact R.wh b u (by rw [upd_ne hb]; exact e)
  len := R.len
  cell := fun i c e => by
    obtain ⟨v, hv, hk⟩ := R.cell i c e
    refine ⟨v, hv, ?_⟩
    cases c with
    | val d => exact hk
    | own d =>
      obtain ⟨b, eb, hw, hfb, q⟩ := hk
      obtain ⟨h1, h2⟩ := upd_none hw
      exact ⟨b, eb, by rw [upd_ne h1]; exact h2, hfb, by rw [upd_ne h1]; exact q⟩
    | byr d =>
      obtain ⟨b, eb, hw, hfb, q⟩ := hk
      obtain ⟨h1, h2⟩ := upd_none hw
      exact ⟨b, eb, by rw [upd_ne h1]; exact h2, hfb, by rw [upd_ne h1]; exact q⟩
    | scr ds => exact hk
  inj := R.inj
  pin := R.pin
  dis := fun b e => by
    by_cases hb : b = a
    · rw [hb]; exact .inl hf
    · have := R.dis b (by rw [upd_ne hb] at e ⊢; exact e)
      rw [upd_ne hb] at this ⊢
      exact this
theorem Rel.slots (R : Rel K P W F H σ ρ) (hl : σ'.length = σ.length) (hs : ∀ (i : Nat) (c : Cell), ρ[i]? = some (some c) → σ'[i]? = σ[i]?) : Rel K P W F H σ' ρ where
  fh := R.fh
  wh := R.wh
  len := hl.trans R.len
  cell := fun i c e => by
    obtain ⟨v, hv, hk⟩ := R.cell i c e
    exact ⟨v, by rw [hs i c e]; exact hv, hk⟩
  inj := fun j k c e b hjk h1 h2 o1 o2 s1 s2 => R.inj j k c e b hjk h1 h2 o1 o2 (by rw [← hs j c h1]; exact s1) (by rw [← hs k e h2]; exact s2)
  pin := fun p q => by
    obtain ⟨h1, d', h2⟩ := R.pin p q
    exact ⟨by rw [hs _ _ h2]; exact h1, d', h2⟩
  dis := R.dis
theorem Rel.fewer (R : Rel K P W F H σ ρ) (hl : ρ'.length = ρ.length) (hs : ∀ (i : Nat) (c : Cell), ρ'[i]? = some (some c) → ρ[i]? = some (some c)) (hp : ∀ p ∈ P, ρ'[p.1]? = ρ[p.1]?) : Rel K P W F H σ ρ' where
  fh := R.fh
  wh := R.wh
  len := R.len.trans hl.symm
  cell := fun i c e => R.cell i c (hs i c e)
  inj := fun j k c e b hjk h1 h2 o1 o2 s1 s2 => R.inj j k c e b hjk (hs _ _ h1) (hs _ _ h2) o1 o2 s1 s2
  pin := fun p q => by
    obtain ⟨h1, d', h2⟩ := R.pin p q
    exact ⟨h1, d', by rw [hp p q]; exact h2⟩
  dis := R.dis
end
def wipeR (ρ : Ro) : List Nat → Ro
  | [] => ρ
  | v :: vs => (wipeR ρ vs).set v none
theorem wipeR_len (ρ : Ro) : ∀ vs, (wipeR ρ vs).length = ρ.length
  | [] => rfl
  | v :: vs => by unfold wipeR; rw [List.length_set, wipeR_len ρ vs]
theorem wipeR_in {ρ : Ro} {i : Nat} {c : Cell} : ∀ {vs : List Nat}, (wipeR ρ vs)[i]? = some (some c) → i ∉ vs ∧ ρ[i]? = some (some c)
  | [], h => ⟨List.not_mem_nil, h⟩
  | v :: vs, h => by
    unfold wipeR at h
    rcases set_get h with ⟨rfl, z⟩ | ⟨hj, z⟩
    · cases z
    · obtain ⟨h1, h2⟩ := wipeR_in z
      exact ⟨fun z => (List.mem_cons.mp z).elim hj h1, h2⟩
theorem wipeR_off {ρ : Ro} {i : Nat} : ∀ {vs : List Nat}, i ∉ vs → (wipeR ρ vs)[i]? = ρ[i]?
  | [], h => rfl
  | v :: vs, h => by
    unfold wipeR
    rw [List.getElem?_set_ne (fun z => h (by rw [z]; exact List.mem_cons_self)), wipeR_off (fun z => h (List.mem_cons_of_mem _ z))]
theorem wipe_off {σ : St} {i : Nat} : ∀ {vs : List Nat}, i ∉ vs → (wipe σ vs)[i]? = σ[i]?
  | [], h => rfl
  | v :: vs, h => by
    unfold wipe
    rw [List.getElem?_set_ne (fun z => h (by rw [z]; exact List.mem_cons_self)), wipe_off (fun z => h (List.mem_cons_of_mem _ z))]
theorem wipe_in {σ : St} {i : Nat} : ∀ {vs : List Nat}, i ∈ vs → i < σ.length → (wipe σ vs)[i]? = some none
  | [], h, _ => by cases h
  | v :: vs, h, hl => by
    unfold wipe
    by_cases hv : v = i
    · subst hv; rw [List.getElem?_set_self (by rw [wipe_length]; exact hl)]
    · rw [List.getElem?_set_ne hv]
      exact wipe_in ((List.mem_cons.mp h).elim (fun z => absurd z.symm hv) id) hl
theorem wipe_eq {σ σ' : St} {vs us : List Nat} (o : Off us σ σ') (hu : ∀ i ∈ us, i ∈ vs) : wipe σ' vs = wipe σ vs := by
  apply List.ext_getElem?
  intro i
  by_cases hi : i ∈ vs
  · by_cases hl : i < σ.length
    · rw [wipe_in hi hl, wipe_in hi (by rw [o.1]; exact hl)]
    · rw [List.getElem?_eq_none (by rw [wipe_length, o.1]; omega), List.getElem?_eq_none (by rw [wipe_length]; omega)]
  · rw [wipe_off hi, wipe_off hi]
    exact o.2 i fun z => hi (hu i z)
def clearAt (ρ : Ro) (vs : List Nat) : Bool := vs.all fun i => match ρ[i]? with
  | some (some _) => false
  | _ => true
theorem clear_at {ρ : Ro} {vs : List Nat} (h : clearAt ρ vs = true) {i : Nat} {c : Cell} (e : ρ[i]? = some (some c)) : i ∉ vs := fun z => by
  unfold clearAt at h
  rw [List.all_eq_true] at h
  have := h i z
  rw [e] at this
  cases this
theorem pin_off {K : Fr'} {P : List (Nat × Addr)} {W F H : Hp} {σ : St} {ρ : Ro} {vs : List Nat} (R : Rel K P W F H σ ρ) (h : clearAt ρ vs = true) : ∀ p ∈ P, p.1 ∉ vs := fun p hp => by
  obtain ⟨_, d, e⟩ := R.pin p hp
  exact clear_at h e

section
variable (g : SemG) (t : SemT) (el : SemE) (vs : List Nat)
def lcL : List D → Nat → Ro → Option (List D × Ro)
  | [], _, ρ => some ([], ρ)
  | d :: ds, n, ρ => (g d ρ).bind fun ρ1 => (t ρ1).bind fun (b, ρ2) => if b = true then (el ρ2).bind fun (r, ρ3) => (frz ρ3 r).bind fun (z, ρ4) => if n < sizeLine then (lcL ds (n + 1) (wipeR ρ4 vs)).bind fun (zs, ρ5) => some (z :: zs, ρ5) else none
    else lcL ds n (wipeR ρ2 vs)
def sLc (it : SemI) : SemE := fun ρ => (it ρ).bind fun (ds, ρ1) => if clearAt ρ1 vs = true then (lcL g t el vs ds 0 ρ1).bind fun (zs, ρ2) => some (.fr (.list zs), ρ2) else none
end
structure DTs (X : Cx) (ifs : List Expr) (f : SemT) : Prop where
  pt : PTs X ifs (tDT X.K f)
def sYes : SemT := fun ρ => some (true, ρ)
section
variable {X : Cx}
theorem dts_nil : DTs X [] sYes := ⟨⟨fun pins s σ H Q I ⟨P, W, F, ρ, b, ρ', R, e, q⟩ => pts_nil.run pins s σ H Q I (by cases e; exact q H F (Ext.refl _ _) R)⟩⟩
theorem dts_one {c : Expr} {f : SemT} (h : DT X c f) : DTs X [c] f := ⟨pts_one h.pt⟩
theorem Rel.wiped {K : Fr'} {P : List (Nat × Addr)} {W F H : Hp} {σ σ2 : St} {ρ : Ro} {vs : List Nat} (R : Rel K P W F H σ2 ρ) (hw : wipe σ2 vs = wipe σ vs) (hp : ∀ p ∈ P, p.1 ∉ vs) : Rel K P W F H σ (wipeR ρ vs) := by
  have hl : σ.length = σ2.length := by rw [← wipe_length σ vs, ← hw, wipe_length]
  refine (R.fewer (wipeR_len ρ vs) (fun i c e => (wipeR_in e).2) fun p q => wipeR_off (hp p q)).slots hl fun i c e => ?_
  have hi := (wipeR_in e).1
  rw [← wipe_off (σ := σ) hi, ← hw, wipe_off hi]
theorem wipe_wipe {σ : St} {vs : List Nat} : wipe (wipe σ vs) vs = wipe σ vs := by
  apply List.ext_getElem?
  intro i
  by_cases hi : i ∈ vs
  · by_cases hl : i < σ.length
    · rw [wipe_in hi hl, wipe_in hi (by rw [wipe_length]; exact hl)]
    · rw [List.getElem?_eq_none (by rw [wipe_length, wipe_length]; omega), List.getElem?_eq_none (by rw [wipe_length]; omega)]
  · rw [wipe_off hi]
theorem clear_wipeR {ρ : Ro} {vs : List Nat} : clearAt (wipeR ρ vs) vs = true := by
  unfold clearAt
  rw [List.all_eq_true]
  intro i hi
  split
  · rename_i c e
    exact absurd hi (wipeR_in e).1
  · rfl
theorem Rel.toWipe {K : Fr'} {P : List (Nat × Addr)} {W F H : Hp} {σ : St} {ρ : Ro} {vs : List Nat} (R : Rel K P W F H σ ρ) (h : clearAt ρ vs = true) : Rel K P W F H (wipe σ vs) ρ :=
  R.slots (wipe_length σ vs) fun i c e => wipe_off (clear_at h e)
theorem sLc_ok {K : Fr'} {it : SemI} {g : SemG} {t : SemT} {el : SemE} {us vs : List Nat} (hu : ∀ i ∈ us, i ∈ vs) {σ : St} {H : Hp} {Q : VK} (q : tD K (sLc g t el vs it) σ H Q) : tLc (tDI K it) (tDG K us g) (tDT K t) (tD K el) vs σ H Q := by
  obtain ⟨P, W, F, ρ, r, ρ', R, e, q⟩ := q
  simp only [sLc, Option.bind_eq_some_iff, Prod.exists] at e
  obtain ⟨ds, ρ1, e1, e2⟩ := e
  split at e2
  case isFalse => cases e2
  rename_i hclr
  simp only [Option.bind_eq_some_iff, Prod.exists] at e2
  obtain ⟨zs, ρ2, e2, e3⟩ := e2
  cases e3
  refine ⟨P, W, F, ρ, ds, ρ1, R, e1, fun J H1 W1 F1 sw x1 R1 w => ?_⟩
  intro D hD
  obtain ⟨G, Y, w, hG, hY⟩ := w.ex
  have hWD : W1 D = none := by
    cases e : W1 D with
    | none => rfl
    | some u => have := R1.wh D u e; rw [hD] at this; cases this
  have hFD := R1.fh.none hD
  have hp := pin_off R1 hclr
  refine lc_it w (fun i H => ∃ F2 ρ2 acc xs rest, Ext W1 F1 F2 ∧ Rel K P (upd W1 D (.lst xs)) F2 H σ ρ2 ∧ F2 D = none ∧ clearAt ρ2 vs = true ∧ RpA K F2 xs acc ∧ zs = acc ++ rest ∧ lcL g t el vs (ds.drop i) acc.length ρ2 = some (rest, ρ')) ?_ ?_ ?_ ?_
  · refine ⟨F1, ρ1, [], [], zs, Ext.refl _ _, ?_, hFD, hclr, .nil, rfl, by simpa using e2⟩
    have R2 := R1.grow (Grow.heap R1.fh hD (.lst []))
    refine R2.protect upd_same hFD fun i c e ow es => ?_
    obtain ⟨v, hv, hk⟩ := R1.cell i c e
    rw [es] at hv; cases hv
    cases c with
    | val d => cases ow
    | own d => obtain ⟨b, eb, _, _, o⟩ := hk; cases eb; rw [hD] at o; exact o
    | byr d => obtain ⟨b, eb, _, _, o⟩ := hk; cases eb; rw [hD] at o; exact o
    | scr ds => cases ow
  · rintro i H hi ⟨F2, ρ2, acc, xs, rest, x2, R2, _⟩
    exact hG F2 H x2.same R2.fh (fun b o u e => R2.wh b _ (by rw [upd_ne (ne_of_none e hWD)]; exact e))
  · rintro i x H H' hi ⟨F2, ρ2, acc, xs, rest, x2, R2, hFD2, hclr2, rxs, ez, e3⟩ y
    have hd : ds[i]? = some ds[i] := List.getElem?_eq_getElem hi
    obtain ⟨F3, g3, rp⟩ := hY i _ F2 H H' x x2.same R2.fh hd y
    rw [List.drop_eq_getElem_cons hi] at e3
    simp only [lcL, Option.bind_eq_some_iff, Prod.exists] at e3
    obtain ⟨ρ3, e4, b, ρ4, e5, e6⟩ := e3
    have R3 := (R2.grow g3).toWipe hclr2
    have x3 := g3.ext R2.wh
    refine ⟨P, _, F3, ρ2, ds[i], ρ3, R3, rp, e4, fun σ4 H4 F4 x4 R4 of4 => ?_⟩
    have hw4 : wipe σ4 vs = wipe σ vs := (wipe_eq of4 hu).trans wipe_wipe
    refine ⟨hw4, P, _, F4, ρ3, b, ρ4, R4, e5, fun H5 F5 x5 R5 => ?_⟩
    cases b with
    | false =>
      simp only [Bool.false_eq_true, if_false] at e6 ⊢
      have x25 := (x3.trans x4).trans x5
      refine ⟨F5, wipeR ρ4 vs, acc, xs, rest, (x2.trans x25.un), R5.wiped hw4 hp, ?_, clear_wipeR, rxs.mono (Le.of x25.same), ez, e6⟩
      rw [x25.off D (by rw [upd_same]; exact fun z => nomatch z)]; exact hFD2
    | true =>
      simp only [if_true, Option.bind_eq_some_iff, Prod.exists] at e6 ⊢
      obtain ⟨r, ρ5, e7, z, ρ6, e8, e9⟩ := e6
      split at e9
      case isFalse => cases e9
      rename_i hlen
      simp only [Option.bind_eq_some_iff, Prod.exists] at e9
      obtain ⟨zs', ρ7, e9, e10⟩ := e9
      cases e10
      refine ⟨P, _, F5, ρ4, r, ρ5, R5, e7, fun v H6 F6 x6 R6 o6 => ?_⟩
      obtain ⟨F7, x7, R7, rp7⟩ := R6.frz o6 e8
      have x27 := (((x3.trans x4).trans x5).trans x6).trans x7
      have hF7 : F7 D = none := by rw [x27.off D (by rw [upd_same]; exact fun z => nomatch z)]; exact hFD2
      refine ⟨xs, R7.wh D _ upd_same, by rw [rxs.length]; exact hlen, F7, wipeR ρ6 vs, acc ++ [z], xs ++ [v], zs', x2.trans x27.un, (R7.kept hF7).wiped hw4 hp, hF7, clear_wipeR, (rxs.mono (Le.of x27.same)).append (.cons rp7 .nil), by rw [ez, List.append_assoc]; rfl, by rw [List.length_append]; exact e9⟩
  · rintro H ⟨F2, ρ2, acc, xs, rest, x2, R2, hFD2, hclr2, rxs, ez, e3⟩
    rw [List.drop_length] at e3
    cases e3
    rw [List.append_nil] at ez
    subst ez
    have own : OwnO K F2 (H D) (.list zs) := by
      rw [R2.wh D _ upd_same]
      exact rxs
    exact q _ H F2 (x1.trans (x2.less sw)) ((R2.unprotect hWD).lessW sw) (RvOk.lessW sw (r := .fr _) ⟨⟨D, rfl, hWD, hFD2, own⟩, R2.noown⟩)
theorem de_lc {elt tg iter : Expr} {ifs : List Expr} {scope : Scope} {own : List (Str × Nat)} {pos : Pos} {it : SemI} {g : SemG} {t : SemT} {el : SemE} {us : List Nat} (hi : DI X tg iter it) (ok : BlkOk X.N X.env.scope scope own)
    (hg : ∀ (s : Shared) (H : Hp) (C : Addr) (cl : List (Str × Addr)) (fp : List Addr), DG (X.blk s H scope (compEnvC scope cl C X.env) fp) tg us g) (ht : ∀ (s : Shared) (H : Hp) (C : Addr) (cl : List (Str × Addr)) (fp : List Addr), DTs (X.blk s H scope (compEnvC scope cl C X.env) fp) ifs t)
    (he : ∀ (s : Shared) (H : Hp) (C : Addr) (cl : List (Str × Addr)) (fp : List Addr), DE (X.blk s H scope (compEnvC scope cl C X.env) fp) elt el) (hu : ∀ i ∈ us, i ∈ own.map (·.2)) (hc : X.calm = true) (hN : X.N.Nodup) (hs : ∀ x, foldedSetIterable iter X.env x = pure x := by intro _; rfl) :
    DE X (.ListComp elt [⟨tg, iter, ifs, 0⟩] scope pos) (sLc g t el (own.map (·.2)) it) := by
  refine ⟨(pe_lc (g := tDG X.K us g) (tt := tDT X.K t) (te := tD X.K el) hc hN hi.pi ok (fun s H C cl fp => (hg s H C cl fp).pg) (fun s H C cl fp => (ht s H C cl fp).pt) (fun s H C cl fp => (he s H C cl fp).pe) hs).pvi fun σ H Q q => sLc_ok hu q⟩
theorem ds_setLc {i : Nat} {y : Str} {py : Pos} {elt tg iter : Expr} {ifs : List Expr} {scope : Scope} {own : List (Str × Nat)} {pos spos : Pos} {it : SemI} {g : SemG} {t : SemT} {el : SemE} {us : List Nat} (hy : X.N[i]? = some y) (hyl : X.env.scope.names.lookup y = some .local)
    (hsw : swapsWith (.ListComp elt [⟨tg, iter, ifs, 0⟩] scope pos) (some (.Name y py)) spos.line X.env = pure true) (hi : DI X tg iter it) (ok : BlkOk X.N X.env.scope scope own)
    (hg : ∀ (s : Shared) (H : Hp) (C : Addr) (cl : List (Str × Addr)) (fp : List Addr), DG (X.blk s H scope (compEnvC scope cl C X.env) fp) tg us g) (ht : ∀ (s : Shared) (H : Hp) (C : Addr) (cl : List (Str × Addr)) (fp : List Addr), DTs (X.blk s H scope (compEnvC scope cl C X.env) fp) ifs t)
    (he : ∀ (s : Shared) (H : Hp) (C : Addr) (cl : List (Str × Addr)) (fp : List Addr), DE (X.blk s H scope (compEnvC scope cl C X.env) fp) elt el) (hu : ∀ i ∈ us, i ∈ own.map (·.2)) (hc : X.calm = true) (hN : X.N.Nodup) (hs : ∀ x, foldedSetIterable iter X.env x = pure x := by intro _; rfl) :
    DS X (.Assign [.Name y py] (.ListComp elt [⟨tg, iter, ifs, 0⟩] scope pos) spos) (sSet i (sLc g t el (own.map (·.2)) it)) :=
  ⟨(ps_setLc (g := tDG X.K us g) (tt := tDT X.K t) (te := tD X.K el) hc hN hy hyl hsw hi.pi ok (fun s H C cl fp => (hg s H C cl fp).pg) (fun s H C cl fp => (ht s H C cl fp).pt) (fun s H C cl fp => (he s H C cl fp).pe) hs).pvi fun D σ H q => sLc_ok hu (sSet_ok q)⟩
end
end Pv
end
section
set_option Elab.async false
set_option linter.all false
set_option maxRecDepth 100000
set_option maxHeartbeats 1000000
namespace Pv
open PySem PySem.Spec PyProof.Rows L2

inductive Md
  | v | r | s
  deriving DecidableEq
def rvals : List Md → List V → List V
  | .r :: ms, x :: vs => x :: rvals ms vs
  | .v :: ms, _ :: vs => rvals ms vs
  | .s :: ms, _ :: vs => rvals ms vs
  | _, _ => []
def ArgsOk (K : Fr') (W F H : Hp) : List Md → List V → List D → Prop
  | [], [], [] => True
  | .v :: ms, x :: vs, d :: ds => Rp K F x d ∧ ArgsOk K W F H ms vs ds
  | .r :: ms, x :: vs, d :: ds => OwnV K W F H x d ∧ x ∉ rvals ms vs ∧ ArgsOk K W F H ms vs ds
  | .s :: ms, x :: vs, d :: ds => (∃ es a xs, d = .list es ∧ x = .ref a ∧ SqL K F a xs ∧ RpA K F xs es) ∧ ArgsOk K W F H ms vs ds
  | _, _, _ => False
def cells : List Md → List D → Option Ro
  | [], [] => some []
  | .v :: ms, d :: ds => (cells ms ds).map (some (.val d) :: ·)
  | .r :: ms, d :: ds => (cells ms ds).map (some (.byr d) :: ·)
  | .s :: ms, .list es :: ds => (cells ms ds).map (some (.scr es) :: ·)
  | _, _ => none
def backsOf : List Md → Ro → Option (List D)
  | [], _ => some []
  | .r :: ms, some (.byr d) :: ρ => (backsOf ms ρ).map (d :: ·)
  | .v :: ms, _ :: ρ => backsOf ms ρ
  | .s :: ms, _ :: ρ => backsOf ms ρ
  | _, _ => none
def resOf : Rv → Option (D × Bool)
  | .val d => some (d, false)
  | .fr d => some (d, true)
  | .at _ => none
abbrev Fn := List D → Option ((D × Bool) × List D)
def endOf (ms : List Md) : Out → Option ((D × Bool) × List D)
  | .rt r ρ => (resOf r).bind fun z => (backsOf ms ρ).bind fun bs => some (z, bs)
  | .nx ρ => (backsOf ms ρ).bind fun bs => some ((.none, false), bs)
  | _ => none
def fnOf (n : Nat) (ms : List Md) (b : SemS) : Fn := fun ds => (cells ms ds).bind fun cs => (b (cs ++ List.replicate (n - ms.length) none)).bind (endOf ms)
def ResOk (K : Fr') (W F H : Hp) (rv : List V) : D × Bool → V → Prop
  | (z, false), v => Rp K F v z
  | (z, true), v => OwnV K W F H v z ∧ v ∉ rv
def spF (K : Fr') (ms : List Md) (fn : Fn) : Sp := fun vs H Q _ => ∃ W F ds z bs, Le F H ∧ Same W H ∧ Dis W F ∧ ArgsOk K W F H ms vs ds ∧ fn ds = some (z, bs) ∧
  ∀ v H' F', Ext W F F' → Le F' H' → Same W H' → Paired (OwnV K W F' H') (rvals ms vs) bs → ResOk K W F' H' (rvals ms vs) z v → Q v H'
structure FnG (P : Program) (w : World) (K : Fr') (mg : Str → Option Value) (base : Heap) (C : CXT) (k : Nat) (f : Addr) (fd : FuncData) (ps : List Str) (sp : Sp) : Prop where
  len : ∀ xs H Q E, sp xs H Q E → xs.length = ps.length
  run : ∀ (A : Around) (fs : List Env) (s : Shared) (H : Hp) (ar : Args) (us : List Value) (xs : List V) (Q : VK) (E : XK), Room k A → A.guards = some [] → Env0 P w K mg base A fs s H →
    BindsTo s fd ar (ps.zip us) → Vals xs us → sp xs H Q E → codeAny (model P w) A (.call (.ref f) ar) (CR C fs P w H s Q E) s
abbrev FnD (P : Program) (w : World) (K : Fr') (mg : Str → Option Value) (base : Heap) (k : Nat) (f : Addr) (fd : FuncData) (ps : List Str) (ms : List Md) (fn : Fn) : Prop := FnG P w K mg base CX0 k f fd ps (spF K ms fn)
theorem FnG.mono {P : Program} {w : World} {K : Fr'} {mg : Str → Option Value} {base : Heap} {C : CXT} {j k : Nat} {f : Addr} {fd : FuncData} {ps : List Str} {sp : Sp} (F : FnG P w K mg base C j f fd ps sp) (h : j ≤ k) : FnG P w K mg base C k f fd ps sp :=
  ⟨F.len, fun A fs s H ar us xs Q E r => F.run A fs s H ar us xs Q E (r.mono h)⟩
theorem fnG_of {C : CXT} {P : Program} {w : World} {K : Fr'} {mg : Str → Option Value} {base : Heap} {k : Nat} {f : Addr} {fd : FuncData} {x qual : Str} {st : Stmt} {N ps : List Str} {sp : Sp} (F : Fun K x qual st f fd) (S : FnScope N ps (defScope st))
    (len : ∀ xs H Q E, sp xs H Q E → xs.length = ps.length)
    (body : ∀ (cdv : Value) (A : Around) (fs : List Env) (s : Shared) (H : Hp) (xs : List V) (Q : VK) (E : XK), Room k (A.deeper (envOfC qual (defScope st) s.heap.objs.size f cdv)) → A.guards = some [] → sp xs H Q E →
      ∃ t, PSs (cxOf C P w K mg base N qual (defScope st) f cdv A fs s H E) (defBody st) t ∧ t { nx := fun _ H1 => Q .non H1, rt := Q } (L2.start N xs) H) :
    FnG P w K mg base C (k + 1) f fd ps sp := by
  obtain ⟨oc, od, kV, doc, pm, an, cdv, ct, osl, rfl, lk, cd⟩ := F.ex
  constructor
  · exact len
  intro A fs s H ar us xs Q E room gd env bnd vals prom
  have eqn := len _ _ _ _ prom
  have old : ∀ b o, base.get? b = some o → s.heap.get? b = some o := fun b o q => (env.bs b o q).1
  have KX := env.mod.kin.keeps old
  have nolim := env.mod.nolimit.keeps old
  refine codeAny_call_function room.depth (KX _ _ lk) rfl S.co S.gen rfl (PySem.W.codeRec_of KX cd) (bnd _ _ _ _ ?_)
  refine wpAny_newFunctionEnv_cells S.kind (fun y hy => ?_) fun env1 he s1 x1 => ?_
  · obtain ⟨n, v⟩ := y
    rcases S.par n (List.of_mem_zip hy).1 with q | q
    · exact Or.inl q
    · exact Or.inr ⟨q, PySem.W.cellsFrom_some _ _ _ (Or.inl q)⟩
  cases he
  refine ⟨nolim.keeps x1.toInCall.keep, codeAny_func ?_⟩
  obtain ⟨t, der, rd⟩ := body cdv A fs s H xs Q E (room.deeper _) gd prom
  refine wpAny_mono (der.run [] s1 _ H _ (inv_start S room.hd env eqn vals x1) rd) ?_ fun _ _ q => q
  intro fl s2 q
  cases fl with
  | next => obtain ⟨σ1, H1, J, q⟩ := q; exact ⟨.non, H1, J.os, J.bare, J.base, J.hok, rfl, q⟩
  | ret u => obtain ⟨v, σ1, H1, J, rv, q⟩ := q; exact ⟨v, H1, J.os, J.bare, J.base, J.hok, rv, q⟩
  | brk => obtain ⟨_, _, _, q⟩ := q; exact q.elim
  | cont => obtain ⟨_, _, _, q⟩ := q; exact q.elim
theorem run_g {X : Cx} {C : CXT} {k : Nat} {f : Addr} {fd : FuncData} {ps : List Str} {sp : Sp} {E : XK} {pins : List (Addr × Obj)} {σ : L2.St} {H : Hp} {s : Shared} {Q : VK} {us ds : List Value} {xs dvs : List V} (F : FnG X.prog X.w X.K X.mg X.base C k f fd ps sp)
    (room : Room k X.A) (gd : X.A.guards = some []) (bnd : Binds X.K fd ps ds) (dv : Vals dvs ds) (pass : Passes C X E) (I : Inv X pins σ H s) (vals : Vals xs us) (prom : sp (xs ++ dvs) H Q E) : wpAny (model X.prog X.w) X.A (call (.ref f) us) (EP X pins σ Q) X.xe s := by
  have both : Vals (xs ++ dvs) (us ++ ds) := vals.append dv
  have eqn : (us ++ ds).length = ps.length := (both.length).symm.trans (F.len _ _ _ _ prom)
  refine wpAny_call (codeAny_mono (F.run X.A X.stack s H ⟨us, []⟩ _ _ Q E room gd I.env0 (bnd s us I.kIn eqn) both prom) ?_)
  intro r s1 q
  cases r with
  | error e => exact pass pins σ H s e s1 I q
  | ok fl => cases fl with
    | ret u => exact I.after q
    | next => exact q.elim
    | brk => exact q.elim
    | cont => exact q.elim
theorem pe_callG {X : Cx} {C : CXT} {k : Nat} {f : Addr} {fd : FuncData} {ps : List Str} {sp : Sp} {E : XK} {ds : List Value} {dvs : List V} {x : Str} {e : Expr} {es : List Expr} {p pos : Pos} {t : TA} (F : FnG X.prog X.w X.K X.mg X.base C k f fd ps sp)
    (room : Room k X.A) (gd : X.A.guards = some []) (gl : Gl X x) (hm : X.mg x = some (.ref f)) (kp : PySem.W.keepIn X.K (.ref f) = true) (bnd : Binds X.K fd ps ds) (dv : Vals dvs ds) (pass : Passes C X E) (pa : PA X (e :: es) t)
    (hdb : (x == ("__debug__" : Str)) = false) (st : starEach (e :: es) X.env = (false, eval e X.env) :: starEach es X.env) (pl : (backTo pos (starEach es X.env)).any (·.1) = false) :
    PE X (.Call (.Name x p) (e :: es) [] pos) (tCall sp dvs E t) := by
  constructor
  intro pins s σ H Q I h
  refine wpAny_Call_Name_kw (ld_glob I gl hm ?_ hdb)
  refine PySem.W.callWith_K (h₀ := X.base) I.ok.mod.kin kp (thn (pa.run pos pins s σ H _ I h) ?_) st pl
  rintro us s1 ⟨xs, H1, I1, r, q⟩
  exact ⟨I1.kIn, run_g F room gd bnd dv pass I1 r q⟩
section
variable {K : Fr'} {W F H : Hp}
theorem args_len : ∀ {ms : List Md} {vs : List V} {ds : List D}, ArgsOk K W F H ms vs ds → vs.length = ms.length
  | [], [], [], _ => rfl
  | .v :: ms, x :: vs, d :: ds, h => congrArg (· + 1) (args_len h.2)
  | .r :: ms, x :: vs, d :: ds, h => congrArg (· + 1) (args_len h.2.2)
  | .s :: ms, x :: vs, d :: ds, h => congrArg (· + 1) (args_len h.2)
theorem cells_len : ∀ {ms : List Md} {ds : List D} {cs : Ro}, cells ms ds = some cs → cs.length = ms.length
  | [], [], cs, h => by cases h; rfl
  | .v :: ms, d :: ds, cs, h => by
    simp only [cells, Option.map_eq_some_iff] at h
    obtain ⟨c, h1, rfl⟩ := h
    exact congrArg (· + 1) (cells_len h1)
  | .r :: ms, d :: ds, cs, h => by
    simp only [cells, Option.map_eq_some_iff] at h
    obtain ⟨c, h1, rfl⟩ := h
    exact congrArg (· + 1) (cells_len h1)
  | .s :: ms, .list es :: ds, cs, h => by
    simp only [cells, Option.map_eq_some_iff] at h
    obtain ⟨c, h1, rfl⟩ := h
    exact congrArg (· + 1) (cells_len h1)
theorem args_cell : ∀ {ms : List Md} {vs : List V} {ds : List D} {cs : Ro}, ArgsOk K W F H ms vs ds → cells ms ds = some cs → ∀ (i : Nat) (c : Cell), cs[i]? = some (some c) → ∃ v, vs[i]? = some v ∧ CellOk K W F H c v ∧ (c.owned = true → v ∈ rvals ms vs)
  | [], [], [], cs, _, h, i, c, e => by cases h; simp at e
  | .v :: ms, x :: vs, d :: ds, cs, a, h, i, c, e => by
    simp only [cells, Option.map_eq_some_iff] at h
    obtain ⟨cs', h1, rfl⟩ := h
    cases i with
    | zero => simp at e; subst e; exact ⟨x, rfl, a.1, fun z => by cases z⟩
    | succ i =>
      obtain ⟨v, h2, h3, h4⟩ := args_cell a.2 h1 i c (by simpa using e)
      exact ⟨v, by simpa using h2, h3, h4⟩
  | .r :: ms, x :: vs, d :: ds, cs, a, h, i, c, e => by
    simp only [cells, Option.map_eq_some_iff] at h
    obtain ⟨cs', h1, rfl⟩ := h
    cases i with
    | zero => simp at e; subst e; exact ⟨x, rfl, a.1, fun _ => List.mem_cons_self⟩
    | succ i =>
      obtain ⟨v, h2, h3, h4⟩ := args_cell a.2.2 h1 i c (by simpa using e)
      exact ⟨v, by simpa using h2, h3, fun z => List.mem_cons_of_mem _ (h4 z)⟩
  | .s :: ms, x :: vs, .list es :: ds, cs, a, h, i, c, e => by
    simp only [cells, Option.map_eq_some_iff] at h
    obtain ⟨cs', h1, rfl⟩ := h
    cases i with
    | zero =>
      simp at e; subst e
      obtain ⟨⟨es', b, xs, z, e2, s, r⟩, _⟩ := a
      cases z
      exact ⟨x, rfl, ⟨b, xs, e2, s, r⟩, fun z => by cases z⟩
    | succ i =>
      obtain ⟨v, h2, h3, h4⟩ := args_cell a.2 h1 i c (by simpa using e)
      exact ⟨v, by simpa using h2, h3, h4⟩
theorem args_inj : ∀ {ms : List Md} {vs : List V} {ds : List D} {cs : Ro}, ArgsOk K W F H ms vs ds → cells ms ds = some cs → ∀ (i j : Nat) (c e : Cell) (v : V), i < j → cs[i]? = some (some c) → cs[j]? = some (some e) → c.owned = true → e.owned = true → vs[i]? = some v → vs[j]? = some v → False
  | [], [], [], cs, _, h, i, j, c, e, v, _, e1, _, _, _, _, _ => by cases h; simp at e1
  | .v :: ms, x :: vs, d :: ds, cs, a, h, i, j, c, e, v, hij, e1, e2, o1, o2, s1, s2 => by
    simp only [cells, Option.map_eq_some_iff] at h
    obtain ⟨cs', h1, rfl⟩ := h
    cases i with
    | zero => simp at e1; subst e1; cases o1
    | succ i =>
      cases j with
      | zero => omega
      | succ j => exact args_inj a.2 h1 i j c e v (by omega) (by simpa using e1) (by simpa using e2) o1 o2 (by simpa using s1) (by simpa using s2)
  | .r :: ms, x :: vs, d :: ds, cs, a, h, i, j, c, e, v, hij, e1, e2, o1, o2, s1, s2 => by
    simp only [cells, Option.map_eq_some_iff] at h
    obtain ⟨cs', h1, rfl⟩ := h
    cases j with
    | zero => omega
    | succ j =>
      cases i with
      | zero =>
        simp at s1; subst s1
        obtain ⟨v', h2, _, h4⟩ := args_cell a.2.2 h1 j e (by simpa using e2)
        have : vs[j]? = some x := by simpa using s2
        rw [this] at h2; cases h2
        exact a.2.1 (h4 o2)
      | succ i => exact args_inj a.2.2 h1 i j c e v (by omega) (by simpa using e1) (by simpa using e2) o1 o2 (by simpa using s1) (by simpa using s2)
  | .s :: ms, x :: vs, .list es :: ds, cs, a, h, i, j, c, e, v, hij, e1, e2, o1, o2, s1, s2 => by
    simp only [cells, Option.map_eq_some_iff] at h
    obtain ⟨cs', h1, rfl⟩ := h
    cases i with
    | zero => simp at e1; subst e1; cases o1
    | succ i =>
      cases j with
      | zero => omega
      | succ j => exact args_inj a.2 h1 i j c e v (by omega) (by simpa using e1) (by simpa using e2) o1 o2 (by simpa using s1) (by simpa using s2)
def pinsOf : Nat → List Md → List V → List (Nat × Addr)
  | i, .r :: ms, .ref a :: vs => (i, a) :: pinsOf (i + 1) ms vs
  | i, .r :: ms, _ :: vs => pinsOf (i + 1) ms vs
  | i, .v :: ms, _ :: vs => pinsOf (i + 1) ms vs
  | i, .s :: ms, _ :: vs => pinsOf (i + 1) ms vs
  | _, _, _ => []
theorem args_pin : ∀ {ms : List Md} {vs : List V} {ds : List D} {cs : Ro} (k : Nat), ArgsOk K W F H ms vs ds → cells ms ds = some cs → ∀ p ∈ pinsOf k ms vs, ∃ i, p.1 = k + i ∧ vs[i]? = some (.ref p.2) ∧ ∃ d, cs[i]? = some (some (.byr d))
  | [], [], [], cs, k, _, h, p, hp => by cases hp
  | .v :: ms, x :: vs, d :: ds, cs, k, a, h, p, hp => by
    simp only [cells, Option.map_eq_some_iff] at h
    obtain ⟨cs', h1, rfl⟩ := h
    obtain ⟨i, e1, e2, d', e3⟩ := args_pin (k + 1) a.2 h1 p (by simpa [pinsOf] using hp)
    exact ⟨i + 1, by omega, by simpa using e2, d', by simpa using e3⟩
  | .r :: ms, x :: vs, d :: ds, cs, k, a, h, p, hp => by
    simp only [cells, Option.map_eq_some_iff] at h
    obtain ⟨cs', h1, rfl⟩ := h
    obtain ⟨b, rfl, _⟩ := a.1
    simp only [pinsOf, List.mem_cons] at hp
    rcases hp with rfl | hp
    · exact ⟨0, rfl, rfl, d, rfl⟩
    · obtain ⟨i, e1, e2, d', e3⟩ := args_pin (k + 1) a.2.2 h1 p hp
      exact ⟨i + 1, by omega, by simpa using e2, d', by simpa using e3⟩
  | .s :: ms, x :: vs, .list es :: ds, cs, k, a, h, p, hp => by
    simp only [cells, Option.map_eq_some_iff] at h
    obtain ⟨cs', h1, rfl⟩ := h
    obtain ⟨i, e1, e2, d', e3⟩ := args_pin (k + 1) a.2 h1 p (by simpa [pinsOf] using hp)
    exact ⟨i + 1, by omega, by simpa using e2, d', by simpa using e3⟩
theorem get_pad {α : Type} {l : List α} {k i : Nat} {c : α} (h : (l.map some ++ List.replicate k none)[i]? = some (some c)) : l[i]? = some c := by
  rw [List.getElem?_append] at h
  split at h
  · rw [List.getElem?_map] at h
    cases e : l[i]? with
    | none => rw [e] at h; cases h
    | some z => rw [e] at h; simpa using h
  · rw [List.getElem?_replicate] at h
    split at h
    · cases h
    · cases h
theorem get_padR {l : Ro} {k i : Nat} {c : Cell} (h : (l ++ List.replicate k none)[i]? = some (some c)) : l[i]? = some (some c) := by
  rw [List.getElem?_append] at h
  split at h
  · exact h
  · rw [List.getElem?_replicate] at h
    split at h
    · cases h
    · cases h
theorem pad_get {α : Type} {l : List α} {k i : Nat} {c : α} (h : l[i]? = some c) : (l.map some ++ List.replicate k none)[i]? = some (some c) := by
  have hl := (List.getElem?_eq_some_iff.mp h).1
  rw [List.getElem?_append_left (by rw [List.length_map]; exact hl), List.getElem?_map, h]
  rfl
theorem pad_getR {l : Ro} {k i : Nat} {c : Option Cell} (h : l[i]? = some c) : (l ++ List.replicate k none)[i]? = some c := by
  have hl := (List.getElem?_eq_some_iff.mp h).1
  rw [List.getElem?_append_left hl, h]
theorem rel_start {ms : List Md} {vs : List V} {ds : List D} {cs : Ro} {k : Nat} (hF : Le F H) (hW : Same W H) (hD : Dis W F) (a : ArgsOk K W F H ms vs ds) (h : cells ms ds = some cs) :
    Rel K (pinsOf 0 ms vs) W F H (vs.map some ++ List.replicate k none) (cs ++ List.replicate k none) where
  fh := hF
  wh := hW
  len := by rw [List.length_append, List.length_append, List.length_map, args_len a, cells_len h, List.length_replicate, List.length_replicate]
  cell := fun i c e => by
    obtain ⟨v, h1, h2, _⟩ := args_cell a h i c (get_padR e)
    exact ⟨v, pad_get h1, h2⟩
  inj := fun i j c e b hij h1 h2 o1 o2 s1 s2 => by
    rcases Nat.lt_or_gt_of_ne hij with q | q
    · exact args_inj a h i j c e _ q (get_padR h1) (get_padR h2) o1 o2 (get_pad s1) (get_pad s2)
    · exact args_inj a h j i e c _ q (get_padR h2) (get_padR h1) o2 o1 (get_pad s2) (get_pad s1)
  pin := fun p hp => by
    obtain ⟨i, e1, e2, d, e3⟩ := args_pin 0 a h p hp
    have : p.1 = i := by omega
    rw [this]
    exact ⟨pad_get e2, d, pad_getR e3⟩
  dis := hD
theorem backs_ok {P : List (Nat × Addr)} {F' H' : Hp} {σ : St} {ρ : Ro} (R : Rel K P W F' H' σ ρ) : ∀ {ms : List Md} {vs : List V} {ds bs : List D} (k : Nat), ArgsOk K W F H ms vs ds → (∀ p ∈ pinsOf k ms vs, p ∈ P) → backsOf ms (ρ.drop k) = some bs → Paired (OwnV K W F' H') (rvals ms vs) bs
  | [], [], [], bs, k, _, _, e => by cases e; exact .nil
  | .v :: ms, x :: vs, d :: ds, bs, k, a, hp, e => by
    cases q : ρ.drop k with
    | nil => rw [q] at e; cases e
    | cons c r =>
      rw [q] at e
      have hd : ρ.drop (k + 1) = r := by rw [← List.drop_drop, q]; rfl
      exact backs_ok R (ms := ms) (k + 1) a.2 (fun p z => hp p (by simpa [pinsOf] using z)) (by rw [hd]; exact e)
  | .s :: ms, x :: vs, d :: ds, bs, k, a, hp, e => by
    cases q : ρ.drop k with
    | nil => rw [q] at e; cases e
    | cons c r =>
      rw [q] at e
      have hd : ρ.drop (k + 1) = r := by rw [← List.drop_drop, q]; rfl
      exact backs_ok R (ms := ms) (k + 1) a.2 (fun p z => hp p (by simpa [pinsOf] using z)) (by rw [hd]; exact e)
  | .r :: ms, x :: vs, d :: ds, bs, k, a, hp, e => by
    obtain ⟨b, rfl, _⟩ := a.1
    cases q : ρ.drop k with
    | nil => rw [q] at e; cases e
    | cons c r =>
      rw [q] at e
      have hd : ρ.drop (k + 1) = r := by rw [← List.drop_drop, q]; rfl
      have hk : ρ[k]? = some c := by
        have : (ρ.drop k)[0]? = some c := by rw [q]; rfl
        rwa [List.getElem?_drop] at this
      obtain ⟨h1, d', h2⟩ := R.pin (k, b) (hp _ (by simp [pinsOf]))
      simp only at h1 h2
      rw [hk] at h2
      cases h2
      simp only [backsOf, Option.map_eq_some_iff] at e
      obtain ⟨bs', e1, rfl⟩ := e
      obtain ⟨v, hv, hc⟩ := R.cell k _ hk
      rw [h1] at hv; cases hv
      exact .cons hc (backs_ok R (k + 1) a.2.2 (fun p z => hp p (by simp only [pinsOf, List.mem_cons]; exact .inr z)) (by rw [hd]; exact e1))
theorem rvals_pin : ∀ {ms : List Md} {vs : List V} {ds : List D} {v : V} (k : Nat), ArgsOk K W F H ms vs ds → v ∈ rvals ms vs → ∃ a i, v = .ref a ∧ (i, a) ∈ pinsOf k ms vs
  | [], [], [], v, k, _, h => by cases h
  | .v :: ms, x :: vs, d :: ds, v, k, a, h => by
    obtain ⟨b, i, e, m⟩ := rvals_pin (k + 1) a.2 h
    exact ⟨b, i, e, by simpa [pinsOf] using m⟩
  | .s :: ms, x :: vs, d :: ds, v, k, a, h => by
    obtain ⟨b, i, e, m⟩ := rvals_pin (k + 1) a.2 h
    exact ⟨b, i, e, by simpa [pinsOf] using m⟩
  | .r :: ms, x :: vs, d :: ds, v, k, a, h => by
    obtain ⟨b, rfl, _⟩ := a.1
    rcases List.mem_cons.mp h with rfl | h
    · exact ⟨b, k, rfl, by simp [pinsOf]⟩
    · obtain ⟨c, i, e, m⟩ := rvals_pin (k + 1) a.2.2 h
      exact ⟨c, i, e, by simp only [pinsOf, List.mem_cons]; exact .inr m⟩
end

section
variable {P : Program} {w : World} {K : Fr'} {mg : Str → Option Value} {base : Heap}
theorem fnD_of {x qual : Str} {st : Stmt} {f : Addr} {fd : FuncData} {N ps : List Str} {k : Nat} {ms : List Md} {b : SemS} (F : Fun K x qual st f fd) (S : FnScope N ps (defScope st)) (hl : ps.length = ms.length)
    (hbody : ∀ (cdv : Value) (A : Around) (outer : List Env) (s : Shared) (H : Hp) (E : XK), Room k (A.deeper (envOfC qual (defScope st) s.heap.objs.size f cdv)) → A.guards = some [] → DSs (cxOf CX0 P w K mg base N qual (defScope st) f cdv A outer s H E).nox (defBody st) b) :
    FnD P w K mg base (k + 1) f fd ps ms (fnOf N.length ms b) := by
  refine fnG_of F S (fun vs H Q E h => ?_) (fun cdv A outer s H vs Q E hr gd h => ?_)
  · obtain ⟨W, F', ds, z, bs, _, _, _, a, _⟩ := h
    rw [args_len a, hl]
  refine ⟨_, (hbody cdv A outer s H E hr gd).ps.nox, ?_⟩
  obtain ⟨W, F', ds, z, bs, hF, hW, hD, a, e, q⟩ := h
  simp only [fnOf, Option.bind_eq_some_iff] at e
  obtain ⟨cs, e1, o, e2, e3⟩ := e
  have R0 := rel_start (k := N.length - ms.length) hF hW hD a e1
  refine ⟨pinsOf 0 ms vs, W, F', _, o, ?_, e2, ?_⟩
  · show Rel K _ W F' H (L2.start N vs) _
    unfold L2.start
    rw [args_len a]
    exact R0
  · cases o with
    | bk ρ => cases e3
    | ct ρ => cases e3
    | nx ρ =>
      simp only [endOf, Option.bind_eq_some_iff] at e3
      obtain ⟨bs', e4, e5⟩ := e3
      cases e5
      exact fun σ H1 F1 x1 R1 => q _ H1 F1 x1 R1.fh R1.wh (backs_ok R1 0 a (fun p hp => hp) e4) .non
    | rt r ρ =>
      simp only [endOf, Option.bind_eq_some_iff] at e3
      obtain ⟨z', e4, bs', e5, e6⟩ := e3
      cases e6
      refine fun v σ H1 F1 x1 R1 o1 => q v H1 F1 x1 R1.fh R1.wh (backs_ok R1 0 a (fun p hp => hp) e5) ?_
      cases r with
      | val d => cases e4; exact o1
      | «at» i => cases e4
      | fr d =>
        cases e4
        refine ⟨o1.1, fun hm => ?_⟩
        obtain ⟨b, i, rfl, hp⟩ := rvals_pin 0 a hm
        obtain ⟨h1, d', h2⟩ := R1.pin _ hp
        exact o1.2 i _ h2 rfl h1
end

abbrev SemM := Ro → Option (List Rv × Ro)
def frV : List Md → List Rv → List V → List V
  | .r :: ms, .fr _ :: rs, v :: vs => v :: frV ms rs vs
  | _ :: ms, _ :: rs, _ :: vs => frV ms rs vs
  | _, _, _ => []
def MOk (K : Fr') (W F H : Hp) (σ : St) (ρ : Ro) : List Md → List Rv → List V → Prop
  | [], [], [] => True
  | .v :: ms, .val d :: rs, v :: vs => Rp K F v d ∧ MOk K W F H σ ρ ms rs vs
  | .r :: ms, .at i :: rs, v :: vs => σ[i]? = some (some v) ∧ MOk K W F H σ ρ ms rs vs
  | .r :: ms, .fr d :: rs, v :: vs => OwnV K W F H v d ∧ (∀ (i : Nat) (c : Cell), ρ[i]? = some (some c) → c.owned = true → σ[i]? ≠ some (some v)) ∧ v ∉ frV ms rs vs ∧ MOk K W F H σ ρ ms rs vs
  | .s :: ms, .at i :: rs, v :: vs => σ[i]? = some (some v) ∧ MOk K W F H σ ρ ms rs vs
  | _, _, _ => False
def tDM (K : Fr') (ms : List Md) (f : SemM) : TA := fun σ H Q => ∃ P W F ρ rs ρ', Rel K P W F H σ ρ ∧ f ρ = some (rs, ρ') ∧ ∀ vs H' F', Ext W F F' → Rel K P W F' H' σ ρ' → (MOk K W F' H' σ ρ' ms rs vs) → Q vs H'
structure DM (X : Cx) (es : List Expr) (ms : List Md) (f : SemM) : Prop where
  pa : PA X es (tDM X.K ms f)
def mNil : SemM := fun ρ => some ([], ρ)
def mV (f : SemE) (g : SemM) : SemM := fun ρ => (f ρ).bind fun (r, ρ1) => (frz ρ1 r).bind fun (d, ρ2) => (g ρ2).bind fun (rs, ρ3) => some (.val d :: rs, ρ3)
def mR (f : SemE) (g : SemM) : SemM := fun ρ => (f ρ).bind fun (r, ρ1) => match r with
  | .val _ => none
  | r => (g ρ1).bind fun (rs, ρ3) => some (r :: rs, ρ3)
def mS (i : Nat) (g : SemM) : SemM := fun ρ => match ρ[i]? with
  | some (some (.scr _)) => (g ρ).bind fun (rs, ρ3) => some (.at i :: rs, ρ3)
  | _ => none
section
variable {X : Cx}
theorem dm_nil : DM X [] [] mNil := by
  refine ⟨pa_nil.pvi fun σ H Q q => ?_⟩
  obtain ⟨P, W, F, ρ, r, ρ', R, e, q⟩ := q
  cases e
  exact q [] H F (Ext.refl _ _) R trivial
theorem dm_v {e : Expr} {es : List Expr} {f : SemE} {ms : List Md} {g : SemM} (a : DE X e f) (b : DM X es ms g) (hs : starEach (e :: es) X.env = (false, eval e X.env) :: starEach es X.env := by rfl) : DM X (e :: es) (.v :: ms) (mV f g) := by
  refine ⟨(pa_cons a.pe b.pa hs).pvi fun σ H Q q => ?_⟩
  obtain ⟨P, W, F, ρ, ds, ρ', R, e, q⟩ := q
  simp only [mV, Option.bind_eq_some_iff, Prod.exists] at e
  obtain ⟨r, ρ1, e1, d, ρ2, e2, ds', ρ3, e3, e4⟩ := e
  cases e4
  refine ⟨P, W, F, ρ, r, ρ1, R, e1, fun v H1 F1 x1 R1 o1 => ?_⟩
  obtain ⟨F2, x2, R2, rp⟩ := R1.frz o1 e2
  refine ⟨P, W, F2, ρ2, ds', ρ', R2, e3, fun vs H3 F3 x3 R3 rs => ?_⟩
  exact q _ H3 F3 ((x1.trans x2).trans x3) R3 ⟨rp.mono (Le.of x3.same), rs⟩
theorem MOk.w {K : Fr'} {W W1 F H : Hp} {σ : St} {ρ : Ro} (h : ∀ a, W1 a = none → W a = none) : ∀ {ms : List Md} {rs : List Rv} {vs : List V}, MOk K W1 F H σ ρ ms rs vs → MOk K W F H σ ρ ms rs vs
  | [], [], [], _ => trivial
  | .v :: ms, .val d :: rs, v :: vs, a => ⟨a.1, MOk.w h a.2⟩
  | .r :: ms, .at i :: rs, v :: vs, a => ⟨a.1, MOk.w h a.2⟩
  | .r :: ms, .fr d :: rs, v :: vs, a => by
    obtain ⟨⟨b, e, hw, q⟩, h2, h3, h4⟩ := a
    exact ⟨⟨b, e, h b hw, q⟩, h2, h3, MOk.w h h4⟩
  | .s :: ms, .at i :: rs, v :: vs, a => ⟨a.1, MOk.w h a.2⟩
def mData (ρ : Ro) : List Md → List Rv → Option (List D)
  | [], [] => some []
  | .v :: ms, .val d :: rs => (mData ρ ms rs).map (d :: ·)
  | .r :: ms, .at i :: rs => (match ρ[i]? with
    | some (some (.own d)) => (mData ρ ms rs).map (d :: ·)
    | some (some (.byr d)) => (mData ρ ms rs).map (d :: ·)
    | _ => none)
  | .r :: ms, .fr d :: rs => (mData ρ ms rs).map (d :: ·)
  | .s :: ms, .at i :: rs => (match ρ[i]? with
    | some (some (.scr es)) => (mData ρ ms rs).map (.list es :: ·)
    | _ => none)
  | _, _ => none
def mIdx : List Md → List Rv → List Nat
  | .r :: ms, .at i :: rs => i :: mIdx ms rs
  | _ :: ms, _ :: rs => mIdx ms rs
  | _, _ => []
def setD (ρ : Ro) (i : Nat) (b : D) : Ro := match ρ[i]? with
  | some (some (.own _)) => ρ.set i (some (.own b))
  | some (some (.byr _)) => ρ.set i (some (.byr b))
  | _ => ρ
def mBack (ρ : Ro) : List Md → List Rv → List D → Ro
  | .r :: ms, .at i :: rs, b :: bs => setD (mBack ρ ms rs bs) i b
  | .r :: ms, .fr _ :: rs, _ :: bs => mBack ρ ms rs bs
  | .v :: ms, _ :: rs, bs => mBack ρ ms rs bs
  | .s :: ms, _ :: rs, bs => mBack ρ ms rs bs
  | _, _, _ => ρ
theorem rv_owned {K : Fr'} {W F H : Hp} {σ : St} {ρ : Ro} {v : V} : ∀ {ms : List Md} {rs : List Rv} {vs : List V} {ds : List D}, MOk K W F H σ ρ ms rs vs → mData ρ ms rs = some ds → v ∈ rvals ms vs →
    (∃ i ∈ mIdx ms rs, σ[i]? = some (some v) ∧ ∃ c, ρ[i]? = some (some c) ∧ c.owned = true) ∨ (v ∈ frV ms rs vs ∧ ∀ (i : Nat) (c : Cell), ρ[i]? = some (some c) → c.owned = true → σ[i]? ≠ some (some v))
  | [], [], [], _, _, _, h => by cases h
  | .v :: ms, .val d :: rs, x :: vs, ds, a, e, h => by
    simp only [mData, Option.map_eq_some_iff] at e
    obtain ⟨ds', e1, _⟩ := e
    exact rv_owned (ms := ms) (rs := rs) a.2 e1 h
  | .s :: ms, .at i :: rs, x :: vs, ds, a, e, h => by
    simp only [mData] at e
    split at e
    · simp only [Option.map_eq_some_iff] at e
      obtain ⟨ds', e1, _⟩ := e
      exact rv_owned (ms := ms) (rs := rs) a.2 e1 h
    · cases e
  | .r :: ms, .fr d :: rs, x :: vs, ds, a, e, h => by
    simp only [mData, Option.map_eq_some_iff] at e
    obtain ⟨ds', e1, _⟩ := e
    rcases List.mem_cons.mp h with rfl | h
    · exact .inr ⟨List.mem_cons_self, a.2.1⟩
    · rcases rv_owned (ms := ms) (rs := rs) a.2.2.2 e1 h with q | ⟨q1, q2⟩
      · exact .inl q
      · exact .inr ⟨List.mem_cons_of_mem _ q1, q2⟩
  | .r :: ms, .at i :: rs, x :: vs, ds, a, e, h => by
    simp only [mData] at e
    split at e
    · rename_i d hc
      simp only [Option.map_eq_some_iff] at e
      obtain ⟨ds', e1, _⟩ := e
      rcases List.mem_cons.mp h with rfl | h
      · exact .inl ⟨i, List.mem_cons_self, a.1, _, hc, rfl⟩
      · rcases rv_owned (ms := ms) (rs := rs) a.2 e1 h with ⟨j, hj, q⟩ | q
        · exact .inl ⟨j, List.mem_cons_of_mem _ hj, q⟩
        · exact .inr q
    · rename_i d hc
      simp only [Option.map_eq_some_iff] at e
      obtain ⟨ds', e1, _⟩ := e
      rcases List.mem_cons.mp h with rfl | h
      · exact .inl ⟨i, List.mem_cons_self, a.1, _, hc, rfl⟩
      · rcases rv_owned (ms := ms) (rs := rs) a.2 e1 h with ⟨j, hj, q⟩ | q
        · exact .inl ⟨j, List.mem_cons_of_mem _ hj, q⟩
        · exact .inr q
    · cases e

theorem frV_off {K : Fr'} {W F H : Hp} {σ : St} {ρ : Ro} : ∀ {ms : List Md} {rs : List Rv} {vs : List V}, MOk K W F H σ ρ ms rs vs → ∀ v ∈ frV ms rs vs, ∃ a, v = .ref a ∧ W a = none
  | [], [], [], _, v, h => by cases h
  | .v :: ms, .val d :: rs, x :: vs, a, v, h => frV_off (ms := ms) (rs := rs) a.2 v h
  | .s :: ms, .at i :: rs, x :: vs, a, v, h => frV_off (ms := ms) (rs := rs) a.2 v h
  | .r :: ms, .at i :: rs, x :: vs, a, v, h => frV_off (ms := ms) (rs := rs) a.2 v h
  | .r :: ms, .fr d :: rs, x :: vs, a, v, h => by
    rcases List.mem_cons.mp h with rfl | h
    · obtain ⟨b, e, hw, _⟩ := a.1; exact ⟨b, e, hw⟩
    · exact frV_off (ms := ms) (rs := rs) a.2.2.2 v h
theorem dm_r {e : Expr} {es : List Expr} {f : SemE} {ms : List Md} {g : SemM} (a : DE X e f) (b : DM X es ms g) (hs : starEach (e :: es) X.env = (false, eval e X.env) :: starEach es X.env := by rfl) : DM X (e :: es) (.r :: ms) (mR f g) := by
  refine ⟨(pa_cons a.pe b.pa hs).pvi fun σ H Q q => ?_⟩
  obtain ⟨P, W, F, ρ, ds, ρ', R, e, q⟩ := q
  simp only [mR, Option.bind_eq_some_iff, Prod.exists] at e
  obtain ⟨r, ρ1, e1, e2⟩ := e
  refine ⟨P, W, F, ρ, r, ρ1, R, e1, fun v H1 F1 x1 R1 o1 => ?_⟩
  cases r with
  | val d => cases e2
  | «at» i =>
    simp only [Option.bind_eq_some_iff, Prod.exists] at e2
    obtain ⟨rs, ρ3, e3, e4⟩ := e2
    cases e4
    exact ⟨P, W, F1, ρ1, rs, ρ', R1, e3, fun vs H3 F3 x3 R3 m => q _ H3 F3 (x1.trans x3) R3 ⟨o1, m⟩⟩
  | fr d =>
    simp only [Option.bind_eq_some_iff, Prod.exists] at e2
    obtain ⟨rs, ρ3, e3, e4⟩ := e2
    cases e4
    obtain ⟨⟨a, ea, hw, hf, ow⟩, hn⟩ := o1
    obtain ⟨_, u, hu⟩ := ow.mut
    subst ea
    refine ⟨P, upd W a u, F1, ρ1, rs, ρ', R1.protect hu hf hn, e3, fun vs H3 F3 x3 R3 m => ?_⟩
    have hF3 : F3 a = none := by rw [x3.off a (by rw [upd_same]; exact fun z => nomatch z)]; exact hf
    refine q _ H3 F3 (x1.trans x3.un) (R3.unprotect hw) ⟨⟨a, rfl, hw, hF3, ?_⟩, R3.noown, fun z => ?_, m.w fun b hb => (upd_none hb).2⟩
    · rw [R3.wh a u upd_same, ← hu]; exact ow.mono (Le.of x3.same)
    · obtain ⟨b, eb, hb⟩ := frV_off m _ z
      cases eb
      exact (upd_none hb).1 rfl
theorem dm_s {i : Nat} {x : Str} {p : Pos} {es : List Expr} {ms : List Md} {g : SemM} (a : PE X (.Name x p) (tVar i)) (b : DM X es ms g) (hs : starEach (.Name x p :: es) X.env = (false, eval (.Name x p) X.env) :: starEach es X.env := by rfl) : DM X (.Name x p :: es) (.s :: ms) (mS i g) := by
  refine ⟨(pa_cons a b.pa hs).pvi fun σ H Q q => ?_⟩
  obtain ⟨P, W, F, ρ, ds, ρ', R, e, q⟩ := q
  simp only [mS] at e
  split at e
  · rename_i es hc
    simp only [Option.bind_eq_some_iff, Prod.exists] at e
    obtain ⟨rs, ρ3, e3, e4⟩ := e
    cases e4
    obtain ⟨v, hv, hk⟩ := R.cell i _ hc
    exact ⟨v, hv, P, W, F, ρ, rs, ρ', R, e3, fun vs H3 F3 x3 R3 m => q _ H3 F3 x3 R3 ⟨hv, m⟩⟩
  · cases e

def sCall (ms : List Md) (fn : Fn) (f : SemM) : SemE := fun ρ => (f ρ).bind fun (rs, ρ1) => if (mIdx ms rs).Nodup then (mData ρ1 ms rs).bind fun ds => (fn ds).bind fun (z, bs) => some (mkR z, mBack ρ1 ms rs bs) else none
open Classical in
noncomputable def keepW (W H : Hp) (σ : St) (ρ : Ro) (rv : List V) : Hp := fun b => if (∃ (i : Nat) (c : Cell), ρ[i]? = some (some c) ∧ c.owned = true ∧ σ[i]? = some (some (.ref b))) ∧ V.ref b ∉ rv then H b else W b
section
variable {K : Fr'} {P : List (Nat × Addr)} {W F H F' H' : Hp} {σ : St} {ρ : Ro} {rv : List V} {a : Addr}
theorem keepW_in (h : ∃ (i : Nat) (c : Cell), ρ[i]? = some (some c) ∧ c.owned = true ∧ σ[i]? = some (some (.ref a))) (h2 : V.ref a ∉ rv) : keepW W H σ ρ rv a = H a := if_pos ⟨h, h2⟩
theorem keepW_rv (h : V.ref a ∈ rv) : keepW W H σ ρ rv a = W a := if_neg fun z => z.2 h
theorem keepW_same (h : Same W H) : Same (keepW W H σ ρ rv) H := fun b o e => by
  unfold keepW at e
  split at e
  · exact e
  · exact h b o e
theorem keepW_none (R : Rel K P W F H σ ρ) (h : keepW W H σ ρ rv a = none) : W a = none ∧ ((∃ (i : Nat) (c : Cell), ρ[i]? = some (some c) ∧ c.owned = true ∧ σ[i]? = some (some (.ref a))) → V.ref a ∈ rv) := by
  unfold keepW at h
  split at h
  · rename_i z
    obtain ⟨⟨i, c, h1, h2, h3⟩, h4⟩ := z
    obtain ⟨v, hv, hk⟩ := R.cell i c h1
    rw [h3] at hv; cases hv
    have : ∃ u, H a = some u := by
      cases c with
      | val d => cases h2
      | own d => obtain ⟨b, eb, _, _, o⟩ := hk; cases eb; exact o.mut.2
      | byr d => obtain ⟨b, eb, _, _, o⟩ := hk; cases eb; exact o.mut.2
      | scr ds => cases h2
    obtain ⟨u, hu⟩ := this
    rw [hu] at h; cases h
  · rename_i z
    refine ⟨h, fun q => ?_⟩
    by_cases hm : V.ref a ∈ rv
    · exact hm
    · exact absurd ⟨q, hm⟩ z
theorem keepW_dis (R : Rel K P W F H σ ρ) : Dis (keepW W H σ ρ rv) F := fun b e => by
  unfold keepW at e ⊢
  split at e
  · next z =>
    obtain ⟨⟨i, c, h1, h2, h3⟩, _⟩ := z
    obtain ⟨v, hv, hk⟩ := R.cell i c h1
    rw [h3] at hv
    cases hv
    cases c with
    | val _ => cases h2
    | scr _ => cases h2
    | own _ => obtain ⟨a, ea, _, hf, _⟩ := hk; cases ea; exact .inl hf
    | byr _ => obtain ⟨a, ea, _, hf, _⟩ := hk; cases ea; exact .inl hf
  · next z => rw [if_neg z]; exact R.dis b e
theorem keepW_ext (w : Same W H) (x : Ext (keepW W H σ ρ rv) F F') : Ext W F F' := ⟨x.same, fun b e => x.off b (by
  unfold keepW
  split
  · exact Same.ne w e
  · exact e)⟩
theorem mok_args (R : Rel K P W F H σ ρ) : ∀ {ms : List Md} {rs : List Rv} {vs : List V} {ds : List D} (W' : Hp), MOk K W F H σ ρ ms rs vs → mData ρ ms rs = some ds → (mIdx ms rs).Nodup → (∀ a, V.ref a ∈ rvals ms vs → W' a = W a) → ArgsOk K W' F H ms vs ds
  | [], [], [], ds, W', _, e, _, _ => by cases e; trivial
  | .v :: ms, .val d :: rs, v :: vs, ds, W', m, e, nd, hw => by
    simp only [mData, Option.map_eq_some_iff] at e
    obtain ⟨ds', e1, rfl⟩ := e
    exact ⟨m.1, mok_args R (ms := ms) (rs := rs) W' m.2 e1 nd hw⟩
  | .s :: ms, .at i :: rs, v :: vs, ds, W', m, e, nd, hw => by
    simp only [mData] at e
    split at e
    · rename_i es hc
      simp only [Option.map_eq_some_iff] at e
      obtain ⟨ds', e1, rfl⟩ := e
      obtain ⟨u, hu, a, xs, ea, s, r⟩ := R.cell i _ hc
      rw [m.1] at hu; cases hu
      exact ⟨⟨es, a, xs, rfl, ea, s, r⟩, mok_args R (ms := ms) (rs := rs) W' m.2 e1 nd hw⟩
    · cases e
  | .r :: ms, .fr d :: rs, v :: vs, ds, W', m, e, nd, hw => by
    simp only [mData, Option.map_eq_some_iff] at e
    obtain ⟨ds', e1, rfl⟩ := e
    obtain ⟨⟨a, ea, hwa, hf, o⟩, hn, hfr, m2⟩ := m
    subst ea
    refine ⟨⟨a, rfl, by rw [hw a List.mem_cons_self]; exact hwa, hf, o⟩, fun z => ?_, mok_args R (ms := ms) (rs := rs) W' m2 e1 nd fun b hb => hw b (List.mem_cons_of_mem _ hb)⟩
    rcases rv_owned (ms := ms) (rs := rs) m2 e1 z with ⟨j, hj, s, c, hc, ow⟩ | ⟨q, _⟩
    · exact hn j c hc ow s
    · exact hfr q
  | .r :: ms, .at i :: rs, v :: vs, ds, W', m, e, nd, hw => by
    have go : ∀ (c : Cell) (d : D) (ds' : List D), ρ[i]? = some (some c) → c.owned = true → OwnV K W F H v d → mData ρ ms rs = some ds' → ArgsOk K W' F H (.r :: ms) (v :: vs) (d :: ds') := fun c d ds' hc ow hk e1 => by
      obtain ⟨a, ea, hwa, hf, o⟩ := hk
      subst ea
      have nd' := List.nodup_cons.mp nd
      refine ⟨⟨a, rfl, by rw [hw a List.mem_cons_self]; exact hwa, hf, o⟩, fun z => ?_, mok_args R (ms := ms) (rs := rs) W' m.2 e1 nd'.2 fun b hb => hw b (List.mem_cons_of_mem _ hb)⟩
      rcases rv_owned (ms := ms) (rs := rs) m.2 e1 z with ⟨j, hj, s, c', hc', ow'⟩ | ⟨q, hn⟩
      · exact R.inj i j c c' a (fun y => nd'.1 (by rw [y]; exact hj)) hc hc' ow ow' m.1 s
      · exact hn i c hc ow m.1
    simp only [mData] at e
    split at e
    · rename_i d hc
      simp only [Option.map_eq_some_iff] at e
      obtain ⟨ds', e1, rfl⟩ := e
      obtain ⟨u, hu, hk⟩ := R.cell i _ hc
      rw [m.1] at hu; cases hu
      exact go _ d ds' hc rfl hk e1
    · rename_i d hc
      simp only [Option.map_eq_some_iff] at e
      obtain ⟨ds', e1, rfl⟩ := e
      obtain ⟨u, hu, hk⟩ := R.cell i _ hc
      rw [m.1] at hu; cases hu
      exact go _ d ds' hc rfl hk e1
    · cases e
theorem setD_get {i j : Nat} {b : D} {c : Cell} (h : (setD ρ i b)[j]? = some (some c)) :
    (j = i ∧ ((c = .own b ∧ ∃ d, ρ[i]? = some (some (.own d))) ∨ (c = .byr b ∧ ∃ d, ρ[i]? = some (some (.byr d))))) ∨ (ρ[j]? = some (some c) ∧ (j = i → c.owned = false)) := by
  unfold setD at h
  split at h
  · rename_i d e
    rcases set_get h with ⟨rfl, z⟩ | ⟨hj, z⟩
    · cases z; exact .inl ⟨rfl, .inl ⟨rfl, d, e⟩⟩
    · exact .inr ⟨z, fun y => absurd y hj⟩
  · rename_i d e
    rcases set_get h with ⟨rfl, z⟩ | ⟨hj, z⟩
    · cases z; exact .inl ⟨rfl, .inr ⟨rfl, d, e⟩⟩
    · exact .inr ⟨z, fun y => absurd y hj⟩
  · rename_i n1 n2
    refine .inr ⟨h, fun y => ?_⟩
    subst y
    cases c with
    | val d => rfl
    | own d => exact absurd h (n1 d)
    | byr d => exact absurd h (n2 d)
    | scr ds => rfl
theorem setD_len {i : Nat} {b : D} : (setD ρ i b).length = ρ.length := by
  unfold setD
  split
  · rw [List.length_set]
  · rw [List.length_set]
  · rfl
theorem mBack_len : ∀ {ms : List Md} {rs : List Rv} {bs : List D}, (mBack ρ ms rs bs).length = ρ.length
  | [], _, _ => by simp [mBack]
  | .r :: ms, [], _ => by simp [mBack]
  | .v :: ms, [], _ => by simp [mBack]
  | .s :: ms, [], _ => by simp [mBack]
  | .r :: ms, .at i :: rs, [] => by simp [mBack]
  | .r :: ms, .at i :: rs, b :: bs => by simp only [mBack]; rw [setD_len]; exact mBack_len
  | .r :: ms, .fr d :: rs, [] => by simp [mBack]
  | .r :: ms, .fr d :: rs, b :: bs => by simp only [mBack]; exact mBack_len
  | .r :: ms, .val d :: rs, bs => by cases bs <;> simp [mBack]
  | .v :: ms, r :: rs, bs => by simp only [mBack]; exact mBack_len
  | .s :: ms, r :: rs, bs => by simp only [mBack]; exact mBack_len
theorem mBack_byr {i : Nat} {d : D} (h : ρ[i]? = some (some (.byr d))) : ∀ {ms : List Md} {rs : List Rv} {bs : List D}, ∃ d', (mBack ρ ms rs bs)[i]? = some (some (.byr d'))
  | [], _, _ => ⟨d, by simp [mBack, h]⟩
  | .r :: ms, [], _ => ⟨d, by simp [mBack, h]⟩
  | .v :: ms, [], _ => ⟨d, by simp [mBack, h]⟩
  | .s :: ms, [], _ => ⟨d, by simp [mBack, h]⟩
  | .r :: ms, .at j :: rs, [] => ⟨d, by simp [mBack, h]⟩
  | .r :: ms, .at j :: rs, b :: bs => by
    obtain ⟨d', e⟩ := mBack_byr h (ms := ms) (rs := rs) (bs := bs)
    simp only [mBack]
    unfold setD
    by_cases hj : j = i
    · subst hj
      rw [e]
      exact ⟨b, by simp only; rw [List.getElem?_set_self (List.getElem?_eq_some_iff.mp e).1]⟩
    · split
      · exact ⟨d', by rw [List.getElem?_set_ne hj]; exact e⟩
      · exact ⟨d', by rw [List.getElem?_set_ne hj]; exact e⟩
      · exact ⟨d', e⟩
  | .r :: ms, .fr _ :: rs, [] => ⟨d, by simp [mBack, h]⟩
  | .r :: ms, .fr _ :: rs, b :: bs => by simp only [mBack]; exact mBack_byr h
  | .r :: ms, .val _ :: rs, bs => by cases bs <;> exact ⟨d, by simp [mBack, h]⟩
  | .v :: ms, r :: rs, bs => by simp only [mBack]; exact mBack_byr h
  | .s :: ms, r :: rs, bs => by simp only [mBack]; exact mBack_byr h
theorem mBack_get {T : V → D → Prop} : ∀ {ms : List Md} {rs : List Rv} {vs : List V} {bs ds : List D}, MOk K W F H σ ρ ms rs vs → mData ρ ms rs = some ds → (mIdx ms rs).Nodup → Paired T (rvals ms vs) bs → ∀ (j : Nat) (c : Cell), (mBack ρ ms rs bs)[j]? = some (some c) →
    (∃ v b, j ∈ mIdx ms rs ∧ σ[j]? = some (some v) ∧ T v b ∧ ((c = .own b ∧ ∃ d, ρ[j]? = some (some (.own d))) ∨ (c = .byr b ∧ ∃ d, ρ[j]? = some (some (.byr d))))) ∨ (j ∉ mIdx ms rs ∧ ρ[j]? = some (some c))
  | [], [], [], bs, ds, _, _, _, _, j, c, h => .inr ⟨List.not_mem_nil, by simpa [mBack] using h⟩
  | .v :: ms, .val d :: rs, v :: vs, bs, ds, m, e, nd, p, j, c, h => by
    simp only [mData, Option.map_eq_some_iff] at e
    obtain ⟨ds', e1, _⟩ := e
    exact mBack_get (ms := ms) (rs := rs) (vs := vs) m.2 e1 nd p j c h
  | .s :: ms, .at i :: rs, v :: vs, bs, ds, m, e, nd, p, j, c, h => by
    simp only [mData] at e
    split at e
    · simp only [Option.map_eq_some_iff] at e
      obtain ⟨ds', e1, _⟩ := e
      exact mBack_get (ms := ms) (rs := rs) (vs := vs) m.2 e1 nd p j c h
    · cases e
  | .r :: ms, .fr d :: rs, v :: vs, bs, ds, m, e, nd, p, j, c, h => by
    simp only [mData, Option.map_eq_some_iff] at e
    obtain ⟨ds', e1, _⟩ := e
    cases p with
    | cons t p => exact mBack_get (ms := ms) (rs := rs) (vs := vs) m.2.2.2 e1 nd p j c h
  | .r :: ms, .at i :: rs, v :: vs, bs, ds, m, e, nd, p, j, c, h => by
    have e' : ∃ ds', mData ρ ms rs = some ds' ∧ ∃ c, ρ[i]? = some (some c) ∧ c.owned = true := by
      simp only [mData] at e
      split at e
      · rename_i d hc
        simp only [Option.map_eq_some_iff] at e
        obtain ⟨ds', e1, _⟩ := e
        exact ⟨ds', e1, _, hc, rfl⟩
      · rename_i d hc
        simp only [Option.map_eq_some_iff] at e
        obtain ⟨ds', e1, _⟩ := e
        exact ⟨ds', e1, _, hc, rfl⟩
      · cases e
    obtain ⟨ds', e1, ci, hci, owi⟩ := e'
    have nd' := List.nodup_cons.mp nd
    cases p with
    | @cons _ b _ bs t p =>
      have ih := mBack_get (ms := ms) (rs := rs) (vs := vs) m.2 e1 nd'.2 p
      rcases setD_get h with ⟨rfl, q⟩ | ⟨q, hq⟩
      · refine .inl ⟨v, b, List.mem_cons_self, m.1, t, ?_⟩
        have back : ∀ c', (mBack ρ ms rs bs)[j]? = some (some c') → ρ[j]? = some (some c') := fun c' z => by
          rcases ih j c' z with ⟨_, _, h1, _⟩ | ⟨_, h2⟩
          · exact absurd h1 nd'.1
          · exact h2
        rcases q with ⟨q1, d, q2⟩ | ⟨q1, d, q2⟩
        · exact .inl ⟨q1, d, back _ q2⟩
        · exact .inr ⟨q1, d, back _ q2⟩
      · rcases ih j c q with ⟨v', b', h1, h2, h3, h4⟩ | ⟨h1, h2⟩
        · exact .inl ⟨v', b', List.mem_cons_of_mem _ h1, h2, h3, h4⟩
        · refine .inr ⟨fun z => ?_, h2⟩
          rcases List.mem_cons.mp z with z | z
          · have := hq z
            rw [z, hci] at h2
            cases h2
            rw [owi] at this; cases this
          · exact h1 z
theorem rel_back {ms : List Md} {rs : List Rv} {vs : List V} {bs ds : List D} (R : Rel K P W F H σ ρ) (m : MOk K W F H σ ρ ms rs vs) (e : mData ρ ms rs = some ds) (nd : (mIdx ms rs).Nodup)
    (x : Ext (keepW W H σ ρ (rvals ms vs)) F F') (l : Le F' H') (s : Same (keepW W H σ ρ (rvals ms vs)) H') (p : Paired (OwnV K (keepW W H σ ρ (rvals ms vs)) F' H') (rvals ms vs) bs) : Rel K P W F' H' σ (mBack ρ ms rs bs) where
  fh := l
  wh := fun b o eb => by
    by_cases h : keepW W H σ ρ (rvals ms vs) b = W b
    · exact s b o (by rw [h]; exact eb)
    · have h2 : keepW W H σ ρ (rvals ms vs) b = H b := by
        unfold keepW at h ⊢
        split
        · rfl
        · rename_i z; exact absurd (if_neg z) h
      exact s b o (by rw [h2]; exact R.wh b o eb)
  len := by rw [mBack_len]; exact R.len
  cell := fun j c hc => by
    rcases mBack_get m e nd p j c hc with ⟨v, b, hj, hv, t, q⟩ | ⟨hj, q⟩
    · refine ⟨v, hv, ?_⟩
      obtain ⟨a, ea, hw, hf, o⟩ := t
      have hwa := (keepW_none R hw).1
      rcases q with ⟨rfl, _⟩ | ⟨rfl, _⟩
      · exact ⟨a, ea, hwa, hf, o⟩
      · exact ⟨a, ea, hwa, hf, o⟩
    · obtain ⟨v, hv, hk⟩ := R.cell j c q
      refine ⟨v, hv, ?_⟩
      have own : ∀ d, c.owned = true → OwnV K W F H v d → OwnV K W F' H' v d := fun d ow ⟨a, ea, hw, hf, o⟩ => by
        subst ea
        have hnr : V.ref a ∉ rvals ms vs := fun z => by
          rcases rv_owned m e z with ⟨i, hi, s', c', hc', ow'⟩ | ⟨_, hn⟩
          · exact R.inj i j c' c a (fun y => hj (by rw [← y]; exact hi)) hc' q ow' ow s' hv
          · exact hn j c q ow hv
        have hkw := keepW_in (W := W) (H := H) (rv := rvals ms vs) ⟨j, c, q, ow, hv⟩ hnr
        obtain ⟨_, u, hu⟩ := o.mut
        refine ⟨a, rfl, hw, by rw [x.off a (by rw [hkw, hu]; exact fun z => nomatch z)]; exact hf, ?_⟩
        rw [s a u (by rw [hkw]; exact hu), ← hu]
        exact o.mono (Le.of x.same)
      cases c with
      | val d => exact Rp.mono (Le.of x.same) hk
      | own d => exact own d rfl hk
      | byr d => exact own d rfl hk
      | scr ds => obtain ⟨a, xs, ea, s', r⟩ := hk; exact ⟨a, xs, ea, (Le.of x.same).sql s', r.mono (Le.of x.same)⟩
  inj := fun i j c e' a hij h1 h2 o1 o2 s1 s2 => by
    have was : ∀ (k : Nat) (c : Cell), (mBack ρ ms rs bs)[k]? = some (some c) → c.owned = true → ∃ c', ρ[k]? = some (some c') ∧ c'.owned = true := fun k c hc ow => by
      rcases mBack_get m e nd p k c hc with ⟨v, b, hj, hv, t, q⟩ | ⟨hj, q⟩
      · rcases q with ⟨_, d, q⟩ | ⟨_, d, q⟩
        · exact ⟨_, q, rfl⟩
        · exact ⟨_, q, rfl⟩
      · exact ⟨c, q, ow⟩
    obtain ⟨c1, h1', o1'⟩ := was i c h1 o1
    obtain ⟨c2, h2', o2'⟩ := was j e' h2 o2
    exact R.inj i j c1 c2 a hij h1' h2' o1' o2' s1 s2
  pin := fun q hq => by
    obtain ⟨h1, d, h2⟩ := R.pin q hq
    obtain ⟨d', h3⟩ := mBack_byr h2 (ms := ms) (rs := rs) (bs := bs)
    exact ⟨h1, d', h3⟩
  dis := fun b e => (R.dis b e).imp (fun z => ((keepW_ext R.wh x).off b e).trans z) id
end
theorem sCall_ok {K : Fr'} {ms : List Md} {fn : Fn} {f : SemM} {σ : St} {H : Hp} {Q : VK} {E : XK} (q : tD K (sCall ms fn f) σ H Q) : tCall (spF K ms fn) [] E (tDM K ms f) σ H Q := by
  obtain ⟨P, W, F, ρ, r, ρ', R, e, q⟩ := q
  simp only [sCall, Option.bind_eq_some_iff, Prod.exists] at e
  obtain ⟨rs, ρ1, e1, e2⟩ := e
  split at e2
  case isFalse => cases e2
  rename_i nd
  simp only [Option.bind_eq_some_iff, Prod.exists] at e2
  obtain ⟨ds, e3, z, b, bs, e4, e5⟩ := e2
  cases e5
  refine ⟨P, W, F, ρ, rs, ρ1, R, e1, fun vs H1 F1 x1 R1 m => ?_⟩
  show spF K ms fn (vs ++ []) H1 Q E
  rw [List.append_nil]
  refine ⟨keepW W H1 σ ρ1 (rvals ms vs), F1, ds, (z, b), bs, R1.fh, keepW_same R1.wh, keepW_dis R1, mok_args R1 _ m e3 nd fun a ha => keepW_rv ha, e4, fun v H' F' x l s p res => ?_⟩
  have R2 := rel_back R1 m e3 nd x l s p
  refine q v H' F' (x1.trans (keepW_ext R1.wh x)) R2 ?_
  cases b with
  | false => exact res
  | true =>
    obtain ⟨⟨a, ea, hw, hf, o⟩, hn⟩ := res
    subst ea
    obtain ⟨h1, h2⟩ := keepW_none R1 hw
    refine ⟨⟨a, rfl, h1, hf, o⟩, fun i c hc ow es => ?_⟩
    have : ∃ c', ρ1[i]? = some (some c') ∧ c'.owned = true := by
      rcases mBack_get m e3 nd p i c hc with ⟨v, b, hj, hv, t, q⟩ | ⟨hj, q⟩
      · rcases q with ⟨_, d, q⟩ | ⟨_, d, q⟩
        · exact ⟨_, q, rfl⟩
        · exact ⟨_, q, rfl⟩
      · exact ⟨c, q, ow⟩
    obtain ⟨c', hc', ow'⟩ := this
    exact hn (h2 ⟨i, c', hc', ow', es⟩)
section
variable {CX : CXT} {k : Nat} {f : Addr} {fd : FuncData} {ps : List Str} {x : Str} {p pos : Pos} {e : Expr} {es : List Expr} {ms : List Md} {fn : Fn} {g : SemM}
theorem de_call (F : FnD X.prog X.w X.K X.mg X.base k f fd ps ms fn) (hr : Room k X.A) (gd : X.A.guards = some []) (hg : Gl X x) (hm : X.mg x = some (.ref f)) (hk : PySem.W.keepIn X.K (.ref f) = true) (hb : Binds X.K fd ps [])
    (ha : DM X (e :: es) ms g) (hdb : (x == ("__debug__" : Str)) = false := by decide) (he : starEach (e :: es) X.env = (false, eval e X.env) :: starEach es X.env := by rfl) (hpl : (backTo pos (starEach es X.env)).any (·.1) = false := by rfl) :
    DE X (.Call (.Name x p) (e :: es) [] pos) (sCall ms fn g) :=
  ⟨(pe_callG F hr gd hg hm hk hb .nil pass0 ha.pa hdb he hpl).pvi fun _ _ _ => sCall_ok⟩
end
end
end Pv
end
section
set_option Elab.async false
set_option linter.all false
set_option maxRecDepth 100000
set_option maxHeartbeats 1000000
namespace Pv
open PySem PySem.Spec PyProof.Rows L2

section
variable {X : Cx} {K : Fr'} {F H : Hp} {Q : VK} {v x y : V} {d : D}

def addF : Op2
  | .int i, .int j => some (.int (i + j), false)
  | .str a, .str b => if a.length + b.length ≤ sizeLine then some (.str (a ++ b), false) else none
  | .list xs, .list ys => if xs.length + ys.length ≤ sizeLine then some (.list (xs ++ ys), true) else none
  | .tuple xs, .tuple ys => if xs.length + ys.length ≤ sizeLine then some (.tuple (xs ++ ys), false) else none
  | _, _ => none
def rCatS (K : PySem.W.Frag) : R2 := fun x y H Q => ∃ a b xs ys, x = .ref a ∧ y = .ref b ∧ SqT K H a xs ∧ SqT K H b ys ∧ xs.length + ys.length ≤ sizeLine ∧
  (xs = [] → Q (.ref b) H) ∧ (xs ≠ [] → ys = [] → Q (.ref a) H) ∧ (xs ≠ [] → ys ≠ [] → ∀ p o, H p = none → o.dict = none → Q (.ref p) (upd H p (.frz o (.tup (xs ++ ys)))))
theorem op_catS {X : Cx} : OpR X (binaryOp .Add) (rCatS X.K) := by
  intro pins s σ H x y v u Q I rx ry h
  obtain ⟨a, b, xs, ys, rfl, rfl, ha, hb, hz, q0, q1, q2⟩ := h
  cases rx
  cases ry
  obtain ⟨its, r1, p1, _⟩ := I.tuple ha
  obtain ⟨its2, r2, p2, _⟩ := I.tuple hb
  by_cases hx : xs = []
  · subst hx
    cases r1
    exact cat_tup0 p1 p2 ⟨.ref b, H, I, rfl, q0 rfl⟩
  · refine HT.cat_tup p1 p2 (fun z => hx (r1.nil_iff.mp z)) (fun z => ⟨.ref a, H, I, rfl, q1 hx (r2.nil_iff.mp z)⟩) (fun z => ?_) (by rw [← r1.length, ← r2.length]; exact hz)
    exact new_tupS I (r1.append r2) (by rw [List.length_append]; exact hz) (q2 hx fun w => z (r2.nil_iff.mpr w))
def rSlS (K : PySem.W.Frag) : V → Option Int → Option Int → Hp → VK → Prop := fun x lo hi H Q => ∃ a xs, x = .ref a ∧ SqT K H a xs ∧
  (HT.sIx xs.length 0 lo = 0 ∧ HT.sIx xs.length xs.length hi = xs.length → Q (.ref a) H) ∧ (¬ (HT.sIx xs.length 0 lo = 0 ∧ HT.sIx xs.length xs.length hi = xs.length) → ∀ p o, H p = none → o.dict = none → Q (.ref p) (upd H p (.frz o (.tup (cutV xs lo hi)))))
theorem sl_tupS {X : Cx} : SlR X (rSlS X.K) := by
  intro pins s σ H x v vl vu lo hi sl Q I rx hs pl pu h
  obtain ⟨a, xs, rfl, hx, q1, q2⟩ := h
  cases rx
  obtain ⟨its, r, ht, hz⟩ := I.tuple hx
  have hlen : its.toArray.size = xs.length := by rw [List.size_toArray]; exact r.length.symm
  refine ⟨"tuple", _, PyProof.Rows.slot_tuple_getitem.lookup, ht.typeIs, ?_⟩
  by_cases hw : HT.sIx xs.length 0 lo = 0 ∧ HT.sIx xs.length xs.length hi = xs.length
  · exact getItem_tuple_whole ht hs pl pu (by rw [hlen]; exact hw) ⟨.ref a, H, I, rfl, q1 hw⟩
  · refine HT.getItem_tuple_cut ht hs pl pu (by rw [hlen]; exact hw) ?_ (by rw [hlen]; exact hz)
    rw [hlen]
    exact new_tupS I ((r.drop (HT.sIx xs.length 0 lo)).take (HT.sIx xs.length xs.length hi - HT.sIx xs.length 0 lo)) (Nat.le_trans (cutV_length xs lo hi) hz) (q2 hw)
theorem or_add : OpR X (binaryOp .Add) (rS X.K addF) := by
  intro pins s σ H x y v u Q I rx ry h
  obtain ⟨F, d, e, zb, l, hd, he, hz, q⟩ := h
  unfold addF at hz
  split at hz
  · cases hz
    exact op_add pins s σ H x y v u Q I rx ry ⟨_, _, hd.int, he.int, q.old l (.int _)⟩
  · split at hz
    · cases hz
      exact op_add_str pins s σ H x y v u Q I rx ry ⟨_, _, hd.str, he.str, by assumption, q.old l (.str _)⟩
    · cases hz
  · split at hz
    · cases hz
      obtain ⟨a, xs, e1, h1, r1⟩ := hd.list l
      obtain ⟨b, ys, e2, h2, r2⟩ := he.list l
      exact op_cat pins s σ H x y v u Q I rx ry ⟨a, b, xs, ys, e1, e2, h1, h2, by rw [r1.length, r2.length]; assumption, Post.lst l (r1.append r2) q⟩
    · cases hz
  · split at hz
    · cases hz
      obtain ⟨a, xs, e1, h1, r1, p1⟩ := hd.tuple l
      obtain ⟨b, ys, e2, h2, r2, p2⟩ := he.tuple l
      subst e1 e2
      refine op_catS pins s σ H _ _ v u Q I rx ry ⟨a, b, xs, ys, rfl, rfl, h1, h2, by rw [r1.length, r2.length]; assumption, fun z => ?_, fun _ z => ?_, fun _ _ => Post.tup l (r1.append r2) q⟩
      · subst z; cases r1; exact q.old l p2
      · subst z; cases r2; rw [List.append_nil] at q; exact q.old l p1
    · cases hz
  · cases hz
def subF : Op2
  | .int i, .int j => some (.int (i - j), false)
  | _, _ => none
theorem or_sub : OpR X (binaryOp .Sub) (rS X.K subF) := by
  intro pins s σ H x y v u Q I rx ry h
  obtain ⟨F, d, e, zb, l, hd, he, hz, q⟩ := h
  unfold subF at hz
  split at hz
  · cases hz
    exact op_sub pins s σ H x y v u Q I rx ry ⟨_, _, hd.int, he.int, q.old l (.int _)⟩
  · cases hz
def mulOk (i j : Int) : Bool := decide (i.natAbs.log2 + j.natAbs.log2 < 1000000)
def repS (x : Str) (k : Int) : Str := if (k == 1 || x.length == 0) = true then x else ⟨(List.replicate k.toNat x.cps).foldl (· ++ ·) #[]⟩
def mulF : Op2
  | .int i, .int j => if mulOk i j = true then some (.int (i * j), false) else none
  | .list xs, .int k => if -(2 ^ 63) ≤ k ∧ k < 2 ^ 63 ∧ xs.length * k.toNat ≤ sizeLine then some (.list (List.replicate k.toNat xs).flatten, true) else none
  | .tuple xs, .int k => if xs ≠ [] ∧ 2 ≤ k ∧ k ≤ 1000 ∧ xs.length ≤ 1000 ∧ needS (List.replicate k.toNat xs).flatten = false then some (.tuple (List.replicate k.toNat xs).flatten, false) else none
  | .str x, .int k => if 1 ≤ k ∧ k ≤ 1000 ∧ x.length ≤ 1000 ∧ (repS x k).length ≤ sizeLine then some (.str (repS x k), false) else none
  | _, _ => none
theorem op_rep_str : OpR X (binaryOp .Mult) (fun x y H Q => ∃ i k, x = V.str i ∧ y = V.int k ∧ 1 ≤ k ∧ k ≤ 1000 ∧ i.length ≤ 1000 ∧ (repS i k).length ≤ sizeLine ∧ Q (.str (repS i k)) H) := by
  intro pins s σ H x y v u Q I rx ry h
  obtain ⟨i, k, rfl, rfl, h1, h2, h3, h4, q⟩ := h
  obtain ⟨t, rfl⟩ := rx
  obtain ⟨t', rfl⟩ := ry
  have hk : ¬ k < 1 := by omega
  have hm : i.length * k.toNat ≤ 1000 * 1000 := Nat.mul_le_mul h3 (by omega)
  refine PySem.P.mul_str (by rw [decide_eq_false (by omega), decide_eq_false (by omega)]; rfl) (fun _ _ hg => ?_) (fun _ _ => ?_) ?_
  · have e1 : (1000 : Int) ≤ (2 ^ 63 - 1) / k := Int.le_ediv_of_mul_le (by omega) (by omega)
    omega
  · refine decide_eq_false ?_
    have : 1000 * 1000 ≤ sizeLine := by decide
    omega
  · rw [if_neg hk]
    unfold repS at q h4
    split
    · next hc =>
      rw [if_pos hc] at q
      exact ⟨.str i, H, I, ⟨_, rfl⟩, q⟩
    · next hc =>
      rw [if_neg hc] at q h4
      exact ⟨h4, ⟨.str _, H, I.tok _, ⟨_, rfl⟩, q⟩⟩
theorem RpA.rep {vs : List V} {ds : List D} (r : RpA K F vs ds) : ∀ n, RpA K F (List.replicate n vs).flatten (List.replicate n ds).flatten
  | 0 => .nil
  | n + 1 => by rw [List.replicate_succ, List.replicate_succ, List.flatten_cons, List.flatten_cons]; exact r.append (RpA.rep r n)
theorem or_mul : OpR X (binaryOp .Mult) (rS X.K mulF) := by
  intro pins s σ H x y v u Q I rx ry h
  obtain ⟨F, d, e, zb, l, hd, he, hz, q⟩ := h
  unfold mulF at hz
  split at hz
  · split at hz
    · rename_i hm
      cases hz
      exact op_mulW pins s σ H x y v u Q I rx ry ⟨_, _, hd.int, he.int, (by unfold mulOk at hm; have hm := of_decide_eq_true hm; exact hm), q.old l (.int _)⟩
    · cases hz
  · split at hz
    · rename_i hm
      cases hz
      obtain ⟨a, xs, e1, h1, r1⟩ := hd.list l
      exact op_rep pins s σ H x y v u Q I rx ry ⟨a, _, xs, e1, he.int, h1, hm.1, hm.2.1, by rw [r1.length]; exact hm.2.2, Post.lst l (r1.rep _) q⟩
    · cases hz
  · split at hz
    · rename_i hm
      cases hz
      obtain ⟨a, xs, e1, h1, r1⟩ := hd.tuple l
      exact op_repT pins s σ H x y v u Q I rx ry ⟨a, _, xs, e1, he.int, h1, fun e => hm.1 (by subst e; cases r1.1; rfl), hm.2.1, hm.2.2.1, by rw [r1.1.length]; exact hm.2.2.2.1, Post.tupW hm.2.2.2.2 l (r1.1.rep _) q⟩
    · cases hz
  · split at hz
    · rename_i hm
      cases hz
      exact op_rep_str pins s σ H x y v u Q I rx ry ⟨_, _, hd.str, he.int, hm.1, hm.2.1, hm.2.2.1, hm.2.2.2, q.old l (.str _)⟩
    · cases hz
  · cases hz
def divF : Op2
  | .int i, .int j => if 0 < j ∧ j.natAbs.log2 < 9000 then some (.int (i / j), false) else none
  | _, _ => none
theorem or_div : OpR X (binaryOp .FloorDiv) (rS X.K divF) := by
  intro pins s σ H x y v u Q I rx ry h
  obtain ⟨F, d, e, zb, l, hd, he, hz, q⟩ := h
  unfold divF at hz
  split at hz
  · split at hz
    · rename_i hm
      cases hz
      exact op_fdivW pins s σ H x y v u Q I rx ry ⟨_, _, hd.int, he.int, hm, q.old l (.int _)⟩
    · cases hz
  · cases hz
def modF : Op2
  | .int i, .int j => if 0 < j then some (.int (i % j), false) else none
  | _, _ => none
theorem or_mod : OpR X (binaryOp .Mod) (rS X.K modF) := by
  intro pins s σ H x y v u Q I rx ry h
  obtain ⟨F, d, e, zb, l, hd, he, hz, q⟩ := h
  unfold modF at hz
  split at hz
  · split at hz
    · rename_i hm
      cases hz
      exact op_mod pins s σ H x y v u Q I rx ry ⟨_, _, hd.int, he.int, hm, q.old l (.int _)⟩
    · cases hz
  · cases hz
def powF : Op2
  | .int i, .int j => if 0 ≤ j ∧ j ≤ 1000000 ∧ i.natAbs < 2 ^ 64 then some (.int (i ^ j.toNat), false) else none
  | _, _ => none
theorem or_pow : OpR X (binaryOp .Pow) (rS X.K powF) := by
  intro pins s σ H x y v u Q I rx ry h
  obtain ⟨F, d, e, zb, l, hd, he, hz, q⟩ := h
  unfold powF at hz
  split at hz
  · split at hz
    · rename_i hm
      cases hz
      exact op_pow pins s σ H x y v u Q I rx ry ⟨_, _, hd.int, he.int, hm, q.old l (.int _)⟩
    · cases hz
  · cases hz

def keyOf : D → Option Key
  | .int i => some (.inl i)
  | .str x => some (.inr x)
  | _ => none
theorem keyOf_kV {k : Key} (h : Lk K F H v d) (e : keyOf d = some k) : v = kV k := by
  unfold keyOf at e
  split at e
  · cases e; exact h.int
  · cases e; exact h.str
  · cases e
def eqS (x y : Str) : Bool := x.cps.toList == y.cps.toList
theorem eqS_iff {x y : Str} : eqS x y = true ↔ x = y := by
  unfold eqS
  rw [beq_iff_eq]
  exact ⟨fun h => PySem.W.str_of_cps h, fun h => by rw [h]⟩
theorem eqS_dec (x y : Str) : eqS x y = decide (x = y) := by
  by_cases h : x = y
  · rw [decide_eq_true h]; exact eqS_iff.mpr h
  · rw [decide_eq_false h]; exact Bool.eq_false_iff.mpr fun z => h (eqS_iff.mp z)
def dkey (d : D) (k : Key) : Bool := match keyOf d, k with
  | some (.inl i), .inl j => i == j
  | some (.inr x), .inr y => eqS x y
  | _, _ => false
theorem keyOf_keyD (k : Key) : keyOf (keyD k) = some k := by cases k <;> rfl
theorem dkey_keyD (k0 k : Key) : dkey (keyD k0) k = decide (k0 = k) := by
  unfold dkey
  rw [keyOf_keyD]
  cases k0 with
  | inl i =>
    cases k with
    | inl j => show (i == j) = _; by_cases h : i = j <;> simp [h]
    | inr y => rfl
  | inr x =>
    cases k with
    | inl j => rfl
    | inr y => show eqS x y = _; rw [eqS_dec]; by_cases h : x = y <;> simp [h]
def dget (es : List (D × D)) (k : Key) : Option D := (es.find? fun p => dkey p.1 k).map (·.2)
theorem RpD.get {kvs : List (Key × V)} {es : List (D × D)} (r : RpD K F kvs es) (k : Key) : (valV kvs k = none ∧ dget es k = none) ∨ ∃ v d, valV kvs k = some v ∧ dget es k = some d ∧ Rp K F v d := by
  induction kvs generalizing es with
  | nil => cases r; exact .inl ⟨rfl, rfl⟩
  | cons p kvs ih =>
    cases r with
    | @cons k0 v0 _ d0 es r t =>
      by_cases h : k0 = k
      · subst h
        refine .inr ⟨v0, d0, valV_pos rfl, ?_, r⟩
        unfold dget
        rw [List.find?_cons_of_pos (by rw [dkey_keyD]; exact decide_eq_true rfl)]
        rfl
      · rw [valV_neg h]
        have : dget ((keyD k0, d0) :: es) k = dget es k := by
          unfold dget
          rw [List.find?_cons_of_neg (by rw [dkey_keyD]; simpa using h)]
        rw [this]
        exact ih t
theorem plain_canLay : ∀ d : D, d.canLay0 = true → plain d = true
  | .none, _ => rfl
  | .bool _, _ => rfl
  | .int _, _ => rfl
  | .str _, _ => rfl
  | .list xs, h => by simp only [plain]; exact go xs (by simpa [PyData.canLay0] using h)
  | .tuple xs, h => by simp only [plain]; exact go xs (by simpa [PyData.canLay0] using h)
  | .dict _, h => by simp [PyData.canLay0] at h
where go : ∀ ds : List D, PyData.canLayAll0 ds = true → plainA ds = true
  | [], _ => rfl
  | d :: ds, h => by
    simp only [PyData.canLayAll0, Bool.and_eq_true] at h
    simp only [plainA, Bool.and_eq_true]
    exact ⟨plain_canLay d h.1, go ds h.2⟩
theorem op_eq2 : OpR X (compareOp .Eq) (fun x y H Q => ∃ i j, x = V.str i ∧ y = V.str j ∧ Q (.bl (i == j)) H) := by
  intro pins s σ H x y v u Q I rx ry h
  obtain ⟨i, j, rfl, rfl, q⟩ := h
  exact op_eq pins s σ H _ _ v u Q I rx ry ⟨rfl, by rw [dec_str]; exact q⟩
theorem op_ne2 : OpR X (compareOp .NotEq) (fun x y H Q => ∃ i j, x = V.str i ∧ y = V.str j ∧ Q (.bl (!(i == j))) H) := by
  intro pins s σ H x y v u Q I rx ry h
  obtain ⟨i, j, rfl, rfl, q⟩ := h
  exact op_ne pins s σ H _ _ v u Q I rx ry ⟨rfl, by rw [dec_str]; exact q⟩
theorem eqS_beq0 (x y : Str) : (x == y) = (x.cps.toList == y.cps.toList) := (PyProof.Rows.toList_beq x y).symm
def dhit (fs : List (D × D)) (p : D × D) : Bool := match keyOf p.1 with
  | some k => (match dget fs k with
    | some d => PyData.eqv p.2 d
    | none => false)
  | none => false
def dEq (es fs : List (D × D)) : Option Bool := if (es.all (fun p => SeqAt.shaped p.2) && fs.all (fun p => SeqAt.shaped p.2)) = true then some (es.length == fs.length && es.all (dhit fs)) else none
theorem eqAt_shaped {A : Around} {s : Shared} {a b : Value} {da db : D} {as bs : List Addr} (ra : Reads s.heap a da as) (rb : Reads s.heap b db bs) (ha : SeqAt.shaped da = true) (hb : SeqAt.shaped db = true) (hu : A.units + 64 < cLine) : SeqAt.EqAt A s a b (PyData.eqv da db) :=
  SeqAt.eqAt_reads da db A s a b as bs ra rb (SeqAt.canLay_of_shaped ha) (SeqAt.canLay_of_shaped hb) (SeqAt.room_of_shaped ha hu)
theorem dget_mem {fs : List (D × D)} {k : Key} {d : D} (h : dget fs k = some d) : ∃ p ∈ fs, p.2 = d := by
  unfold dget at h
  rw [Option.map_eq_some_iff] at h
  obtain ⟨p, h1, h2⟩ := h
  exact ⟨p, List.mem_of_find?_eq_some h1, h2⟩
theorem hits_data {A : Around} {pins : List (Addr × Obj)} {σ : St} {s : Shared} {H : Hp} (I : Inv X pins σ H s) (hu : A.units + 64 < cLine) {ls : List (Key × V)} {vb : List (Key × Value)} {fs : List (D × D)} (rb : KV ls vb) (rl : RpD X.K H ls fs) (hf : ∀ p ∈ fs, SeqAt.shaped p.2 = true) {ks : List (Key × V)} {va : List (Key × Value)} (ra : KV ks va) :
    ∀ {es : List (D × D)}, RpD X.K H ks es → (∀ p ∈ es, SeqAt.shaped p.2 = true) → PySem.W.KeqHitsP X.prog X.w A s vb va (es.all (dhit fs)) := by
  unfold KV at ra
  induction ra with
  | nil => intro es r _; cases r; exact .nil
  | @cons p q ps qs h t ih =>
    intro es r he
    cases r with
    | @cons k v _ d es rv r =>
      obtain ⟨h1, h2⟩ := h
      obtain ⟨k2, v2⟩ := q
      have h1 : k = k2 := h1
      have h2 : RelV v v2 := h2
      subst h1
      rw [List.all_cons]
      have hd : dhit fs (keyD k, d) = (match dget fs k with
        | some e => PyData.eqv d e
        | none => false) := by unfold dhit; rw [keyOf_keyD]
      have rr := rb.val k
      rcases rl.get k with ⟨e1, e2⟩ | ⟨u, e, e1, e2, re⟩
      · rw [hd, e2, Bool.false_and]
        rw [e1] at rr
        cases e : valueAt vb k with
        | none => exact .miss e
        | some y => rw [e] at rr; exact rr.elim
      · rw [hd, e2]
        rw [e1] at rr
        obtain ⟨y, hy, ry⟩ := rr.some_of
        obtain ⟨pe, hpe, rfl⟩ := dget_mem e2
        have sd := he _ List.mem_cons_self
        have se := hf _ hpe
        obtain ⟨as, q1⟩ := Dp.reads I d v v2 (rv.dp (plain_canLay _ (SeqAt.canLay_of_shaped sd))) h2
        obtain ⟨bs, q2⟩ := Dp.reads I pe.2 u y (re.dp (plain_canLay _ (SeqAt.canLay_of_shaped se))) ry
        exact .hit hy (eqAt_shaped q1 q2 sd se hu).eqP (ih r fun p hm => he p (List.mem_cons_of_mem _ hm))
def eqF : Op2 := fun d e => match d, e with
  | .str a, .str b => some (.bool (a.cps.toList == b.cps.toList), false)
  | .dict es, .dict fs => (dEq es fs).map fun b => (.bool b, false)
  | d, e => if (SeqAt.shaped d && SeqAt.shaped e) = true then some (.bool (PyData.eqv d e), false) else none
def neF : Op2 := fun d e => match d, e with
  | .str a, .str b => some (.bool (!(a.cps.toList == b.cps.toList)), false)
  | d, e => if (SeqAt.shaped d && SeqAt.shaped e) = true then some (.bool (!PyData.eqv d e), false) else none
theorem or_eq (hu : X.A.units + 65 < cLine) : OpR X (compareOp .Eq) (rS X.K eqF) := by
  intro pins s σ H x y v u Q I rx ry h
  obtain ⟨F, d, e, zb, l, hd, he, hz, q⟩ := h
  unfold eqF at hz
  split at hz
  · cases hz
    exact op_eq2 pins s σ H x y v u Q I rx ry ⟨_, _, hd.str, he.str, by rw [eqS_beq0]; exact q.old l (.bl _)⟩
  · simp only [Option.map_eq_some_iff] at hz
    obtain ⟨b, hb, rfl⟩ := hz
    unfold dEq at hb
    split at hb
    · rename_i hs
      cases hb
      rw [Bool.and_eq_true] at hs
      obtain ⟨a, ks, rfl, ha, rk⟩ := hd.dict l
      obtain ⟨b, ls, rfl, hb, rl⟩ := he.dict l
      cases (show v = Value.ref a from rx)
      cases (show u = Value.ref b from ry)
      obtain ⟨_, ya, va, ra, da⟩ := dk_rd I.hok ha
      obtain ⟨_, yb, vb, rb, db⟩ := dk_rd I.hok hb
      refine PySem.W.rcP_dicts (knd := mixKind X.prog X.w) (r := _) ya yb da db (by omega) (fun _ => hits_data I (A := X.A.in1) (by show X.A.units + 1 + 64 < cLine; omega) rb (rl.mono l) (fun p hp => List.all_eq_true.mp hs.2 p hp) ra (rk.mono l) (fun p hp => List.all_eq_true.mp hs.1 p hp)) _ _ ?_
      have ev : va.length = _ := (ra.length.symm.trans rk.length)
      have ew : vb.length = _ := (rb.length.symm.trans rl.length)
      rw [ev, ew]
      exact ⟨.bl _, H, I, rfl, q.old l (.bl _)⟩
    · cases hb
  · split at hz
    · rename_i hs
      cases hz
      rw [Bool.and_eq_true] at hs
      exact op_eqD (by omega) pins s σ H x y v u Q I rx ry ⟨_, _, (hd.rp l).dp (plain_canLay _ (SeqAt.canLay_of_shaped hs.1)), (he.rp l).dp (plain_canLay _ (SeqAt.canLay_of_shaped hs.2)), hs.1, hs.2, q.old l (.bl _)⟩
    · cases hz
theorem or_ne (hu : X.A.units + 64 < cLine) : OpR X (compareOp .NotEq) (rS X.K neF) := by
  intro pins s σ H x y v u Q I rx ry h
  obtain ⟨F, d, e, zb, l, hd, he, hz, q⟩ := h
  unfold neF at hz
  split at hz
  · cases hz
    exact op_ne2 pins s σ H x y v u Q I rx ry ⟨_, _, hd.str, he.str, by rw [eqS_beq0]; exact q.old l (.bl _)⟩
  · split at hz
    · rename_i hs
      cases hz
      rw [Bool.and_eq_true] at hs
      exact op_neD hu pins s σ H x y v u Q I rx ry ⟨_, _, (hd.rp l).dp (plain_canLay _ (SeqAt.canLay_of_shaped hs.1)), (he.rp l).dp (plain_canLay _ (SeqAt.canLay_of_shaped hs.2)), hs.1, hs.2, q.old l (.bl _)⟩
    · cases hz
def ltF : Op2
  | .int i, .int j => some (.bool (decide (i < j)), false)
  | .str a, .str b => some (.bool (decide (a.cps.toList < b.cps.toList)), false)
  | _, _ => none
theorem or_lt : OpR X (compareOp .Lt) (rS X.K ltF) := by
  intro pins s σ H x y v u Q I rx ry h
  obtain ⟨F, d, e, zb, l, hd, he, hz, q⟩ := h
  unfold ltF at hz
  split at hz
  · cases hz
    exact op_lt pins s σ H x y v u Q I rx ry ⟨_, _, hd.int, he.int, q.old l (.bl _)⟩
  · cases hz
    exact op_lt_str pins s σ H x y v u Q I rx ry ⟨_, _, hd.str, he.str, q.old l (.bl _)⟩
  · cases hz
def leF : Op2
  | .int i, .int j => some (.bool (decide (i ≤ j)), false)
  | _, _ => none
def gtF : Op2
  | .int i, .int j => some (.bool (decide (j < i)), false)
  | _, _ => none
def geF : Op2
  | .int i, .int j => some (.bool (decide (j ≤ i)), false)
  | _, _ => none
theorem or_le : OpR X (compareOp .LtE) (rS X.K leF) := by
  intro pins s σ H x y v u Q I rx ry h
  obtain ⟨F, d, e, zb, l, hd, he, hz, q⟩ := h
  unfold leF at hz
  split at hz
  · cases hz
    exact op_le pins s σ H x y v u Q I rx ry ⟨_, _, hd.int, he.int, q.old l (.bl _)⟩
  · cases hz
theorem or_gt : OpR X (compareOp .Gt) (rS X.K gtF) := by
  intro pins s σ H x y v u Q I rx ry h
  obtain ⟨F, d, e, zb, l, hd, he, hz, q⟩ := h
  unfold gtF at hz
  split at hz
  · cases hz
    exact op_gt pins s σ H x y v u Q I rx ry ⟨_, _, hd.int, he.int, q.old l (.bl _)⟩
  · cases hz
theorem or_ge : OpR X (compareOp .GtE) (rS X.K geF) := by
  intro pins s σ H x y v u Q I rx ry h
  obtain ⟨F, d, e, zb, l, hd, he, hz, q⟩ := h
  unfold geF at hz
  split at hz
  · cases hz
    exact op_ge pins s σ H x y v u Q I rx ry ⟨_, _, hd.int, he.int, q.old l (.bl _)⟩
  · cases hz

def chars (s : Str) : List Nat := s.cps.toList
def inB : D → D → Option Bool
  | .str x, .str y => (match chars x with
    | [c] => some (decide (c ∈ chars y))
    | _ => none)
  | d, .list ds => if (SeqAt.shaped d && SeqAt.shaped (.list ds)) = true then some (ds.any fun z => PyData.eqv z d) else none
  | d, .tuple ds => if (SeqAt.shaped d && SeqAt.shaped (.tuple ds)) = true then some (ds.any fun z => PyData.eqv z d) else none
  | d, .dict es => (keyOf d).map fun k => (dget es k).isSome
  | _, _ => none
def inF : Op2 := fun d e => (inB d e).map fun b => (.bool b, false)
def notInF : Op2 := fun d e => (inB d e).map fun b => (.bool (!b), false)
theorem str_one {x : Str} {c : Nat} (h : chars x = [c]) : x = ⟨#[c]⟩ := by
  obtain ⟨a⟩ := x
  have : a.toList = [c] := h
  congr 1
  exact Array.ext' this
theorem or_in (hu : X.A.units + 65 < cLine) : OpR X (compareOp .In) (rS X.K inF) := by
  intro pins s σ H x y v u Q I rx ry h
  obtain ⟨F, d, e, zb, l, hd, he, hz, q⟩ := h
  simp only [inF, Option.map_eq_some_iff] at hz
  obtain ⟨b, hb, rfl⟩ := hz
  unfold inB at hb
  split at hb
  · rename_i x' y'
    split at hb
    · rename_i c hc
      cases hb
      have e1 := hd.str
      rw [str_one hc] at e1
      exact op_in_sign pins s σ H x y v u Q I rx ry ⟨c, _, e1, he.str, q.old l (.bl _)⟩
    · cases hb
  · rename_i ds
    split at hb
    · rename_i hs
      cases hb
      rw [Bool.and_eq_true] at hs
      exact op_inD hu pins s σ H x y v u Q I rx ry ⟨d, ds, (hd.rp l).dp (plain_canLay d (SeqAt.canLay_of_shaped hs.1)), (he.rp l).dp (plain_canLay _ (SeqAt.canLay_of_shaped hs.2)), hs.1, hs.2, q.old l (.bl _)⟩
    · cases hb
  · rename_i ds
    split at hb
    · rename_i hs
      cases hb
      rw [Bool.and_eq_true] at hs
      obtain ⟨as, r1⟩ := Dp.reads I d x v ((hd.rp l).dp (plain_canLay d (SeqAt.canLay_of_shaped hs.1))) rx
      obtain ⟨bs, r2⟩ := Dp.reads I (.tuple ds) y u ((he.rp l).dp (plain_canLay _ (SeqAt.canLay_of_shaped hs.2))) ry
      refine SeqAt.in_tuple_reads r2 r1 (by simpa [PyData.canLay0] using SeqAt.canLay_of_shaped hs.2) (SeqAt.canLay_of_shaped hs.1) (PyProof.Rows.room_in_shaped hs.1 hu) ?_
      exact ⟨.bl _, H, I, rfl, q.old l (.bl _)⟩
    · cases hb
  · rename_i es
    simp only [Option.map_eq_some_iff] at hb
    obtain ⟨k, hk, rfl⟩ := hb
    obtain ⟨a, kvs, rfl, rd, r⟩ := he.dict l
    cases ry
    have ek := keyOf_kV hd hk
    have g : DGet H a x (valV kvs k) := .inl ⟨kvs, k, rd, ek, rfl⟩
    have es' : (dget es k).isSome = (valV kvs k).isSome := by
      rcases r.get k with ⟨h1, h2⟩ | ⟨v', d', h1, h2, _⟩ <;> rw [h1, h2] <;> rfl
    rw [es'] at q
    exact d_in (by omega) I g rx fun s3 I3 => ⟨.bl _, H, I3, rfl, q.old l (.bl _)⟩
  · cases hb
theorem or_notIn (hu : X.A.units + 65 < cLine) : OpR X (compareOp .NotIn) (rS X.K notInF) := by
  intro pins s σ H x y v u Q I rx ry h
  obtain ⟨F, d, e, zb, l, hd, he, hz, q⟩ := h
  simp only [notInF, Option.map_eq_some_iff] at hz
  obtain ⟨b, hb, rfl⟩ := hz
  unfold inB at hb
  split at hb
  · rename_i x' y'
    split at hb
    · rename_i c hc
      cases hb
      have e1 := hd.str
      rw [str_one hc] at e1
      exact op_notIn_sign pins s σ H x y v u Q I rx ry ⟨c, _, e1, he.str, q.old l (.bl _)⟩
    · cases hb
  · rename_i ds
    split at hb
    · rename_i hs
      cases hb
      rw [Bool.and_eq_true] at hs
      exact op_notInD hu pins s σ H x y v u Q I rx ry ⟨d, ds, (hd.rp l).dp (plain_canLay d (SeqAt.canLay_of_shaped hs.1)), (he.rp l).dp (plain_canLay _ (SeqAt.canLay_of_shaped hs.2)), hs.1, hs.2, q.old l (.bl _)⟩
    · cases hb
  · rename_i ds
    split at hb
    · rename_i hs
      cases hb
      rw [Bool.and_eq_true] at hs
      obtain ⟨as, r1⟩ := Dp.reads I d x v ((hd.rp l).dp (plain_canLay d (SeqAt.canLay_of_shaped hs.1))) rx
      obtain ⟨bs, r2⟩ := Dp.reads I (.tuple ds) y u ((he.rp l).dp (plain_canLay _ (SeqAt.canLay_of_shaped hs.2))) ry
      refine SeqAt.notIn_tuple_reads r2 r1 (by simpa [PyData.canLay0] using SeqAt.canLay_of_shaped hs.2) (SeqAt.canLay_of_shaped hs.1) (PyProof.Rows.room_in_shaped hs.1 hu) ?_
      exact ⟨.bl _, H, I, rfl, q.old l (.bl _)⟩
    · cases hb
  · rename_i es
    simp only [Option.map_eq_some_iff] at hb
    obtain ⟨k, hk, rfl⟩ := hb
    obtain ⟨a, kvs, rfl, rd, r⟩ := he.dict l
    cases ry
    have ek := keyOf_kV hd hk
    have g : DGet H a x (valV kvs k) := .inl ⟨kvs, k, rd, ek, rfl⟩
    have es' : (dget es k).isSome = (valV kvs k).isSome := by
      rcases r.get k with ⟨h1, h2⟩ | ⟨v', d', h1, h2, _⟩ <;> rw [h1, h2] <;> rfl
    rw [es'] at q
    exact d_notIn (by omega) I g rx fun s3 I3 => ⟨.bl _, H, I3, rfl, q.old l (.bl _)⟩
  · cases hb

def ixF : Op2
  | .list ds, .int i => (atI ds i).map fun d => (d, false)
  | .tuple ds, .int i => (atI ds i).map fun d => (d, false)
  | .str x, .int i => if x.length ≤ sizeLine then (atI (chars x) i).map fun c => (.str ⟨#[c]⟩, false) else none
  | _, _ => none
theorem RpA.at {vs : List V} {ds : List D} {i : Int} {d : D} (r : RpA K F vs ds) (e : atI ds i = some d) : ∃ v, atI vs i = some v ∧ Rp K F v d := by
  unfold atI at e ⊢
  rw [r.length]
  simp only [Option.bind_eq_some_iff] at e
  obtain ⟨j, e1, e2⟩ := e
  obtain ⟨v, hv, rp⟩ := r.get j d e2
  exact ⟨v, by rw [e1]; exact hv, rp⟩
theorem ir_ix : IxR X (rS X.K ixF) := by
  intro value slice pins s σ H x y v u Q I rx ry h hs
  obtain ⟨F, d, e, zb, l, hd, he, hz, q⟩ := h
  unfold ixF at hz
  split at hz
  · simp only [Option.map_eq_some_iff] at hz
    obtain ⟨z, e1, rfl⟩ := hz
    obtain ⟨a, xs, ex, h1, r1⟩ := hd.list l
    obtain ⟨w, hw, rp⟩ := r1.at e1
    exact ix_list value slice pins s σ H x y v u Q I rx ry ⟨a, xs, _, w, ex, he.int, .inl (.inl h1), hw, q.old l rp⟩ hs
  · simp only [Option.map_eq_some_iff] at hz
    obtain ⟨z, e1, rfl⟩ := hz
    obtain ⟨a, xs, ex, h1, r1, _⟩ := hd.tuple l
    obtain ⟨w, hw, rp⟩ := r1.at e1
    exact ix_tup value slice pins s σ H x y v u Q I rx ry ⟨a, xs, _, w, ex, he.int, h1, hw, q.old l rp⟩ hs
  · split at hz
    · simp only [Option.map_eq_some_iff] at hz
      obtain ⟨c, e1, rfl⟩ := hz
      exact ix_str value slice pins s σ H x y v u Q I rx ry ⟨_, _, c, hd.str, he.int, by assumption, e1, q.old l (.str _)⟩ hs
    · cases hz
  · cases hz
def cutD (ds : List D) (lo hi : Option Int) : List D := (ds.drop (HT.sIx ds.length 0 lo)).take (HT.sIx ds.length ds.length hi - HT.sIx ds.length 0 lo)
theorem RpA.cut {vs : List V} {ds : List D} (r : RpA K F vs ds) (lo hi : Option Int) : RpA K F (cutV vs lo hi) (cutD ds lo hi) := by
  unfold cutV cutD
  rw [r.length]
  exact (r.drop _).take _
def slF : D → Option Int → Option Int → Option (D × Bool)
  | .list ds, lo, hi => some (.list (cutD ds lo hi), true)
  | .tuple ds, lo, hi => some (.tuple (cutD ds lo hi), false)
  | .str x, lo, hi => if x.length ≤ sizeLine then some (.str (cutS x lo hi), false) else none
  | _, _, _ => none
theorem cut_whole {ds : List D} {lo hi : Option Int} (h : HT.sIx ds.length 0 lo = 0 ∧ HT.sIx ds.length ds.length hi = ds.length) : cutD ds lo hi = ds := by
  unfold cutD
  rw [h.1, h.2]
  simp
theorem sr_sl : SlR X (rSl X.K slF) := by
  intro pins s σ H x v vl vu lo hi sl Q I rx hs pl pu h
  obtain ⟨F, d, zb, l, hd, hz, q⟩ := h
  unfold slF at hz
  split at hz
  · cases hz
    obtain ⟨a, xs, ex, h1, r1⟩ := hd.list l
    exact sl_list pins s σ H x v vl vu lo hi sl Q I rx hs pl pu ⟨a, xs, ex, .inl (.inl h1), Post.lst l (r1.cut lo hi) q⟩
  · cases hz
    obtain ⟨a, xs, ex, h1, r1, p1⟩ := hd.tuple l
    subst ex
    refine sl_tupS pins s σ H _ v vl vu lo hi sl Q I rx hs pl pu ⟨a, xs, rfl, h1, fun z => ?_, fun _ => Post.tup l (r1.cut lo hi) q⟩
    rw [r1.length] at z
    rw [cut_whole z] at q
    exact q.old l p1
  · split at hz
    · cases hz
      exact sl_str pins s σ H x v vl vu lo hi sl Q I rx hs pl pu ⟨_, hd.str, by assumption, q.old l (.str _)⟩
    · cases hz
  · cases hz
def kget : Op2
  | .dict es, d => (keyOf d).bind fun k => (dget es k).map fun z => (z, false)
  | _, _ => none
theorem de_dget {a b : Expr} {f g : SemE} {pos : Pos} (hu : X.A.units + 64 < cLine) (ha : DE X a f) (hb : DE X b g) (hs : NoSl b := by intro _ _; rfl) : DE X (.Subscript a b pos) (sOp kget f g) := by
  refine ⟨(pe_dget (by omega) ha.pe hb.pe hs).pvi fun σ H Q q => ?_⟩
  obtain ⟨P, W, F, ρ, r1, ρ1, R, e1, k⟩ := sOp_ok q
  refine ⟨P, W, F, ρ, r1, ρ1, R, e1, fun v H1 F1 x1 R1 o1 => ?_⟩
  obtain ⟨P', W', F', ρ', r2, ρ2, R', e2, k2⟩ := k v H1 F1 x1 R1 o1
  refine ⟨P', W', F', ρ', r2, ρ2, R', e2, fun u H3 F3 x3 R3 o3 => ?_⟩
  obtain ⟨F4, d, e, zb, l, hd, he, hz, q⟩ := k2 u H3 F3 x3 R3 o3
  unfold kget at hz
  split at hz
  · simp only [Option.bind_eq_some_iff, Option.map_eq_some_iff] at hz
    obtain ⟨key, hk, z, hg, rfl⟩ := hz
    obtain ⟨a, kvs, rfl, rd, r⟩ := hd.dict l
    rcases r.get key with ⟨_, h2⟩ | ⟨v', d', h1, h2, rp⟩
    · rw [h2] at hg; cases hg
    · rw [h2] at hg; cases hg
      exact ⟨a, v', rfl, .inl ⟨kvs, key, rd, keyOf_kV he hk, h1.symm⟩, q.old l rp⟩
  · cases hz
end
end Pv
end
section
set_option Elab.async false
set_option linter.all false
set_option autoImplicit false
set_option maxRecDepth 100000
set_option maxHeartbeats 2000000
namespace Pv
open PySem PySem.Calls PySem.W PySem.SeqAt PyProof.Rows
section
variable {A : Around} {s : Shared}
theorem call_tuple_lt {prog : Program} {w : World} {E : Value → Shared → Prop} {Q : Value → Shared → Prop} {l b : Addr} {items items2 : Array Value} {e r : Nat → Bool} (hl : s.heap.IsTuple l items) (hb : s.heap.IsTuple b items2)
    (he : ∀ j (h1 : j < items.size) (h2 : j < items2.size), EqAt A.in1 s items[j] items2[j] (e j)) (hr : ∀ j (h1 : j < items.size) (h2 : j < items2.size), e j = false → RcLt A.in1 s items[j] items2[j] (r j))
    (h : Q (.bool (firstLt e r (decide (items.size < items2.size)) (List.range (min items.size items2.size)))) s) : wpAny (model prog w) A (call (.builtin "tuple.__lt__") [.ref l, .ref b]) Q E s := by
  obtain ⟨⟨cls, dd, data, sl⟩, ho, hc, n, hd⟩ := id hl
  obtain ⟨⟨cls2, dd2, data2, sl2⟩, ho2, hc2, n2, hd2⟩ := id hb
  simp only at hc hd hc2 hd2
  subst hc hd hc2 hd2
  exact call_meets F.slot_tuple_lt ⟨_, ho, rfl⟩ F.entry_tuple_lt (F.args_tuple_lt_2 _ _) (tuple_ltAt l b items items2 n n2 dd dd2 sl sl2 e r) ⟨ho, ho2, he, hr, h⟩
end
section
variable {prog : Program} {w : World} {A : Around} {E : Value → Shared → Prop} {s : Shared}
theorem oneLt_tuple {xs ys : List PyData} {a b : Value} {as bs : List Addr} {Q : Bool → Shared → Prop} (ra : Reads s.heap a (.tuple xs) as) (rb : Reads s.heap b (.tuple ys) bs) (h : alike (.tuple xs) (.tuple ys) = true)
    (hu : A.units + min (PyData.tuple xs).depth (PyData.tuple ys).depth < cLine) (hq : Q (dataLt (.tuple xs) (.tuple ys)) s) : wpAny (model prog w) A (oneLt' true a b) Q E s := by
  have hal : alikeAll xs ys = true := by simpa [alike] using h
  cases ra with
  | @tuple l o vs n _ as₁ h1 h2 h3 h4 =>
    cases rb with
    | @tuple l' o' vs' n' _ bs₁ k1 k2 k3 k4 =>
      have n1 : vs.size = xs.length := by simpa using ReadsAll.length _ _ _ h4
      have n2 : vs'.size = ys.length := by simpa using ReadsAll.length _ _ _ k4
      rw [dataLt_tuple, ← firstLt_toks xs ys hal, ← n1, ← n2] at hq
      rw [oneLt'_eq]
      simp only [if_true]
      refine wpAny_bind (wpAny_cRoomFor (room_here hu) ?_)
      refine wpAny_bind (wpAny_callSpecialIfBound?_slot (T := "tuple") ⟨_, h1, h2⟩ F.slot_tuple_lt (call_tuple_lt (e := pairEq xs ys) (r := fun j => dataLt (xs.getD j .none) (ys.getD j .none)) ⟨_, h1, h2, _, h3⟩ ⟨_, k1, k2, _, k3⟩ (fun j j1 j2 => ?_) (fun j j1 j2 hj => ?_) ?_))
      · have := eqAt_alikeAll xs ys A.in1 s vs.toList vs'.toList _ _ h4 k4 hal (room_in hu) j (by simpa using j1) (by simpa using j2)
        simpa using this
      · have := rcLt_alikeAll xs ys A.in1 s vs.toList vs'.toList _ _ h4 k4 hal (room_in hu) j (by simpa using j1) (by simpa using j2) hj
        simpa using this
      · exact wpAny_truthy_bool hq
def KatO (h : Heap) (v : Value) (f : Option Value) : Prop := ∃ a o xs n, v = .ref a ∧ h.get? a = some o ∧ o.cls = .type "tuple" ∧ o.data = .seq xs n ∧ xs[0]? = f
theorem katO_firsts {M : Model} : ∀ (vs : List Value) (fs : List (Option Value)) {Q : List (Option Value) → Shared → Prop}, EachIs (KatO s.heap) vs fs → Q fs s → wpAny M A (vs.mapM firstOfTuple') Q E s
  | [], _, _, t, h => by cases t; rw [List.mapM_nil]; exact wpAny_pure h
  | v :: vs, _, Q, t, h => by
    cases t with
    | @cons _ f _ fs x t =>
      obtain ⟨a, o, xs, n, rfl, ho, hc, hd, hf⟩ := x
      rw [List.mapM_cons]
      refine wpAny_bind ?_
      rw [kas_first_eq]
      refine wpAny_bind (Looks.here (show Looks M s.heap (typeOf (.ref a)) o.cls from (Looks.ld ho).andThen .now) ?_)
      rw [hc, if_neg (by first | decide | simp)]
      refine wpAny_bind (listItems_at ho hd (wpAny_pure ?_))
      rw [hf]
      exact wpAny_bind (katO_firsts vs fs (Q := fun bs s' => wpAny M A (pure (f :: bs)) Q E s') t (wpAny_pure h))
theorem katO_type {M : Model} {h : Heap} {v : Value} {f : Option Value} (x : KatO h v f) : Looks M h (typeOf v) (.type "tuple") := by
  obtain ⟨a, o, xs, n, rfl, ho, hc, hd, hf⟩ := x
  exact hc ▸ (show Looks M h (typeOf (.ref a)) o.cls from (Looks.ld ho).andThen .now)
theorem katO_kind {M : Model} {vs : List Value} {fs : List (Option Value)} {Q : SortKind → Shared → Prop} (t : EachIs (KatO s.heap) vs fs) (h2 : 2 ≤ vs.length) (hm : (fs.all (·.isSome)) = false)
    (h : Q (if (fs[0]?.bind id).isSome then general' else oneType') s) : wpAny M A (keyKind' vs.toArray) Q E s := by
  rw [keyKind'_eq, List.mapM_toArray, map_eq_pure_bind]
  refine wpAny_bind (wpAny_bind (katO_firsts vs fs t (wpAny_pure ?_)))
  rw [if_neg (by rw [List.all_toArray, hm]; exact Bool.false_ne_true)]
  have e0 : fs.toArray[0]? = fs[0]? := by simp
  rw [e0]
  by_cases hf : (fs[0]?.bind id).isSome = true
  · rw [if_pos hf] at h ⊢
    exact wpAny_pure h
  · rw [if_neg hf] at h ⊢
    rw [oneTypeOnly'_eq, List.mapM_toArray, map_eq_pure_bind]
    refine wpAny_bind (wpAny_bind (wpAny_bind (kas_mapM (r := Value.type "tuple") _ (fun v hv Q' hq => ?_) (wpAny_pure ?_))))
    · obtain ⟨f, _, x⟩ := t.left v hv
      exact (katO_type x).here hq
    · have hall : ((List.map (fun _ => Value.type "tuple") vs).toArray.all fun x => x == Value.type "tuple") = true := by
        simp only [List.all_toArray, List.all_map, List.all_eq_true]
        intro _ _
        exact beq_self_eq_true _
      have h0 : (List.map (fun _ => Value.type "tuple") vs).toArray[0]? = some (Value.type "tuple") := by
        cases vs with
        | nil => simp at h2
        | cons v r => simp
      rw [h0]
      simp only [hall, if_true]
      exact wpAny_pure (wpAny_pure h)
theorem katO_of {h : Heap} : ∀ {vs : List Value} {ds : List PyData}, EachIs (fun v d => ∃ as, Reads h v d as) vs ds → (∀ d, d ∈ ds → ∃ xs, d = .tuple xs) → ∃ fs : List (Option Value), EachIs (KatO h) vs fs ∧ (fs.all (·.isSome) = true → ∀ d, d ∈ ds → ∃ x r, d = .tuple (x :: r))
  | _, _, .nil, _ => ⟨[], .nil, fun _ d hd => absurd hd (by simp)⟩
  | _, _, .cons (b := d) ⟨as, r⟩ t, ht => by
    obtain ⟨fs, h1, h2⟩ := katO_of t fun d hd => ht d (List.mem_cons_of_mem _ hd)
    obtain ⟨zs, rfl⟩ := ht d (List.mem_cons_self ..)
    cases r with
    | @tuple a o xs n _ _ ho hc hd hr =>
      refine ⟨xs[0]? :: fs, .cons ⟨a, o, xs, n, rfl, ho, hc, hd, rfl⟩ h1, fun hall d' hd' => ?_⟩
      rw [List.all_cons, Bool.and_eq_true] at hall
      rcases List.mem_cons.mp hd' with rfl | hd'
      · cases zs with
        | cons z r => exact ⟨_, _, rfl⟩
        | nil =>
          have hn : xs.toList = [] := by
            generalize xs.toList = l at hr
            cases hr
            rfl
          have : xs[0]? = none := by rw [← Array.getElem?_toList, hn]; rfl
          rw [this] at hall
          exact absurd hall.1 (by simp)
      · exact h2 hall.2 d' hd'
theorem sortsAt_tups {vs : List Value} {ds : List PyData} (e : EachIs (fun v d => ∃ as, Reads s.heap v d as) vs ds) (hal : AllAlike ds) (hk : ∀ d, d ∈ ds → ∃ xs, d = .tuple xs) (hu : ∀ d, d ∈ ds → A.units + d.depth < cLine) : SortsAt prog w A s (dataKind s.heap ds) vs := by
  obtain ⟨fs, t, hf⟩ := katO_of e hk
  by_cases hall : fs.all (·.isSome) = true
  · exact SortsAt.data e hal (.inl (hf hall)) hu
  have hm : fs.all (·.isSome) = false := by simpa using hall
  refine ⟨fun v hv => ?_, if (fs[0]?.bind id).isSome then general' else oneType', ?_, fun h2 E Q hq => katO_kind t h2 hm hq⟩
  · obtain ⟨d, hd, as, r⟩ := e.left v hv
    exact ⟨_, dataKind_some hal hd r⟩
  · intro E x y a b Q ha hb hq
    obtain ⟨d, as, hd, ra, rfl⟩ := dataKind_inv ha
    obtain ⟨d', as', hd', rb, rfl⟩ := dataKind_inv hb
    have hdd := hal d hd d' hd'
    have hroom : A.units + min d.depth d'.depth < cLine := Nat.lt_of_le_of_lt (Nat.add_le_add_left (Nat.min_le_left _ _) _) (hu d hd)
    obtain ⟨x1, rfl⟩ := hk d hd
    obtain ⟨x2, rfl⟩ := hk d' hd'
    have hq' : Q (dataLt (.tuple x1) (.tuple x2)) s := hq
    split
    · exact oneLt_alike (f := false) (fun h => absurd h Bool.false_ne_true) ra rb hdd (fun h => nomatch h) hroom hq'
    · rw [keyLt'_oneType]
      exact oneLt_tuple ra rb hdd hroom hq'
def SortableT (ds : List PyData) : Prop := (∀ d, d ∈ ds → ∃ xs, d = .tuple xs) ∨ ∀ d, d ∈ ds → d ≠ .none ∧ ∀ xs, d ≠ .tuple xs
theorem sortableT {ds : List PyData} (h : Sortable ds) : SortableT ds := h.imp (fun q d hd => let ⟨x, r, e⟩ := q d hd; ⟨x :: r, e⟩) id
theorem sortsAtT {vs : List Value} {ds : List PyData} (e : EachIs (fun v d => ∃ as, Reads s.heap v d as) vs ds) (hal : AllAlike ds) (hk : SortableT ds) (hu : ∀ d, d ∈ ds → A.units + d.depth < cLine) : SortsAt prog w A s (dataKind s.heap ds) vs := by
  rcases hk with h | h
  · exact sortsAt_tups e hal h hu
  · exact SortsAt.data e hal (.inr h) hu
theorem list_sort_dataT {R : Value → PyData → Prop} {vs : List Value} {bs : List PyData} {a : Addr} {n : Nat} {Q : Value → Shared → Prop} (ho : s.heap.get? a = some (seqObj "list" vs.toArray n)) (e : EachIs R vs bs) (er : EachIs (fun v b => ∃ as, Reads s.heap v (id b) as ∧ a ∉ as) vs bs) (hal : AllAlike (bs.map id)) (hk : SortableT (bs.map id)) (hL : bs.length ≤ sizeLine)
    (hu : ∀ b, b ∈ bs → A.units + 1 + (id b : PyData).depth < cLine) (h : ∀ out, out.length = bs.length → EachIs R out (bs.mergeSort (dataLe false id)) → Q .none { s with heap := sortedHeap s.heap a vs (List.toArray out) }) :
    wpAny (model prog w) A (call (.builtin "list.sort") [.ref a]) Q E s := by
  have er' : EachIs (fun v b => ∃ as, Reads (sortingHeap s.heap a vs) v (id b) as) vs bs := each_keepBut (h' := sortingHeap s.heap a vs) (fun _ _ hb q => sortingHeap_old hb q) (fun o q => by rw [ho] at q; rw [← Option.some.inj q]) hal er
  refine wpAny_call_entry slot_list_sort ⟨_, ho, rfl⟩ entry_list_sort (list_sort_vals (κ := dataKind (sortingHeap s.heap a vs) (bs.map id)) ho (sortsAtT (s := { s with heap := sortingHeap s.heap a vs }) (each_map (R := fun v d => ∃ as, Reads (sortingHeap s.heap a vs) v d as) id er') hal hk (bound_map hu)) (by rw [e.length]; exact hL) ⟨.none, rfl, ?_⟩) (args_list_sort _)
  exact h _ (by rw [sortVals_length false rfl]; exact e.length) (sortVals_data false e er' hal)
end
end Pv
end
section
set_option Elab.async false
set_option linter.all false
set_option maxRecDepth 100000
set_option maxHeartbeats 2000000
namespace Pv
open PySem PySem.Spec PyProof.Rows L2 PySem.W

def txt (e : Int × Value) : Str := match e.2 with
  | .str x _ => x
  | _ => Str.empty
def IsT (w : World) (e : Int × Value) : Prop := ∃ x t, e.2 = Value.str x t ∧ e.1 = hashStr w x
structure SetS (w : World) (h : Heap) (a : Addr) (xs : List Str) (es : Array (Int × Value)) (ep : Nat) (tb : SetTable) : Prop where
  at_ : ∃ o, h.get? a = some o ∧ o.ExactSet ∧ o.data = .set es ep tb
  good : ∀ e ∈ es.toList, IsT w e
  once : (es.toList.map txt).Nodup
  mem : ∀ x, x ∈ xs ↔ x ∈ es.toList.map txt
  few : es.size < scanBound
  fits : tb.fits es.size = true
  ris : Ris tb.place.toList
  led : w.params.followText "set-order" = true ∨ tb.led = true
theorem SetS.keep {w : World} {h h' : Heap} {a : Addr} {xs : List Str} {es : Array (Int × Value)} {ep : Nat} {tb : SetTable} (R : SetS w h a xs es ep tb) (k : ∀ o, h.get? a = some o → h'.get? a = some o) : SetS w h' a xs es ep tb :=
  ⟨let ⟨o, h1, h2⟩ := R.at_; ⟨o, k o h1, h2⟩, R.good, R.once, R.mem, R.few, R.fits, R.ris, R.led⟩
theorem SetS.congr {w : World} {h : Heap} {a : Addr} {xs ys : List Str} {es : Array (Int × Value)} {ep : Nat} {tb : SetTable} (R : SetS w h a xs es ep tb) (k : ∀ x, x ∈ ys ↔ x ∈ xs) : SetS w h a ys es ep tb :=
  ⟨R.at_, R.good, R.once, fun x => (k x).trans (R.mem x), R.few, R.fits, R.ris, R.led⟩
theorem isT_key {w : World} {P : Program} {e : Int × Value} (g : IsT w e) (x : Str) : (strKind P w).is x e.2 = true ↔ txt e = x := by
  obtain ⟨y, t, h1, _⟩ := g
  unfold txt
  rw [h1]
  show Value.isStrOf x (.str y t) = true ↔ y = x
  simp [Value.isStrOf]
theorem isT_elems {w : World} {P : Program} {l : List (Int × Value)} (g : ∀ e ∈ l, IsT w e) : ElemsOf (strKind P w) l := fun e he => by
  obtain ⟨x, t, h1, h2⟩ := g e he
  exact ⟨⟨x, by rw [h1]; exact strKind_is P w x t, h2⟩, by rw [h1]; rfl⟩
section
variable {P : Program} {w : World} {A : Around} {E : Value → Shared → Prop} {s : Shared} {a : Addr}

theorem setS_tail {gv : Bool → Sem Unit} (hgv : ∀ (b : Bool) (s1 : Shared) (Q1 : Unit → Shared → Prop), Q1 () s1 → wpAny (model P w) A (gv b) Q1 E s1)
    {o : Obj} {es es1 : Array (Int × Value)} {ep : Nat} {tb t1 : SetTable} (ho : s.heap.get? a = some o) (ex : o.ExactSet) (dt : o.data = .set es ep tb) {ys : List Str} (good : ∀ e ∈ es1.toList, IsT w e) (once : (es1.toList.map txt).Nodup)
    (mem : ∀ x, x ∈ ys ↔ x ∈ es1.toList.map txt) (few : es1.size < scanBound) (fits : t1.fits es1.size = true) (ris : Ris t1.place.toList) (led : w.params.followText "set-order" = true ∨ t1.led = true) {dm : Bool} {R : Option Bool → Shared → Prop}
    (hR : ∀ h1 es2 ep2 t2, Heap.SameBut a s.heap h1 → SetS w h1 a ys es2 ep2 t2 → es2.size = es1.size → R (some true) { s with heap := h1 }) :
    wpAny (model P w) A (do
        storeSet a es1 t1
        if (!dm && t1.tooFull) = true then do
            gv (relayAll t1 es1 (SetTable.grown es1.size)).2.2
            storeSet a (relayAll t1 es1 (SetTable.grown es1.size)).1 (relayAll t1 es1 (SetTable.grown es1.size)).2.1
            pure (some true)
          else pure (some true)) R E s := by
  refine wpAny_bind (wpAny_storeSet_of ho dt ?_ (fits_of_scanBound few))
  have o1 := store_at (es' := es1) (t' := t1) ho dt
  have b1 := Heap.SameBut.update s.heap a (Obj.putSet es1 t1)
  split
  · have p2 := relayAll_perm t1 es1 (SetTable.grown es1.size)
    have f2 := relayAll_fits t1 es1 (SetTable.grown es1.size)
    have r2 := relayAll_ris t1 es1 (SetTable.grown es1.size)
    have l2 := relayAll_led t1 es1 (SetTable.grown es1.size)
    revert p2 f2 r2 l2
    generalize relayAll t1 es1 (SetTable.grown es1.size) = z
    obtain ⟨es2, t2, gave⟩ := z
    dsimp only
    intro p2 f2 r2 l2
    have size2 : es2.size = es1.size := by
      have := p2.length_eq
      rwa [Array.length_toList, Array.length_toList] at this
    refine wpAny_bind (hgv _ _ _ (wpAny_bind (wpAny_storeSet_of o1 rfl ?_ (fits_of_scanBound (by omega)))))
    have o2 := store_at (es' := es2) (t' := t2) o1 rfl
    refine wpAny_pure (hR _ es2 (ep + 1 + 1) t2 (b1.trans (Heap.SameBut.update _ a _)) ?_ size2)
    exact { at_ := ⟨_, o2, ex, rfl⟩, good := fun e he => good e (p2.mem_iff.mp he), once := (p2.map txt).nodup_iff.mpr once, mem := fun x => (mem x).trans (p2.map txt).mem_iff.symm, few := by omega, fits := f2, ris := r2, led := led.imp id fun z => by rw [l2]; exact z }
  · exact wpAny_pure (hR _ es1 (ep + 1) t1 b1 { at_ := ⟨_, o1, ex, rfl⟩, good := good, once := once, mem := mem, few := few, fits := fits, ris := ris, led := led } rfl)

theorem gave_way {b : Bool} {s1 : Shared} {Q1 : Unit → Shared → Prop} (q : Q1 () s1) : wpAny (model P w) A (match b with | true => rule "set.scan.the-table-gave-way" | false => pure ()) Q1 E s1 := by
  cases b
  · exact wpAny_pure q
  · exact wpAny_rule q
theorem setS_add {x : Str} {tk : Tok} {xs : List Str} {es : Array (Int × Value)} {ep : Nat} {tb : SetTable} {Q : Bool → Shared → Prop} (R : SetS w s.heap a xs es ep tb) (room : es.size + 1 < scanBound)
    (hQ : ∀ b h1 es1 ep1 t1, Heap.SameBut a s.heap h1 → SetS w h1 a (xs ++ [x]) es1 ep1 t1 → es1.size ≤ es.size + 1 → Q b { s with heap := h1 }) :
    wpAny (model P w) A (setAddHashed a (.str x tk) ((strKind P w).hash x)) Q E s := by
  obtain ⟨o, ho, ex, dt⟩ := R.at_
  have key : (strKind P w).is x (.str x tk) = true := strKind_is P w x tk
  have scan : (Value.str x tk).scannable = true := rfl
  have el : ElemsOf (strKind P w) es.toList := isT_elems R.good
  have memx : ∀ y, y ∈ es.toList.map txt ↔ ∃ e ∈ es.toList, (strKind P w).is y e.2 = true := fun y => by
    rw [List.mem_map]
    exact ⟨fun ⟨e, he, q⟩ => ⟨e, he, (isT_key (R.good e he) y).2 q⟩, fun ⟨e, he, q⟩ => ⟨e, he, (isT_key (R.good e he) y).1 q⟩⟩
  unfold setAddHashed setAddHashedIn
  refine wpAny_holding (wpAny_bind (wpAny_setState_of ho dt R.fits ?_))
  dsimp only
  rw [byScan_of scan R.few el]
  simp only [↓reduceIte]
  unfold setAddByScan
  refine wpAny_bind (wpAny_bind (wpAny_rule (wpAny_bind (wpAny_setScan_of key ho dt R.fits el ?_))))
  cases fi : List.findIdx? (fun e => (strKind P w).is x e.2) es.toList with
  | some j =>
    dsimp only
    obtain ⟨hj, pj, _⟩ := List.findIdx?_eq_some_iff_getElem.mp fi
    have here : x ∈ es.toList.map txt := (memx x).2 ⟨es.toList[j], List.getElem_mem hj, pj⟩
    refine wpAny_pure (wpAny_pure (hQ _ s.heap es ep tb (Heap.SameBut.refl a s.heap) (R.congr fun y => ?_) (Nat.le_succ _)))
    rw [List.mem_append, List.mem_singleton]
    exact ⟨fun z => z.elim id fun e => by rw [e]; exact (R.mem x).2 here, .inl⟩
  | none =>
    dsimp only
    have absent : x ∉ es.toList.map txt := fun z => by
      obtain ⟨e, he, q⟩ := (memx x).1 z
      have c := List.findIdx?_eq_none_iff.mp fi e he
      rw [q] at c
      cases c
    have pm := layNew_perm tb es ((strKind P w).hash x) (.str x tk)
    have ft := layNew_fits tb es ((strKind P w).hash x) (.str x tk)
    have rs := layNew_ris tb es ((strKind P w).hash x) (.str x tk) R.ris
    have ld := layNew_led tb es ((strKind P w).hash x) (.str x tk)
    revert pm ft rs ld
    generalize layNew tb es ((strKind P w).hash x) (.str x tk) = z
    obtain ⟨es1, t1, dm, gave⟩ := z
    dsimp only
    intro pm ft rs ld
    rw [Array.toList_push] at pm
    have pc : es1.toList.Perm (((strKind P w).hash x, Value.str x tk) :: es.toList) := pm.trans (List.perm_append_singleton _ _)
    have pk : (es1.toList.map txt).Perm (x :: es.toList.map txt) := pc.map txt
    have good1 : ∀ e ∈ es1.toList, IsT w e := fun e he => by
      rcases List.mem_cons.mp (pc.mem_iff.mp he) with z | z
      · rw [z]; exact ⟨x, tk, rfl, rfl⟩
      · exact R.good e z
    have once1 : (es1.toList.map txt).Nodup := pk.nodup_iff.mpr (List.nodup_cons.mpr ⟨absent, R.once⟩)
    have mem1 : ∀ y, y ∈ xs ++ [x] ↔ y ∈ es1.toList.map txt := fun y => by
      rw [pk.mem_iff, List.mem_cons, List.mem_append, List.mem_singleton, R.mem y]
      exact Or.comm
    have size1 : es1.size = es.size + 1 := by
      have := pc.length_eq
      rwa [List.length_cons, Array.length_toList, Array.length_toList] at this
    have few1 : es1.size < scanBound := by omega
    have led1 : w.params.followText "set-order" = true ∨ t1.led = true := R.led.imp id fun z => by rw [ld]; exact z
    refine wpAny_bind (gave_way ?_)
    split
    · refine wpAny_bind ?_
      rw [hashByValue_scannable 8 scan]
      refine wpAny_pure ?_
      refine setS_tail (fun b s1 Q1 q => gave_way q) ho ex dt good1 once1 mem1 few1 ?_ ?_ ?_ fun h1 es2 ep2 t2 sb r sz => ?_
      · split
        · exact ft
        · exact SetTable.fits_plain_off ft
      · split <;> exact rs
      · split <;> exact led1
      · exact wpAny_pure (hQ _ h1 es2 ep2 t2 sb r (by omega))
    · refine wpAny_bind (wpAny_pure ?_)
      simp only [↓reduceIte]
      refine setS_tail (fun b s1 Q1 q => gave_way q) ho ex dt good1 once1 mem1 few1 ft rs led1 fun h1 es2 ep2 t2 sb r sz => ?_
      exact wpAny_pure (hQ _ h1 es2 ep2 t2 sb r (by omega))

theorem setS_update {I : Addr} {fp wr : List Addr} {G : Array GenState → Array GenState → Prop} {n : Nat} {Pv : Nat → Value → Prop} {St : Nat → Shared → Prop} {R : Result → Shared → Prop}
    (W : WalksS P w A.in1 I fp wr G n Pv St) (S : Addr) (hS : S ∉ fp) (xs : List Str) (hn : n = xs.length) (hb : xs.length + 1 < scanBound) (val : ∀ i v, Pv i v → ∃ x t, xs[i]? = some x ∧ v = .str x t) :
    ∀ (k i : Nat) (s : Shared), n - i = k → i ≤ n → St i s → (∃ es ep tb, es.size ≤ i ∧ SetS w s.heap S (xs.take i) es ep tb) →
      (∀ s1 es ep tb, Moved (S :: wr) G s s1 → SetS w s1.heap S xs es ep tb → R (.ok (.ret .none)) s1) →
      codeAny (model P w) A (.builtin "set.update.loop" ⟨[.ref S, .ref I], []⟩) R s := by
  have off : S ∉ wr := fun h => hS (W.sub _ h)
  have sub : ∀ b ∈ wr, b ∈ S :: wr := fun b hb => List.mem_cons_of_mem _ hb
  intro k
  induction k with
  | zero =>
    intro i s e hi st ⟨es, ep, tb, hc, hs⟩ hR
    obtain rfl : i = n := by omega
    refine codeAny_builtin F.entry_set_update_loop ?_
    rw [Around.under_plainId F.plain_set_update_loop _]
    show wpAny _ A.in1 (pyNext (.ref I) >>= _) _ _ s
    refine wpAny_bind (W.done s _ _ st fun s1 mv => ?_)
    rw [List.take_of_length_le (Nat.le_of_eq hn.symm)] at hs
    show wpAny _ A.in1 (ret Value.none) _ _ s1
    exact wpAny_pure (hR s1 es ep tb (mv.mono sub) (hs.keep fun o e => mv.heap S o off e))
  | succ k ih =>
    intro i s e hi st ⟨es, ep, tb, hc, hs⟩ hR
    have lt : i < n := by omega
    refine codeAny_builtin F.entry_set_update_loop ?_
    rw [Around.under_plainId F.plain_set_update_loop _]
    show wpAny _ A.in1 (pyNext (.ref I) >>= _) _ _ s
    refine wpAny_bind (W.item i s _ _ lt st fun v s1 hP st1 mv => ?_)
    obtain ⟨x, t, hx, rfl⟩ := val i v hP
    have hs1 := hs.keep (h' := s1.heap) fun o e => mv.heap S o off e
    show wpAny _ A.in1 (holding [Value.str x t] (setAdd S (.str x t)) >>= _) _ _ s1
    unfold setAdd
    refine wpAny_bind (wpAny_holding (wpAny_holding (wpAny_bind ((strKind P w).pyHash (k := x) (strKind_is P w x t) ?_))))
    refine setS_add (s := { s1 with toks := s1.toks + 1 }) hs1 (by omega) fun b h2 es2 ep2 t2 sb r sz => ?_
    have r3 : SetS w h2 S (xs.take (i + 1)) es2 ep2 t2 := r.congr fun y => by rw [List.take_add_one, hx]; rfl
    refine wpAny_pure ⟨plainId_quiet F.plain_set_update_loop _, ih (i + 1) _ (by omega) lt (W.frame _ s1 _ _ st1 (Nat.le_succ _) fun b hb o e => ?_) ⟨es2, ep2, t2, by omega, r3⟩ fun s3 es3 ep3 t3 mv3 r4 => hR s3 es3 ep3 t3 (Moved.trans W.gtrans ((mv.mono sub).then_heap (Nat.le_succ _) fun b o hb e => ?_) mv3) r4⟩
    · rw [sb.2 b fun h => hS (by rw [← h]; exact hb)]; exact e
    · rw [sb.2 b fun h => hb (by rw [h]; exact List.mem_cons_self)]; exact e
theorem setS_new {h : Heap} {xs : List Str} (ho : h.get? a = some { cls := .type "set", dict := none, data := .set #[] 0 (.fresh 0 0 (!w.params.followText "set-order")) }) : SetS w h a (xs.take 0) #[] 0 (.fresh 0 0 (!w.params.followText "set-order")) where
  at_ := ⟨_, ho, ⟨rfl, rfl, rfl⟩, rfl⟩
  good := fun e he => by simp at he
  once := by simp
  mem := fun x => by simp
  few := by decide
  fits := rfl
  ris := List.Pairwise.nil
  led := by
    show _ ∨ (!w.params.followText "set-order") = true
    cases w.params.followText "set-order"
    · exact .inr rfl
    · exact .inl rfl
end
end Pv
end
section
set_option Elab.async false
set_option linter.all false
set_option maxRecDepth 100000
set_option maxHeartbeats 2000000
namespace Pv
open PySem PySem.Spec PyProof.Rows L2 PySem.W
section
variable {P : Program} {w : World} {A : Around} {E : Value → Shared → Prop} {s : Shared}

set_option maxHeartbeats 4000000 in
theorem call_set_list {l : Addr} {items : Array Value} (xs : List Str) {Q : Value → Shared → Prop} (calm : A.handled = none) (hl : s.heap.IsList l items) (hx : StrsAre items.toList xs) (hb : xs.length + 1 < scanBound)
    (hQ : ∀ h1 tk es ep tb, SetS w h1 s.heap.objs.size xs es ep tb → (∀ b o, s.heap.get? b = some o → h1.get? b = some o) → Q (.ref s.heap.objs.size) { s with heap := h1, toks := tk }) :
    wpAny (model P w) A (call (.type "set") [.ref l]) Q E s := by
  have size : items.size = xs.length := by
    rw [← StrsAre.len_eq hx, Array.length_toList]
  have at_ : ∀ (i : Nat) (v : Value), items[i]? = some v → ∃ x t, xs[i]? = some x ∧ v = .str x t := fun i v hv => by
    have hi : i < xs.length := by rw [← size]; exact (Array.getElem?_eq_some_iff.mp hv).1
    obtain ⟨t, e⟩ := SS.strs_at hx i v (by rw [Array.getElem?_toList]; exact hv)
    refine ⟨xs[i], t, List.getElem?_eq_getElem hi, ?_⟩
    rw [e, List.getD_eq_getElem?_getD, List.getElem?_eq_getElem hi]
    rfl
  obtain ⟨c, tl, mro⟩ := F.called_set.mro
  have f1 := F.called_set.made
  have f2 := F.called_set.sub
  have f3 := F.called_set.notType
  have f4 := F.called_set.canCreate
  have f5 := F.typeCall_set_1 (.ref l)
  refine wpAny_call (codeAny_of_tree ?_)
  show wpAny _ _ (callAny (.type "set") _) _ _ _
  refine wpAny_pure ⟨Code.quiet_builtin _ (by decide +kernel), codeAny_builtin F.entry_type_call ?_⟩
  rw [Around.under_plain (weight_type_call_type "set" [.ref l] []) rfl]
  repeat (any_goals (first | assumption | wp_step))
  refine codeAny_mono (code_set_led1 (.ref l) (E := E) (Q₁ := fun v s1 => v = .ref s.heap.objs.size ∧ s1 = { s with heap := s.heap.push { cls := .type "set", dict := none, data := .set #[] 0 (.fresh 0 0 (!w.params.followText "set-order")) } }) ⟨rfl, rfl⟩) fun r s1 hr => ?_
  cases r with
  | error e => exact hr
  | ok fl =>
    cases fl with
    | ret v =>
      obtain ⟨rfl, rfl⟩ := hr
      have hO : (s.heap.push { cls := .type "set", dict := none, data := .set #[] 0 (.fresh 0 0 (!w.params.followText "set-order")) }).get? s.heap.objs.size = some { cls := .type "set", dict := none, data := .set #[] 0 (.fresh 0 0 (!w.params.followText "set-order")) } := Heap.get?_push_size _ rfl
      have ty : Shared.TypeIs { s with heap := s.heap.push { cls := .type "set", dict := none, data := .set #[] 0 (.fresh 0 0 (!w.params.followText "set-order")) } } (.ref s.heap.objs.size) "set" := ⟨_, hO, rfl⟩
      have g1 := F.called_set.init.lookup
      have g2 := F.called_set.init.bind (.ref s.heap.objs.size)
      repeat (any_goals (first | assumption | wp_step))
      refine codeAny_mono (codeAny_call_builtin (R := wants (fun r s2 => r = .none ∧ ∃ h1 tk es ep tb, s2 = { s with heap := h1, toks := tk } ∧ SetS w h1 s.heap.objs.size xs es ep tb ∧
        ∀ b o, s.heap.get? b = some o → h1.get? b = some o) E) F.called_set.init.plain F.entry_set_init (check_set_init_1 ty ?_)) fun r2 s2 hr2 => ?_
      · have small := Heap.lt_size hl.choose_spec.1
        obtain ⟨⟨oc, od, odt, os⟩, hol, hoc, nl, hod⟩ := hl
        simp only at hoc hod
        subst hoc; subst hod
        have hol1 : (s.heap.push { cls := .type "set", dict := none, data := .set #[] 0 (.fresh 0 0 (!w.params.followText "set-order")) }).get? l = some ⟨.type "list", od, .seq items nl, os⟩ := Heap.get?_push_of_some _ hol
        have m1 := F.sub_list_set
        have m2 := F.sub_list_frozenset
        have m3 : (Value.type "list" == Value.type "dict") = false := by decide
        have hl1 : (s.heap.push { cls := .type "set", dict := none, data := .set #[] 0 (.fresh 0 0 (!w.params.followText "set-order")) }).IsList l items := ⟨_, hol1, rfl, nl, rfl⟩
        unfold Builtin.«set.__init__» noKeywords Builtin.Frozenset.updateFrom
        generalize pit : pyIter = PI
        wp_walk
        subst pit
        refine wpAny_pyIter_list hl1 ?_
        refine wpAny_bind (wpAny_runValue ?_)
        have sz : (s.heap.push { cls := .type "set", dict := none, data := .set #[] 0 (.fresh 0 0 (!w.params.followText "set-order")) }).objs.size = s.heap.objs.size + 1 := Heap.size_push ..
        have ne1 : l ≠ (s.heap.push { cls := .type "set", dict := none, data := .set #[] 0 (.fresh 0 0 (!w.params.followText "set-order")) }).objs.size := by rw [sz]; exact Nat.ne_of_lt (Nat.lt_succ_of_lt small)
        have off : s.heap.objs.size ∉ [(s.heap.push { cls := .type "set", dict := none, data := .set #[] 0 (.fresh 0 0 (!w.params.followText "set-order")) }).objs.size, l] := by
          rw [sz]
          simp only [List.mem_cons, List.not_mem_nil, or_false, not_or]
          exact ⟨Nat.ne_of_lt (Nat.lt_succ_self _), Nat.ne_of_gt small⟩
        refine setS_update ((Walks.list (by simp [calm]) _ l ne1 items).toS) s.heap.objs.size off xs size hb at_ (items.size - 0) 0 _ rfl (Nat.zero_le _) ⟨⟨_, Heap.get?_push_size _ rfl, rfl, rfl⟩, hl1.push _⟩ ?h0 ?h1
        case h0 => exact ⟨#[], 0, _, Nat.le_refl 0, setS_new (Heap.get?_push_of_some _ hO)⟩
        case h1 =>
          intro s3 es ep tb mv res
          obtain ⟨h3, g3, d3, t3, o3⟩ := s3
          obtain rfl : g3 = s.gens := mv.gens
          obtain rfl : d3 = s.drawn := mv.drawn
          obtain rfl : o3 = s.os := mv.os
          refine wpAny_pure ?_
          show wpAny _ _ (ret Value.none) _ _ _
          refine wpAny_pure ⟨rfl, h3, t3, es, ep, tb, rfl, res, fun b o e => ?_⟩
          have lt := Heap.lt_size e
          refine mv.heap b o ?_ (Heap.get?_push_of_some _ (Heap.get?_push_of_some _ e))
          rw [sz]
          simp only [List.mem_cons, List.not_mem_nil, or_false, not_or]
          exact ⟨Nat.ne_of_lt lt, Nat.ne_of_lt (Nat.lt_succ_of_lt lt)⟩
      · cases r2 with
        | error e => exact hr2
        | ok fl2 =>
          cases fl2 with
          | ret v2 =>
            obtain ⟨rfl, h1, tk, es, ep, tb, rfl, res, kp⟩ := hr2
            repeat (any_goals (first | assumption | wp_step))
            exact hQ h1 tk es ep tb res kp
          | _ => exact hr2.elim
    | _ => exact hr.elim


set_option maxHeartbeats 4000000 in
theorem call_set_tuple {l : Addr} {items : Array Value} (xs : List Str) {Q : Value → Shared → Prop} (calm : A.handled = none) (hl : s.heap.IsTuple l items) (hx : StrsAre items.toList xs) (hb : xs.length + 1 < scanBound)
    (hQ : ∀ h1 tk es ep tb, SetS w h1 s.heap.objs.size xs es ep tb → (∀ b o, s.heap.get? b = some o → h1.get? b = some o) → Q (.ref s.heap.objs.size) { s with heap := h1, toks := tk }) :
    wpAny (model P w) A (call (.type "set") [.ref l]) Q E s := by
  have size : items.size = xs.length := by
    rw [← StrsAre.len_eq hx, Array.length_toList]
  have at_ : ∀ (i : Nat) (v : Value), items[i]? = some v → ∃ x t, xs[i]? = some x ∧ v = .str x t := fun i v hv => by
    have hi : i < xs.length := by rw [← size]; exact (Array.getElem?_eq_some_iff.mp hv).1
    obtain ⟨t, e⟩ := SS.strs_at hx i v (by rw [Array.getElem?_toList]; exact hv)
    refine ⟨xs[i], t, List.getElem?_eq_getElem hi, ?_⟩
    rw [e, List.getD_eq_getElem?_getD, List.getElem?_eq_getElem hi]
    rfl
  obtain ⟨c, tl, mro⟩ := F.called_set.mro
  have f1 := F.called_set.made
  have f2 := F.called_set.sub
  have f3 := F.called_set.notType
  have f4 := F.called_set.canCreate
  have f5 := F.typeCall_set_1 (.ref l)
  refine wpAny_call (codeAny_of_tree ?_)
  show wpAny _ _ (callAny (.type "set") _) _ _ _
  refine wpAny_pure ⟨Code.quiet_builtin _ (by decide +kernel), codeAny_builtin F.entry_type_call ?_⟩
  rw [Around.under_plain (weight_type_call_type "set" [.ref l] []) rfl]
  repeat (any_goals (first | assumption | wp_step))
  refine codeAny_mono (code_set_led1 (.ref l) (E := E) (Q₁ := fun v s1 => v = .ref s.heap.objs.size ∧ s1 = { s with heap := s.heap.push { cls := .type "set", dict := none, data := .set #[] 0 (.fresh 0 0 (!w.params.followText "set-order")) } }) ⟨rfl, rfl⟩) fun r s1 hr => ?_
  cases r with
  | error e => exact hr
  | ok fl =>
    cases fl with
    | ret v =>
      obtain ⟨rfl, rfl⟩ := hr
      have hO : (s.heap.push { cls := .type "set", dict := none, data := .set #[] 0 (.fresh 0 0 (!w.params.followText "set-order")) }).get? s.heap.objs.size = some { cls := .type "set", dict := none, data := .set #[] 0 (.fresh 0 0 (!w.params.followText "set-order")) } := Heap.get?_push_size _ rfl
      have ty : Shared.TypeIs { s with heap := s.heap.push { cls := .type "set", dict := none, data := .set #[] 0 (.fresh 0 0 (!w.params.followText "set-order")) } } (.ref s.heap.objs.size) "set" := ⟨_, hO, rfl⟩
      have g1 := F.called_set.init.lookup
      have g2 := F.called_set.init.bind (.ref s.heap.objs.size)
      repeat (any_goals (first | assumption | wp_step))
      refine codeAny_mono (codeAny_call_builtin (R := wants (fun r s2 => r = .none ∧ ∃ h1 tk es ep tb, s2 = { s with heap := h1, toks := tk } ∧ SetS w h1 s.heap.objs.size xs es ep tb ∧
        ∀ b o, s.heap.get? b = some o → h1.get? b = some o) E) F.called_set.init.plain F.entry_set_init (check_set_init_1 ty ?_)) fun r2 s2 hr2 => ?_
      · have small := Heap.lt_size hl.choose_spec.1
        obtain ⟨⟨oc, od, odt, os⟩, hol, hoc, nl, hod⟩ := hl
        simp only at hoc hod
        subst hoc; subst hod
        have hol1 : (s.heap.push { cls := .type "set", dict := none, data := .set #[] 0 (.fresh 0 0 (!w.params.followText "set-order")) }).get? l = some ⟨.type "tuple", od, .seq items nl, os⟩ := Heap.get?_push_of_some _ hol
        have m1 := F.sub_tuple_set
        have m2 := F.sub_tuple_frozenset
        have m3 : (Value.type "tuple" == Value.type "dict") = false := by decide
        have hl1 : (s.heap.push { cls := .type "set", dict := none, data := .set #[] 0 (.fresh 0 0 (!w.params.followText "set-order")) }).IsTuple l items := ⟨_, hol1, rfl, nl, rfl⟩
        unfold Builtin.«set.__init__» noKeywords Builtin.Frozenset.updateFrom
        generalize pit : pyIter = PI
        wp_walk
        subst pit
        refine wpAny_pyIter_tuple hl1 ?_
        refine wpAny_bind (wpAny_runValue ?_)
        have sz : (s.heap.push { cls := .type "set", dict := none, data := .set #[] 0 (.fresh 0 0 (!w.params.followText "set-order")) }).objs.size = s.heap.objs.size + 1 := Heap.size_push ..
        have ne1 : l ≠ (s.heap.push { cls := .type "set", dict := none, data := .set #[] 0 (.fresh 0 0 (!w.params.followText "set-order")) }).objs.size := by rw [sz]; exact Nat.ne_of_lt (Nat.lt_succ_of_lt small)
        have off : s.heap.objs.size ∉ [(s.heap.push { cls := .type "set", dict := none, data := .set #[] 0 (.fresh 0 0 (!w.params.followText "set-order")) }).objs.size, l] := by
          rw [sz]
          simp only [List.mem_cons, List.not_mem_nil, or_false, not_or]
          exact ⟨Nat.ne_of_lt (Nat.lt_succ_self _), Nat.ne_of_gt small⟩
        refine setS_update ((Walks.tuple (by simp [calm]) _ l ne1 items).toS) s.heap.objs.size off xs size hb at_ (items.size - 0) 0 _ rfl (Nat.zero_le _) ⟨⟨_, Heap.get?_push_size _ rfl, rfl, rfl⟩, hl1.push _⟩ ?h0 ?h1
        case h0 => exact ⟨#[], 0, _, Nat.le_refl 0, setS_new (Heap.get?_push_of_some _ hO)⟩
        case h1 =>
          intro s3 es ep tb mv res
          obtain ⟨h3, g3, d3, t3, o3⟩ := s3
          obtain rfl : g3 = s.gens := mv.gens
          obtain rfl : d3 = s.drawn := mv.drawn
          obtain rfl : o3 = s.os := mv.os
          refine wpAny_pure ?_
          show wpAny _ _ (ret Value.none) _ _ _
          refine wpAny_pure ⟨rfl, h3, t3, es, ep, tb, rfl, res, fun b o e => ?_⟩
          have lt := Heap.lt_size e
          refine mv.heap b o ?_ (Heap.get?_push_of_some _ (Heap.get?_push_of_some _ e))
          rw [sz]
          simp only [List.mem_cons, List.not_mem_nil, or_false, not_or]
          exact ⟨Nat.ne_of_lt lt, Nat.ne_of_lt (Nat.lt_succ_of_lt lt)⟩
      · cases r2 with
        | error e => exact hr2
        | ok fl2 =>
          cases fl2 with
          | ret v2 =>
            obtain ⟨rfl, h1, tk, es, ep, tb, rfl, res, kp⟩ := hr2
            repeat (any_goals (first | assumption | wp_step))
            exact hQ h1 tk es ep tb res kp
          | _ => exact hr2.elim
    | _ => exact hr.elim

end
end Pv
end
section
set_option Elab.async false
set_option linter.all false
set_option maxRecDepth 100000
set_option maxHeartbeats 2000000
namespace Pv
open PySem PySem.Spec PyProof.Rows L2 PySem.W

section
variable {α : Type} (le : α → α → Bool)
def ins (x : α) : List α → List α
  | [] => [x]
  | y :: t => if le x y = true then x :: y :: t else y :: ins x t
def isort : List α → List α
  | [] => []
  | x :: r => ins le x (isort r)
theorem ins_perm (x : α) : ∀ l, (ins le x l).Perm (x :: l)
  | [] => .refl _
  | y :: t => by
    unfold ins
    split
    · exact .refl _
    · exact (List.Perm.cons y (ins_perm x t)).trans (.swap x y t)
theorem isort_perm : ∀ l, (isort le l).Perm l
  | [] => .nil
  | x :: r => (ins_perm le x _).trans ((isort_perm r).cons x)
theorem isort_len (l : List α) : (isort le l).length = l.length := (isort_perm le l).length_eq
variable (trans : ∀ x y z, le x y = true → le y z = true → le x z = true) (total : ∀ x y, (le x y || le y x) = true)
include trans total
theorem ins_sorted (x : α) : ∀ l, l.Pairwise (fun a b => le a b = true) → (ins le x l).Pairwise (fun a b => le a b = true)
  | [], _ => List.pairwise_singleton _ _
  | y :: t, h => by
    obtain ⟨h1, h2⟩ := List.pairwise_cons.mp h
    unfold ins
    split
    · next c =>
      refine List.pairwise_cons.mpr ⟨fun z hz => ?_, h⟩
      rcases List.mem_cons.mp hz with e | e
      · rw [e]; exact c
      · exact trans _ _ _ c (h1 z e)
    · next c =>
      have c' : le y x = true := by
        have := total x y
        rw [Bool.or_eq_true] at this
        exact this.resolve_left c
      refine List.pairwise_cons.mpr ⟨fun z hz => ?_, ins_sorted x t h2⟩
      rcases List.mem_cons.mp ((ins_perm le x t).mem_iff.mp hz) with e | e
      · rw [e]; exact c'
      · exact h1 z e
theorem isort_sorted : ∀ l, (isort le l).Pairwise (fun a b => le a b = true)
  | [] => .nil
  | x :: r => ins_sorted le trans total x _ (isort_sorted r)
theorem ins_class (x z : α) : ∀ l, (ins le x l).filter (PySem.W.Srt.alike le z) = (x :: l).filter (PySem.W.Srt.alike le z)
  | [] => rfl
  | y :: t => by
    unfold ins
    split
    · rfl
    · next c =>
      rw [List.filter_cons, ins_class x z t]
      by_cases a : PySem.W.Srt.alike le z y = true
      · by_cases b : PySem.W.Srt.alike le z x = true
        · exfalso
          unfold PySem.W.Srt.alike at a b
          rw [Bool.and_eq_true] at a b
          exact c (trans _ _ _ b.2 a.1)
        · rw [List.filter_cons_of_neg b, List.filter_cons_of_neg b, List.filter_cons]
      · rw [if_neg a, List.filter_cons, List.filter_cons, List.filter_cons_of_neg a]
theorem isort_eq (l : List α) : isort le l = l.mergeSort le := by
  refine PySem.W.Srt.the le trans total (isort_sorted le trans total l) fun z => ?_
  induction l with
  | nil => rfl
  | cons x r ih =>
    show (ins le x (isort le r)).filter _ = _
    rw [ins_class le trans total, List.filter_cons, List.filter_cons, ih]
end
theorem dataLe_total : ∀ x y : D, (dataLe false id x y || dataLe false id y x) = true := fun x y => by
  rw [Bool.or_eq_true]
  exact (sortLe_total (listOrd itemOrd) false fun b => keyToks (id b)).total x y
theorem dataLe_trans : ∀ x y z : D, dataLe false id x y = true → dataLe false id y z = true → dataLe false id x z = true := (sortLe_total (listOrd itemOrd) false fun b => keyToks (id b)).trans
abbrev sortD (ds : List D) : List D := isort (dataLe false id) ds
def Kept (s s1 : Shared) : Prop := (∀ b o, s.heap.get? b = some o → s1.heap.get? b = some o) ∧ s1.gens = s.gens ∧ s1.os = s.os
section
variable {P : Program} {w : World} {A : Around} {E : Value → Shared → Prop} {s : Shared}
theorem sorted_got {c : Value} {bs : List D} {S : List D → Prop} (sp : ∀ cs, S cs → cs.Perm bs) {R : Value → D → Prop} {Q : Value → Shared → Prop}
    (gather : ∀ (E1 : Value → Shared → Prop) (Q1 : List Value → Shared → Prop), (∀ s1 vs cs, Kept s s1 → S cs → EachIs R vs cs → EachIs (fun v b => ∃ as, Reads s1.heap v b as) vs cs → Q1 vs s1) → wpAny (model P w) A.in1 (collect c) Q1 E1 s)
    (al : AllAlike bs) (so : SortableT bs) (few : bs.length ≤ sizeLine) (hu : ∀ b, b ∈ bs → A.units + 2 + b.depth < cLine)
    (h : ∀ s1 p out cs k, Kept s s1 → s.heap.get? p = none → s1.heap.get? p = some (seqObj "list" (List.toArray out) k) → S cs → EachIs R out (sortD cs) → Q (.ref p) s1) :
    wpAny (model P w) A (call (.builtin "sorted") [c]) Q E s := by
  refine Calls.call_function_entry kind_sorted plain_sorted entry_sorted (args_sorted1 _) ?_
  unfold Builtin.«sorted»
  refine wpAny_bind (m := checkCount "sorted" 1 1 _) (wpAny_pure (wpAny_bind (gather _ _ fun s1 vs cs kp ps e er => ?_)))
  have pm := sp cs ps
  have len : vs.length ≤ sizeLine := by rw [e.length, pm.length_eq]; exact few
  refine wpAny_bind (wpAny_newList ?_ len)
  have ob : (s1.heap.push (seqObj "list" vs.toArray 0)).get? s1.heap.objs.size = some (seqObj "list" vs.toArray 0) := Heap.get?_push_size _ rfl
  have er1 : EachIs (fun v b => ∃ as, Reads (s1.heap.push (seqObj "list" vs.toArray 0)) v (id b) as ∧ s1.heap.objs.size ∉ as) vs cs := er.mono fun v b ⟨as, r⟩ =>
    ⟨as, PyProof.Rows.Reads.keeps (fun _ _ q => Heap.get?_push_of_some _ q) r, fun z => by
      obtain ⟨o, ho⟩ := PyProof.On.reads_mem_get r _ z
      exact absurd (Heap.lt_size ho) (Nat.lt_irrefl _)⟩
  have al1 : AllAlike (cs.map id) := by rw [List.map_id]; exact fun d hd d' hd' => al d (pm.mem_iff.mp hd) d' (pm.mem_iff.mp hd')
  have so1 : SortableT (cs.map id) := by
    rw [List.map_id]
    exact so.imp (fun q d hd => q d (pm.mem_iff.mp hd)) fun q d hd => q d (pm.mem_iff.mp hd)
  refine wpAny_bind (wpAny_holding (list_sort_dataT (A := A.in1) (s := { s1 with heap := s1.heap.push (seqObj "list" vs.toArray 0) }) ob e er1 al1 so1 (by rw [pm.length_eq]; exact few) (fun b hb => ?_) fun out ol each => ?_))
  · have := hu b (pm.mem_iff.mp hb)
    show A.units + 1 + 1 + b.depth < cLine
    omega
  · obtain ⟨k, hk⟩ := sortedHeap_at (vs := vs) (out := List.toArray out) ob
    refine wpAny_pure ⟨_, rfl, h { s1 with heap := sortedHeap (s1.heap.push (seqObj "list" vs.toArray 0)) s1.heap.objs.size vs out.toArray } _ out cs k ⟨fun b o q => ?_, kp.2.1, kp.2.2⟩ ?_ hk ps (by rw [sortD, isort_eq _ dataLe_trans dataLe_total]; exact each)⟩
    · have q1 := kp.1 b o q
      have lt := Heap.lt_size q1
      show (sortedHeap (s1.heap.push (seqObj "list" vs.toArray 0)) s1.heap.objs.size vs out.toArray).get? b = some o
      rw [sortedHeap_old (Nat.ne_of_lt lt) (by rw [size_push']; exact Nat.lt_succ_of_lt lt)]
      exact Heap.get?_push_of_some _ q1
    · cases q : s.heap.get? s1.heap.objs.size with
      | none => rfl
      | some o => exact absurd (Heap.lt_size (kp.1 _ _ q)) (Nat.lt_irrefl _)
end

def alikeB (ds : List D) : Bool := ds.all fun d => ds.all fun e => PySem.W.alike d e
def sortB (ds : List D) : Bool := (ds.all fun d => match d with
    | .tuple _ => true
    | _ => false) || ds.all fun d => match d with
    | .none => false
    | .tuple _ => false
    | _ => true
def sortOk (ds : List D) : Bool := alikeB ds && sortB ds && decide (ds.length ≤ sizeLine) && ds.all fun d => decide (d.depth ≤ 64)
theorem sortOk_iff {ds : List D} (h : sortOk ds = true) : AllAlike ds ∧ SortableT ds ∧ ds.length ≤ sizeLine ∧ ∀ d ∈ ds, d.depth ≤ 64 := by
  unfold sortOk at h
  simp only [Bool.and_eq_true, decide_eq_true_eq] at h
  obtain ⟨⟨⟨h1, h2⟩, h3⟩, h4⟩ := h
  refine ⟨fun d hd e he => ?_, ?_, h3, fun d hd => ?_⟩
  · unfold alikeB at h1
    exact List.all_eq_true.mp (List.all_eq_true.mp h1 d hd) e he
  · unfold sortB at h2
    rw [Bool.or_eq_true] at h2
    rcases h2 with q | q
    · left
      intro d hd
      have := List.all_eq_true.mp q d hd
      split at this
      · exact ⟨_, rfl⟩
      · cases this
    · right
      intro d hd
      have := List.all_eq_true.mp q d hd
      constructor
      · intro z; subst z; cases this
      · intro xs z; subst z; cases this
  · exact of_decide_eq_true (List.all_eq_true.mp h4 d hd)
theorem objOk_some {P : Program} {w : World} {H : Hp} {h : Heap} {a : Addr} {o : HO} (x : ObjOk P w H h a o) : ∃ ob, h.get? a = some ob := by
  cases o with
  | lst xs => obtain ⟨_, _, _, _, e⟩ := x; exact ⟨_, e⟩
  | tup xs => obtain ⟨_, _, _, o, e, _⟩ := x; exact ⟨_, e⟩
  | dK kvs => obtain ⟨_, _, _, _, o, _, _, e, _⟩ := x; exact ⟨_, e⟩
  | dT kvs => obtain ⟨_, _, _, _, o, _, _, e, _⟩ := x; exact ⟨_, e⟩
  | set S n => obtain ⟨o, _, _, _, e, _⟩ := x; exact ⟨_, e⟩
  | ins C dx fs => obtain ⟨_, _, _, e, _⟩ := x; exact ⟨_, e⟩
  | own y => obtain ⟨_, e⟩ := x; exact ⟨_, e⟩
  | xd fs => obtain ⟨_, ⟨_, _, _, e, _⟩, _⟩ := x; exact ⟨_, e⟩
  | rng lo hi => obtain ⟨_, _, _, e⟩ := x; exact ⟨_, e⟩
  | frz o u => obtain ⟨e, _⟩ := x; exact ⟨_, e⟩
  | tbl ps => exact ⟨_, x⟩
  | met f y => exact ⟨_, x⟩
  | ext φ => obtain ⟨_, ⟨o, e⟩, _⟩ := x; exact ⟨_, e⟩
def sortedF : OpN
  | [.list ds] => if sortOk ds = true then some (.list (sortD ds), true) else none
  | [.tuple ds] => if sortOk ds = true then some (.list (sortD ds), true) else none
  | _ => none
section
variable {X : Cx} {K : Fr'} {F H : Hp}
def Is (K : Fr') (F : Hp) (v : Value) (d : D) : Prop := ∃ x : V, RelV x v ∧ Rp K F x d
theorem is_of : ∀ {xs : List V} {us : List Value} {ds : List D}, Vals xs us → RpA K F xs ds → EachIs (Is K F) us ds
  | _, _, _, .nil, .nil => .nil
  | _, _, _, .cons r t, .cons q p => .cons ⟨_, r, q⟩ (is_of t p)
theorem of_is : ∀ {us : List Value} {ds : List D}, EachIs (Is K F) us ds → ∃ xs : List V, Vals xs us ∧ RpA K F xs ds
  | _, _, .nil => ⟨[], .nil, .nil⟩
  | _, _, .cons ⟨x, r, q⟩ t => by
    obtain ⟨xs, h1, h2⟩ := of_is t
    exact ⟨x :: xs, .cons r h1, .cons q h2⟩
theorem alike_self_plain : ∀ d : D, PySem.W.alike d d = true → plain d = true
  | .none, _ => rfl
  | .bool _, _ => rfl
  | .int _, _ => rfl
  | .str _, _ => rfl
  | .list xs, h => by simp only [plain]; exact go xs (by simpa [PySem.W.alike] using h)
  | .tuple xs, h => by simp only [plain]; exact go xs (by simpa [PySem.W.alike] using h)
  | .dict _, h => by simp [PySem.W.alike] at h
where go : ∀ ds : List D, PySem.W.alikeAll ds ds = true → plainA ds = true
  | [], _ => rfl
  | d :: ds, h => by
    simp only [PySem.W.alikeAll, Bool.and_eq_true] at h
    simp only [plainA, Bool.and_eq_true]
    exact ⟨alike_self_plain d h.1, go ds h.2⟩
theorem reads_of {pins : List (Addr × Obj)} {σ : St} {s : Shared} (I : Inv X pins σ H s) (le : Le F H) : ∀ {us : List Value} {ds : List D}, EachIs (Is X.K F) us ds → (∀ d ∈ ds, plain d = true) → EachIs (fun v b => ∃ as, Reads s.heap v b as) us ds
  | _, _, .nil, _ => .nil
  | _, _, .cons ⟨x, r, q⟩ t, h => .cons (Dp.reads I _ x _ ((q.mono le).dp (h _ List.mem_cons_self)) r) (reads_of I le t fun d hd => h d (List.mem_cons_of_mem _ hd))
theorem new_list {pins : List (Addr × Obj)} {σ : St} {s s1 : Shared} (I : Inv X pins σ H s) (kp : Kept s s1) {p : Addr} (hp : s.heap.get? p = none) {xs : List V} {out : List Value} {k : Nat} (hg : s1.heap.get? p = some (seqObj "list" out.toArray k)) (rv : Vals xs out) (len : xs.length ≤ sizeLine) :
    Inv X pins σ (upd H p (.lst xs)) s1 ∧ H p = none := by
  have hn : H p = none := by
    cases q : H p with
    | none => rfl
    | some u =>
      obtain ⟨o, ho⟩ := objOk_some (I.hok _ _ q)
      rw [hp] at ho
      cases ho
  refine ⟨?_, hn⟩
  have J : Inv X pins σ (upd H p (.lst xs)) { s with heap := s1.heap, gens := s1.gens, drawn := s1.drawn, toks := s1.toks } :=
    I.call (ch := []) (Un.laidN kp.1 hp hn) (I.hok.laidN kp.1 hn ⟨len, out, k, rv, hg⟩) (by rw [kp.2.1]; exact I.bare) fun _ z => nomatch z
  have e : s1 = { s with heap := s1.heap, gens := s1.gens, drawn := s1.drawn, toks := s1.toks } := by
    have := kp.2.2
    cases s1
    cases s
    simp only at this
    subst this
    rfl
  rw [e]
  exact J
theorem sortD_len (ds : List D) : (sortD ds).length = ds.length := isort_len _ _
theorem cr_sorted (hu : X.A.units + 100 < cLine) : CallR X (.builtin "sorted") (rCS X.K sortedF) := by
  intro pins s σ H xs us Q I r h
  obtain ⟨F, ds, zb, l, ls, e, q⟩ := h
  have main : ∀ (ds : List D) (vs : List V) (items : List Value) (a : Addr) (T : String), (T = "list" ∨ T = "tuple") → (∃ o n, s.heap.get? a = some o ∧ o.cls = .type T ∧ o.data = .seq items.toArray n) → Vals vs items → RpA X.K F vs ds → sortOk ds = true →
      Post X.K F H Q (.list (sortD ds), true) → wpAny (model X.prog X.w) X.A (call (.builtin "sorted") [.ref a]) (EP X pins σ Q) X.xe s := by
    intro ds vs items a T hT ⟨o, n, ho, hc, hd⟩ rv rp ok q
    obtain ⟨al, so, few, dep⟩ := sortOk_iff ok
    have each := is_of rv rp
    have rd := reads_of I l each fun d hd => alike_self_plain d (al d hd d hd)
    have hz : items.length ≤ sizeLine := by rw [each.length]; exact few
    refine sorted_got (R := Is X.K F) (bs := ds) (S := fun cs => cs = ds) (fun cs z => by subst z; exact List.Perm.refl _) (fun E1 Q1 k => wpAny_collect_seq a hT ho hc hd (fun h1 keep => ?_) (by rw [List.size_toArray]; exact hz)) al so few (fun b hb => ?_) fun s1 p out cs k kp hp hg pm each1 => ?_
    · refine k _ items ds ⟨keep, rfl, rfl⟩ rfl each (rd.mono fun v b ⟨as, r⟩ => ⟨as, PyProof.Rows.Reads.keeps keep r⟩)
    · have := dep b hb
      omega
    · obtain ⟨xs1, r1, rp1⟩ := of_is each1
      subst pm
      obtain ⟨J, hn⟩ := new_list I kp hp hg r1 (by rw [rp1.length, sortD_len]; exact few)
      exact ⟨.ref p, _, J, rfl, Post.lst l rp1 q p hn⟩
  match ds, ls, e with
  | [.list ds], .cons lk .nil, e =>
    simp only [sortedF] at e
    split at e
    · next ok =>
      cases e
      obtain ⟨a, vs, rfl, ha, rp⟩ := lk.list l
      cases r with | cons r0 rn =>
      cases rn
      cases r0
      obtain ⟨its, n, rv, hl, hz⟩ := I.lst ha
      exact main ds vs its a "list" (.inl rfl) ⟨_, n, hl, rfl, rfl⟩ rv rp ok q
    · cases e
  | [.tuple ds], .cons lk .nil, e =>
    simp only [sortedF] at e
    split at e
    · next ok =>
      cases e
      obtain ⟨a, vs, rfl, ha, rp, _⟩ := lk.tuple l
      cases r with | cons r0 rn =>
      cases rn
      cases r0
      obtain ⟨its, rv, ⟨o, hl, hc, n, hd⟩, hz⟩ := I.tuple ha
      exact main ds vs its a "tuple" (.inr rfl) ⟨_, n, hl, hc, hd⟩ rv rp ok q
    · cases e
end
end Pv
end
section
set_option Elab.async false
set_option linter.all false
set_option maxRecDepth 100000
set_option maxHeartbeats 1000000
namespace Pv
open PySem PySem.Spec PyProof.Rows L2 PySem.W

theorem RpA.intsOf {K : Fr'} {F : Hp} : ∀ {xs : List V} {ds : List D} {ns : List Int}, RpA K F xs ds → ds = ns.map PyData.int → xs = ns.map V.int
  | _, _, [], .nil, _ => rfl
  | _, _, _ :: _, .nil, e => by cases e
  | _, _, [], .cons _ _, e => by cases e
  | _, _, _ :: _, .cons r t, e => by
    rw [List.map_cons] at e
    obtain ⟨e1, e2⟩ := List.cons.inj e
    subst e1
    cases r
    rw [List.map_cons, RpA.intsOf t e2]
theorem RpA.blsOf {K : Fr'} {F : Hp} : ∀ {xs : List V} {ds : List D} {ns : List Bool}, RpA K F xs ds → ds = ns.map PyData.bool → xs = ns.map V.bl
  | _, _, [], .nil, _ => rfl
  | _, _, _ :: _, .nil, e => by cases e
  | _, _, [], .cons _ _, e => by cases e
  | _, _, _ :: _, .cons r t, e => by
    rw [List.map_cons] at e
    obtain ⟨e1, e2⟩ := List.cons.inj e
    subst e1
    cases r
    rw [List.map_cons, RpA.blsOf t e2]
def asInts : List D → Option (List Int)
  | [] => some []
  | .int i :: r => (asInts r).map (i :: ·)
  | _ :: _ => none
theorem asInts_eq : ∀ {ds : List D} {ns : List Int}, asInts ds = some ns → ds = ns.map PyData.int
  | [], _, h => by cases h; rfl
  | d :: r, ns, h => by
    cases d with
    | int i =>
      simp only [asInts, Option.map_eq_some_iff] at h
      obtain ⟨a, e, rfl⟩ := h
      rw [List.map_cons, ← asInts_eq e]
    | _ => cases h
def asBls : List D → Option (List Bool)
  | [] => some []
  | .bool i :: r => (asBls r).map (i :: ·)
  | _ :: _ => none
theorem asBls_eq : ∀ {ds : List D} {ns : List Bool}, asBls ds = some ns → ds = ns.map PyData.bool
  | [], _, h => by cases h; rfl
  | d :: r, ns, h => by
    cases d with
    | bool i =>
      simp only [asBls, Option.map_eq_some_iff] at h
      obtain ⟨a, e, rfl⟩ := h
      rw [List.map_cons, ← asBls_eq e]
    | _ => cases h
theorem RpA.strsOf {K : Fr'} {F : Hp} : ∀ {xs : List V} {ds : List D} {ns : List Str}, RpA K F xs ds → ds = ns.map PyData.str → xs = ns.map V.str
  | _, _, [], .nil, _ => rfl
  | _, _, _ :: _, .nil, e => by cases e
  | _, _, [], .cons _ _, e => by cases e
  | _, _, _ :: _, .cons r t, e => by
    rw [List.map_cons] at e
    obtain ⟨e1, e2⟩ := List.cons.inj e
    subst e1
    cases r
    rw [List.map_cons, RpA.strsOf t e2]
theorem RpA.ofStrs {K : Fr'} {F : Hp} : ∀ ns : List Str, RpA K F (ns.map V.str) (ns.map PyData.str)
  | [] => .nil
  | x :: r => .cons (.str x) (RpA.ofStrs r)
def asStrs : List D → Option (List Str)
  | [] => some []
  | .str i :: r => (asStrs r).map (i :: ·)
  | _ :: _ => none
theorem asStrs_eq : ∀ {ds : List D} {ns : List Str}, asStrs ds = some ns → ds = ns.map PyData.str
  | [], _, h => by cases h; rfl
  | d :: r, ns, h => by
    cases d with
    | str i =>
      simp only [asStrs, Option.map_eq_some_iff] at h
      obtain ⟨a, e, rfl⟩ := h
      rw [List.map_cons, ← asStrs_eq e]
    | _ => cases h
theorem RpD.strKeys {K : Fr'} {F : Hp} : ∀ {xs : List (Key × V)} {es : List (D × D)} {ns : List Str}, RpD K F xs es → es.map (·.1) = ns.map PyData.str → xs.map (·.1) = ns.map Sum.inr
  | _, _, [], .nil, _ => rfl
  | _, _, _ :: _, .nil, e => by cases e
  | _, _, [], .cons _ _, e => by cases e
  | _, _, _ :: _, .cons (k := k) r t, e => by
    rw [List.map_cons, List.map_cons] at e
    obtain ⟨e1, e2⟩ := List.cons.inj e
    cases k with
    | inl i => cases e1
    | inr x =>
      cases e1
      rw [List.map_cons, List.map_cons, RpD.strKeys t e2]
theorem RpD.keys {K : Fr'} {F : Hp} : ∀ {xs : List (Key × V)} {es : List (D × D)}, RpD K F xs es → RpA K F (xs.map fun kv => kV kv.1) (es.map (·.1))
  | _, _, .nil => .nil
  | _, _, .cons (k := k) r t => by
    cases k with
    | inl i => exact .cons (.int i) (RpD.keys t)
    | inr x => exact .cons (.str x) (RpD.keys t)

section
variable {X : Cx} {F H : Hp}
def lenF : OpN
  | [.list ds] => some (.int ds.length, false)
  | [.tuple ds] => some (.int ds.length, false)
  | [.dict es] => some (.int es.length, false)
  | [.str x] => if x.length ≤ sizeLine then some (.int x.length, false) else none
  | _ => none
theorem cr_len : CallR X (.builtin "len") (rCS X.K lenF) := by
  intro pins s σ H xs us Q I r h
  obtain ⟨F, ds, zb, l, ls, e, q⟩ := h
  match ds, ls, e with
  | [.list ds], .cons lk .nil, e =>
    cases e
    obtain ⟨a, vs, rfl, ha, rp⟩ := lk.list l
    refine call_len pins s σ H _ us Q I r ⟨_, vs.length, rfl, .inl ⟨vs, .inl (.inl ha), rfl⟩, ?_⟩
    rw [rp.length]
    exact q.old l (.int _)
  | [.tuple ds], .cons lk .nil, e =>
    cases e
    obtain ⟨a, vs, rfl, ha, rp, _⟩ := lk.tuple l
    refine call_len pins s σ H _ us Q I r ⟨_, vs.length, rfl, .inr ⟨vs, ha, rfl⟩, ?_⟩
    rw [rp.length]
    exact q.old l (.int _)
  | [.dict es], .cons lk .nil, e =>
    cases e
    obtain ⟨a, vs, rfl, ha, rp⟩ := lk.dict l
    obtain ⟨u, rfl, ru⟩ := vals1 r
    cases ru
    refine d_len I ha fun t s' I' => ⟨.int vs.length, H, I', ⟨t, rfl⟩, ?_⟩
    rw [rp.length]
    exact q.old l (.int _)
  | [.str x], .cons lk .nil, e =>
    simp only [lenF] at e
    split at e
    · next hz =>
      cases e
      rw [lk.str] at r
      exact call_len pins s σ H _ us Q I r ⟨_, x.length, rfl, ⟨hz, rfl⟩, q.old l (.int _)⟩
    · cases e
def intF : OpN
  | [.int i] => some (.int i, false)
  | [.bool b] => some (.int (if b then 1 else 0), false)
  | _ => none
theorem cr_int : CallR X (.type "int") (rCS X.K intF) := by
  intro pins s σ H xs us Q I r h
  obtain ⟨F, ds, zb, l, ls, e, q⟩ := h
  match ds, ls, e with
  | [.int i], .cons lk .nil, e => cases e; rw [lk.int] at r; exact call_int1 pins s σ H _ us Q I r (.inl ⟨i, rfl, q.old l (.int _)⟩)
  | [.bool i], .cons lk .nil, e => cases e; rw [lk.bool] at r; exact call_int1 pins s σ H _ us Q I r (.inr ⟨i, rfl, q.old l (.int _)⟩)
theorem max_of : ∀ (x : Int) (ns : List Int), (x :: ns).foldl max x ∈ x :: ns ∧ ∀ y ∈ x :: ns, y ≤ (x :: ns).foldl max x := by
  have go : ∀ (ns : List Int) (m : Int), (ns.foldl max m = m ∨ ns.foldl max m ∈ ns) ∧ m ≤ ns.foldl max m ∧ ∀ y ∈ ns, y ≤ ns.foldl max m := by
    intro ns
    induction ns with
    | nil => intro m; exact ⟨.inl rfl, Int.le_refl _, fun y h => by cases h⟩
    | cons a r ih =>
      intro m
      obtain ⟨h1, h2, h3⟩ := ih (max m a)
      rw [List.foldl_cons]
      refine ⟨?_, by omega, fun y hy => ?_⟩
      · rcases h1 with e | e
        · rw [e]
          by_cases c : m ≤ a
          · right; rw [Int.max_eq_right c]; exact List.mem_cons_self
          · left; exact Int.max_eq_left (by omega)
        · exact .inr (List.mem_cons_of_mem _ e)
      · rcases List.mem_cons.mp hy with e | e
        · subst e; omega
        · exact h3 y e
  intro x ns
  obtain ⟨h1, h2, h3⟩ := go (x :: ns) x
  refine ⟨?_, h3⟩
  rcases h1 with e | e
  · rw [e]; exact List.mem_cons_self
  · exact e
theorem min_of : ∀ (x : Int) (ns : List Int), (x :: ns).foldl min x ∈ x :: ns ∧ ∀ y ∈ x :: ns, (x :: ns).foldl min x ≤ y := by
  have go : ∀ (ns : List Int) (m : Int), (ns.foldl min m = m ∨ ns.foldl min m ∈ ns) ∧ ns.foldl min m ≤ m ∧ ∀ y ∈ ns, ns.foldl min m ≤ y := by
    intro ns
    induction ns with
    | nil => intro m; exact ⟨.inl rfl, Int.le_refl _, fun y h => by cases h⟩
    | cons a r ih =>
      intro m
      obtain ⟨h1, h2, h3⟩ := ih (min m a)
      rw [List.foldl_cons]
      refine ⟨?_, by omega, fun y hy => ?_⟩
      · rcases h1 with e | e
        · rw [e]
          by_cases c : m ≤ a
          · left; exact Int.min_eq_left c
          · right; rw [Int.min_eq_right (by omega)]; exact List.mem_cons_self
        · exact .inr (List.mem_cons_of_mem _ e)
      · rcases List.mem_cons.mp hy with e | e
        · subst e; omega
        · exact h3 y e
  intro x ns
  obtain ⟨h1, h2, h3⟩ := go (x :: ns) x
  refine ⟨?_, h3⟩
  rcases h1 with e | e
  · rw [e]; exact List.mem_cons_self
  · exact e
def intsF (f : Int → List Int → Int) : D → Option (D × Bool)
  | .list ds => (asInts ds).bind fun ns => match ns with
    | [] => none
    | x :: ns => some (.int (f x (x :: ns)), false)
  | _ => none
def maxF : OpN
  | [.int i, .int j] => some (.int (if j > i then j else i), false)
  | [.list ds] => intsF (fun x ns => ns.foldl max x) (.list ds)
  | _ => none
def minF : OpN
  | [.int i, .int j] => some (.int (if j < i then j else i), false)
  | [.list ds] => intsF (fun x ns => ns.foldl min x) (.list ds)
  | _ => none
theorem cr_maxD (hc : X.calm = true) : CallR X (.builtin "max") (rCS X.K maxF) := by
  intro pins s σ H xs us Q I r h
  obtain ⟨F, ds, zb, l, ls, e, q⟩ := h
  match ds, ls, e with
  | [.int i, .int j], .cons lk (.cons lk2 .nil), e => cases e; rw [lk.int, lk2.int] at r; exact call_max2 hc pins s σ H _ us Q I r ⟨i, j, rfl, q.old l (.int _)⟩
  | [.list ds], .cons lk .nil, e =>
    simp only [maxF, intsF, Option.bind_eq_some_iff] at e
    obtain ⟨ns, e1, e2⟩ := e
    cases ns with
    | nil => cases e2
    | cons x ns =>
      cases e2
      obtain ⟨a, vs, rfl, ha, rp⟩ := lk.list l
      have ev := rp.intsOf (asInts_eq e1)
      subst ev
      refine cr_max hc pins s σ H _ us Q I r ⟨a, x :: ns, rfl, .inl (.inl ha), Nat.succ_pos _, fun m hm hx => ?_⟩
      have e3 : m = (x :: ns).foldl max x := Int.le_antisymm ((max_of x ns).2 m hm) (hx _ (max_of x ns).1)
      rw [e3]
      exact q.old l (.int _)
theorem cr_minD (hc : X.calm = true) : CallR X (.builtin "min") (rCS X.K minF) := by
  intro pins s σ H xs us Q I r h
  obtain ⟨F, ds, zb, l, ls, e, q⟩ := h
  match ds, ls, e with
  | [.int i, .int j], .cons lk (.cons lk2 .nil), e => cases e; rw [lk.int, lk2.int] at r; exact call_min2 hc pins s σ H _ us Q I r ⟨i, j, rfl, q.old l (.int _)⟩
  | [.list ds], .cons lk .nil, e =>
    simp only [minF, intsF, Option.bind_eq_some_iff] at e
    obtain ⟨ns, e1, e2⟩ := e
    cases ns with
    | nil => cases e2
    | cons x ns =>
      cases e2
      obtain ⟨a, vs, rfl, ha, rp⟩ := lk.list l
      have ev := rp.intsOf (asInts_eq e1)
      subst ev
      refine cr_min hc pins s σ H _ us Q I r ⟨a, x :: ns, rfl, .inl (.inl ha), Nat.succ_pos _, fun m hm hx => ?_⟩
      have e3 : m = (x :: ns).foldl min x := Int.le_antisymm (hx _ (min_of x ns).1) ((min_of x ns).2 m hm)
      rw [e3]
      exact q.old l (.int _)
def allF : OpN
  | [.list ds] => (asBls ds).bind fun ns => some (.bool (ns.all id), false)
  | _ => none
def anyF : OpN
  | [.list ds] => (asBls ds).bind fun ns => some (.bool (ns.any id), false)
  | _ => none
theorem cr_allD (hc : X.calm = true) : CallR X (.builtin "all") (rCS X.K allF) := by
  intro pins s σ H xs us Q I r h
  obtain ⟨F, ds, zb, l, ls, e, q⟩ := h
  match ds, ls, e with
  | [.list ds], .cons lk .nil, e =>
    simp only [allF, Option.bind_eq_some_iff] at e
    obtain ⟨ns, e1, e2⟩ := e
    cases e2
    obtain ⟨a, vs, rfl, ha, rp⟩ := lk.list l
    have ev := rp.blsOf (asBls_eq e1)
    subst ev
    exact cr_all hc pins s σ H _ us Q I r ⟨a, ns, rfl, .inl (.inl ha), q.old l (.bl _)⟩
theorem cr_anyD (hc : X.calm = true) : CallR X (.builtin "any") (rCS X.K anyF) := by
  intro pins s σ H xs us Q I r h
  obtain ⟨F, ds, zb, l, ls, e, q⟩ := h
  match ds, ls, e with
  | [.list ds], .cons lk .nil, e =>
    simp only [anyF, Option.bind_eq_some_iff] at e
    obtain ⟨ns, e1, e2⟩ := e
    cases e2
    obtain ⟨a, vs, rfl, ha, rp⟩ := lk.list l
    have ev := rp.blsOf (asBls_eq e1)
    subst ev
    exact cr_any hc pins s σ H _ us Q I r ⟨a, ns, rfl, .inl (.inl ha), q.old l (.bl _)⟩
def tupleF : OpN
  | [.list ds] => some (.tuple ds, false)
  | [.tuple ds] => some (.tuple ds, false)
  | _ => none
theorem call_tuple_S : CallR X (.type "tuple") (fun xs H Q => ∃ p ys, xs = [.ref p] ∧ ((SqL X.K H p ys ∧ ∀ l o, H l = none → o.dict = none → Q (.ref l) (upd H l (.frz o (.tup ys)))) ∨ (SqT X.K H p ys ∧ Q (.ref p) H))) := by
  intro pins s σ H xs us Q I r h
  obtain ⟨p, ys, rfl, h⟩ := h
  obtain ⟨u, rfl, rx⟩ := vals1 r
  cases rx
  rcases h with ⟨hq, q⟩ | ⟨hq, q⟩
  · obtain ⟨its, r', pl, hz⟩ := I.list hq
    have hlen := r'.length
    refine call_tuple_list pl.isList (fun h' kp => ?_) (by simp only [List.size_toArray] <;> omega)
    have I1 : Inv X pins σ H { s with heap := h' } := I.kept (t' := s.toks) kp
    exact new_tupS I1 r' hz q
  · obtain ⟨its, r', pl, hz⟩ := I.tuple hq
    exact call_tuple_same pl ⟨.ref p, H, I, rfl, q⟩
theorem cr_tupleD : CallR X (.type "tuple") (rCS X.K tupleF) := by
  intro pins s σ H xs us Q I r h
  obtain ⟨F, ds, zb, l, ls, e, q⟩ := h
  match ds, ls, e with
  | [.list ds], .cons lk .nil, e =>
    cases e
    obtain ⟨a, vs, rfl, ha, rp⟩ := lk.list l
    exact call_tuple_S pins s σ H _ us Q I r ⟨a, vs, rfl, .inl ⟨.inl (.inl ha), q.tup l rp⟩⟩
  | [.tuple ds], .cons lk .nil, e =>
    cases e
    obtain ⟨a, vs, rfl, ha, rp, rp2⟩ := lk.tuple l
    exact call_tuple_S pins s σ H _ us Q I r ⟨a, vs, rfl, .inr ⟨ha, q.old l rp2⟩⟩
def listF : OpN
  | [.list ds] => some (.list ds, true)
  | [.tuple ds] => some (.list ds, true)
  | [.dict es] => some (.list (es.map (·.1)), true)
  | _ => none
theorem cr_listD (hc : X.calm = true) : CallR X (.type "list") (rCS X.K listF) := by
  intro pins s σ H xs us Q I r h
  obtain ⟨F, ds, zb, l, ls, e, q⟩ := h
  match ds, ls, e with
  | [.list ds], .cons lk .nil, e =>
    cases e
    obtain ⟨a, vs, rfl, ha, rp⟩ := lk.list l
    exact call_list_of pins s σ H _ us Q I r ⟨a, vs, rfl, .inl (.inl (.inl ha)), q.lst l rp⟩
  | [.tuple ds], .cons lk .nil, e =>
    cases e
    obtain ⟨a, vs, rfl, ha, rp, rp2⟩ := lk.tuple l
    exact call_list_of pins s σ H _ us Q I r ⟨a, vs, rfl, .inr ha, q.lst l rp⟩
  | [.dict es], .cons lk .nil, e =>
    cases e
    obtain ⟨a, vs, rfl, ha, rp⟩ := lk.dict l
    exact call_listD hc pins s σ H _ us Q I r ⟨a, vs, rfl, ha, q.lst l rp.keys⟩
def dictF : OpN
  | [.dict es] => some (.dict es, true)
  | _ => none
theorem cr_dictD : CallR X (.type "dict") (rCS X.K dictF) := by
  intro pins s σ H xs us Q I r h
  obtain ⟨F, ds, zb, l, ls, e, q⟩ := h
  match ds, ls, e with
  | [.dict es], .cons lk .nil, e =>
    cases e
    obtain ⟨a, vs, rfl, ha, rp⟩ := lk.dict l
    exact call_dictD pins s σ H _ us Q I r ⟨a, vs, rfl, ha, q.dct l rp⟩
def leS (a b : Str) : Bool := decide (a.cps.toList ≤ b.cps.toList)
abbrev sortS (ks : List Str) : List Str := isort leS ks
theorem leS_total : ∀ a b, (leS a b || leS b a) = true := fun a b => by
  unfold leS
  rw [Bool.or_eq_true, decide_eq_true_eq, decide_eq_true_eq]
  exact List.le_total _ _
theorem leS_trans : ∀ a b c, leS a b = true → leS b c = true → leS a c = true := fun a b c h k => by
  unfold leS at *
  rw [decide_eq_true_eq] at *
  exact List.le_trans h k
theorem leS_antisymm : ∀ a b, leS a b = true → leS b a = true → a = b := fun a b h k => by
  unfold leS at *
  rw [decide_eq_true_eq] at *
  exact str_of_cps (List.le_antisymm h k)
theorem sortS_of {ys ks : List Str} (p : ys.Perm ks) (h : ys.Pairwise fun a b => leS a b = true) : ys = sortS ks :=
  (PySem.W.Srt.the_of_perm leS leS_trans leS_total leS_antisymm p h).trans (isort_eq leS leS_trans leS_total ks).symm
theorem ins_map {α β : Type} {le : α → α → Bool} {le2 : β → β → Bool} {f : α → β} (h : ∀ a b, le2 (f a) (f b) = le a b) (x : α) : ∀ l, ins le2 (f x) (l.map f) = (ins le x l).map f
  | [] => rfl
  | y :: t => by
    rw [List.map_cons]
    unfold ins
    rw [h]
    split
    · rfl
    · rw [List.map_cons, ins_map h x t]
theorem isort_map {α β : Type} {le : α → α → Bool} {le2 : β → β → Bool} {f : α → β} (h : ∀ a b, le2 (f a) (f b) = le a b) : ∀ l, isort le2 (l.map f) = (isort le l).map f
  | [] => rfl
  | x :: r => by
    show ins le2 (f x) (isort le2 (r.map f)) = _
    rw [isort_map h r, ins_map h]
    rfl
theorem sortD_str (ks : List Str) : sortD (ks.map PyData.str) = (sortS ks).map PyData.str :=
  isort_map (le := leS) (le2 := dataLe false id) (f := PyData.str) (fun a b => congrFun (congrFun (dataLe_str (β := Str) id) a) b) ks
theorem sortedS_pairwise (ys : List Str) (h : sortedS ys = true) : ys.Pairwise fun a b => leS a b = true := by
  have go : ∀ (r : List Str) (p : Str), risingS p r = true → (p :: r).Pairwise fun a b => leS a b = true := by
    intro r
    induction r with
    | nil => intro p _; exact List.pairwise_singleton _ _
    | cons x r ih =>
      intro p h
      unfold risingS at h
      rw [Bool.and_eq_true] at h
      have t := ih x h.2
      have le : leS p x = true := by
        unfold leS
        rw [decide_eq_true_eq]
        have := h.1
        rw [PyProof.Rows.ltCps_eq] at this
        simpa using this
      refine List.pairwise_cons.mpr ⟨fun y hy => ?_, t⟩
      rcases List.mem_cons.mp hy with e | e
      · subst e; exact le
      · exact leS_trans _ _ _ le ((List.pairwise_cons.mp t).1 y e)
  cases ys with
  | nil => exact .nil
  | cons x r => exact go r x h
theorem sortD_strs {ys ks : List Str} (p : ys.Perm ks) (h : sortedS ys = true) : ys.map PyData.str = sortD (ks.map PyData.str) := by
  rw [sortD_str, ← sortS_of p (sortedS_pairwise ys h)]
def sortedF2 : OpN
  | [.dict es] => (asStrs (es.map (·.1))).bind fun ks => if ks.length < 64 then some (.list (sortD (ks.map PyData.str)), true) else none
  | ds => sortedF ds
theorem cr_sorted2 (hc : X.calm = true) (hu : X.A.units + 100 < cLine) : CallR X (.builtin "sorted") (rCS X.K sortedF2) := by
  intro pins s σ H xs us Q I r h
  obtain ⟨F, ds, zb, l, ls, e, q⟩ := h
  unfold sortedF2 at e
  split at e
  · next es =>
    cases ls with | cons lk ln =>
    cases ln
    simp only [Option.bind_eq_some_iff] at e
    obtain ⟨ks, e1, e2⟩ := e
    split at e2
    · next h64 =>
      cases e2
      obtain ⟨a, vs, rfl, ha, rp⟩ := lk.dict l
      refine call_sortedD hc pins s σ H _ us Q I r ⟨a, vs, ks, rfl, ha, rp.strKeys (asStrs_eq e1), h64, fun ys p h1 h2 hn => ?_⟩
      refine Post.lst l (ds := sortD (ks.map PyData.str)) ?_ q p hn
      rw [← sortD_strs h1 h2]
      exact RpA.ofStrs ys
    · cases e2
  · exact cr_sorted hu pins s σ H xs us Q I r ⟨F, _, zb, l, ls, e, q⟩
end
end Pv
end
section
set_option Elab.async false
set_option linter.all false
set_option maxRecDepth 100000
set_option maxHeartbeats 1000000
namespace Pv
open PySem PySem.Spec PyProof.Rows L2 PySem.W

def hasS (r : List Str) (x : Str) : Bool := r.any fun y => eqS y x
theorem hasS_iff {r : List Str} {x : Str} : hasS r x = true ↔ x ∈ r := by
  unfold hasS
  rw [List.any_eq_true]
  exact ⟨fun ⟨y, h, e⟩ => by rw [← eqS_iff.mp e]; exact h, fun h => ⟨x, h, eqS_iff.mpr rfl⟩⟩
def dedupS : List Str → List Str
  | [] => []
  | x :: r => if hasS r x = true then dedupS r else x :: dedupS r
theorem mem_dedupS {y : Str} : ∀ {xs : List Str}, y ∈ dedupS xs ↔ y ∈ xs
  | [] => Iff.rfl
  | x :: r => by
    unfold dedupS
    split
    · next h =>
      rw [mem_dedupS, List.mem_cons]
      exact ⟨.inr, fun e => e.elim (fun e => by rw [e]; exact hasS_iff.mp h) id⟩
    · rw [List.mem_cons, List.mem_cons, mem_dedupS]
theorem nodup_dedupS : ∀ xs : List Str, (dedupS xs).Nodup
  | [] => List.nodup_nil
  | x :: r => by
    unfold dedupS
    split
    · exact nodup_dedupS r
    · next h => exact List.nodup_cons.mpr ⟨fun k => h (hasS_iff.mpr (mem_dedupS.mp k)), nodup_dedupS r⟩
theorem nodup_perm : ∀ {l m : List Str}, l.Nodup → m.Nodup → (∀ x, x ∈ l ↔ x ∈ m) → l.Perm m
  | [], [], _, _, _ => .nil
  | [], y :: t, _, _, h => by cases (h y).mpr List.mem_cons_self
  | x :: l, m, h1, h2, h => by
    have hx : x ∈ m := (h x).mp List.mem_cons_self
    refine (List.Perm.cons x (nodup_perm (m := m.erase x) (List.nodup_cons.mp h1).2 (h2.erase x) fun y => ?_)).trans (List.perm_cons_erase hx).symm
    by_cases e : y = x
    · subst e
      exact ⟨fun k => absurd k (List.nodup_cons.mp h1).1, fun k => absurd k (List.Nodup.not_mem_erase h2)⟩
    · rw [List.mem_erase_of_ne e, ← h y, List.mem_cons]
      exact ⟨.inr, fun k => k.elim (fun k => absurd k e) id⟩
def uniqS (xs : List Str) : List Str := sortS (dedupS xs)

section
variable {X : Cx}
def phiS (w : World) (a : Addr) (ys : List Str) : Heap → Prop := fun h => ∃ es ep tb, SetS w h a ys es ep tb
def rSetNew (K : Fr') (w : World) : List V → Hp → VK → Prop := fun vs H Q => ∃ (a : Addr) (ys : List Str), vs = [.ref a] ∧ (SqL K H a (ys.map V.str) ∨ SqT K H a (ys.map V.str)) ∧ ys.length + 1 < scanBound ∧ ∀ p, H p = none → Q (.ref p) (upd H p (.ext (phiS w p ys)))
theorem strsAre_of : ∀ {ys : List Str} {us : List Value}, Vals (ys.map V.str) us → StrsAre us ys
  | [], _, .nil => .nil
  | y :: ys, _, .cons r t => by
    obtain ⟨t1, e⟩ := r
    subst e
    exact .cons y t1 (strsAre_of t)
theorem cr_setD (hc : X.calm = true) : CallR X (.type "set") (rSetNew X.K X.w) := by
  intro pins s σ H xs us Q I r h
  obtain ⟨a, ys, rfl, hs, hz, q⟩ := h
  rw [Vals.ref1 r]
  have fin : ∀ h1 tk es ep tb, SetS X.w h1 s.heap.objs.size ys es ep tb → (∀ b o, s.heap.get? b = some o → h1.get? b = some o) → EP X pins σ Q (.ref s.heap.objs.size) { s with heap := h1, toks := tk } := by
    intro h1 tk es ep tb R k
    refine ⟨.ref s.heap.objs.size, _, I.laid (o := .ext (phiS X.w s.heap.objs.size ys)) (t' := tk) k (Nat.le_refl _) ?_, rfl, q _ (I.hok.fresh (Nat.le_refl _))⟩
    obtain ⟨o, ho, _⟩ := R.at_
    exact ⟨⟨es, ep, tb, R⟩, ⟨o, ho⟩, fun g1 g2 ⟨es, ep, tb, R⟩ k => ⟨es, ep, tb, R.keep k⟩⟩
  rcases hs with hs | hs
  · obtain ⟨its, rv, ⟨o, n, ho, hc', _, hd⟩, _⟩ := I.list hs
    exact call_set_list ys (I.ok.hd hc) (items := its.toArray) ⟨o, ho, hc', n, hd⟩ (strsAre_of rv) hz fin
  · obtain ⟨its, rv, ht, _⟩ := I.tuple hs
    exact call_set_tuple ys (I.ok.hd hc) (items := its.toArray) ht (strsAre_of rv) hz fin
def valTxt : Value → Str
  | .str x _ => x
  | _ => Str.empty
theorem is_strs {K : Fr'} {F : Hp} : ∀ {out : List Value}, (∀ v ∈ out, ∃ x t, v = Value.str x t) → EachIs (Is K F) out ((out.map valTxt).map PyData.str)
  | [], _ => .nil
  | v :: r, h => by
    obtain ⟨x, t, rfl⟩ := h v List.mem_cons_self
    exact .cons ⟨.str x, ⟨t, rfl⟩, .str x⟩ (is_strs fun v hv => h v (List.mem_cons_of_mem _ hv))
theorem reads_strs {h : Heap} : ∀ {out : List Value}, (∀ v ∈ out, ∃ x t, v = Value.str x t) → EachIs (fun v b => ∃ as, Reads h v b as) out ((out.map valTxt).map PyData.str)
  | [], _ => .nil
  | v :: r, h => by
    obtain ⟨x, t, rfl⟩ := h v List.mem_cons_self
    exact .cons ⟨_, .str x t⟩ (reads_strs fun v hv => h v (List.mem_cons_of_mem _ hv))
theorem alikes (ks : List Str) : AllAlike (ks.map PyData.str) := fun d hd e he => by
  obtain ⟨x, _, rfl⟩ := List.mem_map.mp hd
  obtain ⟨y, _, rfl⟩ := List.mem_map.mp he
  rfl
theorem sortables (ks : List Str) : Sortable (ks.map PyData.str) := .inr fun d hd => by
  obtain ⟨x, _, rfl⟩ := List.mem_map.mp hd
  exact ⟨fun z => (by cases z), fun xs z => (by cases z)⟩
def rSortSet (K : Fr') (w : World) : List V → Hp → VK → Prop := fun vs H Q => ∃ (a : Addr) (ys : List Str), vs = [.ref a] ∧ H a = some (.ext (phiS w a ys)) ∧ ∀ p, H p = none → Q (.ref p) (upd H p (.lst ((uniqS ys).map V.str)))
theorem uniq_of {w : World} {h : Heap} {a : Addr} {ys : List Str} {es : Array (Int × Value)} {ep : Nat} {tb : SetTable} (R : SetS w h a ys es ep tb) : (es.toList.map txt).Perm (dedupS ys) :=
  nodup_perm R.once (nodup_dedupS ys) fun x => (R.mem x).symm.trans mem_dedupS.symm
theorem cr_sortSet (hc : X.calm = true) (hu : X.A.units + 100 < cLine) : CallR X (.builtin "sorted") (rSortSet X.K X.w) := by
  intro pins s σ H xs us Q I r h
  obtain ⟨a, ys, rfl, ha, q⟩ := h
  rw [Vals.ref1 r]
  obtain ⟨⟨es, ep, tb, R⟩, _, _⟩ := (show ObjOk X.prog X.w H s.heap a (.ext (phiS X.w a ys)) from I.hok a _ ha)
  have lenB : (es.toList.map txt).length ≤ sizeLine := by
    have := R.few
    rw [List.length_map, Array.length_toList, sizeLine_eq]
    unfold scanBound at this
    omega
  refine sorted_got (R := Is X.K H) (bs := (es.toList.map txt).map PyData.str) (S := fun cs => ∃ ks : List Str, cs = ks.map PyData.str ∧ ks.Perm (es.toList.map txt)) (fun cs ⟨ks, e, p⟩ => by rw [e]; exact p.map _) (fun E1 Q1 k => ?_) (alikes _) (sortableT (sortables _)) (by rw [List.length_map]; exact lenB) (fun b hb => ?_) fun s1 p out cs k kp hp hg ⟨ks, e, pm⟩ each1 => ?_
  · obtain ⟨o, ho, hx, hd⟩ := R.at_
    refine collect_set (show X.A.in1.handled = none from I.ok.hd hc) (es := es) (ep := ep) (t := tb) ⟨o, ho, hx.1, hd⟩ R.fits R.few R.ris R.led fun s' out k1 k2 g o' pm => ?_
    have all : ∀ v ∈ out, ∃ x t, v = Value.str x t := fun v hv => by
      obtain ⟨e, he, rfl⟩ := List.mem_map.mp (pm.mem_iff.mp hv)
      obtain ⟨x, t, h1, _⟩ := R.good e he
      exact ⟨x, t, h1⟩
    refine k s' out _ ⟨k1, g, o'⟩ ⟨out.map valTxt, rfl, ?_⟩ (is_strs all) (reads_strs all)
    have := pm.map valTxt
    rw [List.map_map] at this
    exact this
  · obtain ⟨x, _, rfl⟩ := List.mem_map.mp hb
    show X.A.units + 2 + 0 < cLine
    omega
  · subst e
    obtain ⟨xs1, r1, rp1⟩ := of_is each1
    rw [sortD_str] at rp1
    have e2 : sortS ks = uniqS ys := sortS_of ((isort_perm leS ks).trans (pm.trans (uniq_of R))) (isort_sorted leS leS_trans leS_total ks)
    rw [e2] at rp1
    have e3 := rp1.strsOf rfl
    subst e3
    obtain ⟨J, hn⟩ := new_list I kp hp hg r1 (by
      have := (uniq_of R).length_eq
      rw [List.length_map, uniqS, isort_len, ← this]
      exact lenB)
    exact ⟨.ref p, _, J, rfl, q p hn⟩
def rLenSet (w : World) : List V → Hp → VK → Prop := fun vs H Q => ∃ (a : Addr) (ys : List Str), vs = [.ref a] ∧ H a = some (.ext (phiS w a ys)) ∧ Q (.int (dedupS ys).length) H
theorem cr_lenSet : CallR X (.builtin "len") (rLenSet X.w) := by
  intro pins s σ H xs us Q I r h
  obtain ⟨a, ys, rfl, ha, q⟩ := h
  rw [Vals.ref1 r]
  obtain ⟨⟨es, ep, tb, R⟩, _, _⟩ := (show ObjOk X.prog X.w H s.heap a (.ext (phiS X.w a ys)) from I.hok a _ ha)
  obtain ⟨o, ho, hx, hd⟩ := R.at_
  have e := (uniq_of R).length_eq
  rw [List.length_map, Array.length_toList] at e
  rw [← e] at q
  refine call_len_set ho hx hd R.fits (by have := R.few; unfold scanBound at this; omega) ⟨.int es.size, H, I.tok _, ⟨_, rfl⟩, q⟩
def strsOf : D → Option (List Str)
  | .list ds => asStrs ds
  | .tuple ds => asStrs ds
  | _ => none
def sOfSet (g : List Str → Rv) (f : SemE) : SemE := fun ρ => (f ρ).bind fun (r, ρ1) => (look ρ1 (settle r)).bind fun d => (strsOf d).bind fun ys => if ys.length + 1 < scanBound then some (g ys, ρ1) else none
abbrev sSortSet : SemE → SemE := sOfSet fun ys => .fr (.list ((uniqS ys).map PyData.str))
abbrev sLenSet : SemE → SemE := sOfSet fun ys => .val (.int (dedupS ys).length)
theorem strsOf_at {K : Fr'} {F H : Hp} {v : V} {d : D} {ys : List Str} (l : Le F H) (lk : Lk K F H v d) (e : strsOf d = some ys) : ∃ a, v = .ref a ∧ (SqL K H a (ys.map V.str) ∨ SqT K H a (ys.map V.str)) := by
  cases d with
  | list ds =>
    obtain ⟨a, vs, rfl, ha, rp⟩ := lk.list l
    rw [rp.strsOf (asStrs_eq e)] at ha
    exact ⟨a, rfl, .inl (.inl (.inl ha))⟩
  | tuple ds =>
    obtain ⟨a, vs, rfl, ha, rp, _⟩ := lk.tuple l
    rw [rp.strsOf (asStrs_eq e)] at ha
    exact ⟨a, rfl, .inr ha⟩
  | _ => cases e
theorem de_sortSet {e : Expr} {f : SemE} {p p2 pos pos2 : Pos} (hc : X.calm = true) (hu : X.A.units + 100 < cLine) (hg : Gl X "sorted") (hm : X.mg "sorted" = none) (hg2 : Gl X "set") (hm2 : X.mg "set" = none) (he : DE X e f)
    (hs : starEach [e] X.env = (false, eval e X.env) :: starEach [] X.env := by rfl) (hpl : (backTo pos2 (starEach [] X.env)).any (·.1) = false := by rfl)
    (hs2 : starEach [.Call (.Name "set" p2) [e] [] pos2] X.env = (false, eval (.Call (.Name "set" p2) [e] [] pos2) X.env) :: starEach [] X.env := by rfl) (hpl2 : (backTo pos (starEach [] X.env)).any (·.1) = false := by rfl) :
    DE X (.Call (.Name "sorted" p) [.Call (.Name "set" p2) [e] [] pos2] [] pos) (sSortSet f) := by
  have hi := pe_callTy (pos := pos2) (p := p2) (cr_setD (X := X) hc) hg2 hm2 rfl (pa_cons he.pe pa_nil hs) (by decide) (by decide) hs hpl
  refine ⟨(pe_callB (pos := pos) (p := p) (cr_sortSet hc hu) hg hm rfl (pa_cons hi pa_nil hs2) (by decide) (by decide) hs2 hpl2).pvi fun σ H Q q => ?_⟩
  obtain ⟨P, W, F, ρ, r, ρ', R, ev, q⟩ := q
  simp only [sSortSet, sOfSet, Option.bind_eq_some_iff, Prod.exists] at ev
  obtain ⟨r1, ρ1, e1, d, e2, ys, e3, e4⟩ := ev
  split at e4
  · next hz =>
    cases e4
    refine ⟨P, W, F, ρ, r1, _, R, e1, fun v H1 F1 x1 R1 o1 => ?_⟩
    obtain ⟨F2, x2, R2, o2⟩ := R1.settle o1
    obtain ⟨a, rfl, hs'⟩ := strsOf_at R2.fh (R2.lk o2 e2) e3
    refine ⟨a, ys, rfl, hs', hz, fun p hp => ?_⟩
    refine ⟨p, ys, rfl, upd_same, fun p2 hp2 => ?_⟩
    have g1 := Grow.heap R2.fh hp (.ext (phiS X.w p ys))
    have R3 := R2.grow g1
    have g2 := Grow.heap R3.fh hp2 (.lst ((uniqS ys).map V.str))
    have hpost : Post X.K F2 (upd H1 p (.ext (phiS X.w p ys))) Q (.list ((uniqS ys).map PyData.str), true) :=
      post_of R3 fun v H' F' x5 R5 o => q v H' F' (((x1.trans x2)).trans x5) R5 o
    exact hpost.lst R3.fh (RpA.ofStrs _) p2 hp2
  · cases e4
theorem de_lenSet {e : Expr} {f : SemE} {p p2 pos pos2 : Pos} (hc : X.calm = true) (hg : Gl X "len") (hm : X.mg "len" = none) (hg2 : Gl X "set") (hm2 : X.mg "set" = none) (he : DE X e f)
    (hs : starEach [e] X.env = (false, eval e X.env) :: starEach [] X.env := by rfl) (hpl : (backTo pos2 (starEach [] X.env)).any (·.1) = false := by rfl)
    (hs2 : starEach [.Call (.Name "set" p2) [e] [] pos2] X.env = (false, eval (.Call (.Name "set" p2) [e] [] pos2) X.env) :: starEach [] X.env := by rfl) (hpl2 : (backTo pos (starEach [] X.env)).any (·.1) = false := by rfl) :
    DE X (.Call (.Name "len" p) [.Call (.Name "set" p2) [e] [] pos2] [] pos) (sLenSet f) := by
  have hi := pe_callTy (pos := pos2) (p := p2) (cr_setD (X := X) hc) hg2 hm2 rfl (pa_cons he.pe pa_nil hs) (by decide) (by decide) hs hpl
  refine ⟨(pe_callB (pos := pos) (p := p) cr_lenSet hg hm rfl (pa_cons hi pa_nil hs2) (by decide) (by decide) hs2 hpl2).pvi fun σ H Q q => ?_⟩
  obtain ⟨P, W, F, ρ, r, ρ', R, ev, q⟩ := q
  simp only [sLenSet, sOfSet, Option.bind_eq_some_iff, Prod.exists] at ev
  obtain ⟨r1, ρ1, e1, d, e2, ys, e3, e4⟩ := ev
  split at e4
  · next hz =>
    cases e4
    refine ⟨P, W, F, ρ, r1, _, R, e1, fun v H1 F1 x1 R1 o1 => ?_⟩
    obtain ⟨F2, x2, R2, o2⟩ := R1.settle o1
    obtain ⟨a, rfl, hs'⟩ := strsOf_at R2.fh (R2.lk o2 e2) e3
    refine ⟨a, ys, rfl, hs', hz, fun p hp => ?_⟩
    refine ⟨p, ys, rfl, upd_same, ?_⟩
    have g1 := Grow.heap R2.fh hp (.ext (phiS X.w p ys))
    have R3 := R2.grow g1
    exact q _ _ F2 (x1.trans x2) R3 (.int _)
  · cases e4

def tyName : D → String
  | .none => "NoneType"
  | .bool _ => "bool"
  | .int _ => "int"
  | .str _ => "str"
  | .list _ => "list"
  | .tuple _ => "tuple"
  | .dict _ => "dict"
def isiD (T : String) (d : D) : Bool := tyName d == T || (T == "int" && tyName d == "bool")
def tyNames : List String := ["bool", "int", "str", "list", "tuple", "dict"]
theorem kitB_all : (("NoneType" :: tyNames).all fun a => tyNames.all fun T => L2.kitB a T == some (a == T || (T == "int" && a == "bool"))) = true := by decide +kernel
theorem kitB_isi {T : String} (h : tyNames.contains T = true) (d : D) : L2.kitB (tyName d) T = some (isiD T d) := by
  have h1 := List.all_eq_true.mp kitB_all (tyName d) (by cases d <;> simp [tyName, tyNames])
  have h2 := List.all_eq_true.mp h1 T (by simpa using h)
  exact eq_of_beq h2
theorem tyX_of {F H : Hp} {K : Fr'} {v : V} {d : D} (l : Le F H) (lk : Lk K F H v d) : L2.TyX K H v (.type (tyName d)) := by
  cases d with
  | none => rw [lk.none]; exact .base .non
  | bool b => rw [lk.bool]; exact .base (.bl b)
  | int i => rw [lk.int]; exact .base (.int i)
  | str i => rw [lk.str]; exact .base (.str i)
  | list ds => obtain ⟨a, xs, rfl, ha, _⟩ := lk.list l; exact .base (.lst ha)
  | tuple ds =>
    obtain ⟨a, xs, rfl, ha, _⟩ := lk.tuple l
    rcases ha with (ha | ⟨o, ha⟩) | ⟨o, its, n, h1, h2, _⟩
    · exact .base (.tup ha)
    · exact .fTuple ha
    · exact .kTuple h1 h2
  | dict es =>
    obtain ⟨a, xs, rfl, ha, _⟩ := lk.dict l
    rcases ha with ha | ⟨o, ha⟩
    · exact .base (.dK ha)
    · exact .fDict ha
def sIsi (T : String) (f : SemE) : SemE := fun ρ => (f ρ).bind fun (r, ρ1) => (look ρ1 (settle r)).bind fun d => some (.val (.bool (isiD T d)), ρ1)
theorem de_isi {e : Expr} {T : Str} {U : String} {f : SemE} {p p2 pos : Pos} (hg : Gl X "isinstance") (hm : X.mg "isinstance" = none) (hg2 : Gl X T) (hm2 : X.mg T = none) (hb : bootBuiltins T = some (.type U)) (hU : tyNames.contains U = true) (he : DE X e f)
    (hs : starEach [e, .Name T p2] X.env = (false, eval e X.env) :: starEach [.Name T p2] X.env := by rfl) (hpl : (backTo pos (starEach [.Name T p2] X.env)).any (·.1) = false := by rfl) (hn : T ≠ "__name__" := by decide) (hd : (T == ("__debug__" : Str)) = false := by decide)
    (hs2 : starEach [.Name T p2] X.env = (false, eval (.Name T p2) X.env) :: starEach [] X.env := by rfl) :
    DE X (.Call (.Name "isinstance" p) [e, .Name T p2] [] pos) (sIsi U f) := by
  refine ⟨(pe_callB (pos := pos) (p := p) L2.call_isi hg hm rfl (pa_cons he.pe (pa_cons (pe_bltn (v := .ty U) hg2 hm2 hb rfl hn hd) pa_nil hs2) hs) (by decide) (by decide) hs hpl).pvi fun σ H Q q => ?_⟩
  obtain ⟨P, W, F, ρ, r, ρ', R, ev, q⟩ := q
  simp only [sIsi, Option.bind_eq_some_iff, Prod.exists] at ev
  obtain ⟨r1, ρ1, e1, d, e2, e4⟩ := ev
  cases e4
  refine ⟨P, W, F, ρ, r1, _, R, e1, fun v H1 F1 x1 R1 o1 => ?_⟩
  obtain ⟨F2, x2, R2, o2⟩ := R1.settle o1
  exact ⟨v, .ty U, .type (tyName d), .type U, isiD U d, rfl, .ty U, tyX_of R2.fh (R2.lk o2 e2), L2.kit_ty (kitB_isi hU d), q _ H1 F2 (x1.trans x2) R2 (.bl _)⟩

theorem rp_readsD {pins : List (Addr × Obj)} {σ : St} {s : Shared} {H : Hp} (I : Inv X pins σ H s) {a : Addr} {kvs : List (Key × V)} (ha : Rd H a (.dK kvs)) (hk : kvs = []) : ∃ as, Reads s.heap (.ref a) (.dict []) as ∧ sysModules ∉ as := by
  obtain ⟨z, hm, vs, rel, o, es, ep, ho, hx, hd, _, pr, _⟩ := dk_rd I.hok ha
  subst hk
  cases rel
  have e : es.toList = [] := by cases h : es.toList with
    | nil => rfl
    | cons x r => rw [h] at pr; cases pr
  refine ⟨_, .dict (kvs := []) (as := []) (bs := []) ho hx.1 hd (by rw [e]; exact .nil) (by rw [e]; exact .nil), fun h => ?_⟩
  simp only [List.append_nil, List.mem_singleton] at h
  rw [h] at hm
  simp at hm
def showOk (d : D) : Bool := (plain d || (match d with | .dict [] => true | _ => false)) && d.showable && decide (d.shown.length ≤ sizeLine) && decide (d.depth ≤ 64)
def strVal : D → Str
  | .str x => x
  | d => d.shown
def strF : OpN
  | [d] => if showOk d = true then some (.str (strVal d), false) else none
  | _ => none
theorem plain_noDict : ∀ d : D, plain d = true → d.hasDict = false
  | .none, _ => rfl
  | .bool _, _ => rfl
  | .int _, _ => rfl
  | .str _, _ => rfl
  | .list xs, h => by simp only [PyData.hasDict]; exact go xs (by simpa [plain] using h)
  | .tuple xs, h => by simp only [PyData.hasDict]; exact go xs (by simpa [plain] using h)
  | .dict _, h => by simp [plain] at h
where go : ∀ ds : List D, plainA ds = true → PyData.hasDictAll ds = false
  | [], _ => rfl
  | d :: ds, h => by
    simp only [plainA, Bool.and_eq_true] at h
    simp only [PyData.hasDictAll, Bool.or_eq_false_iff]
    exact ⟨plain_noDict d h.1, go ds h.2⟩
theorem cr_strD (gd : X.A.guards = some []) (hu : X.A.units + 100 < cLine) : CallR X (.type "str") (rCS X.K strF) := by
  intro pins s σ H xs us Q I r h
  obtain ⟨F, ds, zb, l, ls, e, q⟩ := h
  cases ls with
  | nil => cases e
  | @cons x d xs ds lk ln =>
  cases ln with
  | cons _ _ => cases e
  | nil =>
  simp only [strF] at e
  split at e
  · next ok =>
    cases e
    unfold showOk at ok
    simp only [Bool.and_eq_true, decide_eq_true_eq, Bool.or_eq_true] at ok
    obtain ⟨⟨⟨pl, sh⟩, len⟩, dep⟩ := ok
    have main : ∀ (d : D) (a : Addr) (as : List Addr), x = .ref a → Reads s.heap (.ref a) d as → d.showable = true → (d.hasDict = true → sysModules ∉ as) → d.shown.length ≤ sizeLine → d.depth ≤ 64 → Post X.K F H Q (.str d.shown, false) →
        wpAny (model X.prog X.w) X.A (call (.type "str") us) (EP X pins σ Q) X.xe s := by
      intro d a as e rd sh hd len dep q
      subst e
      rw [Vals.ref1 r]
      exact str_of_reads rd sh hd gd (by omega) (fun _ _ e => e) (fun h' u tk k => ⟨.str d.shown, H, I.kept k, ⟨u, rfl⟩, q.old l (.str _)⟩) len
    cases d with
    | none =>
      rw [lk.none] at r
      obtain ⟨u, rfl, r1⟩ := vals1 r
      cases r1
      exact PySem.P.str_of_none ⟨.str "None", H, I.tok _, ⟨_, rfl⟩, by have := q.old l (.str _); simpa [strVal, PyData.shown] using this⟩
    | bool b =>
      rw [lk.bool] at r
      obtain ⟨u, rfl, r1⟩ := vals1 r
      cases r1
      exact PySem.P.str_of_bool ⟨.str (if b then "True" else "False"), H, I.tok _, ⟨_, rfl⟩, by have := q.old l (.str _); simpa [strVal, PyData.shown] using this⟩
    | int i =>
      rw [lk.int] at r
      exact call_str_int pins s σ H _ us Q I r ⟨i, rfl, by simpa [PyData.showable] using sh, by have := q.old l (.str _); simpa [strVal, PyData.shown] using this⟩
    | str x =>
      rw [lk.str] at r
      exact SkE.call_str_str pins s σ H _ us Q I r ⟨x, rfl, q.old l (.str _)⟩
    | list ds =>
      obtain ⟨a, vs, rfl, _, _⟩ := lk.list l
      have hp : plain (.list ds) = true := by simpa using pl
      obtain ⟨as, rd⟩ := Dp.reads I _ _ (.ref a) ((lk.rp l).dp hp) rfl
      exact main _ a as rfl rd sh (fun z => by rw [plain_noDict _ hp] at z; cases z) len dep q
    | tuple ds =>
      obtain ⟨a, vs, rfl, _, _⟩ := lk.tuple l
      have hp : plain (.tuple ds) = true := by simpa using pl
      obtain ⟨as, rd⟩ := Dp.reads I _ _ (.ref a) ((lk.rp l).dp hp) rfl
      exact main _ a as rfl rd sh (fun z => by rw [plain_noDict _ hp] at z; cases z) len dep q
    | dict es =>
      obtain ⟨a, vs, rfl, ha, rp⟩ := lk.dict l
      cases es with
      | cons _ _ => simp [plain] at pl
      | nil =>
        cases rp
        obtain ⟨as, rd, hs⟩ := rp_readsD I ha rfl
        exact main _ a as rfl rd sh (fun _ => hs) len dep q
  · cases e
end
end Pv
end
section
set_option Elab.async false
set_option linter.all false
set_option maxRecDepth 100000
set_option maxHeartbeats 1000000
namespace Pv
open PySem PySem.Spec PyProof.Rows L2 PySem.W

def Cell.put : Cell → D → Cell
  | .own _, d => .own d
  | .byr _, d => .byr d
  | c, _ => c
section
variable {K : Fr'} {P : List (Nat × Addr)} {W F H : Hp} {σ : St} {ρ : Ro}
theorem Rel.upd_ {i : Nat} {c : Cell} {a : Addr} {u : HO} {d : D} (R : Rel K P W F H σ ρ) (hc : ρ[i]? = some (some c)) (ho : c.owned = true) (hv : σ[i]? = some (some (.ref a))) (q : OwnO K F (some u) d) :
    Rel K P W F (upd H a u) σ (ρ.set i (some (c.put d))) := by
  have own : ∀ (j : Nat) (e : Cell) (v : V), ρ[j]? = some (some e) → e.owned = true → σ[j]? = some (some v) → ∃ b, v = .ref b ∧ W b = Option.none ∧ F b = Option.none ∧ OwnO K F (H b) e.d := by
    intro j e v he ho hv
    obtain ⟨w, hw, hk⟩ := R.cell j e he
    rw [hv] at hw
    cases hw
    cases e with
    | val _ => cases ho
    | scr _ => cases ho
    | own d => exact hk
    | byr d => exact hk
  obtain ⟨b, eb, wa, fa, _⟩ := own i c _ hc ho hv
  cases eb
  have ilt : i < ρ.length := by
    rcases Nat.lt_or_ge i ρ.length with h | h
    · exact h
    · rw [List.getElem?_eq_none h] at hc; cases hc
  constructor
  · intro b o e
    rw [upd_ne (ne_of_none e fa)]
    exact R.fh b o e
  · intro b o e
    rw [upd_ne (ne_of_none e wa)]
    exact R.wh b o e
  · rw [List.length_set]; exact R.len
  · intro j e he
    rcases set_get he with ⟨rfl, z⟩ | ⟨hj, z⟩
    · cases z
      refine ⟨_, hv, ?_⟩
      cases c with
      | val _ => cases ho
      | scr _ => cases ho
      | own _ => exact ⟨a, rfl, wa, fa, by rw [upd_same]; exact q⟩
      | byr _ => exact ⟨a, rfl, wa, fa, by rw [upd_same]; exact q⟩
    · obtain ⟨w, hw, hk⟩ := R.cell j e z
      refine ⟨w, hw, ?_⟩
      cases e with
      | val _ => exact hk
      | scr _ => exact hk
      | own d' =>
        obtain ⟨b, eb, h1, h2, h3⟩ := hk
        subst eb
        have ne : b ≠ a := fun y => R.inj i j c _ a (fun y => hj y.symm) hc z ho rfl hv (by rw [hw, y])
        exact ⟨b, rfl, h1, h2, by rw [upd_ne ne]; exact h3⟩
      | byr d' =>
        obtain ⟨b, eb, h1, h2, h3⟩ := hk
        subst eb
        have ne : b ≠ a := fun y => R.inj i j c _ a (fun y => hj y.symm) hc z ho rfl hv (by rw [hw, y])
        exact ⟨b, rfl, h1, h2, by rw [upd_ne ne]; exact h3⟩
  · intro j k e e' b hjk h1 h2 o1 o2 s1 s2
    have back : ∀ (j : Nat) (e : Cell), (ρ.set i (some (c.put d)))[j]? = some (some e) → e.owned = true → ∃ e', ρ[j]? = some (some e') ∧ e'.owned = true := by
      intro j e he ho'
      rcases set_get he with ⟨rfl, z⟩ | ⟨_, z⟩
      · exact ⟨c, hc, ho⟩
      · exact ⟨e, z, ho'⟩
    obtain ⟨c1, h1, o1⟩ := back j e h1 o1
    obtain ⟨c2, h2, o2⟩ := back k e' h2 o2
    exact R.inj j k c1 c2 b hjk h1 h2 o1 o2 s1 s2
  · intro p hp
    obtain ⟨h1, d', h2⟩ := R.pin p hp
    refine ⟨h1, ?_⟩
    by_cases e : p.1 = i
    · rw [e] at h2
      rw [hc] at h2
      cases h2
      exact ⟨d, by rw [e, List.getElem?_set_self ilt]; rfl⟩
    · exact ⟨d', by rw [List.getElem?_set_ne (fun z => e z.symm)]; exact h2⟩
  · exact R.dis
end

def ownAt (ρ : Ro) (i : Nat) : Option D := match ρ[i]? with
  | some (some (.own d)) => some d
  | some (some (.byr d)) => some d
  | _ => none
def putAt (ρ : Ro) (i : Nat) (d : D) : Ro := match ρ[i]? with
  | some (some c) => ρ.set i (some (c.put d))
  | _ => ρ
theorem ownAt_cell {ρ : Ro} {i : Nat} {d : D} (h : ownAt ρ i = some d) : ∃ c, ρ[i]? = some (some c) ∧ c.owned = true ∧ c.d = d := by
  unfold ownAt at h
  split at h
  · next z e => cases h; exact ⟨_, e, rfl, rfl⟩
  · next z e => cases h; exact ⟨_, e, rfl, rfl⟩
  · cases h
theorem Rel.own {K : Fr'} {P : List (Nat × Addr)} {W F H : Hp} {σ : St} {ρ : Ro} {i : Nat} {d : D} (R : Rel K P W F H σ ρ) (h : ownAt ρ i = some d) : ∃ a, σ[i]? = some (some (.ref a)) ∧ F a = Option.none ∧ OwnO K F (H a) d := by
  obtain ⟨c, hc, ho, hd⟩ := ownAt_cell h
  obtain ⟨v, hv, hk⟩ := R.cell i c hc
  cases c with
  | val _ => cases ho
  | scr _ => cases ho
  | own _ => cases hd; obtain ⟨a, rfl, _, h2, h3⟩ := hk; exact ⟨a, hv, h2, h3⟩
  | byr _ => cases hd; obtain ⟨a, rfl, _, h2, h3⟩ := hk; exact ⟨a, hv, h2, h3⟩
theorem Rel.putAt {K : Fr'} {P : List (Nat × Addr)} {W F H : Hp} {σ : St} {ρ : Ro} {i : Nat} {d d' : D} {a : Addr} {u : HO} (R : Rel K P W F H σ ρ) (h : ownAt ρ i = some d) (hv : σ[i]? = some (some (.ref a))) (q : OwnO K F (some u) d') : Rel K P W F (L2.upd H a u) σ (Pv.putAt ρ i d') := by
  obtain ⟨c, hc, ho, hd⟩ := ownAt_cell h
  unfold Pv.putAt
  rw [hc]
  exact R.upd_ hc ho hv q
abbrev OpM := D → List D → Option (D × D)
def rM (K : Fr') (o : OpM) : V → List V → Hp → VK → Prop := fun x vs H Q => ∃ F a d ds d' z, x = .ref a ∧ Le F H ∧ F a = none ∧ OwnO K F (H a) d ∧ RpA K F vs ds ∧ o d ds = some (d', z) ∧ ∀ v u, OwnO K F (some u) d' → Rp K F v z → Q v (upd H a u)
def kindB : String → D → Bool
  | "list", .list _ => true
  | "dict", .dict _ => true
  | _, _ => false
theorem OwnO.lstE {K : Fr'} {F : Hp} {o : Option HO} {ds : List D} (q : OwnO K F o (.list ds)) : ∃ xs, o = some (.lst xs) ∧ RpA K F xs ds := by
  unfold OwnO at q
  split at q
  · next xs _ e => cases e; exact ⟨xs, rfl, q⟩
  · next z => cases z
  · exact q.elim
theorem OwnO.dctE {K : Fr'} {F : Hp} {o : Option HO} {es : List (D × D)} (q : OwnO K F o (.dict es)) : ∃ kvs, o = some (.dK kvs) ∧ RpD K F kvs es := by
  unfold OwnO at q
  split at q
  · next z => cases z
  · next kvs _ e => cases e; exact ⟨kvs, rfl, q⟩
  · exact q.elim
theorem kindB_ty {K : Fr'} {F H : Hp} {a : Addr} {d : D} {T : String} (q : OwnO K F (H a) d) (h : kindB T d = true) : tyV K T (.ref a) H := by
  unfold kindB at h
  split at h
  · next ds =>
    obtain ⟨xs, e, _⟩ := q.lstE
    exact .inl ⟨rfl, xs, .inl (.inl e)⟩
  · next ds =>
    obtain ⟨kvs, e, _⟩ := q.dctE
    exact .inr (.inr (.inl ⟨rfl, .inl ⟨kvs, e⟩⟩))
  · cases h
def sMut (T : String) (i : Nat) (o : OpM) (f : SemA) : SemE := fun ρ => (ownAt ρ i).bind fun d0 => if kindB T d0 = true then (f ρ).bind fun (ds, ρ1) => (ownAt ρ1 i).bind fun d => (o d ds).bind fun (d', z) => some (.val z, putAt ρ1 i d') else none
section
variable {X : Cx} {e : Expr} {es : List Expr} {name x : Str} {apos cpos pos npos : Pos} {T id : String} {i : Nat} {o : OpM} {f : SemA}
theorem sMut_end {P : List (Nat × Addr)} {W F H : Hp} {σ : St} {ρ1 : Ro} {d d' z : D} {ds : List D} {vs : List V} {a : Addr} {Q : VK} (R : Rel X.K P W F H σ ρ1) (h : ownAt ρ1 i = some d) (hv : σ[i]? = some (some (.ref a))) (rp : RpA X.K F vs ds) (e : o d ds = some (d', z))
    (q : ∀ v H' F', Ext W F F' → Rel X.K P W F' H' σ (putAt ρ1 i d') → RvOk X.K W F' H' σ (putAt ρ1 i d') (.val z) v → Q v H') : rM X.K o (.ref a) vs H Q := by
  obtain ⟨a', hv', fa, own⟩ := R.own h
  rw [hv] at hv'
  cases hv'
  exact ⟨F, a, d, ds, d', z, rfl, R.fh, fa, own, rp, e, fun v u q1 q2 => q v _ F (Ext.refl _ _) (R.putAt h hv q1) q2⟩
theorem de_mut (pa : PlainAttrs T) (slot : Slot T name id) (hty : typeOf (.builtin id) = pure (.type "method_descriptor")) (hm : MtR X id (rM X.K o)) (hx : PE X (.Name x npos) (tVar i)) (ha : DA X (e :: es) f)
    (hbase : attributeBase (.Name x npos) name X.env (eval (.Name x npos) X.env) = eval (.Name x npos) X.env := by rfl)
    (hfew : ((backTo cpos (starEach (e :: es) X.env)).all (fun x => !x.1) && (backToKw cpos (keywordEach [] X.env)).all (fun x => x.1.isSome)
      && decide ((e :: es).length + ([] : List Keyword).length + (if ([] : List Keyword).isEmpty then 0 else 1) < 30)) = true := by rfl)
    (hline : (apos.endLine == cpos.line) = true := by rfl) (hs : starEach (e :: es) X.env = (false, eval e X.env) :: starEach es X.env := by rfl) (hplain : (backTo cpos (starEach es X.env)).any (·.1) = false := by rfl) :
    DE X (.Call (.Attribute (.Name x npos) name apos) (e :: es) [] cpos) (sMut T i o f) := by
  refine ⟨(pe_bm (apos := apos) (cpos := cpos) pa slot hty hm hx ha.pa hbase hfew hline hs hplain).pvi fun σ H Q q => ?_⟩
  obtain ⟨P, W, F, ρ, r, ρ', R, ev, q⟩ := q
  simp only [sMut, Option.bind_eq_some_iff, Prod.exists] at ev
  obtain ⟨d0, e0, e1⟩ := ev
  split at e1
  · next hk =>
    simp only [Option.bind_eq_some_iff, Prod.exists] at e1
    obtain ⟨ds, ρ1, e2, d, e3, d', z, e4, e5⟩ := e1
    cases e5
    obtain ⟨a, hv, fa, own⟩ := R.own e0
    refine ⟨_, hv, kindB_ty own hk, P, W, F, ρ, ds, ρ1, R, e2, fun vs H1 F1 x1 R1 rp => ?_⟩
    exact sMut_end R1 e3 hv rp e4 fun v H' F' x2 R2 o2 => q v H' F' (x1.trans x2) R2 o2
  · cases e1
def appendM : OpM
  | .list ds, [d] => if ds.length < sizeLine then some (.list (ds ++ [d]), .none) else none
  | _, _ => none
theorem mt_appendD : MtR X "list.append" (rM X.K appendM) := by
  intro pins s σ H x xs v us Q I rx rs h
  obtain ⟨F, a, d, ds, d', z, rfl, l, fa, q1, rp, e, q⟩ := h
  unfold appendM at e
  split at e
  · split at e
    · next hz =>
      cases e
      obtain ⟨ys, hH, ry⟩ := q1.lstE
      cases rp with | cons r0 rn =>
      cases rn
      exact mt_append pins s σ H _ _ v us Q I rx rs ⟨a, ys, _, rfl, rfl, hH, by rw [ry.length]; exact hz, q _ _ (ry.append (.cons r0 .nil)) .non⟩
    · cases e
  · cases e
theorem RpA.eraseIdx {K : Fr'} {F : Hp} : ∀ {vs : List V} {ds : List D} (i : Nat), RpA K F vs ds → RpA K F (vs.eraseIdx i) (ds.eraseIdx i)
  | _, _, _, .nil => .nil
  | _, _, 0, .cons _ t => t
  | _, _, i + 1, .cons r t => .cons r (RpA.eraseIdx i t)
theorem RpA.dropLast {K : Fr'} {F : Hp} : ∀ {vs : List V} {ds : List D}, RpA K F vs ds → RpA K F vs.dropLast ds.dropLast
  | _, _, .nil => .nil
  | _, _, .cons r .nil => .nil
  | _, _, .cons r (.cons r2 t) => .cons r (RpA.dropLast (.cons r2 t))
def popM : OpM
  | .list ds, [] => (ds[ds.length - 1]?).map fun z => (.list ds.dropLast, z)
  | .list ds, [.int i] => if -(2 ^ 63) ≤ i ∧ i < 2 ^ 63 then (seqIndex? i ds.length).bind fun k => (ds[k]?).map fun z => (.list (ds.eraseIdx k), z) else none
  | _, _ => none
def dput (es : List (D × D)) (k : Key) (d : D) : List (D × D) := if (es.any fun p => dkey p.1 k) = true then es.map (fun p => if dkey p.1 k = true then (p.1, d) else p) else es ++ [(keyD k, d)]
theorem RpD.any {K : Fr'} {F : Hp} {k : Key} : ∀ {kvs : List (Key × V)} {es : List (D × D)}, RpD K F kvs es → (kvs.any fun kv => decide (kv.1 = k)) = es.any fun p => dkey p.1 k
  | _, _, .nil => rfl
  | _, _, .cons r t => by
    rw [List.any_cons, List.any_cons, dkey_keyD, RpD.any t]
theorem RpD.append {K : Fr'} {F : Hp} : ∀ {kvs lvs : List (Key × V)} {es fs : List (D × D)}, RpD K F kvs es → RpD K F lvs fs → RpD K F (kvs ++ lvs) (es ++ fs)
  | _, _, _, _, .nil, h => h
  | _, _, _, _, .cons r t, h => .cons r (RpD.append t h)
theorem RpD.put {K : Fr'} {F : Hp} {k : Key} {v : V} {d : D} {kvs : List (Key × V)} {es : List (D × D)} (r : RpD K F kvs es) (rv : Rp K F v d) : RpD K F (putK kvs k v) (dput es k d) := by
  unfold putK dput
  rw [r.any]
  split
  · have go : ∀ {kvs : List (Key × V)} {es : List (D × D)}, RpD K F kvs es → RpD K F (kvs.map (fun kv => if kv.1 = k then (kv.1, v) else kv)) (es.map (fun p => if dkey p.1 k = true then (p.1, d) else p)) := by
      intro kvs es r
      induction kvs generalizing es with
      | nil => cases r; exact .nil
      | cons kv kvs ih =>
        cases r with
        | @cons k0 v0 _ d0 _ r0 t =>
        rw [List.map_cons, List.map_cons, dkey_keyD]
        by_cases e : k0 = k
        · simp only [e, decide_true, if_true]
          exact .cons rv (ih t)
        · simp only [e, decide_false, if_false, Bool.false_eq_true]
          exact .cons r0 (ih t)
    exact go r
  · exact r.append (.cons rv .nil)
def setM : D → D → D → Option D
  | .list ds, .int k, z => (ixN ds.length k).map fun j => .list (ds.set j z)
  | .dict es, i, z => (keyOf i).bind fun k => if es.length < sizeLine then some (.dict (dput es k z)) else none
  | _, _, _ => none
def rSetM (K : Fr') : TSet := fun o i v H Q => ∃ F a d ix z d', o = .ref a ∧ Le F H ∧ OwnO K F (H a) d ∧ Lk K F H i ix ∧ Rp K F v z ∧ setM d ix z = some d' ∧ ∀ u, OwnO K F (some u) d' → Q (upd H a u)
theorem set_M (hu : X.A.units + 1 < cLine) : PSet X (rSetM X.K) := by
  intro pins s σ H o i v ov iv u Q I ro ri rv h
  obtain ⟨F, a, d, ix, z, d', rfl, l, q1, li, rz, e, q⟩ := h
  unfold setM at e
  split at e
  · simp only [Option.map_eq_some_iff] at e
    obtain ⟨j, e1, e2⟩ := e
    subst e2
    obtain ⟨ys, hH, ry⟩ := q1.lstE
    have ei := li.int
    subst ei
    exact set_list pins s σ H _ _ _ ov iv u Q I ro ri rv ⟨a, ys, _, j, rfl, rfl, hH, by rw [ry.length]; exact e1, q _ (ry.set rz j)⟩
  · simp only [Option.bind_eq_some_iff] at e
    obtain ⟨k, e1, e2⟩ := e
    split at e2
    · next hz =>
      cases e2
      obtain ⟨kvs, hH, ry⟩ := q1.dctE
      exact set_dict hu pins s σ H _ _ _ ov iv u Q I ro ri rv ⟨a, _, rfl, .inl ⟨kvs, k, hH, keyOf_kV li e1, by rw [ry.length]; exact hz, rfl⟩, q _ (ry.put rz)⟩
    · cases e2
  · cases e
def sSub (i : Nat) (g f : SemE) : SemS := fun ρ => (f ρ).bind fun (r, ρ1) => (frz ρ1 r).bind fun (z, ρ2) => (ownAt ρ2 i).bind fun _ => (g ρ2).bind fun (r2, ρ3) => (look ρ3 r2).bind fun ix => (ownAt ρ3 i).bind fun d => (setM d ix z).bind fun d' => some (.nx (putAt ρ3 i d'))
theorem ds_sub {ie e : Expr} {g f : SemE} {tpos : Pos} (hu : X.A.units + 1 < cLine) (hx : PE X (.Name x npos) (tVar i)) (hi : DE X ie g) (he : DE X e f)
    (hs : swapsWithSole [.Subscript (.Name x npos) ie tpos] e pos.line X.env = pure false := by rfl) (hw : swappedStores [.Subscript (.Name x npos) ie tpos] e X.env = pure none := by rfl)
    (h1 : (assignEach [.Subscript (.Name x npos) ie tpos] X.env).map (·.2) = [assign (.Subscript (.Name x npos) ie tpos) X.env] := by rfl)
    (ha : ∀ v, assign (.Subscript (.Name x npos) ie tpos) X.env v = (do
      let ov ← holding [v] (eval (.Name x npos) X.env)
      let iv ← holding [v, ov] (eval ie X.env)
      standAt tpos
      holding [v, ov, iv] (setItem ov iv v)
      release [v, ov, iv] []) := by intro _; rfl) :
    DS X (.Assign [.Subscript (.Name x npos) ie tpos] e pos) (sSub i g f) := by
  refine ⟨(ps_asg he.pe (pg_sub hx hi.pe (set_M hu) ha) hs hw h1).pvi fun D σ H q => ?_⟩
  obtain ⟨P, W, F, ρ, o, R, e, q⟩ := q
  simp only [sSub, Option.bind_eq_some_iff, Prod.exists] at e
  obtain ⟨r, ρ1, e1, z, ρ2, e2, d0, e0, r2, ρ3, e3, ix, e4, d, e5, d', e6, e7⟩ := e
  cases e7
  refine ⟨P, W, F, ρ, r, ρ1, R, e1, fun v H1 F1 x1 R1 o1 => ?_⟩
  obtain ⟨F2, x2, R2, rp⟩ := R1.frz o1 e2
  obtain ⟨a, hv, _, _⟩ := R2.own e0
  refine ⟨_, hv, P, W, F2, ρ2, r2, ρ3, R2, e3, fun iv H3 F3 x3 R3 o3 => ?_⟩
  obtain ⟨a', hv', fa, own⟩ := R3.own e5
  rw [hv] at hv'
  cases hv'
  exact ⟨F3, a, d, ix, z, d', rfl, R3.fh, own, R3.lk o3 e4, rp.mono (Le.of x3.same), e6, fun u q1 => q σ _ F3 ((x1.trans x2).trans x3) (R3.putAt e5 hv q1)⟩
def ixG : Op2
  | .dict es, d => kget (.dict es) d
  | d, e => ixF d e
theorem de_ixG {a b : Expr} {f g : SemE} (hu : X.A.units + 64 < cLine) (hr : IxR X (rS X.K ixF)) (ha : DE X a f) (hb : DE X b g) (hs : PlainIx b := by intro _ _; rfl) (hs2 : NoSl b := by intro _ _; rfl) : DE X (.Subscript a b pos) (sOp ixG f g) := by
  refine ⟨⟨fun pins s σ H Q I q => ?_⟩⟩
  obtain ⟨P, W, F, ρ, r, ρ', R, e, q⟩ := q
  simp only [sOp, Option.bind_eq_some_iff, Prod.exists] at e
  obtain ⟨r1, ρ1, e1, r2, ρ2, e2, d, e3, d2, e4, z, b, e5, e6⟩ := e
  unfold ixG at e5
  split at e5
  · exact (de_dget hu ha hb hs2).pe.run pins s σ H Q I ⟨P, W, F, ρ, r, ρ', R, by simp only [sOp, Option.bind_eq_some_iff, Prod.exists]; exact ⟨r1, ρ1, e1, r2, ρ2, e2, _, e3, d2, e4, z, b, e5, e6⟩, q⟩
  · exact (de_ix hr ha hb hs).pe.run pins s σ H Q I ⟨P, W, F, ρ, r, ρ', R, by simp only [sOp, Option.bind_eq_some_iff, Prod.exists]; exact ⟨r1, ρ1, e1, r2, ρ2, e2, d, e3, d2, e4, z, b, e5, e6⟩, q⟩
end
end Pv
end
section
set_option Elab.async false
set_option linter.all false
set_option maxRecDepth 100000
set_option maxHeartbeats 1000000
namespace Pv
open PySem PySem.Spec PyProof.Rows L2 PySem.W

section
variable {v0 : Value} {o0 : Obj} {H0 : Heap → Prop}
end
theorem walk_zipT {K : PySem.W.Frag} {a b : Addr} {xs ys : List V} {n : Nat} (hn : n = min xs.length ys.length) : Walk (RZ.ItzT K a b) n (fun H => SqT K H a xs ∧ SqT K H b ys) (YPair (fun i => xs[i]?) (fun i => ys[i]?)) := by
  subst hn
  refine ⟨fun i _ hi q => ?_, fun _ q => ⟨xs, ys, q.1, q.2, by omega⟩, fun i H v H' _ q y => ?_⟩
  · have h1 : i < xs.length := by omega
    have h2 : i < ys.length := by omega
    exact ⟨xs, ys, xs[i], ys[i], q.1, q.2, by simp [h1], by simp [h2]⟩
  · obtain ⟨T, x, z, h1, h2, h3, h4, h5⟩ := y
    exact ⟨T, x, z, h1, h2, h3, h4 xs q.1, h5 ys q.2⟩
end Pv
end
section
set_option Elab.async false
set_option linter.all false
set_option maxRecDepth 100000
set_option maxHeartbeats 1000000
namespace Pv
open PySem PySem.Spec PyProof.Rows L2 PySem.W

def tLk (t : TE) : TE := fun σ H Q => t σ H fun v H1 => ∃ a kvs, v = .ref a ∧ Rd H1 a (.dK kvs) ∧ ∀ o, (∀ o', H1 a = some (.frz o' (.dK kvs)) → o' = o) → Q v (upd H1 a (.frz o (.dK kvs)))
theorem upd_self {H : Hp} {a : Addr} {u : HO} (h : H a = some u) : upd H a u = H := by
  funext b
  by_cases e : b = a
  · rw [e, upd_same, h]
  · rw [upd_ne e]
theorem pe_lk {X : Cx} {e : Expr} {t : TE} (h : PE X e t) : PE X e (tLk t) := by
  refine ⟨fun pins s σ H Q I q => ?_⟩
  refine thn (h.run pins s σ H _ I q) fun u s1 ⟨v, H1, I1, r1, a, kvs, ev, rd, q1⟩ => ?_
  rcases rd with rd | ⟨o, rd⟩
  · obtain ⟨od, I2⟩ := I1.lock rd trivial
    exact ⟨v, _, I2, r1, q1 od fun o' z => by rw [rd] at z; cases z⟩
  · have := q1 o
    rw [upd_self rd] at this
    exact ⟨v, _, I1, r1, this fun o' z => by rw [rd] at z; cases z; rfl⟩
theorem Rel.lock {K : Fr'} {P : List (Nat × Addr)} {W F H : Hp} {σ : St} {ρ : Ro} {a : Addr} {kvs : List (Key × V)} {o : Obj} (R : Rel K P W F H σ ρ) (hf : Rd F a (.dK kvs)) (ho : ∀ o', H a = some (.frz o' (.dK kvs)) → o' = o) :
    ∃ W', Same W W' ∧ Rel K P W' F (upd H a (.frz o (.dK kvs))) σ ρ ∧ W' a = some (.frz o (.dK kvs)) := by
  have hne : F a ≠ Option.none := by
    rcases hf with e | ⟨o', e⟩ <;> (rw [e]; exact fun z => nomatch z)
  have hH : H a = some (.dK kvs) ∨ H a = some (.frz o (.dK kvs)) := by
    rcases hf with e | ⟨o', e⟩
    · rcases R.fh a _ e with q | ⟨_, od, q⟩
      · exact .inl q
      · right; rw [q, ho _ q]
    · rcases R.fh a _ e with q | ⟨z, _⟩
      · right; rw [q, ho _ q]
      · exact z.elim
  have own : ∀ (i : Nat) (c : Cell) (b : Addr), ρ[i]? = some (some c) → c.owned = true → σ[i]? = some (some (.ref b)) → b ≠ a := by
    intro i c b e ow hv z
    obtain ⟨v, hv', hk⟩ := R.cell i c e
    rw [hv] at hv'
    cases hv'
    cases c with
    | val _ => cases ow
    | scr _ => cases ow
    | own _ => obtain ⟨b', eb, _, h2, _⟩ := hk; cases eb; rw [z] at h2; exact hne h2
    | byr _ => obtain ⟨b', eb, _, h2, _⟩ := hk; cases eb; rw [z] at h2; exact hne h2
  have wa : W a = Option.none ∨ (W a = some (.frz o (.dK kvs)) ∧ H a = some (.frz o (.dK kvs))) := by
    cases q : W a with
    | none => exact .inl rfl
    | some u =>
      right
      have hq := R.wh a u q
      rcases R.dis a (by rw [q]; exact fun z => nomatch z) with z | ⟨o', u', z⟩
      · exact absurd z hne
      · rw [q] at z
        cases z
        rcases hH with y | y
        · rw [hq] at y; cases y
        · rw [hq] at y; cases y; exact ⟨rfl, hq⟩
  rcases wa with wa | ⟨wa, ha⟩
  · refine ⟨upd W a (.frz o (.dK kvs)), fun b u e => by rw [upd_ne (ne_of_none e wa)]; exact e, ?_, upd_same⟩
    constructor
    · intro b u e
      by_cases hb : b = a
      · subst hb
        rw [upd_same]
        rcases hf with q | ⟨o', q⟩
        · rw [q] at e; cases e; exact .inr ⟨trivial, o, rfl⟩
        · rw [q] at e
          cases e
          rcases R.fh b _ q with y | ⟨z, _⟩
          · rw [ho _ y]; exact .inl rfl
          · exact z.elim
      · rw [upd_ne hb]; exact R.fh b u e
    · intro b u e
      by_cases hb : b = a
      · subst hb; rw [upd_same] at e ⊢; exact e
      · rw [upd_ne hb] at e ⊢; exact R.wh b u e
    · exact R.len
    · intro i c e
      obtain ⟨v, hv, hk⟩ := R.cell i c e
      refine ⟨v, hv, ?_⟩
      cases c with
      | val _ => exact hk
      | scr _ => exact hk
      | own _ =>
        obtain ⟨b, eb, h1, h2, h3⟩ := hk
        subst eb
        have ne := own i _ b e rfl hv
        exact ⟨b, rfl, by rw [upd_ne ne]; exact h1, h2, by rw [upd_ne ne]; exact h3⟩
      | byr _ =>
        obtain ⟨b, eb, h1, h2, h3⟩ := hk
        subst eb
        have ne := own i _ b e rfl hv
        exact ⟨b, rfl, by rw [upd_ne ne]; exact h1, h2, by rw [upd_ne ne]; exact h3⟩
    · exact R.inj
    · exact R.pin
    · intro b e
      by_cases hb : b = a
      · subst hb; rw [upd_same]; exact .inr ⟨_, _, rfl⟩
      · rw [upd_ne hb] at e ⊢; exact R.dis b e
  · exact ⟨W, Same.refl W, by rw [upd_self ha]; exact R, wa⟩

theorem walkD_pair {K : Fr'} {W F : Hp} {J : It} {G : Hp → Prop} {fx fy : Nat → Option V} {ds : List D} {n : Nat} (hn : ds.length = n) (w : Walk J n G (YPair fx fy)) (hG : ∀ F' H, Same F F' → Le F' H → SameZ W H → G H)
    (hp : ∀ (i : Nat) (d : D) (x y : V), ds[i]? = some d → fx i = some x → fy i = some y → ∃ dx dy, d = .tuple [dx, dy] ∧ Rp K F x dx ∧ Rp K F y dy ∧ needS [dx, dy] = false) : WalkD K W F J ds := by
  refine ⟨G, _, (by rw [hn]; exact w), hG, ?_⟩
  rintro i d F' H H' v sm l hd ⟨T, x, y, rfl, hT, rfl, h1, h2⟩
  obtain ⟨dx, dy, rfl, r1, r2, hs⟩ := hp i d x y hd h1 h2
  have g := Grow.both l hT (.tup [x, y])
  refine ⟨_, g, .tup ⟨.inl (.inl upd_same), fun z => by rw [hs] at z; cases z⟩ (.cons (r1.mono ?_) (.cons (r2.mono ?_) .nil))⟩
  · exact (Le.of sm).post g.fs
  · exact (Le.of sm).post g.fs
def charsD (x : Str) : List D := x.cps.toList.map fun c => .str ⟨#[c]⟩
theorem walkD_str {K : Fr'} {W F : Hp} {x : Str} : WalkD K W F (Its x) (charsD x) := by
  have hl : (charsD x).length = x.cps.size := by unfold charsD; rw [List.length_map, Array.length_toList]
  refine ⟨_, _, (by rw [hl]; exact walk_str (z := x)), fun _ _ _ _ _ => trivial, ?_⟩
  rintro i d F' H H' v sm l hd ⟨rfl, c, hc, rfl⟩
  unfold charsD at hd
  rw [List.getElem?_map, Array.getElem?_toList, hc] at hd
  cases hd
  exact ⟨F', Grow.refl l, .str _⟩
theorem RpD.at {K : Fr'} {F : Hp} : ∀ {kvs : List (Key × V)} {es : List (D × D)} (i : Nat) (p : D × D), RpD K F kvs es → es[i]? = some p → ∃ k v, kvs[i]? = some (k, v) ∧ p.1 = keyD k ∧ Rp K F v p.2
  | _, _, _, _, .nil, h => by cases h
  | _, _, 0, _, .cons (k := k) (v := v) r t, h => by
    simp only [List.getElem?_cons_zero, Option.some.injEq] at h
    subst h
    exact ⟨k, v, rfl, rfl, r⟩
  | _, _, i + 1, p, .cons r t, h => RpD.at i p t (by simpa using h)
theorem rp_key {K : Fr'} {F : Hp} (k : Key) : Rp K F (kV k) (keyD k) := by
  cases k with
  | inl i => exact .int i
  | inr x => exact .str x
theorem walkD_keys {K : Fr'} {W F : Hp} {a : Addr} {o : Obj} {kvs : List (Key × V)} {es : List (D × D)} (hw : W a = some (.frz o (.dK kvs))) (r : RpD K F kvs es) : WalkD K W F (Itk a o kvs) (es.map (·.1)) := by
  refine ⟨_, _, (by rw [List.length_map, ← r.length]; exact walk_keys), fun F' H _ _ s => s _ _ _ hw, ?_⟩
  rintro i d F' H H' v sm l hd ⟨rfl, k, z, hk, rfl⟩
  rw [List.getElem?_map, Option.map_eq_some_iff] at hd
  obtain ⟨p, hp, rfl⟩ := hd
  obtain ⟨k', v', h1, h2, _⟩ := RpD.at i p r hp
  rw [hk] at h1
  cases h1
  rw [h2]
  exact ⟨F', Grow.refl l, rp_key k⟩
theorem walkD_vals {K : Fr'} {W F : Hp} {a : Addr} {o : Obj} {kvs : List (Key × V)} {es : List (D × D)} (hw : W a = some (.frz o (.dK kvs))) (r : RpD K F kvs es) : WalkD K W F (Itd a o kvs) (es.map (·.2)) := by
  refine ⟨_, _, (by rw [List.length_map, ← r.length]; exact walk_values), fun F' H _ _ s => s _ _ _ hw, ?_⟩
  rintro i d F' H H' v sm l hd ⟨rfl, k, hk⟩
  rw [List.getElem?_map, Option.map_eq_some_iff] at hd
  obtain ⟨p, hp, rfl⟩ := hd
  obtain ⟨k', v', h1, _, h3⟩ := RpD.at i p r hp
  rw [hk] at h1
  cases h1
  exact ⟨F', Grow.refl l, h3.mono (Le.of sm)⟩
def pairD (p : D × D) : D := .tuple [p.1, p.2]
theorem walkD_items {K : Fr'} {W F : Hp} {a : Addr} {o : Obj} {kvs : List (Key × V)} {es : List (D × D)} (hw : W a = some (.frz o (.dK kvs))) (r : RpD K F kvs es) : WalkD K W F (Iti a o kvs) (es.map pairD) := by
  refine walkD_pair (by rw [List.length_map, ← r.length]) walk_items (fun F' H _ _ s => s _ _ _ hw) fun i d x y hd hx hy => ?_
  rw [List.getElem?_map, Option.map_eq_some_iff] at hd
  obtain ⟨p, hp, rfl⟩ := hd
  obtain ⟨k', v', h1, h2, h3⟩ := RpD.at i p r hp
  rw [h1] at hx hy
  cases hx
  cases hy
  exact ⟨p.1, p.2, rfl, by rw [h2]; exact rp_key k', h3, by rw [h2]; cases k' <;> rfl⟩
def zipD (xs ys : List D) : List D := List.zipWith (fun x y => .tuple [x, y]) xs ys
theorem zipD_len (xs ys : List D) : (zipD xs ys).length = min xs.length ys.length := List.length_zipWith
def zipOk (xs : List D) : Bool := xs.all fun d => !needS [d]
theorem needS_two (d e : D) : needS [d, e] = needS [d] := by cases d <;> rfl
theorem zipD_at {K : Fr'} {F : Hp} {us vs : List V} {xs ys : List D} (hz : zipOk xs = true) (r1 : RpA K F us xs) (r2 : RpA K F vs ys) (i : Nat) (d : D) (x y : V) (hd : (zipD xs ys)[i]? = some d) (hx : us[i]? = some x) (hy : vs[i]? = some y) :
    ∃ dx dy, d = .tuple [dx, dy] ∧ Rp K F x dx ∧ Rp K F y dy ∧ needS [dx, dy] = false := by
  obtain ⟨dx, h1, q1⟩ := r1.get' i x hx
  obtain ⟨dy, h2, q2⟩ := r2.get' i y hy
  unfold zipD at hd
  rw [List.getElem?_zipWith, h1, h2] at hd
  cases hd
  have hm := List.all_eq_true.mp hz dx (List.mem_of_getElem? h1)
  exact ⟨dx, dy, rfl, q1, q2, by rw [needS_two]; simpa using hm⟩
def enumD (xs : List D) : List D := xs.mapIdx fun i x => .tuple [.int (i : Nat), x]
section
variable {X : Cx} {tg e : Expr} {f : SemE}
def walkOf : D → Option (List D)
  | .list ds => some ds
  | .tuple ds => some ds
  | .str x => some (charsD x)
  | .dict es => some (es.map (·.1))
  | _ => none
def iOf (w : D → Option (List D)) (f : SemE) : SemI := fun ρ => (f ρ).bind fun (r, ρ1) => (frz ρ1 r).bind fun (d, ρ2) => (w d).bind fun ds => some (ds, ρ2)
theorem di_any (h : DE X e f) (hl : PI X tg e (iList X.K (tD X.K f))) (ht : PI X tg e (iTup X.K (tD X.K f))) (hs : PI X tg e (iStr (tD X.K f))) (hk : PI X tg e (iKeys (tLk (tD X.K f)))) : DI X tg e (iOf walkOf f) := by
  refine ⟨⟨fun pins s σ H Q I q => ?_⟩⟩
  obtain ⟨P, W, F, ρ, ds, ρ', R, ev, q⟩ := q
  simp only [iOf, Option.bind_eq_some_iff, Prod.exists] at ev
  obtain ⟨r, ρ1, e1, d, ρ2, e2, ds', e3, e4⟩ := ev
  cases e4
  cases d with
  | none => cases e3
  | bool _ => cases e3
  | int _ => cases e3
  | list xs =>
    cases e3
    exact (di_list h hl).pi.run pins s σ H Q I ⟨P, W, F, ρ, ds, ρ', R, by simp only [iL, Option.bind_eq_some_iff, Prod.exists]; exact ⟨r, ρ1, e1, _, _, e2, _, rfl, rfl⟩, q⟩
  | tuple xs =>
    cases e3
    exact (di_tup h ht).pi.run pins s σ H Q I ⟨P, W, F, ρ, ds, ρ', R, by simp only [iT, Option.bind_eq_some_iff, Prod.exists]; exact ⟨r, ρ1, e1, _, _, e2, _, rfl, rfl⟩, q⟩
  | str x =>
    cases e3
    refine hs.run pins s σ H Q I ⟨P, W, F, ρ, r, ρ1, R, e1, fun v H1 F1 x1 R1 o1 => ?_⟩
    obtain ⟨F2, x2, R2, rp⟩ := R1.frz o1 e2
    cases rp
    exact ⟨x, rfl, q _ H1 W F2 (Same.refl W) (x1.trans x2) R2 walkD_str⟩
  | dict es =>
    cases e3
    refine hk.run pins s σ H Q I ⟨P, W, F, ρ, r, ρ1, R, e1, fun v H1 F1 x1 R1 o1 => ?_⟩
    obtain ⟨F2, x2, R2, rp⟩ := R1.frz o1 e2
    cases rp with
    | @dic a kvs _ s r =>
    refine ⟨a, kvs, rfl, R2.fh.rd s, fun o ho => ⟨a, o, rfl, .inl ⟨kvs, upd_same, ?_⟩⟩⟩
    obtain ⟨W', sw, R3, hw⟩ := R2.lock (o := o) s ho
    exact q _ _ W' F2 sw (x1.trans x2) R3 (walkD_keys hw r)
def itemsOf : D → Option (List D)
  | .dict es => some (es.map pairD)
  | _ => none
def valsOf : D → Option (List D)
  | .dict es => some (es.map (·.2))
  | _ => none
theorem di_items {e' : Expr} (hk : PI X tg e' (iItems (tLk (tD X.K f)))) : DI X tg e' (iOf itemsOf f) := by
  refine ⟨hk.pvi fun σ H Q q => ?_⟩
  obtain ⟨P, W, F, ρ, ds, ρ', R, ev, q⟩ := q
  simp only [iOf, Option.bind_eq_some_iff, Prod.exists] at ev
  obtain ⟨r, ρ1, e1, d, ρ2, e2, ds', e3, e4⟩ := ev
  cases e4
  unfold itemsOf at e3
  split at e3
  · cases e3
    refine ⟨P, W, F, ρ, r, ρ1, R, e1, fun v H1 F1 x1 R1 o1 => ?_⟩
    obtain ⟨F2, x2, R2, rp⟩ := R1.frz o1 e2
    cases rp with
    | @dic a kvs _ s r =>
    refine ⟨a, kvs, rfl, R2.fh.rd s, fun o ho => ⟨a, o, kvs, rfl, upd_same, ?_⟩⟩
    obtain ⟨W', sw, R3, hw⟩ := R2.lock (o := o) s ho
    exact q _ _ W' F2 sw (x1.trans x2) R3 (walkD_items hw r)
  · cases e3
theorem di_values {e' : Expr} (hk : PI X tg e' (iVals (tLk (tD X.K f)))) : DI X tg e' (iOf valsOf f) := by
  refine ⟨hk.pvi fun σ H Q q => ?_⟩
  obtain ⟨P, W, F, ρ, ds, ρ', R, ev, q⟩ := q
  simp only [iOf, Option.bind_eq_some_iff, Prod.exists] at ev
  obtain ⟨r, ρ1, e1, d, ρ2, e2, ds', e3, e4⟩ := ev
  cases e4
  unfold valsOf at e3
  split at e3
  · cases e3
    refine ⟨P, W, F, ρ, r, ρ1, R, e1, fun v H1 F1 x1 R1 o1 => ?_⟩
    obtain ⟨F2, x2, R2, rp⟩ := R1.frz o1 e2
    cases rp with
    | @dic a kvs _ s r =>
    refine ⟨a, kvs, rfl, R2.fh.rd s, fun o ho => ⟨a, o, kvs, rfl, upd_same, ?_⟩⟩
    obtain ⟨W', sw, R3, hw⟩ := R2.lock (o := o) s ho
    exact q _ _ W' F2 sw (x1.trans x2) R3 (walkD_vals hw r)
  · cases e3
def iEn (f : SemA) : SemI := fun ρ => (f ρ).bind fun (ds, ρ1) => match ds with
  | [.list xs] => some (enumD xs, ρ1)
  | [.tuple xs] => some (enumD xs, ρ1)
  | _ => none
def iZp (f : SemA) : SemI := fun ρ => (f ρ).bind fun (ds, ρ1) => match ds with
  | [.list xs, .list ys] => if zipOk xs = true then some (zipD xs ys, ρ1) else none
  | [.tuple xs, .tuple ys] => if zipOk xs = true then some (zipD xs ys, ρ1) else none
  | _ => none
theorem di_zip {fa : SemA} {e' : Expr} (h : PI X tg e' (RZ.iZipA X.K (tDA X.K fa))) : DI X tg e' (iZp fa) := by
  refine ⟨h.pvi fun σ H Q q => ?_⟩
  obtain ⟨P, W, F, ρ, ds, ρ', R, ev, q⟩ := q
  simp only [iZp, Option.bind_eq_some_iff, Prod.exists] at ev
  obtain ⟨es, ρ1, e1, e2⟩ := ev
  split at e2
  · next xs ys =>
    split at e2
    case isFalse => cases e2
    rename_i hz
    cases e2
    refine ⟨P, W, F, ρ, _, _, R, e1, fun vs H1 F1 x1 R1 rp => ?_⟩
    cases rp with | cons r rn =>
    cases rn with | cons r2 rn =>
    cases rn
    cases r with
    | @lst a us _ sq r =>
    cases r2 with
    | @lst b us2 _ sq2 r2 =>
    refine ⟨a, b, us, us2, rfl, .inl ⟨.inl (.inl (R1.fh.lst sq)), .inl (.inl (R1.fh.lst sq2)), q _ H1 W F1 (Same.refl W) x1 R1 (walkD_pair (by rw [zipD_len, ← r.length, ← r2.length]) (walk_zip rfl) (fun F' H' s l _ => ⟨.inl (.inl (l.lst (s _ _ sq))), .inl (.inl (l.lst (s _ _ sq2)))⟩) (zipD_at hz r r2))⟩⟩
  · next xs ys =>
    split at e2
    case isFalse => cases e2
    rename_i hz
    cases e2
    refine ⟨P, W, F, ρ, _, _, R, e1, fun vs H1 F1 x1 R1 rp => ?_⟩
    cases rp with | cons r rn =>
    cases rn with | cons r2 rn =>
    cases rn
    cases r with
    | @tup a us _ sq r =>
    cases r2 with
    | @tup b us2 _ sq2 r2 =>
    refine ⟨a, b, us, us2, rfl, .inr ⟨R1.fh.sqt sq.1, R1.fh.sqt sq2.1, q _ H1 W F1 (Same.refl W) x1 R1 (walkD_pair (by rw [zipD_len, ← r.length, ← r2.length]) (walk_zipT rfl) (fun F' H' s l _ => ⟨l.sqt ((Le.of s).sqt sq.1), l.sqt ((Le.of s).sqt sq2.1)⟩) (zipD_at hz r r2))⟩⟩
  · cases e2
def rng3 (i c : Int) (n : Nat) : List D := (List.range n).map fun k => .int (i + (k : Nat) * c)
def iR3 (f : SemP) : SemI := fun ρ => (f ρ).bind fun (rs, ρ1) => (looks ρ1 rs).bind fun ds => match ds with
  | [.int i, .int j, .int c] => if c ≠ 0 ∧ c.natAbs < 1073741824 ∧ Builtin.Range.small i j c = true ∧ 0 ≤ Builtin.Range.rangeSize i j c then some (rng3 i c (Builtin.Range.rangeSize i j c).toNat, ρ1) else none
  | _ => none
theorem walkD_rng3 {K : Fr'} {W F : Hp} {lo c : Int} {n : Nat} : WalkD K W F (Itc lo c n) (rng3 lo c n) := by
  have hl : (rng3 lo c n).length = n := by unfold rng3; rw [List.length_map, List.length_range]
  refine ⟨_, _, (by rw [hl]; exact walk_rangeC (lo := lo) (c := c) (n := n)), fun _ _ _ _ _ => trivial, ?_⟩
  rintro i d F' H H' x sm l hd ⟨rfl, e⟩
  subst e
  unfold rng3 at hd
  rw [List.getElem?_map, Option.map_eq_some_iff] at hd
  obtain ⟨j, hj, rfl⟩ := hd
  have e2 : j = i := by
    obtain ⟨h1, h2⟩ := List.getElem?_eq_some_iff.mp hj
    rw [List.getElem_range] at h2
    exact h2.symm
  subst e2
  exact ⟨F', Grow.refl l, .int _⟩
theorem di_range3 {fa : SemP} {e' : Expr} (h : PI X tg e' (iRng3 (tDP X.K fa))) : DI X tg e' (iR3 fa) := by
  refine ⟨h.pvi fun σ H Q q => ?_⟩
  obtain ⟨P, W, F, ρ, ds, ρ', R, ev, q⟩ := q
  simp only [iR3, Option.bind_eq_some_iff, Prod.exists] at ev
  obtain ⟨rs, ρ1, e1, es, e2, e3⟩ := ev
  split at e3
  · next i j c =>
    split at e3
    · next hc =>
      cases e3
      refine ⟨P, W, F, ρ, rs, _, R, e1, fun vs H1 F1 x1 R1 ls => ?_⟩
      have k := looks_ok ls e2
      cases k with | cons l1 t =>
      cases t with | cons l2 t =>
      cases t with | cons l3 t =>
      cases t
      rw [l1.int, l2.int, l3.int]
      exact ⟨i, j, c, _, rfl, ⟨hc.1, hc.2.1, hc.2.2.1, (Int.toNat_of_nonneg hc.2.2.2).symm⟩, q _ H1 W F1 (Same.refl W) x1 R1 walkD_rng3⟩
    · cases e3
  · cases e3
end
end Pv
end
section
set_option Elab.async false
set_option linter.all false
set_option maxRecDepth 100000
set_option maxHeartbeats 1000000
namespace Pv
open PySem PySem.Spec PyProof.Rows L2 PySem.W

theorem walk_it {J : It} {n : Nat} {G : Hp → Prop} {Y : Nat → Hp → V → Hp → Prop} (w : Walk J n G Y) (step : V → Hp → (Hp → Prop) → Prop) {H0 : Hp} {Qd : Hp → Prop} (B : Nat → Hp → Prop) (h0 : B 0 H0) (hG : ∀ i H, i ≤ n → B i H → G H)
    (hs : ∀ i x H H', i < n → B i H → Y i H x H' → step x H' (B (i + 1))) (hd : ∀ H, B n H → Qd H) :
    ∃ W : Nat → Nat → Hp → Prop, (∃ m, W 0 m H0) ∧ ∀ i m H, W i m H →
      (J.stop i H ∧ Qd H) ∨ (J.go i H ∧ ∃ Nx : Hp → Prop, (∀ H', Nx H' → ∃ m', m' < m ∧ W (i + 1) m' H') ∧ ∀ x H', J.yld i H x H' → step x H' Nx) := by
  refine ⟨fun i m H => m = n - i ∧ i ≤ n ∧ B i H, ⟨n, by simp, Nat.zero_le _, h0⟩, ?_⟩
  rintro i m H ⟨rfl, hi, p⟩
  have q := hG i H hi p
  by_cases hlt : i < n
  · exact .inr ⟨w.goes i H hlt q, B (i + 1), fun H' p' => ⟨n - (i + 1), by omega, rfl, hlt, p'⟩, fun x H' y => hs i x H H' hlt p (w.yields i H x H' hlt q y)⟩
  · have e : i = n := by omega
    subst e
    exact .inl ⟨w.stops H q, hd H p⟩

section
variable {K : Fr'} {g : SemG} {t : SemT} {el : SemE} {vs us : List Nat}
theorem lcl_it {P : List (Nat × Addr)} {W F H : Hp} {σ : St} {ρ ρ' : Ro} {ds acc0 zs : List D} {xs0 : List V} {D : Addr} {J : It} {Qd : Hp → Prop} (w : WalkD K W F J ds) (R : Rel K P W F H σ ρ) (hWD : W D = some (.lst xs0)) (hFD : F D = none) (hclr : clearAt ρ vs = true)
    (r0 : RpA K F xs0 acc0) (e : lcL g t el vs ds acc0.length ρ = some (zs, ρ')) (hu : ∀ i ∈ us, i ∈ vs)
    (hd : ∀ H F2 xs, Ext W F F2 → Rel K P (upd W D (.lst xs)) F2 H σ ρ' → F2 D = none → RpA K F2 xs (acc0 ++ zs) → Qd H) :
    ∃ W1 : Nat → Nat → Hp → Prop, (∃ m, W1 0 m H) ∧ ∀ i m H, W1 i m H →
      (J.stop i H ∧ Qd H) ∨ (J.go i H ∧ ∃ Nx : Hp → Prop, (∀ H', Nx H' → ∃ m', m' < m ∧ W1 (i + 1) m' H') ∧ ∀ x H', J.yld i H x H' →
        tDG K us g x (wipe σ vs) H' fun σ2 H2 => wipe σ2 vs = wipe σ vs ∧ tDT K t σ2 H2 fun b H3 =>
          if b = true then tD K el σ2 H3 fun y H4 => ∃ acc, H4 D = some (.lst acc) ∧ acc.length < sizeLine ∧ Nx (upd H4 D (.lst (acc ++ [y]))) else Nx H3) := by
  obtain ⟨G, Y, w, hG, hY⟩ := w.ex
  have hp := pin_off R hclr
  have hWf : ∀ xs b o u, W b = some (.frz o u) → upd W D (.lst xs) b = some (.frz o u) := fun xs b o u e => by
    rw [upd_ne (fun z => by rw [z, hWD] at e; cases e)]; exact e
  have hEx : ∀ {xs : List V} {F1 F2 : Hp}, Ext (upd W D (.lst xs)) F1 F2 → Ext W F1 F2 := fun x => ⟨x.same, fun b e => x.off b (by
    by_cases hb : b = D
    · subst hb; rw [upd_same]; exact fun z => nomatch z
    · rw [upd_ne hb]; exact e)⟩
  refine walk_it w (step := fun x H' Nx => tDG K us g x (wipe σ vs) H' fun σ2 H2 => wipe σ2 vs = wipe σ vs ∧ tDT K t σ2 H2 fun b H3 =>
    if b = true then tD K el σ2 H3 fun y H4 => ∃ acc, H4 D = some (.lst acc) ∧ acc.length < sizeLine ∧ Nx (upd H4 D (.lst (acc ++ [y]))) else Nx H3)
    (fun i H => ∃ F2 ρ2 acc xs rest, Ext W F F2 ∧ Rel K P (upd W D (.lst xs)) F2 H σ ρ2 ∧ F2 D = none ∧ clearAt ρ2 vs = true ∧ RpA K F2 xs (acc0 ++ acc) ∧ zs = acc ++ rest ∧ lcL g t el vs (ds.drop i) (acc0 ++ acc).length ρ2 = some (rest, ρ')) ?_ ?_ ?_ ?_
  · refine ⟨F, ρ, [], xs0, zs, Ext.refl _ _, ?_, hFD, hclr, by rw [List.append_nil]; exact r0, rfl, by rw [List.append_nil]; simpa using e⟩
    rw [upd_self hWD]
    exact R
  · rintro i H hi ⟨F2, ρ2, acc, xs, rest, x2, R2, _⟩
    exact hG F2 H x2.same R2.fh fun b o u e => R2.wh b _ (hWf _ b o u e)
  · rintro i x H H' hi ⟨F2, ρ2, acc, xs, rest, x2, R2, hFD2, hclr2, rxs, ez, e3⟩ y
    have hdi : ds[i]? = some ds[i] := List.getElem?_eq_getElem hi
    obtain ⟨F3, g3, rp⟩ := hY i _ F2 H H' x x2.same R2.fh hdi y
    rw [List.drop_eq_getElem_cons hi] at e3
    simp only [lcL, Option.bind_eq_some_iff, Prod.exists] at e3
    obtain ⟨ρ3, e4, b, ρ4, e5, e6⟩ := e3
    have R3 := (R2.grow g3).toWipe hclr2
    have x3 := g3.ext R2.wh
    refine ⟨P, _, F3, ρ2, ds[i], ρ3, R3, rp, e4, fun σ4 H4 F4 x4 R4 of4 => ?_⟩
    have hw4 : wipe σ4 vs = wipe σ vs := (wipe_eq of4 hu).trans wipe_wipe
    refine ⟨hw4, P, _, F4, ρ3, b, ρ4, R4, e5, fun H5 F5 x5 R5 => ?_⟩
    cases b with
    | false =>
      simp only [Bool.false_eq_true, if_false] at e6 ⊢
      have x25 := (x3.trans x4).trans x5
      refine ⟨F5, wipeR ρ4 vs, acc, xs, rest, x2.trans (hEx x25), R5.wiped hw4 hp, ?_, clear_wipeR, rxs.mono (Le.of x25.same), ez, e6⟩
      rw [x25.off D (by rw [upd_same]; exact fun z => nomatch z)]; exact hFD2
    | true =>
      simp only [if_true, Option.bind_eq_some_iff, Prod.exists] at e6 ⊢
      obtain ⟨r, ρ5, e7, z, ρ6, e8, e9⟩ := e6
      split at e9
      case isFalse => cases e9
      rename_i hlen
      simp only [Option.bind_eq_some_iff, Prod.exists] at e9
      obtain ⟨zs', ρ7, e9, e10⟩ := e9
      cases e10
      refine ⟨P, _, F5, ρ4, r, ρ5, R5, e7, fun v H6 F6 x6 R6 o6 => ?_⟩
      obtain ⟨F7, x7, R7, rp7⟩ := R6.frz o6 e8
      have x27 := (((x3.trans x4).trans x5).trans x6).trans x7
      have hF7 : F7 D = none := by rw [x27.off D (by rw [upd_same]; exact fun z => nomatch z)]; exact hFD2
      refine ⟨xs, R7.wh D _ upd_same, by rw [rxs.length]; exact hlen, F7, wipeR ρ6 vs, acc ++ [z], xs ++ [v], zs', x2.trans (hEx x27), ?_, hF7, clear_wipeR, ?_, by rw [ez, List.append_assoc]; rfl, ?_⟩
      · have := (R7.kept (o' := .lst (xs ++ [v])) hF7).wiped hw4 hp
        exact this
      · rw [← List.append_assoc]
        exact (rxs.mono (Le.of x27.same)).append (.cons rp7 .nil)
      · rw [← List.append_assoc, List.length_append]
        exact e9
  · rintro H ⟨F2, ρ2, acc, xs, rest, x2, R2, hFD2, hclr2, rxs, ez, e3⟩
    rw [List.drop_length] at e3
    cases e3
    rw [List.append_nil] at ez
    subst ez
    exact hd H F2 xs x2 R2 hFD2 rxs
end
section
variable (g : SemG) (t : SemT) (it1 : SemI) (g1 : SemG) (t1 : SemT) (el : SemE) (vs vs1 : List Nat)
def lc2L : List D → Nat → Ro → Option (List D × Ro)
  | [], _, ρ => some ([], ρ)
  | d :: ds, n, ρ => (g d ρ).bind fun ρ1 => (t ρ1).bind fun (b, ρ2) => if b = true then (it1 ρ2).bind fun (ds1, ρ3) => if clearAt ρ3 vs1 = true then (lcL g1 t1 el vs1 ds1 n ρ3).bind fun (zs, ρ4) => (lc2L ds (n + zs.length) (wipeR ρ4 vs)).bind fun (zs2, ρ5) => some (zs ++ zs2, ρ5) else none
    else lc2L ds n (wipeR ρ2 vs)
def sLc2 (it : SemI) : SemE := fun ρ => (it ρ).bind fun (ds, ρ1) => if clearAt ρ1 vs = true then (lc2L g t it1 g1 t1 el vs vs1 ds 0 ρ1).bind fun (zs, ρ2) => some (.fr (.list zs), ρ2) else none
end
section
variable {X : Cx}
theorem sLc2_ok {K : Fr'} {it it1 : SemI} {g g1 : SemG} {t t1 : SemT} {el : SemE} {us us1 vs vs1 : List Nat} (hu : ∀ i ∈ us, i ∈ vs) (hu1 : ∀ i ∈ us1, i ∈ vs1) {σ : St} {H : Hp} {Q : VK} (q : tD K (sLc2 g t it1 g1 t1 el vs vs1 it) σ H Q) : tLc2 (tDI K it) (tDG K us g) (tDT K t) (tDI K it1) (tDG K us1 g1) (tDT K t1) (tD K el) vs vs1 σ H Q := by
  obtain ⟨P, W, F, ρ, r, ρ', R, e, q⟩ := q
  simp only [sLc2, Option.bind_eq_some_iff, Prod.exists] at e
  obtain ⟨ds, ρ1, e1, e2⟩ := e
  split at e2
  case isFalse => cases e2
  rename_i hclr
  simp only [Option.bind_eq_some_iff, Prod.exists] at e2
  obtain ⟨zs, ρ2, e2, e3⟩ := e2
  cases e3
  refine ⟨P, W, F, ρ, ds, ρ1, R, e1, fun J H1 W1 F1 sw x1 R1 w => ?_⟩
  intro D hD
  obtain ⟨G, Y, w, hG, hY⟩ := w.ex
  have hWD : W1 D = none := by
    cases e : W1 D with
    | none => rfl
    | some u => have := R1.wh D u e; rw [hD] at this; cases this
  have hFD := R1.fh.none hD
  have hp := pin_off R1 hclr
  refine walk_it w (step := fun x H' Nx => tDG K us g x (wipe σ vs) H' fun σ2 H2 => wipe σ2 vs = wipe σ vs ∧ tDT K t σ2 H2 fun b H3 => _)
    (fun i H => ∃ F2 ρ2 acc xs rest, Ext W1 F1 F2 ∧ Rel K P (upd W1 D (.lst xs)) F2 H σ ρ2 ∧ F2 D = none ∧ clearAt ρ2 vs = true ∧ RpA K F2 xs acc ∧ zs = acc ++ rest ∧ lc2L g t it1 g1 t1 el vs vs1 (ds.drop i) acc.length ρ2 = some (rest, ρ')) ?_ ?_ ?_ ?_
  · refine ⟨F1, ρ1, [], [], zs, Ext.refl _ _, ?_, hFD, hclr, .nil, rfl, by simpa using e2⟩
    have R2 := R1.grow (Grow.heap R1.fh hD (.lst []))
    refine R2.protect upd_same hFD fun i c e ow es => ?_
    obtain ⟨v, hv, hk⟩ := R1.cell i c e
    rw [es] at hv; cases hv
    cases c with
    | val d => cases ow
    | own d => obtain ⟨b, eb, _, _, o⟩ := hk; cases eb; rw [hD] at o; exact o
    | byr d => obtain ⟨b, eb, _, _, o⟩ := hk; cases eb; rw [hD] at o; exact o
    | scr ds => cases ow
  · rintro i H hi ⟨F2, ρ2, acc, xs, rest, x2, R2, _⟩
    exact hG F2 H x2.same R2.fh (fun b o u e => R2.wh b _ (by rw [upd_ne (ne_of_none e hWD)]; exact e))
  · rintro i x H H' hi ⟨F2, ρ2, acc, xs, rest, x2, R2, hFD2, hclr2, rxs, ez, e3⟩ y
    have hd : ds[i]? = some ds[i] := List.getElem?_eq_getElem hi
    obtain ⟨F3, g3, rp⟩ := hY i _ F2 H H' x x2.same R2.fh hd y
    rw [List.drop_eq_getElem_cons hi] at e3
    simp only [lc2L, Option.bind_eq_some_iff, Prod.exists] at e3
    obtain ⟨ρ3, e4, b, ρ4, e5, e6⟩ := e3
    have R3 := (R2.grow g3).toWipe hclr2
    have x3 := g3.ext R2.wh
    refine ⟨P, _, F3, ρ2, ds[i], ρ3, R3, rp, e4, fun σ4 H4 F4 x4 R4 of4 => ?_⟩
    have hw4 : wipe σ4 vs = wipe σ vs := (wipe_eq of4 hu).trans wipe_wipe
    refine ⟨hw4, P, _, F4, ρ3, b, ρ4, R4, e5, fun H5 F5 x5 R5 => ?_⟩
    have x25 := (x3.trans x4).trans x5
    have hF5 : F5 D = none := by rw [x25.off D (by rw [upd_same]; exact fun z => nomatch z)]; exact hFD2
    cases b with
    | false =>
      simp only [Bool.false_eq_true, if_false] at e6 ⊢
      exact ⟨F5, wipeR ρ4 vs, acc, xs, rest, (x2.trans x25.un), R5.wiped hw4 hp, hF5, clear_wipeR, rxs.mono (Le.of x25.same), ez, e6⟩
    | true =>
      simp only [if_true, Option.bind_eq_some_iff, Prod.exists] at e6 ⊢
      obtain ⟨ds1, ρ5, e7, e8⟩ := e6
      split at e8
      case isFalse => cases e8
      rename_i hclr1
      simp only [Option.bind_eq_some_iff, Prod.exists] at e8
      obtain ⟨zs1, ρ6, e9, zs2, ρ7, e10, e11⟩ := e8
      cases e11
      refine ⟨P, _, F5, ρ4, ds1, ρ5, R5, e7, fun J1 H6 W6 F6 sw6 x6 R6 w6 => ?_⟩
      have hW6 : W6 D = some (.lst xs) := sw6 D _ upd_same
      have hF6 : F6 D = none := by rw [x6.off D (by rw [upd_same]; exact fun z => nomatch z)]; exact hF5
      refine lcl_it w6 R6 hW6 hF6 hclr1 (rxs.mono (Le.of (x25.trans x6).same)) e9 hu1 fun H8 F8 xs8 x8 R8 hF8 r8 => ?_
      have sw8 : Same (upd W1 D (.lst xs8)) (upd W6 D (.lst xs8)) := fun b u e => by
        by_cases hb : b = D
        · subst hb; rw [upd_same] at e ⊢; exact e
        · rw [upd_ne hb] at e ⊢; exact sw6 b u (by rw [upd_ne hb]; exact e)
      have x58 : Ext W1 F5 F8 := x6.un.trans ⟨x8.same, fun b e => x8.off b (by
        have : upd W1 D (.lst xs) b ≠ none := by
          by_cases hb : b = D
          · subst hb; rw [upd_same]; exact fun z => nomatch z
          · rw [upd_ne hb]; exact e
        exact Same.ne sw6 this)⟩
      exact ⟨F8, wipeR ρ6 vs, acc ++ zs1, xs8, zs2, (x2.trans x25.un).trans x58, (R8.lessW sw8).wiped hw4 hp, hF8, clear_wipeR, r8, by rw [ez, List.append_assoc], by rw [List.length_append]; exact e10⟩
  · rintro H ⟨F2, ρ2, acc, xs, rest, x2, R2, hFD2, hclr2, rxs, ez, e3⟩
    rw [List.drop_length] at e3
    cases e3
    rw [List.append_nil] at ez
    subst ez
    have own : OwnO K F2 (H D) (.list zs) := by
      rw [R2.wh D _ upd_same]
      exact rxs
    exact q _ H F2 (x1.trans (x2.less sw)) ((R2.unprotect hWD).lessW sw) (RvOk.lessW sw (r := .fr _) ⟨⟨D, rfl, hWD, hFD2, own⟩, R2.noown⟩)
theorem de_lc2 {elt tg iter tg1 iter1 : Expr} {ifs ifs1 : List Expr} {scope : Scope} {own : List (Str × Nat)} {vs1 : List Nat} {pos : Pos} {it it1 : SemI} {g g1 : SemG} {t t1 : SemT} {el : SemE} {us us1 : List Nat} (hi : DI X tg iter it) (ok : BlkOk X.N X.env.scope scope own)
    (hg : ∀ (s : Shared) (H : Hp) (C : Addr) (cl : List (Str × Addr)) (fp : List Addr), DG (X.blk s H scope (compEnvC scope cl C X.env) fp) tg us g) (ht : ∀ (s : Shared) (H : Hp) (C : Addr) (cl : List (Str × Addr)) (fp : List Addr), DTs (X.blk s H scope (compEnvC scope cl C X.env) fp) ifs t)
    (hi1 : ∀ (s : Shared) (H : Hp) (C : Addr) (cl : List (Str × Addr)) (fp : List Addr), DI (X.blk s H scope (compEnvC scope cl C X.env) fp) tg1 iter1 it1)
    (hg1 : ∀ (s : Shared) (H : Hp) (C : Addr) (cl : List (Str × Addr)) (fp : List Addr), DG (X.blk s H scope (compEnvC scope cl C X.env) fp) tg1 us1 g1) (ht1 : ∀ (s : Shared) (H : Hp) (C : Addr) (cl : List (Str × Addr)) (fp : List Addr), DTs (X.blk s H scope (compEnvC scope cl C X.env) fp) ifs1 t1)
    (he : ∀ (s : Shared) (H : Hp) (C : Addr) (cl : List (Str × Addr)) (fp : List Addr), DE (X.blk s H scope (compEnvC scope cl C X.env) fp) elt el) (hu : ∀ i ∈ us, i ∈ own.map (·.2)) (hu1 : ∀ i ∈ us1, i ∈ vs1) (hv : ∀ i ∈ vs1, i ∈ own.map (·.2)) (hc : X.calm = true) (hN : X.N.Nodup)
    (hs : ∀ x, foldedSetIterable iter X.env x = pure x := by intro _; rfl) (hs1 : ∀ env x, foldedSetIterable iter1 env x = pure x := by intro _ _; rfl) :
    DE X (.ListComp elt [⟨tg, iter, ifs, 0⟩, ⟨tg1, iter1, ifs1, 0⟩] scope pos) (sLc2 g t it1 g1 t1 el (own.map (·.2)) vs1 it) := by
  refine ⟨(pe_lc2 (g := tDG X.K us g) (tt := tDT X.K t) (wi1 := tDI X.K it1) (g1 := tDG X.K us1 g1) (tt1 := tDT X.K t1) (te := tD X.K el) hc hN hi.pi ok hv (fun s H C cl fp => (hg s H C cl fp).pg) (fun s H C cl fp => (ht s H C cl fp).pt) (fun s H C cl fp => (hi1 s H C cl fp).pi)
    (fun s H C cl fp => (hg1 s H C cl fp).pg) (fun s H C cl fp => (ht1 s H C cl fp).pt) (fun s H C cl fp => (he s H C cl fp).pe) hs hs1).pvi fun σ H Q q => sLc2_ok hu hu1 q⟩
theorem ds_setLc2 {elt tg iter tg1 iter1 : Expr} {ifs ifs1 : List Expr} {scope : Scope} {own : List (Str × Nat)} {vs1 : List Nat} {pos spos : Pos} {i : Nat} {y : Str} {py : Pos} {it it1 : SemI} {g g1 : SemG} {t t1 : SemT} {el : SemE} {us us1 : List Nat} (hy : X.N[i]? = some y) (hyl : X.env.scope.names.lookup y = some .local) (hsw : swapsWith (.ListComp elt [⟨tg, iter, ifs, 0⟩, ⟨tg1, iter1, ifs1, 0⟩] scope pos) (some (.Name y py)) spos.line X.env = pure true) (hi : DI X tg iter it) (ok : BlkOk X.N X.env.scope scope own)
    (hg : ∀ (s : Shared) (H : Hp) (C : Addr) (cl : List (Str × Addr)) (fp : List Addr), DG (X.blk s H scope (compEnvC scope cl C X.env) fp) tg us g) (ht : ∀ (s : Shared) (H : Hp) (C : Addr) (cl : List (Str × Addr)) (fp : List Addr), DTs (X.blk s H scope (compEnvC scope cl C X.env) fp) ifs t)
    (hi1 : ∀ (s : Shared) (H : Hp) (C : Addr) (cl : List (Str × Addr)) (fp : List Addr), DI (X.blk s H scope (compEnvC scope cl C X.env) fp) tg1 iter1 it1)
    (hg1 : ∀ (s : Shared) (H : Hp) (C : Addr) (cl : List (Str × Addr)) (fp : List Addr), DG (X.blk s H scope (compEnvC scope cl C X.env) fp) tg1 us1 g1) (ht1 : ∀ (s : Shared) (H : Hp) (C : Addr) (cl : List (Str × Addr)) (fp : List Addr), DTs (X.blk s H scope (compEnvC scope cl C X.env) fp) ifs1 t1)
    (he : ∀ (s : Shared) (H : Hp) (C : Addr) (cl : List (Str × Addr)) (fp : List Addr), DE (X.blk s H scope (compEnvC scope cl C X.env) fp) elt el) (hu : ∀ i ∈ us, i ∈ own.map (·.2)) (hu1 : ∀ i ∈ us1, i ∈ vs1) (hv : ∀ i ∈ vs1, i ∈ own.map (·.2)) (hc : X.calm = true) (hN : X.N.Nodup)
    (hs : ∀ x, foldedSetIterable iter X.env x = pure x := by intro _; rfl) (hs1 : ∀ env x, foldedSetIterable iter1 env x = pure x := by intro _ _; rfl) :
    DS X (.Assign [.Name y py] (.ListComp elt [⟨tg, iter, ifs, 0⟩, ⟨tg1, iter1, ifs1, 0⟩] scope pos) spos) (sSet i (sLc2 g t it1 g1 t1 el (own.map (·.2)) vs1 it)) := by
  refine ⟨(ps_setLc2 (g := tDG X.K us g) (tt := tDT X.K t) (wi1 := tDI X.K it1) (g1 := tDG X.K us1 g1) (tt1 := tDT X.K t1) (te := tD X.K el) hc hN hy hyl hsw hi.pi ok hv (fun s H C cl fp => (hg s H C cl fp).pg) (fun s H C cl fp => (ht s H C cl fp).pt) (fun s H C cl fp => (hi1 s H C cl fp).pi)
    (fun s H C cl fp => (hg1 s H C cl fp).pg) (fun s H C cl fp => (ht1 s H C cl fp).pt) (fun s H C cl fp => (he s H C cl fp).pe) hs hs1).pvi fun D σ H q => sLc2_ok hu hu1 (sSet_ok q)⟩
end

section
variable (g : SemG) (t : SemT) (kf vf : SemE) (vs : List Nat)
def dcL : List D → List (D × D) → Ro → Option (List (D × D) × Ro)
  | [], es, ρ => some (es, ρ)
  | d :: ds, es, ρ => (g d ρ).bind fun ρ1 => (t ρ1).bind fun (b, ρ2) => if b = true then (kf ρ2).bind fun (r, ρ3) => (frz ρ3 r).bind fun (kd, ρ4) => (keyOf kd).bind fun k => (vf ρ4).bind fun (r2, ρ5) => (frz ρ5 r2).bind fun (z, ρ6) => if es.length < sizeLine then dcL ds (dput es k z) (wipeR ρ6 vs) else none
    else dcL ds es (wipeR ρ2 vs)
def sDc (it : SemI) : SemE := fun ρ => (it ρ).bind fun (ds, ρ1) => if clearAt ρ1 vs = true then (dcL g t kf vf vs ds [] ρ1).bind fun (es, ρ2) => some (.fr (.dict es), ρ2) else none
end
section
variable {X : Cx}
theorem de_dc {kx vx tg iter : Expr} {ifs : List Expr} {scope : Scope} {own : List (Str × Nat)} {pos : Pos} {it : SemI} {g : SemG} {t : SemT} {kf vf : SemE} {us : List Nat} (hi : DI X tg iter it) (ok : BlkOk X.N X.env.scope scope own)
    (hg : ∀ (s : Shared) (H : Hp) (C : Addr) (cl : List (Str × Addr)) (fp : List Addr), DG (X.blk s H scope (compEnvC scope cl C X.env) fp) tg us g) (ht : ∀ (s : Shared) (H : Hp) (C : Addr) (cl : List (Str × Addr)) (fp : List Addr), DTs (X.blk s H scope (compEnvC scope cl C X.env) fp) ifs t)
    (hk : ∀ (s : Shared) (H : Hp) (C : Addr) (cl : List (Str × Addr)) (fp : List Addr), DE (X.blk s H scope (compEnvC scope cl C X.env) fp) kx kf) (he : ∀ (s : Shared) (H : Hp) (C : Addr) (cl : List (Str × Addr)) (fp : List Addr), DE (X.blk s H scope (compEnvC scope cl C X.env) fp) vx vf)
    (hu : ∀ i ∈ us, i ∈ own.map (·.2)) (hc : X.calm = true) (hN : X.N.Nodup) (hs : ∀ x, foldedSetIterable iter X.env x = pure x := by intro _; rfl) :
    DE X (.DictComp kx vx [⟨tg, iter, ifs, 0⟩] scope pos) (sDc g t kf vf (own.map (·.2)) it) := by
  refine ⟨(pe_dc (g := tDG X.K us g) (tt := tDT X.K t) (tk := tD X.K kf) (tv := tD X.K vf) hc hN hi.pi ok (fun s H C cl fp => (hg s H C cl fp).pg) (fun s H C cl fp => (ht s H C cl fp).pt) (fun s H C cl fp => (hk s H C cl fp).pe) (fun s H C cl fp => (he s H C cl fp).pe) hs).pvi fun σ H Q q => ?_⟩
  generalize hvs : own.map (·.2) = vs at *
  obtain ⟨P, W, F, ρ, r, ρ', R, e, q⟩ := q
  simp only [sDc, Option.bind_eq_some_iff, Prod.exists] at e
  obtain ⟨ds, ρ1, e1, e2⟩ := e
  split at e2
  case isFalse => cases e2
  rename_i hclr
  simp only [Option.bind_eq_some_iff, Prod.exists] at e2
  obtain ⟨zs, ρ2, e2, e3⟩ := e2
  cases e3
  refine ⟨P, W, F, ρ, ds, ρ1, R, e1, fun J H1 W1 F1 sw x1 R1 w => ?_⟩
  intro D hD
  obtain ⟨G, Y, w, hG, hY⟩ := w.ex
  have hWD : W1 D = none := by
    cases e : W1 D with
    | none => rfl
    | some u => have := R1.wh D u e; rw [hD] at this; cases this
  have hFD := R1.fh.none hD
  have hp := pin_off R1 hclr
  refine walk_it w (step := fun x H' Nx => tDG X.K us g x (wipe σ vs) H' fun σ2 H2 => wipe σ2 vs = wipe σ vs ∧ tDT X.K t σ2 H2 fun b H3 => _)
    (fun i H => ∃ F2 ρ2 es kvs, Ext W1 F1 F2 ∧ Rel X.K P (upd W1 D (.dK kvs)) F2 H σ ρ2 ∧ F2 D = none ∧ clearAt ρ2 vs = true ∧ RpD X.K F2 kvs es ∧ dcL g t kf vf vs (ds.drop i) es ρ2 = some (zs, ρ')) ?_ ?_ ?_ ?_
  · refine ⟨F1, ρ1, [], [], Ext.refl _ _, ?_, hFD, hclr, .nil, by simpa using e2⟩
    have R2 := R1.grow (Grow.heap R1.fh hD (.dK []))
    refine R2.protect upd_same hFD fun i c e ow es => ?_
    obtain ⟨v, hv, hk⟩ := R1.cell i c e
    rw [es] at hv; cases hv
    cases c with
    | val d => cases ow
    | own d => obtain ⟨b, eb, _, _, o⟩ := hk; cases eb; rw [hD] at o; exact o
    | byr d => obtain ⟨b, eb, _, _, o⟩ := hk; cases eb; rw [hD] at o; exact o
    | scr ds => cases ow
  · rintro i H hi ⟨F2, ρ2, es, kvs, x2, R2, _⟩
    exact hG F2 H x2.same R2.fh (fun b o u e => R2.wh b _ (by rw [upd_ne (ne_of_none e hWD)]; exact e))
  · rintro i x H H' hi ⟨F2, ρ2, es, kvs, x2, R2, hFD2, hclr2, rxs, e3⟩ y
    have hd : ds[i]? = some ds[i] := List.getElem?_eq_getElem hi
    obtain ⟨F3, g3, rp⟩ := hY i _ F2 H H' x x2.same R2.fh hd y
    rw [List.drop_eq_getElem_cons hi] at e3
    simp only [dcL, Option.bind_eq_some_iff, Prod.exists] at e3
    obtain ⟨ρ3, e4, b, ρ4, e5, e6⟩ := e3
    have R3 := (R2.grow g3).toWipe hclr2
    have x3 := g3.ext R2.wh
    refine ⟨P, _, F3, ρ2, ds[i], ρ3, R3, rp, e4, fun σ4 H4 F4 x4 R4 of4 => ?_⟩
    have hw4 : wipe σ4 vs = wipe σ vs := (wipe_eq of4 hu).trans wipe_wipe
    refine ⟨hw4, P, _, F4, ρ3, b, ρ4, R4, e5, fun H5 F5 x5 R5 => ?_⟩
    cases b with
    | false =>
      simp only [Bool.false_eq_true, if_false] at e6 ⊢
      have x25 := (x3.trans x4).trans x5
      refine ⟨F5, wipeR ρ4 vs, es, kvs, (x2.trans x25.un), R5.wiped hw4 hp, ?_, clear_wipeR, rxs.mono (Le.of x25.same), e6⟩
      rw [x25.off D (by rw [upd_same]; exact fun z => nomatch z)]; exact hFD2
    | true =>
      simp only [if_true, Option.bind_eq_some_iff, Prod.exists] at e6 ⊢
      obtain ⟨r, ρ5, e7, kd, ρ6, e8, k, e9, r2, ρ7, e10, z, ρ8, e11, e12⟩ := e6
      split at e12
      case isFalse => cases e12
      rename_i hlen
      refine ⟨P, _, F5, ρ4, r, ρ5, R5, e7, fun y H6 F6 x6 R6 o6 => ?_⟩
      obtain ⟨F7, x7, R7, rp7⟩ := R6.frz o6 e8
      refine ⟨P, _, F7, ρ6, r2, ρ7, R7, e10, fun v H8 F8 x8 R8 o8 => ?_⟩
      obtain ⟨F9, x9, R9, rp9⟩ := R8.frz o8 e11
      have x29 := (((((x3.trans x4).trans x5).trans x6).trans x7).trans x8).trans x9
      have hF9 : F9 D = none := by rw [x29.off D (by rw [upd_same]; exact fun z => nomatch z)]; exact hFD2
      have rk := rxs.mono (Le.of x29.same)
      exact ⟨kvs, k, keyOf_kV (F := F7) (H := H6) (.inl rp7) e9, R9.wh D _ upd_same, by rw [rk.length]; exact hlen, F9, wipeR ρ8 vs, dput es k z, putK kvs k v, x2.trans x29.un, (R9.kept hF9).wiped hw4 hp, hF9, clear_wipeR, rk.put rp9, e12⟩
  · rintro H ⟨F2, ρ2, es, kvs, x2, R2, hFD2, hclr2, rxs, e3⟩
    rw [List.drop_length] at e3
    cases e3
    have own : OwnO X.K F2 (H D) (.dict zs) := by
      rw [R2.wh D _ upd_same]
      exact rxs
    exact q _ H F2 (x1.trans (x2.less sw)) ((R2.unprotect hWD).lessW sw) (RvOk.lessW sw (r := .fr _) ⟨⟨D, rfl, hWD, hFD2, own⟩, R2.noown⟩)
def sDct0 : SemE := fun ρ => some (.fr (.dict []), ρ)
theorem de_dct0 {pos : Pos} : DE X (.Dict [] [] pos) sDct0 := by
  refine ⟨pe_dnewK.pvi fun σ H Q q => ?_⟩
  obtain ⟨P, W, F, ρ, r, ρ', R, e, q⟩ := q
  cases e
  intro p hp
  exact (post_of (zb := (.dict [], true)) R fun v H' F' x R' o => q v H' F' x R' o).dct R.fh .nil p hp
end

def sPar (i j : Nat) (f : SemM) : SemS := fun ρ => (f ρ).bind fun (rs, ρ1) => match rs with
  | [.val a, .val b] => (store i (.val a) ρ1).bind fun ρ2 => (store j (.val b) ρ2).bind fun ρ3 => some (.nx ρ3)
  | [.val a, .fr b] => (store i (.val a) ρ1).bind fun ρ2 => (store j (.fr b) ρ2).bind fun ρ3 => some (.nx ρ3)
  | [.fr a, .val b] => (store i (.fr a) ρ1).bind fun ρ2 => (store j (.val b) ρ2).bind fun ρ3 => some (.nx ρ3)
  | [.fr a, .fr b] => (store i (.fr a) ρ1).bind fun ρ2 => (store j (.fr b) ρ2).bind fun ρ3 => some (.nx ρ3)
  | _ => none
section
variable {X : Cx}
theorem store_na {K : Fr'} {P : List (Nat × Addr)} {W F H : Hp} {σ : St} {ρ ρ' : Ro} {i : Nat} {v : V} {r : Rv} (R : Rel K P W F H σ ρ) (hr : ∀ k, r ≠ .at k) (ho : RvOk K W F H σ ρ r v) (e : store i r ρ = some ρ') :
    Rel K P W F H (σ.set i (some v)) ρ' ∧ i < σ.length ∧ ∃ c : Cell, ρ' = ρ.set i (some c) ∧ (c.owned = true → ∃ d, r = .fr d) := by
  unfold Pv.store at e
  split at e
  · next hs =>
    have hl := slot_lt hs
    have hl2 : i < σ.length := by rw [R.len]; exact hl
    cases r with
    | val d => cases e; exact ⟨R.setVal (slot_pin R hs) ho hl, hl2, _, rfl, fun z => by cases z⟩
    | fr d => cases e; exact ⟨R.setOwn (slot_pin R hs) ho hl, hl2, _, rfl, fun _ => ⟨d, rfl⟩⟩
    | «at» k => exact absurd rfl (hr k)
  · cases e
theorem mok2 {K : Fr'} {W F H : Hp} {σ : St} {ρ : Ro} {r1 r2 : Rv} (n1 : ∀ k, r1 ≠ .at k) (n2 : ∀ k, r2 ≠ .at k) : ∀ {ms : List Md} {vs : List V}, MOk K W F H σ ρ ms [r1, r2] vs → ∃ v w, vs = [v, w] ∧ RvOk K W F H σ ρ r1 v ∧ RvOk K W F H σ ρ r2 w ∧ (∀ d e, r1 = .fr d → r2 = .fr e → v ≠ w) := by
  intro ms vs m
  have one : ∀ {m1 : Md} {ms : List Md} {r : Rv} {rs : List Rv} {v : V} {vs : List V}, (∀ k, r ≠ .at k) → MOk K W F H σ ρ (m1 :: ms) (r :: rs) (v :: vs) → RvOk K W F H σ ρ r v ∧ MOk K W F H σ ρ ms rs vs ∧ (∀ d, r = .fr d → v ∉ frV ms rs vs ∧ m1 = .r) := by
    intro m1 ms r rs v vs n m
    cases r with
    | «at» k => exact absurd rfl (n k)
    | val d =>
      cases m1 with
      | v => exact ⟨m.1, m.2, fun _ z => by cases z⟩
      | r => exact m.elim
      | s => exact m.elim
    | fr d =>
      cases m1 with
      | v => exact m.elim
      | r => exact ⟨⟨m.1, m.2.1⟩, m.2.2.2, fun _ _ => ⟨m.2.2.1, rfl⟩⟩
      | s => exact m.elim
  cases ms with
  | nil => cases vs <;> exact m.elim
  | cons m1 ms =>
  cases vs with
  | nil => cases m1 <;> cases r1 <;> exact m.elim
  | cons v vs =>
  obtain ⟨h1, m, k1⟩ := one n1 m
  cases ms with
  | nil => cases vs <;> exact m.elim
  | cons m2 ms =>
  cases vs with
  | nil => cases m2 <;> cases r2 <;> exact m.elim
  | cons w vs =>
  obtain ⟨h2, m, k2⟩ := one n2 m
  cases ms with
  | cons m3 ms => cases vs <;> cases m3 <;> exact m.elim
  | nil =>
  cases vs with
  | cons _ _ => exact m.elim
  | nil =>
  refine ⟨v, w, rfl, h1, h2, fun d e z1 z2 z => ?_⟩
  have q := (k1 d z1).1
  have e2 := (k2 e z2).2
  subst e2
  subst z2
  exact q (by rw [z]; exact List.mem_cons_self)
theorem ds_par {i j : Nat} {x y : Str} {a b : Expr} {ms : List Md} {f : SemM} {px py pt pos : Pos} {kt k2 pt2} (hc : X.calm = true) (hN : X.N.Nodup) (hi : X.N[i]? = some x) (hj : X.N[j]? = some y) (hij : i ≠ j)
    (hx : X.env.scope.names.lookup x = some .local) (hy : X.env.scope.names.lookup y = some .local) (ha : DM X [a, b] ms f)
    (hw : swappedStores [.Tuple [.Name x px, .Name y py] kt pt] (.Tuple [a, b] k2 pt2) X.env = pure (some [x, y]))
    (hs : swapsWithSole [.Tuple [.Name x px, .Name y py] kt pt] (.Tuple [a, b] k2 pt2) pos.line X.env = pure false := by rfl) :
    DS X (.Assign [.Tuple [.Name x px, .Name y py] kt pt] (.Tuple [a, b] k2 pt2) pos) (sPar i j f) := by
  refine ⟨(ps_par hc hN hi hj hij hx hy ha.pa hw hs).pvi fun D σ H q => ?_⟩
  obtain ⟨P, W, F, ρ, o, R, e, q⟩ := q
  simp only [sPar, Option.bind_eq_some_iff, Prod.exists] at e
  obtain ⟨rs, ρ1, e1, e2⟩ := e
  refine ⟨P, W, F, ρ, rs, ρ1, R, e1, fun vs H1 F1 x1 R1 m => ?_⟩
  have main : ∀ (r1 r2 : Rv) (v w : V), (∀ k, r1 ≠ .at k) → (∀ k, r2 ≠ .at k) → RvOk X.K W F1 H1 σ ρ1 r1 v → RvOk X.K W F1 H1 σ ρ1 r2 w → (∀ d e, r1 = .fr d → r2 = .fr e → v ≠ w) → ((store i r1 ρ1).bind fun ρ2 => (store j r2 ρ2).bind fun ρ3 => some (Out.nx ρ3)) = some o →
      D.nx ((σ.set i (some v)).set j (some w)) H1 := by
    intro r1 r2 v w n1 n2 o1 o2 hne e
    simp only [Option.bind_eq_some_iff] at e
    obtain ⟨ρ2, e3, ρ3, e4, e5⟩ := e
    cases e5
    obtain ⟨R2, hl, c, ec, hown⟩ := store_na R1 n1 o1 e3
    have o2' : RvOk X.K W F1 H1 (σ.set i (some v)) ρ2 r2 w := by
      cases r2 with
      | val d => exact o2
      | «at» k => exact absurd rfl (n2 k)
      | fr d =>
        refine ⟨o2.1, fun k e he ow => ?_⟩
        rw [ec] at he
        rcases set_get he with ⟨rfl, z⟩ | ⟨hk, z⟩
        · cases z
          obtain ⟨d1, hd1⟩ := hown ow
          rw [List.getElem?_set_self hl]
          exact fun z => hne d1 d hd1 rfl (Option.some.inj (Option.some.inj z))
        · rw [List.getElem?_set_ne (fun z => hk z.symm)]
          exact o2.2 k e z ow
    obtain ⟨R3, _⟩ := store_na R2 n2 o2' e4
    exact q _ H1 F1 x1 R3
  have go : ∀ (r1 r2 : Rv), (∀ k, r1 ≠ .at k) → (∀ k, r2 ≠ .at k) → MOk X.K W F1 H1 σ ρ1 ms [r1, r2] vs → ((store i r1 ρ1).bind fun ρ2 => (store j r2 ρ2).bind fun ρ3 => some (Out.nx ρ3)) = some o → ∃ v w, vs = [v, w] ∧ D.nx ((σ.set i (some v)).set j (some w)) H1 := by
    intro r1 r2 n1 n2 m e
    obtain ⟨v, w, rfl, o1, o2, ne⟩ := mok2 n1 n2 m
    exact ⟨v, w, rfl, main r1 r2 v w n1 n2 o1 o2 ne e⟩
  split at e2
  · exact go _ _ (fun _ z => by cases z) (fun _ z => by cases z) m e2
  · exact go _ _ (fun _ z => by cases z) (fun _ z => by cases z) m e2
  · exact go _ _ (fun _ z => by cases z) (fun _ z => by cases z) m e2
  · exact go _ _ (fun _ z => by cases z) (fun _ z => by cases z) m e2
  · cases e2
theorem ds_par2 {i j : Nat} {x y : Str} {a b : Expr} {ms : List Md} {f : SemM} {px py pt pos : Pos} {kt k2 pt2} (hc : X.calm = true) (hN : X.N.Nodup) (hi : X.N[i]? = some x) (hj : X.N[j]? = some y)
    (hx : Loc X.env.scope x) (hy : Loc X.env.scope y) (ha : DM X [a, b] ms f)
    (hs : swapsWithSole [.Tuple [.Name x px, .Name y py] kt pt] (.Tuple [a, b] k2 pt2) pos.line X.env = pure false := by rfl) (hw : swappedStores [.Tuple [.Name x px, .Name y py] kt pt] (.Tuple [a, b] k2 pt2) X.env = pure none := by rfl)
    (h1 : (assignEach [.Tuple [.Name x px, .Name y py] kt pt] X.env).map (·.2) = [assign (.Tuple [.Name x px, .Name y py] kt pt) X.env] := by rfl)
    (hn : (assignEach [.Name x px, .Name y py] X.env).length = 2 := by rfl) (hst : (assignEach [.Name x px, .Name y py] X.env).findIdx? (·.1) = none := by rfl)
    (hs1 : (assignEach [.Name x px, .Name y py] X.env).map (·.2) = assign (.Name x px) X.env :: (assignEach [.Name y py] X.env).map (·.2) := by rfl) (hs2 : (assignEach [.Name y py] X.env).map (·.2) = assign (.Name y py) X.env :: (assignEach [] X.env).map (·.2) := by rfl)
    (hf1 : X.fn x = true ∨ X.env.scope.names.lookup x = some .local := by first | exact .inl rfl | exact .inr rfl) (hf2 : X.fn y = true ∨ X.env.scope.names.lookup y = some .local := by first | exact .inl rfl | exact .inr rfl) :
    DS X (.Assign [.Tuple [.Name x px, .Name y py] kt pt] (.Tuple [a, b] k2 pt2) pos) (sPar i j f) := by
  refine ⟨(ps_asg (pe_tup ha.pa) (pg_tup hc (pgs_cons (pg_name hN hi hx hf1) (pgs_cons (pg_name hN hj hy hf2) pgs_nil hs2) hs1) hn hst) hs hw h1).pvi fun D σ H q => ?_⟩
  obtain ⟨P, W, F, ρ, o, R, e, q⟩ := q
  simp only [sPar, Option.bind_eq_some_iff, Prod.exists] at e
  obtain ⟨rs, ρ1, e1, e2⟩ := e
  refine ⟨P, W, F, ρ, rs, ρ1, R, e1, fun vs H1 F1 x1 R1 m => ?_⟩
  have main : ∀ (r1 r2 : Rv) (v w : V), (∀ k, r1 ≠ .at k) → (∀ k, r2 ≠ .at k) → RvOk X.K W F1 H1 σ ρ1 r1 v → RvOk X.K W F1 H1 σ ρ1 r2 w → (∀ d e, r1 = .fr d → r2 = .fr e → v ≠ w) → ((store i r1 ρ1).bind fun ρ2 => (store j r2 ρ2).bind fun ρ3 => some (Out.nx ρ3)) = some o →
      ∀ p, H1 p = none → D.nx ((σ.set i (some v)).set j (some w)) (upd H1 p (.tup [v, w])) := by
    intro r1 r2 v w n1 n2 o1 o2 hne e p hp
    simp only [Option.bind_eq_some_iff] at e
    obtain ⟨ρ2, e3, ρ3, e4, e5⟩ := e
    cases e5
    obtain ⟨R2, hl, c, ec, hown⟩ := store_na R1 n1 o1 e3
    have o2' : RvOk X.K W F1 H1 (σ.set i (some v)) ρ2 r2 w := by
      cases r2 with
      | val d => exact o2
      | «at» k => exact absurd rfl (n2 k)
      | fr d =>
        refine ⟨o2.1, fun k e he ow => ?_⟩
        rw [ec] at he
        rcases set_get he with ⟨rfl, z⟩ | ⟨hk, z⟩
        · cases z
          obtain ⟨d1, hd1⟩ := hown ow
          rw [List.getElem?_set_self hl]
          exact fun z => hne d1 d hd1 rfl (Option.some.inj (Option.some.inj z))
        · rw [List.getElem?_set_ne (fun z => hk z.symm)]
          exact o2.2 k e z ow
    obtain ⟨R3, _⟩ := store_na R2 n2 o2' e4
    exact q _ _ F1 x1 (R3.grow (Grow.heap R3.fh hp (.tup [v, w])))
  have go : ∀ (r1 r2 : Rv), (∀ k, r1 ≠ .at k) → (∀ k, r2 ≠ .at k) → MOk X.K W F1 H1 σ ρ1 ms [r1, r2] vs → ((store i r1 ρ1).bind fun ρ2 => (store j r2 ρ2).bind fun ρ3 => some (Out.nx ρ3)) = some o →
      vs.length ≤ sizeLine ∧ ∀ p, H1 p = none → gTup X.K 2 (gCons (gName i) (gCons (gName j) gNil)) (.ref p) σ (upd H1 p (.tup vs)) D.nx := by
    intro r1 r2 n1 n2 m e
    obtain ⟨v, w, rfl, o1, o2, ne⟩ := mok2 n1 n2 m
    exact ⟨by show 2 ≤ sizeLine; decide, fun p hp => ⟨p, [v, w], rfl, .inl (.inl upd_same), rfl, v, [w], rfl, w, [], rfl, rfl, main r1 r2 v w n1 n2 o1 o2 ne e p hp⟩⟩
  split at e2
  · exact go _ _ (fun _ z => by cases z) (fun _ z => by cases z) m e2
  · exact go _ _ (fun _ z => by cases z) (fun _ z => by cases z) m e2
  · exact go _ _ (fun _ z => by cases z) (fun _ z => by cases z) m e2
  · exact go _ _ (fun _ z => by cases z) (fun _ z => by cases z) m e2
  · cases e2
end
end Pv
end
section
set_option Elab.async false
set_option linter.all false
set_option maxRecDepth 100000
set_option maxHeartbeats 1000000
namespace Pv
open PySem PySem.Spec PyProof.Rows L2 PySem.W

abbrev OpL := D → List D → Option (D × Bool)
def sMeth (T : String) (o : OpL) (f : SemE) (g : SemA) : SemE := fun ρ => (f ρ).bind fun (r, ρ1) => (look ρ1 (settle r)).bind fun d0 => if kindB T d0 = true then (g ρ1).bind fun (ds, ρ2) => (look ρ2 (settle r)).bind fun d => (o d ds).bind fun zb => some (mkR zb, ρ2) else none
section
variable {X : Cx} {e : Expr} {es : List Expr} {name x : Str} {apos cpos pos npos : Pos} {id : String} {i : Nat} {o : OpL} {f : SemE} {g : SemA} {e0 : Expr}
def indexL : OpL
  | .list ds, [d] => if (SeqAt.shaped (.list ds) && SeqAt.shaped d) = true then (ds.findIdx? fun z => PyData.eqv z d).map fun j => (.int (j : Nat), false) else none
  | _, _ => none
def dmerge (es fs : List (D × D)) : Option (List (D × D)) := match fs with
  | [] => some es
  | (k, d) :: r => (keyOf k).bind fun k' => dmerge (dput es k' d) r
theorem RpD.merge {K : Fr'} {F : Hp} {more : List (Key × V)} {fs es gs : List (D × D)} {kvs : List (Key × V)} (h1 : RpD K F more fs) (h : RpD K F kvs es) (e : dmerge es fs = some gs) : RpD K F (mergeK kvs more) gs := by
  induction more generalizing fs es kvs with
  | nil => cases h1; cases e; exact h
  | cons p more ih =>
    cases h1 with
    | @cons k v0 _ d0 fs r t =>
    simp only [dmerge, keyOf_keyD, Option.bind_some] at e
    exact ih t (h.put r) e
def updateM : OpM
  | .dict es, [.dict fs] => if es.length + fs.length ≤ sizeLine then (dmerge es fs).map fun gs => (.dict gs, .none) else none
  | _, _ => none
theorem mt_updateD : MtR X "dict.update" (rM X.K updateM) := by
  intro pins s σ H x xs v us Q I rx rs h
  obtain ⟨F, a, d, ds, d', z, rfl, l, fa, q1, rp, e, q⟩ := h
  unfold updateM at e
  split at e
  · next es fs =>
    split at e
    · next hz =>
      simp only [Option.map_eq_some_iff] at e
      obtain ⟨gs, e1, e2⟩ := e
      cases e2
      obtain ⟨kvs, hH, ry⟩ := q1.dctE
      cases rp with | cons r0 rn =>
      cases rn
      cases r0 with
      | @dic b lvs _ sq r2 =>
      cases rx
      cases rs with | cons ru rn =>
      cases rn
      cases ru
      have hne : a ≠ b := by
        intro z
        subst z
        rcases sq with y | ⟨o, y⟩ <;> (rw [fa] at y; cases y)
      obtain ⟨z1, hd1, vs1, rel1, dd1⟩ := dk_of I.hok hH
      obtain ⟨z2, hd2, vs2, rel2, dd2⟩ := dk_rd I.hok (l.rd sq)
      have hsz : vs1.length + vs2.length ≤ sizeLine := by rw [← rel1.length, ← rel2.length, ry.length, r2.length]; exact hz
      refine call_meetsIn PySem.F.slot_dict_update dd1.typeIs PySem.F.entry_dict_update (PySem.F.args_dict_update_2 _ _) (meets_dict_update (mixKind X.prog X.w) a b hne hd2) ⟨vs1, vs2, dd1, dd2, hsz, fun h' dm _ hs => ?_⟩
      have rel : KV (mergeK kvs lvs) (merged vs1 vs2) := KV.merge rel2 rel1
      refine ⟨.non, _, d_write (t' := s.toks) (ob := .dK (mergeK kvs lvs)) I (by rw [hH]; trivial) hs ⟨_, dm.choose_spec.choose_spec.choose_spec.1⟩ (dk_new (Nat.le_trans (length_mergeK lvs kvs) (by rw [ry.length, r2.length]; exact hz)) hd1 rel dm), rfl, q _ _ (RpD.merge r2 ry e1) .non⟩
    · cases e
  · cases e
end
end Pv
end
section
set_option Elab.async false
set_option linter.all false
set_option maxRecDepth 100000
set_option maxHeartbeats 1000000
namespace Pv
open PySem PySem.Spec PyProof.Rows L2 PySem.W

structure Cal (P : Program) (w : World) (K : Fr') (mg : Str → Option Value) (base : Heap) (x : Str) (k : Nat) (ps : List Str) (ms : List Md) (fn : Fn) : Prop where
  ex : ∃ f fd, FnD P w K mg base k f fd ps ms fn ∧ Binds K fd ps [] ∧ PySem.W.keepIn K (.ref f) = true ∧ mg x = some (.ref f)
structure Here (K : Fr') (mg : Str → Option Value) (x : Str) (st : Stmt) : Prop where
  ex : ∃ f fd, Fun K x x st f fd ∧ mg x = some (.ref f)
section
variable {P : Program} {w : World} {K : Fr'} {mg : Str → Option Value} {base : Heap} {x : Str} {k : Nat} {ps N : List Str} {ms : List Md} {b : SemS} {st : Stmt}
theorem Here.mk_ {h : Heap} {f : Addr} {oc : Value} {od an : Option Addr} {osl : Array (Option Value)} {kV doc pm cdv ct : Value} (X : K.In h) (G : h.Ns mainGlobals mg) (a : PySem.W.nsIn K mainGlobals x = some (some (.ref f)))
    (l : K.lookup f = some ⟨oc, od, .func (PySem.W.fnOf x x (defArgs st) (defBody st) (defScope st) .none kV doc pm an cdv ct), osl⟩) (c : PySem.W.codeIn K cdv x = true) (kp : PySem.W.keepIn K (.ref f) = true) : Here K mg x st :=
  ⟨⟨f, _, fun_mk l c kp, PySem.W.mg_of X G a⟩⟩
theorem Cal.mk_ (h : Here K mg x st) (S : FnScope N ps (defScope st)) (hl : ps.length = ms.length)
    (hb : ∀ (kV doc pm : Value) (an : Option Addr) (cdv ct : Value) (us : List Value), us.length = ps.length → bindArgs (PySem.W.fnOf x x (defArgs st) (defBody st) (defScope st) .none kV doc pm an cdv ct) ⟨us, []⟩ = pure (ps.zip us))
    (hbody : ∀ (f : Addr) (cdv : Value) (A : Around) (outer : List Env) (s : Shared) (H : Hp) (E : XK), Room k (A.deeper (envOfC x (defScope st) s.heap.objs.size f cdv)) → A.guards = some [] → DSs (cxOf CX0 P w K mg base N x (defScope st) f cdv A outer s H E).nox (defBody st) b) :
    Cal P w K mg base x (k + 1) ps ms (fnOf N.length ms b) := by
  obtain ⟨f, fd, F, m⟩ := h.ex
  exact ⟨⟨f, fd, fnD_of F S hl (hbody f), F.binds hb, F.kp, m⟩⟩
end
section
variable {X : Cx} {k j : Nat} {x : Str} {ps : List Str} {ms : List Md} {fn : Fn} {e : Expr} {es : List Expr} {g : SemM} {p pos : Pos}
theorem de_cal (c : Cal X.prog X.w X.K X.mg X.base x j ps ms fn) (hr : Room k X.A) (hj : j ≤ k) (gd : X.A.guards = some []) (hg : Gl X x) (ha : DM X (e :: es) ms g) (hdb : (x == ("__debug__" : Str)) = false := by decide)
    (he : starEach (e :: es) X.env = (false, eval e X.env) :: starEach es X.env := by rfl) (hpl : (backTo pos (starEach es X.env)).any (·.1) = false := by rfl) : DE X (.Call (.Name x p) (e :: es) [] pos) (sCall ms fn g) := by
  obtain ⟨f, fd, F, b, kp, m⟩ := c.ex
  exact de_call (F.mono hj) hr gd hg m kp b ha hdb he hpl
def sNeg (f : SemE) : SemE := fun ρ => (f ρ).bind fun (r, ρ1) => (look ρ1 (settle r)).bind fun d => (asI d).bind fun i => some (.val (.int (-i)), ρ1)
theorem de_neg {a : Expr} {f : SemE} (ha : DE X a f) : DE X (.UnaryOp .USub a pos) (sNeg f) := by
  refine ⟨(pe_un un_neg ha.pe).pvi fun σ H Q q => ?_⟩
  obtain ⟨P, W, F, ρ, r, ρ', R, ev, q⟩ := q
  simp only [sNeg, Option.bind_eq_some_iff, Prod.exists] at ev
  obtain ⟨r1, ρ1, e1, d, e2, i, e3, e4⟩ := ev
  cases e4
  refine ⟨P, W, F, ρ, r1, _, R, e1, fun v H1 F1 x1 R1 o1 => ?_⟩
  obtain ⟨F2, x2, R2, o2⟩ := R1.settle o1
  have lk := R2.lk o2 e2
  rw [asI_eq e3] at lk
  exact ⟨i, lk.int, q _ H1 F2 (x1.trans x2) R2 (.int _)⟩
theorem de_gint {i : Int} (hg : Gl X x) (hm : ∃ t, X.mg x = some (.int i t)) (hd : (x == ("__debug__" : Str)) = false := by decide) : DE X (.Name x pos) (sC (.int i)) := by
  obtain ⟨t, hm⟩ := hm
  exact de_c (pe_glob (v := .int i) hg hm ⟨t, rfl⟩ hd) fun _ => .int i
theorem de_gstr {i : Str} (hg : Gl X x) (hm : ∃ t, X.mg x = some (.str i t)) (hd : (x == ("__debug__" : Str)) = false := by decide) : DE X (.Name x pos) (sC (.str i)) := by
  obtain ⟨t, hm⟩ := hm
  exact de_c (pe_glob (v := .str i) hg hm ⟨t, rfl⟩ hd) fun _ => .str i
end
end Pv
end
section
set_option Elab.async false
set_option linter.all false
set_option maxRecDepth 100000
set_option maxHeartbeats 1000000
namespace Pv
open PySem PySem.Spec PyProof.Rows L2 HT
section
variable {prog : Program} {w : World} {A : Around} {E : Value → Shared → Prop} {s : Shared}
end
section
variable {X : Cx}
end
end Pv
end
section
set_option Elab.async false
set_option linter.all false
set_option maxRecDepth 100000
set_option maxHeartbeats 1000000
namespace Pv
open PySem PySem.Spec PyProof.Rows L2 PySem.W

theorem hu_room {A : Around} {k : Nat} (hr : Room k A) : A.units + 100 < cLine := by
  have := hr.un
  omega
theorem hu64 {n : Nat} (h : n + 100 < cLine) : n + 64 < cLine := by omega
theorem hu65 {n : Nat} (h : n + 100 < cLine) : n + 65 < cLine := by omega
theorem hu1 {n : Nat} (h : n + 100 < cLine) : n + 1 < cLine := by omega
theorem pass_nox {M : Model} {A : Around} {env : Env} : PassesOwn M A env (fun _ _ => False) := PassesOwn.never
section
variable {X : Cx} {x : Str} {pos p q0 : Pos}
theorem or_eqH (hu : X.A.units + 100 < cLine) : OpR X (compareOp .Eq) (rS X.K eqF) := or_eq (hu65 hu)
theorem or_neH (hu : X.A.units + 100 < cLine) : OpR X (compareOp .NotEq) (rS X.K neF) := or_ne (hu64 hu)
theorem or_inH (hu : X.A.units + 100 < cLine) : OpR X (compareOp .In) (rS X.K inF) := or_in (hu65 hu)
theorem or_notInH (hu : X.A.units + 100 < cLine) : OpR X (compareOp .NotIn) (rS X.K notInF) := or_notIn (hu65 hu)

def scrAt (ρ : Ro) (i : Nat) : Option (List D) := match ρ[i]? with
  | some (some (.scr ds)) => some ds
  | _ => none
theorem Rel.scr {K : Fr'} {P : List (Nat × Addr)} {W F H : Hp} {σ : St} {ρ : Ro} {i : Nat} {ds : List D} (R : Rel K P W F H σ ρ) (h : scrAt ρ i = some ds) : ∃ a xs, σ[i]? = some (some (.ref a)) ∧ SqL K F a xs ∧ RpA K F xs ds := by
  unfold scrAt at h
  split at h
  · next es e =>
    cases h
    obtain ⟨v, hv, a, xs, rfl, s, r⟩ := R.cell i _ e
    exact ⟨a, xs, hv, s, r⟩
  · cases h
def sLenScr (i : Nat) : SemE := fun ρ => (scrAt ρ i).bind fun ds => some (.val (.int ds.length), ρ)
theorem de_lenScr {i : Nat} (hg : Gl X "len") (hm : X.mg "len" = none) (hx : PE X (.Name x q0) (tVar i)) (hs : starEach [.Name x q0] X.env = (false, eval (.Name x q0) X.env) :: starEach [] X.env := by rfl) (hpl : (backTo pos (starEach [] X.env)).any (·.1) = false := by rfl) :
    DE X (.Call (.Name "len" p) [.Name x q0] [] pos) (sLenScr i) := by
  refine ⟨(pe_callB (pos := pos) (p := p) call_len hg hm rfl (pa_cons hx pa_nil hs) (by decide) (by decide) hs hpl).pvi fun σ H Q q => ?_⟩
  obtain ⟨P, W, F, ρ, r, ρ', R, ev, q⟩ := q
  simp only [sLenScr, Option.bind_eq_some_iff] at ev
  obtain ⟨ds, e1, e2⟩ := ev
  cases e2
  obtain ⟨a, xs, hv, s, r⟩ := R.scr e1
  refine ⟨_, hv, .ref a, xs.length, rfl, .inl ⟨xs, R.fh.sql s, rfl⟩, ?_⟩
  rw [r.length]
  exact q _ H F (Ext.refl _ _) R (.int _)
def sIxScr (i : Nat) (f : SemE) : SemE := fun ρ => (scrAt ρ i).bind fun _ => (f ρ).bind fun (r, ρ1) => (look ρ1 r).bind fun d => (asI d).bind fun k => (scrAt ρ1 i).bind fun ds => (atI ds k).bind fun z => some (.val z, ρ1)
theorem de_ixScr {i : Nat} {e : Expr} {f : SemE} (hx : PE X (.Name x q0) (tVar i)) (he : DE X e f) (hs : PlainIx e := by intro _ _; rfl) : DE X (.Subscript (.Name x q0) e pos) (sIxScr i f) := by
  refine ⟨(pe_ix (ix_list (X := X)) hx he.pe hs).pvi fun σ H Q q => ?_⟩
  obtain ⟨P, W, F, ρ, r, ρ', R, ev, q⟩ := q
  simp only [sIxScr, Option.bind_eq_some_iff, Prod.exists] at ev
  obtain ⟨ds0, e0, r1, ρ1, e1, d, e2, k, e3, ds, e4, z, e5, e6⟩ := ev
  cases e6
  obtain ⟨a, xs, hv, s, r⟩ := R.scr e0
  refine ⟨_, hv, P, W, F, ρ, r1, _, R, e1, fun v H1 F1 x1 R1 o1 => ?_⟩
  have lk := R1.lk o1 e2
  rw [asI_eq e3] at lk
  obtain ⟨a', xs', hv', s', r'⟩ := R1.scr e4
  rw [hv] at hv'
  cases hv'
  obtain ⟨u, hu, rp⟩ := r'.at e5
  exact ⟨a, xs', k, u, rfl, lk.int, R1.fh.sql s', hu, q _ H1 F1 x1 R1 rp⟩

theorem vals_chars {x : Str} {us : List Value} (hl : us.length = x.cps.size) (h : ∀ (i : Nat) (v : Value), us[i]? = some v → SignAt x i v) : Vals ((x.cps.toList.map fun c => (⟨#[c]⟩ : Str)).map V.str) us := by
  have go : ∀ (cs : List Nat) (us : List Value), us.length = cs.length → (∀ (i : Nat) (v : Value), us[i]? = some v → ∃ c u, cs[i]? = some c ∧ v = .str ⟨#[c]⟩ u) → Vals ((cs.map fun c => (⟨#[c]⟩ : Str)).map V.str) us := by
    intro cs
    induction cs with
    | nil =>
      intro us hl _
      cases us with
      | nil => exact .nil
      | cons _ _ => cases hl
    | cons c cs ih =>
      intro us hl h
      cases us with
      | nil => cases hl
      | cons v us =>
        obtain ⟨c', u, h1, h2⟩ := h 0 v rfl
        cases h1
        subst h2
        refine .cons ⟨u, rfl⟩ (ih us (by simpa using hl) fun i w hw => ?_)
        obtain ⟨c', u', h1, h2⟩ := h (i + 1) w (by simpa using hw)
        exact ⟨c', u', by simpa using h1, h2⟩
  refine go x.cps.toList us (by rw [Array.length_toList]; exact hl) fun i v hv => ?_
  obtain ⟨c, u, h1, h2⟩ := h i v hv
  exact ⟨c, u, by rw [Array.getElem?_toList]; exact h1, h2⟩
def tupleF2 : OpN
  | [.str x] => if x.cps.size ≤ sizeLine then some (.tuple (charsD x), false) else none
  | ds => tupleF ds
theorem cr_tuple2 (hc : X.calm = true) : CallR X (.type "tuple") (rCS X.K tupleF2) := by
  intro pins s σ H xs us Q I r h
  obtain ⟨F, ds, zb, l, ls, e, q⟩ := h
  unfold tupleF2 at e
  split at e
  · next x =>
    cases ls with | cons lk ln =>
    cases ln
    split at e
    · next hz =>
      cases e
      rw [lk.str] at r
      obtain ⟨u, rfl, t, rfl⟩ := vals1 r
      refine call_tuple_str (I.ok.hd hc) x t (fun h' tk acc k it => ?_) hz
      have rv : Vals ((x.cps.toList.map fun c => (⟨#[c]⟩ : Str)).map V.str) acc.toList := vals_chars (by rw [Array.length_toList]; exact it.1) fun i v hv => it.2 i v (by rw [← Array.getElem?_toList]; exact hv)
      have I1 : Inv X pins σ H { s with heap := h', toks := tk } := I.kept k
      have hz2 : ((x.cps.toList.map fun c => (⟨#[c]⟩ : Str)).map V.str).length ≤ sizeLine := by rw [List.length_map, List.length_map, Array.length_toList]; exact hz
      suffices rp : RpA X.K F ((x.cps.toList.map fun c => (⟨#[c]⟩ : Str)).map V.str) (charsD x) by
        have done := new_tupS (s := { s with heap := h', toks := tk }) I1 rv hz2 (Post.tup l rp q)
        rw [Array.toArray_toList] at done
        exact done
      have := RpA.ofStrs (K := X.K) (F := F) (x.cps.toList.map fun c => (⟨#[c]⟩ : Str))
      unfold charsD
      rw [List.map_map] at this ⊢
      rw [List.map_map] at this
      exact this
    · cases e
  · exact cr_tupleD pins s σ H xs us Q I r ⟨F, _, zb, l, ls, e, q⟩
def revF : D → Option (D × Bool)
  | .list ds => some (.list ds.reverse, true)
  | .tuple ds => some (.tuple ds.reverse, false)
  | _ => none
def sRev (f : SemE) : SemE := fun ρ => (f ρ).bind fun (r, ρ1) => (look ρ1 (settle r)).bind fun d => (revF d).bind fun zb => some (mkR zb, ρ1)
section
variable {e tg a b c : Expr} {f : SemE} {fa : SemA} {fp : SemP} {i : Nat} {pos' apos cpos tpos : Pos} {elts : List Expr} {kk : Nat}
theorem dw_dt {h : SemT} (k : DW X e h) : DT X e h := k.dt
theorem ds_setN (hN : X.N.Nodup) (hi : X.N[i]? = some x) (hx : Loc X.env.scope x) (he : DE X e f) (hs : swapsWith e (some (.Name x pos')) pos.line X.env = pure false := by rfl)
    (hf : X.fn x = true ∨ X.env.scope.names.lookup x = some .local := by first | exact .inl rfl | exact .inr rfl | assumption) : DS X (.Assign [.Name x pos'] e pos) (sSet i f) := ds_set (ps_set hN hi hx he.pe hs hf)
theorem di_anyW (h : DE X e f) : DI X tg e (iOf walkOf f) := di_any h (pi_list h.pe) (pi_tup h.pe) (pi_str h.pe) (pi_keys (pe_lk h.pe))
theorem di_itemsW (h : DE X e f) (hbase : attributeBase e "items" X.env (eval e X.env) = eval e X.env := by rfl) (hline : (apos.endLine == cpos.line) = true := by rfl) : DI X (.Tuple elts kk tpos) (.Call (.Attribute e "items" apos) [] [] cpos) (iOf itemsOf f) := di_items (pi_items (pe_lk h.pe) hbase hline)
theorem di_valuesW (h : DE X e f) (hbase : attributeBase e "values" X.env (eval e X.env) = eval e X.env := by rfl) (hline : (apos.endLine == cpos.line) = true := by rfl) : DI X tg (.Call (.Attribute e "values" apos) [] [] cpos) (iOf valsOf f) := di_values (pi_values (pe_lk h.pe) hbase hline)
theorem di_rangeW1 (hg : Gl X "range") (hm : X.mg "range" = none) (h : DP X [a] fp) (hs : starEach [a] X.env = [(false, eval a X.env)] := by rfl) : DI X tg (.Call (.Name "range" p) [a] [] pos) (iR1 fp) := di_range1 h (pi_range1 hg hm h.pa hs)
theorem di_rangeW3 (hg : Gl X "range") (hm : X.mg "range" = none) (h : DP X [a, b, c] fp) (hs : starEach [a, b, c] X.env = (false, eval a X.env) :: starEach [b, c] X.env := by rfl) (hpl : (backTo pos (starEach [b, c] X.env)).any (·.1) = false := by rfl) : DI X tg (.Call (.Name "range" p) [a, b, c] [] pos) (iR3 fp) := di_range3 (pi_range3 hg hm h.pa hs hpl)
theorem di_zipW (hg : Gl X "zip") (hm : X.mg "zip" = none) (h : DA X [a, b] fa) (hs : starEach [a, b] X.env = (false, eval a X.env) :: starEach [b] X.env := by rfl) (hpl : (backTo pos (starEach [b] X.env)).any (·.1) = false := by rfl) : DI X (.Tuple elts kk tpos) (.Call (.Name "zip" p) [a, b] [] pos) (iZp fa) := di_zip (RZ.pi_zipA hg hm h.pa hs hpl)
end
end
end Pv
end
section
set_option Elab.async false
set_option linter.all false
set_option maxRecDepth 100000
set_option maxHeartbeats 1000000
namespace Pv
open PySem PySem.Spec PyProof.Rows L2 PySem.W

def scriptH (a : Addr) (vs : List Value) (ns : List Int) : Hp := fun b => if b = a then some (.frz { cls := .type "list", data := .seq vs.toArray } (.lst (ns.map V.int))) else none
theorem rp_ints {K : Fr'} {F : Hp} : ∀ ns : List Int, RpA K F (ns.map V.int) (ns.map PyData.int)
  | [] => .nil
  | n :: ns => .cons (.int n) (rp_ints ns)
theorem sp_script {K : Fr'} {H : Hp} {a : Addr} {ns : List Int} {fn : Fn} (hS : SqL K H a (ns.map V.int)) (h : fn [.list (ns.map PyData.int)] = some ((.bool true, false), [])) : spF K [.s] fn [.ref a] H (fun v _ => v = .bl true) fun _ _ _ => False := by
  have w0 : Same (fun _ => Option.none) H := fun b o e => nomatch (show (Option.none : Option HO) = some o from e)
  refine ⟨fun _ => Option.none, H, [.list (ns.map PyData.int)], (.bool true, false), [], Le.refl H, w0, fun b e => absurd rfl e, ⟨⟨_, a, _, rfl, rfl, hS, rp_ints ns⟩, trivial⟩, h, fun v H' F' x l s p r => ?_⟩
  cases r
  rfl
theorem law_callG {P : Program} {w : World} {K : Fr'} {mg mb : Str → Option Value} {k : Nat} {fa a : Addr} {x nm : Str} {fn : Fn} {s₁ : Shared} {vs : List Value} {ns : List Int}
    (KX : K.In s₁.heap) (hns : s₁.heap.Ns mainGlobals mg) (hb : s₁.heap.Ns builtinsNs mb) (hbb : ∀ x : Str, x ≠ "__name__" → mb x = bootBuiltins x) (hlim : s₁.heap.NoLimit) (hg : s₁.gens = #[])
    (ha : s₁.heap.get? a = some { cls := .type "list", data := .seq vs.toArray }) (hi : IntsAre vs ns) (hl : ns.length ≤ sizeLine) (hr : Room k callerA)
    (C : ∀ base : Heap, K.In base → base.Ns mainGlobals mg → Cal P w K mg base nm k [x] [.s] fn) (hm : mg nm = some (.ref fa)) (hfn : fn [.list (ns.map PyData.int)] = some ((.bool true, false), [])) :
    codeAny (model P w) callerA (.call (.ref fa) ⟨[.ref a], []⟩) (fun r s' => r = .ok (.ret (.bool true)) ∧ OldK s₁.heap s'.heap ∧ s'.os = s₁.os ∧ AllBare s'.gens) s₁ := by
  have rv := vals_ints hi
  have body : ∀ H : Hp, (∀ b, H b = none ∨ ∃ o xs, H b = some (.frz o (.lst xs))) → SqL K H a (ns.map V.int) → HOk P w H s₁.heap → (∀ b, H b ≠ none → b = a ∧ K.lookup a = none) →
      codeAny (model P w) callerA (.call (.ref fa) ⟨[.ref a], []⟩) (fun r s' => r = .ok (.ret (.bool true)) ∧ OldK s₁.heap s'.heap ∧ s'.os = s₁.os ∧ AllBare s'.gens) s₁ := by
    intro H hO hS hok hA
    have dictFree : ∀ {b : Addr} {o : Obj} {es : Array DictEntry} {ep : Nat}, s₁.heap.get? b = some o → o.data = .dict es ep → H b = none := by
      intro b o es ep e d
      cases q : H b with
      | none => rfl
      | some u =>
        have e' := (hA b (by rw [q]; exact fun z => nomatch z)).1
        rw [e', ha] at e
        cases e
        exact nomatch (show Data.seq vs.toArray _ = Data.dict es ep from d)
    have nsOf : ∀ {b : Addr} {m : Str → Option Value}, s₁.heap.Ns b m → (hidT s₁.heap H).Ns b m := by
      intro b m ⟨o, es, ep, e, d, r⟩
      exact ⟨o, es, ep, hidT_get e (dictFree e d), d, r⟩
    have kin : K.In (hidT s₁.heap H) := by
      intro b o e
      refine hidT_get (KX b o e) ?_
      cases q : H b with
      | none => rfl
      | some u =>
        obtain ⟨e1, e2⟩ := hA b (by rw [q]; exact fun z => nomatch z)
        rw [e1, e2] at e
        cases e
    have md : Mod K mg (hidT s₁.heap H) := ⟨kin, nsOf hns, ⟨mb, nsOf hb, hbb⟩, by obtain ⟨mc, h1, h2⟩ := hlim; exact ⟨mc, nsOf h1, h2⟩⟩
    have env : Env0 P w K mg (hidT s₁.heap H) callerA [] s₁ H := ⟨rfl, md, fun b o e => of_hidT e, Nat.le_of_eq (hidT_size _ _), trivial, fun b hb => absurd hb List.not_mem_nil, hok, .of_eq hg⟩
    obtain ⟨f, fd, F, bd, _, hm'⟩ := (C _ kin (nsOf hns)).ex
    rw [hm] at hm'
    cases hm'
    refine codeAny_mono (F.run callerA [] s₁ H ⟨[.ref a], []⟩ [.ref a] [.ref a] _ (fun _ _ _ => False) hr rfl env (by have := bd s₁ [.ref a] KX rfl; simpa using this) (.cons rfl .nil) (sp_script hS hfn)) fun r s' h => ?_
    cases r with
    | error e => exact h.elim
    | ok fl =>
      cases fl with
      | next => exact h.elim
      | brk => exact h.elim
      | cont => exact h.elim
      | ret u =>
        obtain ⟨v, H', os, bare, un, hok', r', q⟩ := h
        subst q
        cases r'
        refine ⟨rfl, OldK.of_keep fun b o e => ?_, os, bare⟩
        rcases hO b with z | ⟨ob, xs, z⟩
        · exact un.keep b o e z List.not_mem_nil List.not_mem_nil
        · have z2 := un.frzs b ob _ z
          obtain ⟨e1, _⟩ := hok b _ z
          obtain ⟨e2, _⟩ := hok' b _ z2
          rw [e] at e1
          cases e1
          exact e2
  cases hk : K.lookup a with
  | some o =>
    have e := KX a o hk
    rw [ha] at e
    cases e
    exact body (fun _ => none) (fun _ => .inl rfl) (.inr ⟨_, vs.toArray, _, hk, rfl, rfl, rfl, by rw [List.size_toArray, hi.length]; exact hl, by simpa using rv⟩) (fun b u z => nomatch (show (none : Option HO) = some u from z)) fun b z => absurd rfl z
  | none =>
    have at_ : scriptH a vs ns a = some (.frz { cls := .type "list", data := .seq vs.toArray } (.lst (ns.map V.int))) := if_pos rfl
    have off : ∀ b, b ≠ a → scriptH a vs ns b = none := fun b hb => if_neg hb
    refine body (scriptH a vs ns) (fun b => ?_) (.inl (.inr ⟨_, at_⟩)) (fun b u z => ?_) fun b z => ⟨?_, hk⟩
    · by_cases e : b = a
      · rw [e]; exact .inr ⟨_, _, at_⟩
      · exact .inl (off b e)
    · by_cases e : b = a
      · subst e
        rw [at_] at z
        cases z
        exact ⟨ha, by rw [List.length_map]; exact hl, vs, _, rv, ha⟩
      · rw [off b e] at z
        cases z
    · exact Classical.byContradiction fun e => z (off b e)
theorem walk_ofG {l : PySem.W.OpenLaw} {n k : Nat} {q : Program} {loose : List Str} {XP : (Str → Option Value) → Heap → Prop} {YP : World → Heap → Prop} {d : DefRec} {K : Params → PySem.W.Frag} {fn : Fn} {x : Str}
    (hn : l.most = some n) (hn2 : n ≤ sizeLine) (hdf : d.params.defaults = []) (hr : Room k callerA) (hY : ∀ (w : World) (h : Heap), YP w h → (K w.params).In h)
    (F : ∀ (w : World) (mg : Str → Option Value) (h : Heap), (K w.params).In h → h.Ns mainGlobals mg → ∀ base : Heap, (K w.params).In base → base.Ns mainGlobals mg → Cal l.prog w (K w.params) mg base d.name k [x] [.s] fn)
    (hfn : ∀ ns : List Int, ns.length ≤ n → (∀ z ∈ ns, Builtin.Int.intBits z ≤ 1048576) → fn [.list (ns.map PyData.int)] = some ((.bool true, false), [])) :
    PySem.W.WalkO q loose XP YP l.row.toRowW d [] (fun f vs => PySem.call f vs) := by
  refine Att.attach_callB hn hdf fun w s₀ s₁ mg mb fa o pm cd doc a vs ns G Y ho hd hcd hmg hobj hints hlen hbits hg => ?_
  have KX := hY w _ Y
  exact law_callG KX G.T.g G.T.b G.T.builtins G.T.nolimit hg hobj hints (Nat.le_trans hlen hn2) hr (F w mg _ KX G.T.g) hmg (hfn ns hlen hbits)
end Pv
end
section
set_option Elab.async false
set_option linter.all false
set_option maxRecDepth 100000
set_option maxHeartbeats 1000000
namespace Pv
open PySem

section
variable {g : SemG} {t : SemT} {el : SemE} {vs : List Nat} {ρ : Ro}
theorem lcL_map {h : D → D} : ∀ {ds : List D} {n : Nat}, (∀ d ∈ ds, ∃ ρ1 r, g d ρ = some ρ1 ∧ t ρ1 = some (true, ρ1) ∧ el ρ1 = some (r, ρ1) ∧ frz ρ1 r = some (h d, ρ1) ∧ wipeR ρ1 vs = ρ) → n + ds.length ≤ sizeLine → lcL g t el vs ds n ρ = some (ds.map h, ρ)
  | [], _, _, _ => rfl
  | d :: ds, n, k, hz => by
    obtain ⟨ρ1, r, e1, e2, e3, e4, e5⟩ := k d List.mem_cons_self
    have lt : n < sizeLine := by rw [List.length_cons] at hz; omega
    simp only [lcL, e1, e2, e3, e4, e5, Option.bind_some, if_pos, lt]
    rw [lcL_map (fun x hx => k x (List.mem_cons_of_mem _ hx)) (by rw [List.length_cons] at hz; omega)]
    rfl
theorem dcL_map {kf vf : SemE} {hk : D → L2.Key} {h : D → D} : ∀ {ds : List D} {es : List (D × D)}, (∀ d ∈ ds, ∃ ρ1 r r2, g d ρ = some ρ1 ∧ t ρ1 = some (true, ρ1) ∧ kf ρ1 = some (r, ρ1) ∧ frz ρ1 r = some (keyD (hk d), ρ1) ∧ vf ρ1 = some (r2, ρ1) ∧ frz ρ1 r2 = some (h d, ρ1) ∧ wipeR ρ1 vs = ρ) →
    (∀ (a b : List D), ds = a ++ b → (a.foldl (fun es d => dput es (hk d) (h d)) es).length < sizeLine) → dcL g t kf vf vs ds es ρ = some (ds.foldl (fun es d => dput es (hk d) (h d)) es, ρ)
  | [], _, _, _ => rfl
  | d :: ds, es, k, hz => by
    obtain ⟨ρ1, r, r2, e1, e2, e3, e4, e5, e6, e7⟩ := k d List.mem_cons_self
    have lt : es.length < sizeLine := hz [] (d :: ds) rfl
    simp only [dcL, e1, e2, e3, e4, keyOf_keyD, e5, e6, e7, Option.bind_some, if_pos, lt]
    exact dcL_map (fun x hx => k x (List.mem_cons_of_mem _ hx)) fun a b e => hz (d :: a) b (by rw [e]; rfl)
end
theorem asBls_map {α : Type} (f : α → Bool) : ∀ xs : List α, asBls (xs.map fun x => PyData.bool (f x)) = some (xs.map f)
  | [] => rfl
  | x :: r => by simp only [List.map_cons, asBls, asBls_map f r, Option.map_some]
theorem asInts_map {α : Type} (f : α → Int) : ∀ xs : List α, asInts (xs.map fun x => PyData.int (f x)) = some (xs.map f)
  | [] => rfl
  | x :: r => by simp only [List.map_cons, asInts, asInts_map f r, Option.map_some]
end Pv
end
section
set_option Elab.async false
set_option linter.all false
set_option maxRecDepth 100000
set_option maxHeartbeats 1000000
namespace Pv
open PySem
theorem lc2L_map {g g1 : SemG} {t t1 : SemT} {it1 : SemI} {el : SemE} {vs vs1 : List Nat} {ρ : Ro} {inner : D → List D} : ∀ {ds : List D} {n : Nat},
    (∀ d ∈ ds, ∃ ρ1 ds1 ρ3, g d ρ = some ρ1 ∧ t ρ1 = some (true, ρ1) ∧ it1 ρ1 = some (ds1, ρ3) ∧ clearAt ρ3 vs1 = true ∧ (∀ m, m + (inner d).length ≤ sizeLine → lcL g1 t1 el vs1 ds1 m ρ3 = some (inner d, ρ3)) ∧ wipeR ρ3 vs = ρ) →
    n + (ds.flatMap inner).length ≤ sizeLine → lc2L g t it1 g1 t1 el vs vs1 ds n ρ = some (ds.flatMap inner, ρ)
  | [], _, _, _ => rfl
  | d :: ds, n, k, hz => by
    obtain ⟨ρ1, ds1, ρ3, e1, e2, e3, e4, e5, e6⟩ := k d List.mem_cons_self
    rw [List.flatMap_cons, List.length_append] at hz
    have e5' := e5 n (by omega)
    simp only [lc2L, e1, e2, e3, e4, e5', e6, Option.bind_some, if_true]
    rw [lc2L_map (fun x hx => k x (List.mem_cons_of_mem _ hx)) (by omega)]
    rw [List.flatMap_cons]
    rfl
end Pv
end
section
set_option Elab.async false
set_option linter.all false
set_option autoImplicit false
set_option maxRecDepth 100000
set_option maxHeartbeats 1000000
namespace Pv.Ev
open PySem Pv L2
structure Tg {α β : Type} (f : α → Option β) : Type where
def Bd {α β : Type} (f : α → Option β) (a : Option α) (t : Tg f) : Option β := a.bind f
def bd {α β : Type} (a : Option α) (f : α → Option β) : Option β := Bd f a ⟨⟩
@[scoped simp ↓] theorem bd_u {α β : Type} (a : Option α) (f : α → Option β) : bd a f = Bd f a ⟨⟩ := rfl
@[scoped simp ↓] theorem Bd_pre {α β : Type} (x : α) (f : α → Option β) (t : Tg f) : Bd f (some x) t = f x := rfl
@[scoped simp] theorem Bd_some {α β : Type} (x : α) (f : α → Option β) (t : Tg f) : Bd f (some x) t = f x := rfl
@[scoped simp] theorem Bd_none {α β : Type} (f : α → Option β) (t : Tg f) : Bd f none t = none := rfl
def varC (i : Nat) (ρ : Ro) : Option (Option Cell) → Option (Rv × Ro)
  | some (some (.val d)) => some (.val d, ρ)
  | some (some (.own _)) => some (.at i, ρ)
  | some (some (.byr _)) => some (.at i, ρ)
  | _ => none
def lookC : Option (Option Cell) → Option D
  | some (some (.val d)) => some d
  | some (some (.own d)) => some d
  | some (some (.byr d)) => some d
  | _ => none
def frzC (i : Nat) (ρ : Ro) : Option (Option Cell) → Option (D × Ro)
  | some (some (.val d)) => some (d, ρ)
  | some (some (.own d)) => some (d, ρ.set i (some (.val d)))
  | _ => none
def slotC : Option (Option Cell) → Bool
  | none => false
  | some (some (.byr _)) => false
  | some (some (.scr _)) => false
  | _ => true
def retC (i : Nat) (ρ : Ro) : Option (Option Cell) → Option Out
  | some (some (.own d)) => some (.rt (.fr d) (ρ.set i none))
  | some (some (.val d)) => some (.rt (.val d) ρ)
  | _ => none
def retR (ρ : Ro) : Rv → Option Out
  | .at i => retC i ρ ρ[i]?
  | r => some (.rt r ρ)
def ownC : Option (Option Cell) → Option D
  | some (some (.own d)) => some d
  | some (some (.byr d)) => some d
  | _ => none
def putC (i : Nat) (d : D) (ρ : Ro) : Option (Option Cell) → Ro
  | some (some c) => ρ.set i (some (c.put d))
  | _ => ρ
def clearC : Option (Option Cell) → Bool
  | some (some _) => false
  | _ => true
def scrC : Option (Option Cell) → Option (List D)
  | some (some (.scr ds)) => some ds
  | _ => none
section
variable (i : Nat) (ρ : Ro) (d : D)
@[scoped simp] theorem varC1 : varC i ρ (some (some (.val d))) = some (.val d, ρ) := rfl
@[scoped simp] theorem varC2 : varC i ρ (some (some (.own d))) = some (.at i, ρ) := rfl
@[scoped simp] theorem varC3 : varC i ρ (some (some (.byr d))) = some (.at i, ρ) := rfl
@[scoped simp] theorem varC4 : varC i ρ (some none) = none := rfl
@[scoped simp] theorem lookC1 : lookC (some (some (.val d))) = some d := rfl
@[scoped simp] theorem lookC2 : lookC (some (some (.own d))) = some d := rfl
@[scoped simp] theorem lookC3 : lookC (some (some (.byr d))) = some d := rfl
@[scoped simp] theorem frzC1 : frzC i ρ (some (some (.val d))) = some (d, ρ) := rfl
@[scoped simp] theorem frzC2 : frzC i ρ (some (some (.own d))) = some (d, ρ.set i (some (.val d))) := rfl
@[scoped simp] theorem slotC1 : slotC (some none) = true := rfl
@[scoped simp] theorem slotC2 : slotC (some (some (.val d))) = true := rfl
@[scoped simp] theorem slotC3 : slotC (some (some (.own d))) = true := rfl
@[scoped simp] theorem retC1 : retC i ρ (some (some (.own d))) = some (.rt (.fr d) (ρ.set i none)) := rfl
@[scoped simp] theorem retC2 : retC i ρ (some (some (.val d))) = some (.rt (.val d) ρ) := rfl
@[scoped simp] theorem retR1 : retR ρ (.val d) = some (.rt (.val d) ρ) := rfl
@[scoped simp] theorem retR2 : retR ρ (.fr d) = some (.rt (.fr d) ρ) := rfl
@[scoped simp] theorem retR3 : retR ρ (.at i) = retC i ρ ρ[i]? := rfl
@[scoped simp] theorem ownC1 : ownC (some (some (.own d))) = some d := rfl
@[scoped simp] theorem ownC2 : ownC (some (some (.byr d))) = some d := rfl
@[scoped simp] theorem putC1 (e : D) : putC i d ρ (some (some (.own e))) = ρ.set i (some (.own d)) := rfl
@[scoped simp] theorem putC2 (e : D) : putC i d ρ (some (some (.byr e))) = ρ.set i (some (.byr d)) := rfl
@[scoped simp] theorem clearC1 : clearC (some none) = true := rfl
@[scoped simp] theorem clearC2 (c : Cell) : clearC (some (some c)) = false := rfl
@[scoped simp] theorem clearC3 : clearC none = true := rfl
@[scoped simp] theorem scrC1 (ds : List D) : scrC (some (some (.scr ds))) = some ds := rfl
@[scoped simp] theorem sVar_u : sVar i ρ = varC i ρ ρ[i]? := rfl
@[scoped simp] theorem sC_u : sC d ρ = some (.val d, ρ) := rfl
@[scoped simp] theorem look_v : look ρ (.val d) = some d := rfl
@[scoped simp] theorem look_f : look ρ (.fr d) = some d := rfl
@[scoped simp] theorem look_a : look ρ (.at i) = lookC ρ[i]? := rfl
@[scoped simp] theorem settle_v : settle (.val d) = .val d := rfl
@[scoped simp] theorem settle_f : settle (.fr d) = .val d := rfl
@[scoped simp] theorem settle_a : settle (.at i) = .at i := rfl
@[scoped simp] theorem frz_v : frz ρ (.val d) = some (d, ρ) := rfl
@[scoped simp] theorem frz_f : frz ρ (.fr d) = some (d, ρ) := rfl
@[scoped simp] theorem frz_a : frz ρ (.at i) = frzC i ρ ρ[i]? := rfl
@[scoped simp] theorem mkR_v : mkR (d, false) = .val d := rfl
@[scoped simp] theorem mkR_f : mkR (d, true) = .fr d := rfl
@[scoped simp] theorem slotOk_u : slotOk ρ i = slotC ρ[i]? := rfl
@[scoped simp] theorem store_v : store i (.val d) ρ = if slotC ρ[i]? = true then some (ρ.set i (some (.val d))) else none := rfl
@[scoped simp] theorem store_f : store i (.fr d) ρ = if slotC ρ[i]? = true then some (ρ.set i (some (.own d))) else none := rfl
@[scoped simp] theorem store_a (j : Nat) : store i (.at j) ρ = if slotC ρ[i]? = true then bd (frzC j ρ ρ[j]?) fun z => some (z.2.set i (some (.val z.1))) else none := rfl
@[scoped simp] theorem ownAt_u : ownAt ρ i = ownC ρ[i]? := rfl
@[scoped simp] theorem putAt_u : putAt ρ i d = putC i d ρ ρ[i]? := rfl
@[scoped simp] theorem clearAt_n : clearAt ρ [] = true := rfl
@[scoped simp] theorem clearAt_c (v : Nat) (vs : List Nat) : clearAt ρ (v :: vs) = (clearC ρ[v]? && clearAt ρ vs) := rfl
@[scoped simp] theorem wipeR_n : wipeR ρ [] = ρ := rfl
@[scoped simp] theorem wipeR_c (v : Nat) (vs : List Nat) : wipeR ρ (v :: vs) = (wipeR ρ vs).set v none := rfl
@[scoped simp] theorem scrAt_u : scrAt ρ i = scrC ρ[i]? := rfl
end
section
variable (ρ : Ro) (f g h : SemE) (a : SemA) (p : SemP) (c c2 : SemT) (s s2 : SemS)
@[scoped simp] theorem sNil_u : sNil ρ = some ([], ρ) := rfl
@[scoped simp] theorem sCons_u : sCons f a ρ = bd (f ρ) fun x => bd (frz x.2 x.1) fun y => bd (a y.2) fun z => some (y.1 :: z.1, z.2) := rfl
@[scoped simp] theorem pNil_u : pNil ρ = some ([], ρ) := rfl
@[scoped simp] theorem pCons_u : pCons f p ρ = bd (f ρ) fun x => bd (p x.2) fun z => some (settle x.1 :: z.1, z.2) := rfl
@[scoped simp] theorem sTup_u : sTup a ρ = bd (a ρ) fun x => if x.1.length ≤ sizeLine then some (.val (.tuple x.1), x.2) else none := rfl
@[scoped simp] theorem sLst_u : sLst a ρ = bd (a ρ) fun x => if x.1.length ≤ sizeLine then some (.fr (.list x.1), x.2) else none := rfl
@[scoped simp] theorem sOp_u (o : Op2) : sOp o f g ρ = bd (f ρ) fun x => bd (g x.2) fun y => bd (look y.2 (settle x.1)) fun d => bd (look y.2 (settle y.1)) fun e => bd (o d e) fun z => some (mkR z, y.2) := rfl
@[scoped simp] theorem asB_u (b : Bool) : asB (.bool b) = some b := rfl
@[scoped simp] theorem sTest_u : sTest f ρ = bd (f ρ) fun x => bd (look x.2 x.1) fun d => bd (asB d) fun b => some (b, x.2) := rfl
@[scoped simp] theorem sChain_u (o o2 : Op2) : sChain o o2 f g h ρ = bd (f ρ) fun x => bd (g x.2) fun y => bd (look y.2 (settle x.1)) fun d => bd (look y.2 (settle y.1)) fun e => bd (o d e) fun z => bd (asB z.1) fun k => if z.2 = true then none else if k = true then bd (h y.2) fun u => bd (look u.2 (settle y.1)) fun e' => bd (look u.2 (settle u.1)) fun w => bd (o2 e' w) fun z' => some (mkR z', u.2) else some (.val (.bool false), y.2) := rfl
@[scoped simp] theorem truth_n : truth .none = some false := rfl
@[scoped simp] theorem truth_b (b : Bool) : truth (.bool b) = some b := rfl
@[scoped simp] theorem truth_i (i : Int) : truth (.int i) = some (i != 0) := rfl
@[scoped simp] theorem truth_s (x : Str) : truth (.str x) = if x.length ≤ sizeLine then some ((x.length : Int) != 0) else none := rfl
@[scoped simp] theorem truth_l (ds : List D) : truth (.list ds) = some (!ds.isEmpty) := rfl
@[scoped simp] theorem truth_t (ds : List D) : truth (.tuple ds) = some (!ds.isEmpty) := rfl
@[scoped simp] theorem sTruth_u : sTruth f ρ = bd (f ρ) fun x => bd (look x.2 x.1) fun d => bd (truth d) fun b => some (b, x.2) := rfl
@[scoped simp] theorem sAnd_u : sAnd c c2 ρ = bd (c ρ) fun x => if x.1 = true then c2 x.2 else some (false, x.2) := rfl
@[scoped simp] theorem sOr_u : sOr c c2 ρ = bd (c ρ) fun x => if x.1 = true then some (true, x.2) else c2 x.2 := rfl
@[scoped simp] theorem sNot_u : sNot c ρ = bd (c ρ) fun x => some (!x.1, x.2) := rfl
@[scoped simp] theorem sIf_u : sIf c f g ρ = bd (c ρ) fun x => if x.1 = true then f x.2 else g x.2 := rfl
@[scoped simp] theorem sAndV_u : sAndV f g ρ = bd (sTest f ρ) fun x => if x.1 = true then g x.2 else some (.val (.bool false), x.2) := rfl
@[scoped simp] theorem sOrV_u : sOrV f g ρ = bd (sTest f ρ) fun x => if x.1 = true then some (.val (.bool true), x.2) else g x.2 := rfl
@[scoped simp] theorem sNotV_u : sNotV f ρ = bd (sTest f ρ) fun x => some (.val (.bool !x.1), x.2) := rfl
@[scoped simp] theorem asI_u (i : Int) : asI (.int i) = some i := rfl
@[scoped simp] theorem oNone_u : oNone ρ = some (none, ρ) := rfl
@[scoped simp] theorem oSome_u : oSome f ρ = bd (f ρ) fun x => bd (look x.2 x.1) fun d => bd (asI d) fun i => some (some i, x.2) := rfl
@[scoped simp] theorem sSl_u (o : D → Option Int → Option Int → Option (D × Bool)) (l h : Ro → Option (Option Int × Ro)) : sSl o f l h ρ = bd (f ρ) fun x => bd (l x.2) fun y => bd (h y.2) fun z => bd (look z.2 (settle x.1)) fun d => bd (o d y.1 z.1) fun zb => some (mkR zb, z.2) := rfl
@[scoped simp] theorem looks_n : looks ρ [] = some [] := rfl
@[scoped simp] theorem looks_c (r : Rv) (rs : List Rv) : looks ρ (r :: rs) = bd (look ρ r) fun d => bd (looks ρ rs) fun ds => some (d :: ds) := rfl
@[scoped simp] theorem sCB_u (o : OpN) : sCB o p ρ = bd (p ρ) fun x => bd (looks x.2 x.1) fun ds => bd (o ds) fun zb => some (mkR zb, x.2) := rfl
@[scoped simp] theorem sNx_u : sNx ρ = some (.nx ρ) := rfl
@[scoped simp] theorem sStuck_u : sStuck ρ = none := rfl
@[scoped simp] theorem thenS_n : thenS (.nx ρ) s = s ρ := rfl
@[scoped simp] theorem thenS_r (r : Rv) : thenS (.rt r ρ) s = some (.rt r ρ) := rfl
@[scoped simp] theorem sSeq_u : sSeq s s2 ρ = bd (s ρ) fun o => thenS o s2 := rfl
@[scoped simp] theorem sSet_u (i : Nat) : sSet i f ρ = bd (f ρ) fun x => bd (store i x.1 x.2) fun ρ2 => some (.nx ρ2) := rfl
@[scoped simp] theorem gN_u (i : Nat) (d : D) : gN i d ρ = store i (.val d) ρ := rfl
@[scoped simp] theorem gsNil_u : gsNil [] ρ = some ρ := rfl
@[scoped simp] theorem gsCons_u (g : SemG) (h : SemGs) (d : D) (ds : List D) : gsCons g h (d :: ds) ρ = bd (g d ρ) fun ρ1 => h ds ρ1 := rfl
@[scoped simp] theorem gT_u (n : Nat) (g : SemGs) (ds : List D) : gT n g (.tuple ds) ρ = if ds.length = n then g ds ρ else none := rfl
@[scoped simp] theorem sAsg_u (g : SemG) : sAsg f g ρ = bd (f ρ) fun x => bd (frz x.2 x.1) fun y => bd (g y.1 y.2) fun ρ3 => some (.nx ρ3) := rfl
theorem sRet_u : sRet f ρ = (f ρ).bind fun x => retR x.2 x.1 := by
  unfold sRet
  apply congrArg
  funext x
  obtain ⟨r, ρ1⟩ := x
  cases r <;> rfl
@[scoped simp] theorem sRet_u' : sRet f ρ = bd (f ρ) fun x => retR x.2 x.1 := sRet_u ρ f
@[scoped simp] theorem sRetN_u : sRetN ρ = some (.rt (.val .none) ρ) := rfl
@[scoped simp] theorem sExpr_u : sExpr f ρ = bd (f ρ) fun x => some (.nx x.2) := rfl
@[scoped simp] theorem sIfS_u : sIfS c s s2 ρ = bd (c ρ) fun x => if x.1 = true then s x.2 else s2 x.2 := rfl
@[scoped simp] theorem sFor_u (it : SemI) (g : SemG) : sFor it g s ρ = bd (it ρ) fun x => forL g s x.1 x.2 := rfl
@[scoped simp] theorem iOf_u (w : D → Option (List D)) : iOf w f ρ = bd (f ρ) fun x => bd (frz x.2 x.1) fun y => bd (w y.1) fun ds => some (ds, y.2) := rfl
@[scoped simp] theorem walk_l (ds : List D) : walkOf (.list ds) = some ds := rfl
@[scoped simp] theorem walk_t (ds : List D) : walkOf (.tuple ds) = some ds := rfl
@[scoped simp] theorem walk_s (x : Str) : walkOf (.str x) = some (charsD x) := rfl
@[scoped simp] theorem walk_d (es : List (D × D)) : walkOf (.dict es) = some (es.map (·.1)) := rfl
@[scoped simp] theorem items_d (es : List (D × D)) : itemsOf (.dict es) = some (es.map pairD) := rfl
@[scoped simp] theorem vals_d (es : List (D × D)) : valsOf (.dict es) = some (es.map (·.2)) := rfl
def r1C (ρ : Ro) : List D → Option (List D × Ro)
  | [.int j] => if small62 j = true then some (rng 0 j.toNat, ρ) else none
  | _ => none
def r2C (ρ : Ro) : List D → Option (List D × Ro)
  | [.int i, .int j] => if (small62 i && small62 j) = true then some (rng i (j - i).toNat, ρ) else none
  | _ => none
def r3C (ρ : Ro) : List D → Option (List D × Ro)
  | [.int i, .int j, .int c] => if c ≠ 0 ∧ c.natAbs < 1073741824 ∧ Builtin.Range.small i j c = true ∧ 0 ≤ Builtin.Range.rangeSize i j c then some (rng3 i c (Builtin.Range.rangeSize i j c).toNat, ρ) else none
  | _ => none
def enC (ρ : Ro) : List D → Option (List D × Ro)
  | [.list xs] => some (enumD xs, ρ)
  | [.tuple xs] => some (enumD xs, ρ)
  | _ => none
def zpC (ρ : Ro) : List D → Option (List D × Ro)
  | [.list xs, .list ys] => if zipOk xs = true then some (zipD xs ys, ρ) else none
  | [.tuple xs, .tuple ys] => if zipOk xs = true then some (zipD xs ys, ρ) else none
  | _ => none
@[scoped simp] theorem iR1_u : iR1 p ρ = bd (p ρ) fun x => bd (looks x.2 x.1) fun ds => r1C x.2 ds := by
  unfold iR1 bd Bd; congr 1
@[scoped simp] theorem iR2_u : iR2 p ρ = bd (p ρ) fun x => bd (looks x.2 x.1) fun ds => r2C x.2 ds := by
  unfold iR2 bd Bd; congr 1
@[scoped simp] theorem iR3_u : iR3 p ρ = bd (p ρ) fun x => bd (looks x.2 x.1) fun ds => r3C x.2 ds := by
  unfold iR3 bd Bd; congr 1
@[scoped simp] theorem iEn_u : iEn a ρ = bd (a ρ) fun x => enC x.2 x.1 := by
  unfold iEn bd Bd; congr 1
@[scoped simp] theorem iZp_u : iZp a ρ = bd (a ρ) fun x => zpC x.2 x.1 := by
  unfold iZp bd Bd; congr 1
@[scoped simp] theorem r1C_u (j : Int) : r1C ρ [.int j] = if small62 j = true then some (rng 0 j.toNat, ρ) else none := rfl
@[scoped simp] theorem r2C_u (i j : Int) : r2C ρ [.int i, .int j] = if (small62 i && small62 j) = true then some (rng i (j - i).toNat, ρ) else none := rfl
@[scoped simp] theorem r3C_u (i j c : Int) : r3C ρ [.int i, .int j, .int c] = if c ≠ 0 ∧ c.natAbs < 1073741824 ∧ Builtin.Range.small i j c = true ∧ 0 ≤ Builtin.Range.rangeSize i j c then some (rng3 i c (Builtin.Range.rangeSize i j c).toNat, ρ) else none := rfl
@[scoped simp] theorem enC_l (xs : List D) : enC ρ [.list xs] = some (enumD xs, ρ) := rfl
@[scoped simp] theorem enC_t (xs : List D) : enC ρ [.tuple xs] = some (enumD xs, ρ) := rfl
@[scoped simp] theorem zpC_l (xs ys : List D) : zpC ρ [.list xs, .list ys] = if zipOk xs = true then some (zipD xs ys, ρ) else none := rfl
@[scoped simp] theorem zpC_t (xs ys : List D) : zpC ρ [.tuple xs, .tuple ys] = if zipOk xs = true then some (zipD xs ys, ρ) else none := rfl
@[scoped simp] theorem sLc_u (g : SemG) (t : SemT) (el : SemE) (vs : List Nat) (it : SemI) : sLc g t el vs it ρ = bd (it ρ) fun x => if clearAt x.2 vs = true then bd (lcL g t el vs x.1 0 x.2) fun y => some (.fr (.list y.1), y.2) else none := rfl
@[scoped simp] theorem sLc2_u (g : SemG) (t : SemT) (it1 : SemI) (g1 : SemG) (t1 : SemT) (el : SemE) (vs vs1 : List Nat) (it : SemI) : sLc2 g t it1 g1 t1 el vs vs1 it ρ = bd (it ρ) fun x => if clearAt x.2 vs = true then bd (lc2L g t it1 g1 t1 el vs vs1 x.1 0 x.2) fun y => some (.fr (.list y.1), y.2) else none := rfl
@[scoped simp] theorem sDc_u (g : SemG) (t : SemT) (kf vf : SemE) (vs : List Nat) (it : SemI) : sDc g t kf vf vs it ρ = bd (it ρ) fun x => if clearAt x.2 vs = true then bd (dcL g t kf vf vs x.1 [] x.2) fun y => some (.fr (.dict y.1), y.2) else none := rfl
@[scoped simp] theorem sYes_u : sYes ρ = some (true, ρ) := rfl
@[scoped simp] theorem sDct0_u : sDct0 ρ = some (.fr (.dict []), ρ) := rfl
def parC (i j : Nat) (ρ : Ro) : List Rv → Option Out
  | [.val a, .val b] => (store i (.val a) ρ).bind fun ρ2 => (store j (.val b) ρ2).bind fun ρ3 => some (.nx ρ3)
  | [.val a, .fr b] => (store i (.val a) ρ).bind fun ρ2 => (store j (.fr b) ρ2).bind fun ρ3 => some (.nx ρ3)
  | [.fr a, .val b] => (store i (.fr a) ρ).bind fun ρ2 => (store j (.val b) ρ2).bind fun ρ3 => some (.nx ρ3)
  | [.fr a, .fr b] => (store i (.fr a) ρ).bind fun ρ2 => (store j (.fr b) ρ2).bind fun ρ3 => some (.nx ρ3)
  | _ => none
@[scoped simp] theorem sPar_u (i j : Nat) (f : SemM) : sPar i j f ρ = bd (f ρ) fun x => parC i j x.2 x.1 := by
  unfold sPar bd Bd; congr 1
@[scoped simp] theorem parC1 (i j : Nat) (a b : D) : parC i j ρ [.val a, .val b] = bd (store i (.val a) ρ) fun ρ2 => bd (store j (.val b) ρ2) fun ρ3 => some (.nx ρ3) := rfl
@[scoped simp] theorem parC2 (i j : Nat) (a b : D) : parC i j ρ [.val a, .fr b] = bd (store i (.val a) ρ) fun ρ2 => bd (store j (.fr b) ρ2) fun ρ3 => some (.nx ρ3) := rfl
@[scoped simp] theorem parC3 (i j : Nat) (a b : D) : parC i j ρ [.fr a, .val b] = bd (store i (.fr a) ρ) fun ρ2 => bd (store j (.val b) ρ2) fun ρ3 => some (.nx ρ3) := rfl
@[scoped simp] theorem parC4 (i j : Nat) (a b : D) : parC i j ρ [.fr a, .fr b] = bd (store i (.fr a) ρ) fun ρ2 => bd (store j (.fr b) ρ2) fun ρ3 => some (.nx ρ3) := rfl
@[scoped simp] theorem forL_n (g : SemG) : forL g s [] ρ = some (.nx ρ) := rfl
end
section
variable (ρ : Ro) (f : SemE) (m : SemM) (ms : List Md)
@[scoped simp] theorem mNil_u : mNil ρ = some ([], ρ) := rfl
@[scoped simp] theorem mV_u : mV f m ρ = bd (f ρ) fun x => bd (frz x.2 x.1) fun y => bd (m y.2) fun z => some (.val y.1 :: z.1, z.2) := rfl
@[scoped simp] theorem sCall_u' (fn : Fn) : sCall ms fn m ρ = bd (m ρ) fun x => if (mIdx ms x.1).Nodup then bd (mData x.2 ms x.1) fun ds => bd (fn ds) fun z => some (mkR z.1, mBack x.2 ms x.1 z.2) else none := rfl
@[scoped simp] theorem sMut_u (T : String) (i : Nat) (o : OpM) (a : SemA) : sMut T i o a ρ = bd (ownAt ρ i) fun d0 => if kindB T d0 = true then bd (a ρ) fun x => bd (ownAt x.2 i) fun d => bd (o d x.1) fun z => some (.val z.2, putAt x.2 i z.1) else none := rfl
@[scoped simp] theorem kind_l (ds : List D) : kindB "list" (.list ds) = true := rfl
@[scoped simp] theorem kind_d (ds : List (D × D)) : kindB "dict" (.dict ds) = true := rfl
@[scoped simp] theorem sSub_u (i : Nat) (g f : SemE) : sSub i g f ρ = bd (f ρ) fun x => bd (frz x.2 x.1) fun y => bd (ownAt y.2 i) fun _ => bd (g y.2) fun z => bd (look z.2 z.1) fun ix => bd (ownAt z.2 i) fun d => bd (setM d ix y.1) fun d' => some (.nx (putAt z.2 i d')) := rfl
@[scoped simp] theorem sMeth_u (T : String) (o : OpL) (a : SemA) : sMeth T o f a ρ = bd (f ρ) fun x => bd (look x.2 (settle x.1)) fun d0 => if kindB T d0 = true then bd (a x.2) fun y => bd (look y.2 (settle x.1)) fun d => bd (o d y.1) fun zb => some (mkR zb, y.2) else none := rfl
@[scoped simp] theorem sOfSet_u (g : List Str → Rv) : sOfSet g f ρ = bd (f ρ) fun x => bd (look x.2 (settle x.1)) fun d => bd (strsOf d) fun ys => if ys.length + 1 < scanBound then some (g ys, x.2) else none := rfl
@[scoped simp] theorem strsOf_l (ds : List D) : strsOf (.list ds) = asStrs ds := rfl
@[scoped simp] theorem strsOf_t (ds : List D) : strsOf (.tuple ds) = asStrs ds := rfl
@[scoped simp] theorem sRev_u : sRev f ρ = bd (f ρ) fun x => bd (look x.2 (settle x.1)) fun d => bd (revF d) fun zb => some (mkR zb, x.2) := rfl
@[scoped simp] theorem revF_t (ds : List D) : revF (.tuple ds) = some (.tuple ds.reverse, false) := rfl
@[scoped simp] theorem revF_l (ds : List D) : revF (.list ds) = some (.list ds.reverse, true) := rfl
@[scoped simp] theorem sLenScr_u (i : Nat) : sLenScr i ρ = bd (scrAt ρ i) fun ds => some (.val (.int ds.length), ρ) := rfl
@[scoped simp] theorem sIxScr_u (i : Nat) : sIxScr i f ρ = bd (scrAt ρ i) fun _ => bd (f ρ) fun x => bd (look x.2 x.1) fun d => bd (asI d) fun k => bd (scrAt x.2 i) fun ds => bd (atI ds k) fun z => some (.val z, x.2) := rfl
@[scoped simp] theorem sNeg_u : sNeg f ρ = bd (f ρ) fun x => bd (look x.2 (settle x.1)) fun d => bd (asI d) fun i => some (.val (.int (-i)), x.2) := rfl
@[scoped simp] theorem sIsi_u (T : String) : sIsi T f ρ = bd (f ρ) fun x => bd (look x.2 (settle x.1)) fun d => some (.val (.bool (isiD T d)), x.2) := rfl
end
end Pv.Ev
namespace Pv.Ev
open PySem Pv L2
def mRC (g : SemM) (ρ : Ro) : Rv → Option (List Rv × Ro)
  | .val _ => none
  | r => (g ρ).bind fun x => some (r :: x.1, x.2)
def mSC (i : Nat) (g : SemM) (ρ : Ro) : Option (Option Cell) → Option (List Rv × Ro)
  | some (some (.scr _)) => (g ρ).bind fun x => some (.at i :: x.1, x.2)
  | _ => none
def setC (i : Nat) (b : D) (ρ : Ro) : Option (Option Cell) → Ro
  | some (some (.own _)) => ρ.set i (some (.own b))
  | some (some (.byr _)) => ρ.set i (some (.byr b))
  | _ => ρ
section
variable (ρ : Ro) (f : SemE) (g : SemM) (ms : List Md) (rs : List Rv) (i : Nat) (d b : D) (bs : List D)
@[scoped simp] theorem mR_u : mR f g ρ = bd (f ρ) fun x => mRC g x.2 x.1 := by
  unfold mR bd Bd; apply congrArg; funext x; obtain ⟨r, ρ1⟩ := x; cases r <;> rfl
@[scoped simp] theorem mRC_f : mRC g ρ (.fr d) = bd (g ρ) fun x => some (.fr d :: x.1, x.2) := rfl
@[scoped simp] theorem mRC_a : mRC g ρ (.at i) = bd (g ρ) fun x => some (.at i :: x.1, x.2) := rfl
@[scoped simp] theorem mS_u : mS i g ρ = mSC i g ρ ρ[i]? := rfl
@[scoped simp] theorem mSC_u (ds : List D) : mSC i g ρ (some (some (.scr ds))) = bd (g ρ) fun x => some (.at i :: x.1, x.2) := rfl
@[scoped simp] theorem mD_n : mData ρ [] [] = some [] := rfl
@[scoped simp] theorem mD_v : mData ρ (.v :: ms) (.val d :: rs) = (mData ρ ms rs).map (d :: ·) := rfl
@[scoped simp] theorem mD_rf : mData ρ (.r :: ms) (.fr d :: rs) = (mData ρ ms rs).map (d :: ·) := rfl
@[scoped simp] theorem mD_ra : mData ρ (.r :: ms) (.at i :: rs) = bd (ownC ρ[i]?) fun d => (mData ρ ms rs).map (d :: ·) := by
  simp only [mData]
  rcases ρ[i]? with _ | _ | (_ | _ | _ | _) <;> rfl
@[scoped simp] theorem mD_s : mData ρ (.s :: ms) (.at i :: rs) = bd (scrC ρ[i]?) fun es => (mData ρ ms rs).map (.list es :: ·) := by
  simp only [mData]
  rcases ρ[i]? with _ | _ | (_ | _ | _ | _) <;> rfl
@[scoped simp] theorem mI_n : mIdx [] [] = [] := rfl
@[scoped simp] theorem mI_ra : mIdx (.r :: ms) (.at i :: rs) = i :: mIdx ms rs := rfl
@[scoped simp] theorem mI_rf : mIdx (.r :: ms) (.fr d :: rs) = mIdx ms rs := rfl
@[scoped simp] theorem mI_v (r : Rv) : mIdx (.v :: ms) (r :: rs) = mIdx ms rs := rfl
@[scoped simp] theorem mI_s (r : Rv) : mIdx (.s :: ms) (r :: rs) = mIdx ms rs := rfl
@[scoped simp] theorem mB_n : mBack ρ [] [] bs = ρ := rfl
@[scoped simp] theorem mB_ra : mBack ρ (.r :: ms) (.at i :: rs) (b :: bs) = setD (mBack ρ ms rs bs) i b := rfl
@[scoped simp] theorem mB_rf : mBack ρ (.r :: ms) (.fr d :: rs) (b :: bs) = mBack ρ ms rs bs := rfl
@[scoped simp] theorem mB_v (r : Rv) : mBack ρ (.v :: ms) (r :: rs) bs = mBack ρ ms rs bs := by cases bs <;> rfl
@[scoped simp] theorem mB_s (r : Rv) : mBack ρ (.s :: ms) (r :: rs) bs = mBack ρ ms rs bs := by cases bs <;> rfl
@[scoped simp] theorem setD_u : setD ρ i b = setC i b ρ ρ[i]? := rfl
@[scoped simp] theorem setC1 : setC i b ρ (some (some (.own d))) = ρ.set i (some (.own b)) := rfl
@[scoped simp] theorem setC2 : setC i b ρ (some (some (.byr d))) = ρ.set i (some (.byr b)) := rfl
@[scoped simp] theorem cells_n : cells [] [] = some [] := rfl
@[scoped simp] theorem cells_v (ds : List D) : cells (.v :: ms) (d :: ds) = (cells ms ds).map (some (.val d) :: ·) := rfl
@[scoped simp] theorem cells_r (ds : List D) : cells (.r :: ms) (d :: ds) = (cells ms ds).map (some (.byr d) :: ·) := rfl
@[scoped simp] theorem cells_s (ds es : List D) : cells (.s :: ms) (.list es :: ds) = (cells ms ds).map (some (.scr es) :: ·) := rfl
@[scoped simp] theorem backs_n : backsOf [] ρ = some [] := rfl
@[scoped simp] theorem backs_v (c : Option Cell) : backsOf (.v :: ms) (c :: ρ) = backsOf ms ρ := rfl
@[scoped simp] theorem backs_s (c : Option Cell) : backsOf (.s :: ms) (c :: ρ) = backsOf ms ρ := rfl
@[scoped simp] theorem backs_r : backsOf (.r :: ms) (some (.byr d) :: ρ) = (backsOf ms ρ).map (d :: ·) := rfl
@[scoped simp] theorem resOf_v : resOf (.val d) = some (d, false) := rfl
@[scoped simp] theorem resOf_f : resOf (.fr d) = some (d, true) := rfl
@[scoped simp] theorem endOf_r (r : Rv) : endOf ms (.rt r ρ) = bd (resOf r) fun z => bd (backsOf ms ρ) fun bs => some (z, bs) := rfl
@[scoped simp] theorem endOf_n : endOf ms (.nx ρ) = bd (backsOf ms ρ) fun bs => some ((.none, false), bs) := rfl
@[scoped simp] theorem fnOf_u (n : Nat) (s : SemS) (ds : List D) : fnOf n ms s ds = bd (cells ms ds) fun cs => bd (s (cs ++ List.replicate (n - ms.length) none)) (endOf ms) := rfl
end
section
variable (i j : Int) (x y : Str) (ds es : List D) (b c : Bool)
@[scoped simp] theorem add_i : addF (.int i) (.int j) = some (.int (i + j), false) := rfl
@[scoped simp] theorem add_s : addF (.str x) (.str y) = if x.length + y.length ≤ sizeLine then some (.str (x ++ y), false) else none := rfl
@[scoped simp] theorem add_l : addF (.list ds) (.list es) = if ds.length + es.length ≤ sizeLine then some (.list (ds ++ es), true) else none := rfl
@[scoped simp] theorem add_t : addF (.tuple ds) (.tuple es) = if ds.length + es.length ≤ sizeLine then some (.tuple (ds ++ es), false) else none := rfl
@[scoped simp] theorem sub_i : subF (.int i) (.int j) = some (.int (i - j), false) := rfl
@[scoped simp] theorem mul_i : mulF (.int i) (.int j) = if mulOk i j = true then some (.int (i * j), false) else none := rfl
@[scoped simp] theorem div_i : divF (.int i) (.int j) = if 0 < j ∧ j.natAbs.log2 < 9000 then some (.int (i / j), false) else none := rfl
@[scoped simp] theorem mod_i : modF (.int i) (.int j) = if 0 < j then some (.int (i % j), false) else none := rfl
@[scoped simp] theorem lt_i : ltF (.int i) (.int j) = some (.bool (decide (i < j)), false) := rfl
@[scoped simp] theorem lt_s : ltF (.str x) (.str y) = some (.bool (decide (x.cps.toList < y.cps.toList)), false) := rfl
@[scoped simp] theorem le_i : leF (.int i) (.int j) = some (.bool (decide (i ≤ j)), false) := rfl
@[scoped simp] theorem gt_i : gtF (.int i) (.int j) = some (.bool (decide (j < i)), false) := rfl
@[scoped simp] theorem ge_i : geF (.int i) (.int j) = some (.bool (decide (j ≤ i)), false) := rfl
theorem shaped_i : SeqAt.shaped (.int i) = true := rfl
theorem shaped_b : SeqAt.shaped (.bool b) = true := rfl
theorem shaped_s (h : PyData.strOk x = true) : SeqAt.shaped (.str x) = true := by
  simp only [SeqAt.shaped, PyData.canLay0, h, Bool.true_and]; rfl
theorem eqF_of {d e : D} (h : SeqAt.shaped d = true) (h2 : SeqAt.shaped e = true) : eqF d e = some (.bool (PyData.eqv d e), false) := by
  unfold eqF
  split
  · simp only [PyData.eqv, eqS_beq0]
  · exact absurd h (by simp [SeqAt.shaped, PyData.canLay0])
  · rw [h, h2]; rfl
theorem neF_of {d e : D} (h : SeqAt.shaped d = true) (h2 : SeqAt.shaped e = true) : neF d e = some (.bool (!PyData.eqv d e), false) := by
  unfold neF
  split
  · simp only [PyData.eqv, eqS_beq0]
  · rw [h, h2]; rfl
@[scoped simp] theorem eq_i : eqF (.int i) (.int j) = some (.bool (i == j), false) := by
  rw [eqF_of (shaped_i i) (shaped_i j)]; simp [PyData.eqv]
@[scoped simp] theorem ne_i : neF (.int i) (.int j) = some (.bool (!(i == j)), false) := by
  rw [neF_of (shaped_i i) (shaped_i j)]; simp [PyData.eqv]
@[scoped simp] theorem eq_b : eqF (.bool b) (.bool c) = some (.bool (b == c), false) := by
  rw [eqF_of (shaped_b b) (shaped_b c)]; simp [PyData.eqv]
@[scoped simp] theorem ne_b : neF (.bool b) (.bool c) = some (.bool (!(b == c)), false) := by
  rw [neF_of (shaped_b b) (shaped_b c)]; simp [PyData.eqv]
@[scoped simp] theorem eq_s : eqF (.str x) (.str y) = some (.bool (x == y), false) := by
  rw [eqS_beq0]; rfl
@[scoped simp] theorem ne_s : neF (.str x) (.str y) = some (.bool (!(x == y)), false) := by
  rw [eqS_beq0]; rfl
@[scoped simp] theorem len_l : lenF [.list ds] = some (.int ds.length, false) := rfl
@[scoped simp] theorem len_t : lenF [.tuple ds] = some (.int ds.length, false) := rfl
@[scoped simp] theorem len_d (es : List (D × D)) : lenF [.dict es] = some (.int es.length, false) := rfl
@[scoped simp] theorem len_s : lenF [.str x] = if x.length ≤ sizeLine then some (.int x.length, false) else none := rfl
@[scoped simp] theorem int_i : intF [.int i] = some (.int i, false) := rfl
@[scoped simp] theorem max_2 : maxF [.int i, .int j] = some (.int (if j > i then j else i), false) := rfl
@[scoped simp] theorem min_2 : minF [.int i, .int j] = some (.int (if j < i then j else i), false) := rfl
@[scoped simp] theorem all_l : allF [.list ds] = bd (asBls ds) fun ns => some (.bool (ns.all id), false) := rfl
@[scoped simp] theorem any_l : anyF [.list ds] = bd (asBls ds) fun ns => some (.bool (ns.any id), false) := rfl
@[scoped simp] theorem tuple_l : tupleF2 [.list ds] = some (.tuple ds, false) := rfl
@[scoped simp] theorem tuple_t : tupleF2 [.tuple ds] = some (.tuple ds, false) := rfl
@[scoped simp] theorem list_l : listF [.list ds] = some (.list ds, true) := rfl
@[scoped simp] theorem list_t : listF [.tuple ds] = some (.list ds, true) := rfl
@[scoped simp] theorem list_d (es : List (D × D)) : listF [.dict es] = some (.list (es.map (·.1)), true) := rfl
@[scoped simp] theorem dict_d (es : List (D × D)) : dictF [.dict es] = some (.dict es, true) := rfl
@[scoped simp] theorem append_u (d : D) : appendM (.list ds) [d] = if ds.length < sizeLine then some (.list (ds ++ [d]), .none) else none := rfl
@[scoped simp] theorem pop_u : popM (.list ds) [] = (ds[ds.length - 1]?).map fun z => (.list ds.dropLast, z) := rfl
@[scoped simp] theorem pop_i : popM (.list ds) [.int i] = if -(2 ^ 63) ≤ i ∧ i < 2 ^ 63 then bd (seqIndex? i ds.length) fun k => (ds[k]?).map fun z => (.list (ds.eraseIdx k), z) else none := rfl
@[scoped simp] theorem sl_l (lo hi : Option Int) : slF (.list ds) lo hi = some (.list (cutD ds lo hi), true) := rfl
@[scoped simp] theorem sl_t (lo hi : Option Int) : slF (.tuple ds) lo hi = some (.tuple (cutD ds lo hi), false) := rfl
@[scoped simp] theorem ix_t : ixG (.tuple ds) (.int i) = (atI ds i).map fun d => (d, false) := rfl
@[scoped simp] theorem ix_l : ixG (.list ds) (.int i) = (atI ds i).map fun d => (d, false) := rfl
@[scoped simp] theorem ix_d (es : List (D × D)) (d : D) : ixG (.dict es) d = bd (keyOf d) fun k => (dget es k).map fun z => (z, false) := rfl
@[scoped simp] theorem set_d (es : List (D × D)) (d z : D) : setM (.dict es) d z = bd (keyOf d) fun k => if es.length < sizeLine then some (.dict (dput es k z)) else none := rfl
@[scoped simp] theorem set_l (k : Int) (z : D) : setM (.list ds) (.int k) z = (ixN ds.length k).map fun j => .list (ds.set j z) := rfl
@[scoped simp] theorem key_s : keyOf (.str x) = some (.inr x) := rfl
@[scoped simp] theorem key_i : keyOf (.int i) = some (.inl i) := rfl
@[scoped simp] theorem upd_d (es fs : List (D × D)) : updateM (.dict es) [.dict fs] = if es.length + fs.length ≤ sizeLine then (dmerge es fs).map fun gs => (.dict gs, .none) else none := rfl
@[scoped simp] theorem in_u (d e : D) : inF d e = (inB d e).map fun b => (.bool b, false) := rfl
@[scoped simp] theorem notIn_u (d e : D) : notInF d e = (inB d e).map fun b => (.bool (!b), false) := rfl
theorem inB_t {d : D} (h1 : SeqAt.shaped d = true) (h2 : SeqAt.shaped (.tuple ds) = true) : inB d (.tuple ds) = some (ds.any fun z => PyData.eqv z d) := by
  have h : (SeqAt.shaped d && SeqAt.shaped (.tuple ds)) = true := by rw [h1, h2]; rfl
  cases d <;> simp only [inB, if_pos h]
theorem inB_l {d : D} (h1 : SeqAt.shaped d = true) (h2 : SeqAt.shaped (.list ds) = true) : inB d (.list ds) = some (ds.any fun z => PyData.eqv z d) := by
  have h : (SeqAt.shaped d && SeqAt.shaped (.list ds)) = true := by rw [h1, h2]; rfl
  cases d <;> simp only [inB, if_pos h]
@[scoped simp] theorem inB_d (d : D) (es : List (D × D)) : inB d (.dict es) = (keyOf d).map fun k => (dget es k).isSome := by
  cases d <;> rfl
@[scoped simp] theorem asBls_m {α : Type} (f : α → Bool) (xs : List α) : asBls (xs.map fun x => PyData.bool (f x)) = some (xs.map f) := asBls_map f xs
@[scoped simp] theorem asInts_m {α : Type} (f : α → Int) (xs : List α) : asInts (xs.map fun x => PyData.int (f x)) = some (xs.map f) := asInts_map f xs
@[scoped simp] theorem asStrs_m : ∀ xs : List Str, asStrs (xs.map PyData.str) = some xs
  | [] => rfl
  | x :: r => by simp only [List.map_cons, asStrs, asStrs_m r, Option.map_some]
end
end Pv.Ev
end
section
set_option Elab.async false
set_option linter.all false
set_option maxRecDepth 100000
set_option maxHeartbeats 1000000
namespace Pv
open PySem L2 PyProof.Rows PySem.W
theorem plainA_iff : ∀ {ds : List D}, plainA ds = true ↔ ∀ d ∈ ds, plain d = true
  | [] => by simp [plainA]
  | d :: ds => by simp [plainA, plainA_iff (ds := ds)]
theorem canLayAll_iff : ∀ {ds : List D}, PyData.canLayAll0 ds = true ↔ ∀ d ∈ ds, d.canLay0 = true
  | [] => by simp [PyData.canLayAll0]
  | d :: ds => by simp [PyData.canLayAll0, canLayAll_iff (ds := ds)]
theorem depthAll_iff {k : Nat} : ∀ {ds : List D}, PyData.depthAll ds ≤ k ↔ ∀ d ∈ ds, d.depth ≤ k
  | [] => by simp [PyData.depthAll]
  | d :: ds => by simp only [PyData.depthAll, Nat.max_le, depthAll_iff (ds := ds), List.forall_mem_cons]
theorem showableAll_iff : ∀ {ds : List D}, PyData.showableAll ds = true ↔ ∀ d ∈ ds, d.showable = true
  | [] => by simp [PyData.showableAll]
  | d :: ds => by simp [PyData.showableAll, showableAll_iff (ds := ds)]
theorem intsShortAll_iff {k : Nat} : ∀ {ds : List D}, PyData.intsShortAll k ds = true ↔ ∀ d ∈ ds, d.intsShort k = true
  | [] => by simp [PyData.intsShortAll]
  | d :: ds => by simp [PyData.intsShortAll, intsShortAll_iff (ds := ds)]
theorem weightAll_le {k : Nat} : ∀ {ds : List D}, (∀ d ∈ ds, d.weight ≤ k) → PyData.weightAll ds ≤ ds.length * (k + 1)
  | [], _ => by simp [PyData.weightAll]
  | d :: ds, h => by
    have h1 := h d List.mem_cons_self
    have h2 := weightAll_le (ds := ds) fun e he => h e (List.mem_cons_of_mem _ he)
    simp only [PyData.weightAll, List.length_cons, Nat.succ_mul]
    omega
theorem weightAll_mem : ∀ {ds : List D} {d : D}, d ∈ ds → d.weight + 1 ≤ PyData.weightAll ds
  | e :: ds, d, h => by
    simp only [PyData.weightAll]
    rcases List.mem_cons.mp h with rfl | h
    · omega
    · have := weightAll_mem h; omega
theorem weightAll_len : ∀ {ds : List D}, ds.length ≤ PyData.weightAll ds
  | [] => by simp
  | d :: ds => by
    have := weightAll_len (ds := ds)
    simp only [PyData.weightAll, List.length_cons]
    omega
structure OkV (v : D) : Prop where
  pl : plain v = true
  lay : v.canLay0 = true
  dep : v.depth ≤ 64
  wt : v.weight ≤ 4000
  ish : v.intsShort 13 = true
  shw : v.showable = true
def okVB (v : D) : Bool := plain v && v.canLay0 && decide (v.depth ≤ 64) && decide (v.weight ≤ 4000) && v.intsShort 13 && v.showable
theorem OkV.ofB {v : D} (h : okVB v = true) : OkV v := by
  simp only [okVB, Bool.and_eq_true, decide_eq_true_eq] at h
  exact ⟨h.1.1.1.1.1, h.1.1.1.1.2, h.1.1.1.2, h.1.1.2, h.1.2, h.2⟩
theorem OkV.shaped {v : D} (h : OkV v) : SeqAt.shaped v = true := by
  simp only [SeqAt.shaped, h.lay, h.dep, decide_true, Bool.and_self]
theorem OkV.shown {v : D} (h : OkV v) : showOk v = true := by
  have e : v.shown.length ≤ 15728653 := shown_le13 (by simp only [PyData.layable0, h.lay, h.dep, decide_true, Bool.true_and, decide_eq_true_eq]; exact Nat.le_trans h.wt (by decide)) h.ish
  have e2 : v.shown.length ≤ sizeLine := Nat.le_trans e (by decide)
  simp only [showOk, h.pl, h.shw, e2, h.dep, decide_true, Bool.true_or, Bool.and_self]
theorem OkV.mem {ds : List D} {d : D} (h : OkV (.tuple ds)) (hd : d ∈ ds) : OkV d where
  pl := plainA_iff.mp (by simpa [plain] using h.pl) d hd
  lay := canLayAll_iff.mp (by simpa [PyData.canLay0] using h.lay) d hd
  dep := by
    have := h.dep
    simp only [PyData.depth] at this
    have := depthAll_iff.mp (Nat.le_refl (PyData.depthAll ds)) d hd
    omega
  wt := by
    have := h.wt
    simp only [PyData.weight] at this
    have := weightAll_mem hd
    omega
  ish := intsShortAll_iff.mp (by simpa [PyData.intsShort] using h.ish) d hd
  shw := showableAll_iff.mp (by simpa [PyData.showable] using h.shw) d hd
theorem OkV.len {ds : List D} (h : OkV (.tuple ds)) : ds.length ≤ 4000 := by
  have := h.wt
  simp only [PyData.weight] at this
  have := weightAll_len (ds := ds)
  omega
theorem OkV.txt {x : Str} (h : OkV (.str x)) : x.length ≤ 4000 := by
  have := h.wt
  simpa [PyData.weight, Str.length] using this
theorem OkV.mk_ {ds : List D} {k : Nat} (h : ∀ d ∈ ds, OkV d ∧ d.depth ≤ 63 ∧ d.weight ≤ k) (hn : ds.length * (k + 1) ≤ 4000) : OkV (.tuple ds) where
  pl := by simp only [plain]; exact plainA_iff.mpr fun d hd => (h d hd).1.pl
  lay := by simp only [PyData.canLay0]; exact canLayAll_iff.mpr fun d hd => (h d hd).1.lay
  dep := by simp only [PyData.depth]; have := depthAll_iff.mpr fun d hd => (h d hd).2.1; exact Nat.succ_le_succ this
  wt := by simp only [PyData.weight]; exact Nat.le_trans (weightAll_le fun d hd => (h d hd).2.2) hn
  ish := by simp only [PyData.intsShort]; exact intsShortAll_iff.mpr fun d hd => (h d hd).1.ish
  shw := by simp only [PyData.showable]; exact showableAll_iff.mpr fun d hd => (h d hd).1.shw
theorem shaped_tup {ds : List D} (h : ∀ d ∈ ds, d.canLay0 = true ∧ d.depth ≤ 63) : SeqAt.shaped (.tuple ds) = true := by
  have h1 := canLayAll_iff.mpr fun d hd => (h d hd).1
  have h2 := depthAll_iff.mpr fun d hd => (h d hd).2
  simp only [SeqAt.shaped, PyData.canLay0, PyData.depth, h1, Bool.true_and, decide_eq_true_eq]
  exact decide_eq_true (Nat.succ_le_succ h2)
theorem OkV.sub {ds es : List D} (h : OkV (.tuple ds)) (hs : ∀ d ∈ es, d ∈ ds) : SeqAt.shaped (.tuple es) = true := by
  have hd := h.dep
  simp only [PyData.depth] at hd
  have hd' := depthAll_iff.mp (Nat.le_refl (PyData.depthAll ds))
  exact shaped_tup fun d h' => ⟨(h.mem (hs d h')).lay, by have := hd' d (hs d h'); omega⟩
def ltS (a b : Str) : Bool := decide (a.cps.toList < b.cps.toList)
theorem ltS_le {a b : Str} (h : ltS a b = true) : leS a b = true := by
  simp only [leS, ltS, decide_eq_true_eq] at *
  exact List.le_of_lt h
theorem ltS_ne {a b : Str} (h : ltS a b = true) : a ≠ b := by
  rintro rfl
  simp only [ltS, decide_eq_true_eq] at h
  exact List.lt_irrefl _ h
theorem ltS_of {a b : Str} (h : leS a b = true) (hn : a ≠ b) : ltS a b = true := by
  simp only [leS, ltS, decide_eq_true_eq] at *
  exact Classical.byContradiction fun h2 => hn (str_of_cps (List.le_antisymm h h2))
theorem ltS_trans {a b c : Str} (h1 : ltS a b = true) (h2 : ltS b c = true) : ltS a c = true := by
  simp only [ltS, decide_eq_true_eq] at *
  exact List.lt_trans h1 h2
theorem sortS_sorted (xs : List Str) : (sortS xs).Pairwise fun a b => leS a b = true := isort_sorted leS leS_trans leS_total xs
theorem sorted_unique : ∀ {l m : List Str}, l.Perm m → l.Pairwise (fun a b => leS a b = true) → m.Pairwise (fun a b => leS a b = true) → l = m
  | [], m, p, _, _ => (List.nil_perm.mp p).symm
  | x :: l, [], p, _, _ => absurd p.length_eq (by simp)
  | x :: l, y :: m, p, h1, h2 => by
    have hx := List.pairwise_cons.mp h1
    have hy := List.pairwise_cons.mp h2
    have e : x = y := by
      rcases List.mem_cons.mp (p.mem_iff.mp (List.mem_cons_self (a := x) (l := l))) with e | e
      · exact e
      · rcases List.mem_cons.mp (p.mem_iff.mpr (List.mem_cons_self (a := y) (l := m))) with e2 | e2
        · exact e2.symm
        · exact leS_antisymm _ _ (hx.1 y e2) (hy.1 x e)
    subst e
    rw [sorted_unique (List.perm_cons x |>.mp p) hx.2 hy.2]
theorem sortS_perm_eq {l m : List Str} (p : l.Perm m) : sortS l = sortS m :=
  sorted_unique (((isort_perm leS l).trans p).trans (isort_perm leS m).symm) (sortS_sorted l) (sortS_sorted m)
theorem sortS_of_sorted {l : List Str} (h : l.Pairwise fun a b => leS a b = true) : sortS l = l :=
  sorted_unique (isort_perm leS l) (sortS_sorted l) h
theorem dedupS_nodup : ∀ {xs : List Str}, xs.Nodup → dedupS xs = xs
  | [], _ => rfl
  | x :: r, h => by
    have h' := List.nodup_cons.mp h
    have : hasS r x = false := Bool.eq_false_iff.mpr fun e => h'.1 (hasS_iff.mp e)
    simp only [dedupS, this, Bool.false_eq_true, if_false, dedupS_nodup h'.2]
theorem dedupS_len : ∀ {xs : List Str}, (dedupS xs).length ≤ xs.length
  | [] => Nat.le_refl _
  | x :: r => by
    have := dedupS_len (xs := r)
    simp only [dedupS]
    split
    · simp only [List.length_cons]; omega
    · simp only [List.length_cons]; omega
theorem dedupS_len_iff : ∀ {xs : List Str}, (dedupS xs).length = xs.length ↔ xs.Nodup
  | [] => by simp [dedupS]
  | x :: r => by
    have l := dedupS_len (xs := r)
    simp only [dedupS, List.nodup_cons]
    by_cases h : hasS r x = true
    · rw [if_pos h, List.length_cons]
      constructor
      · intro e; omega
      · intro e; exact absurd (hasS_iff.mp h) e.1
    · rw [if_neg h, List.length_cons, List.length_cons, Nat.add_right_cancel_iff, dedupS_len_iff (xs := r)]
      constructor
      · intro e; exact ⟨fun m => h (hasS_iff.mpr m), e⟩
      · intro e; exact e.2
theorem uniqS_nodup {xs : List Str} (h : xs.Nodup) : uniqS xs = sortS xs := by rw [uniqS, dedupS_nodup h]
theorem sortS_nodup {xs : List Str} (h : xs.Nodup) : (sortS xs).Nodup := ((isort_perm leS xs).nodup_iff).mpr h
theorem mem_sortS {xs : List Str} {x : Str} : x ∈ sortS xs ↔ x ∈ xs := (isort_perm leS xs).mem_iff
theorem uniqS_nd (xs : List Str) : (uniqS xs).Nodup := sortS_nodup (nodup_dedupS xs)
def Asc (xs : List Str) : Prop := xs.Pairwise fun a b => ltS a b = true
theorem uniqS_asc (xs : List Str) : Asc (uniqS xs) := by
  have h1 := sortS_sorted (dedupS xs)
  have h2 := uniqS_nd xs
  exact (h1.and h2).imp fun ⟨a, b⟩ => ltS_of a b
theorem Asc.nodup {xs : List Str} (h : Asc xs) : xs.Nodup := h.imp ltS_ne
theorem Asc.sorted {xs : List Str} (h : Asc xs) : xs.Pairwise fun a b => leS a b = true := h.imp ltS_le
theorem Asc.uniq {xs : List Str} (h : Asc xs) : uniqS xs = xs := by rw [uniqS_nodup h.nodup, sortS_of_sorted h.sorted]
theorem uniqS_ext {xs ys : List Str} (h : ∀ z, z ∈ xs ↔ z ∈ ys) : uniqS xs = uniqS ys :=
  sortS_perm_eq (nodup_perm (nodup_dedupS xs) (nodup_dedupS ys) fun z => by rw [mem_dedupS, mem_dedupS, h])
end Pv
end
section
set_option Elab.async false
set_option linter.all false
set_option autoImplicit false
set_option maxRecDepth 100000
set_option maxHeartbeats 1000000
namespace Pv
open PySem L2 PySem.W Pv.Ev
theorem forL_inv {g : SemG} {b : SemS} (I : Nat → Ro → Prop) : ∀ (ds : List D) (k : Nat) (ρ : Ro), I k ρ → (∀ (j : Nat) (d : D) (ρ : Ro), ds[j]? = some d → I (k + j) ρ → ∃ ρ1 ρ2, g d ρ = some ρ1 ∧ b ρ1 = some (.nx ρ2) ∧ I (k + j + 1) ρ2) →
    ∃ ρ', forL g b ds ρ = some (.nx ρ') ∧ I (k + ds.length) ρ'
  | [], k, ρ, h, _ => ⟨ρ, rfl, h⟩
  | d :: ds, k, ρ, h, s => by
    obtain ⟨ρ1, ρ2, e1, e2, h2⟩ := s 0 d ρ rfl h
    obtain ⟨ρ', e3, h3⟩ := forL_inv I ds (k + 1) ρ2 h2 fun j d ρ hd hI => by
      have := s (j + 1) d ρ hd (by rw [show k + (j + 1) = k + 1 + j by omega]; exact hI)
      rw [show k + (j + 1) + 1 = k + 1 + j + 1 by omega] at this
      exact this
    refine ⟨ρ', ?_, by rw [List.length_cons, show k + (ds.length + 1) = k + 1 + ds.length by omega]; exact h3⟩
    simp only [forL, e1, e2, Option.bind_some, e3]
@[scoped simp] theorem Ev.slot_map (c : Option D) : slotC (some (c.map Cell.val)) = true := by cases c <;> rfl
@[scoped simp] theorem Ev.slot_mapO (c : Option D) : slotC (some (c.map Cell.own)) = true := by cases c <;> rfl
@[scoped simp] theorem Ev.sz_le (n : Nat) (h : n ≤ 100000) : (n ≤ sizeLine) = True := eq_true (Nat.le_trans h (by decide))
@[scoped simp] theorem Ev.sz_lt (n : Nat) (h : n ≤ 100000) : (n < sizeLine) = True := eq_true (Nat.lt_of_le_of_lt h (by decide))
def rowD (p : Str × D) : D × D := (.str p.1, p.2)
theorem dkey_s (x y : Str) : dkey (.str x) (.inr y) = decide (x = y) := by
  unfold dkey; simp only [keyOf, eqS_dec]
theorem dput_new {ks : List (Str × D)} {l : Str} {z : D} (h : l ∉ ks.map (·.1)) : dput (ks.map rowD) (.inr l) z = (ks ++ [(l, z)]).map rowD := by
  unfold dput
  rw [if_neg]
  · simp [keyD, rowD]
  · intro hh
    simp only [List.any_map, List.any_eq_true, Function.comp, rowD, dkey_s, decide_eq_true_eq] at hh
    obtain ⟨p, hp, rfl⟩ := hh
    exact h (List.mem_map_of_mem hp)
theorem dputs_new {α : Type} (f : α → Str) (v : α → D) : ∀ (xs : List α) (ks : List (Str × D)), (ks.map (·.1) ++ xs.map f).Nodup → xs.foldl (fun es x => dput es (.inr (f x)) (v x)) (ks.map rowD) = (ks ++ xs.map fun x => (f x, v x)).map rowD
  | [], ks, _ => by simp
  | x :: xs, ks, h => by
    have hx : f x ∉ ks.map (·.1) := fun m => by
      have := (List.nodup_append.mp h).2.2 _ m _ (by simp : f x ∈ (x :: xs).map f)
      exact this rfl
    rw [List.foldl_cons, dput_new hx, dputs_new f v xs (ks ++ [(f x, v x)]) (by simpa using h)]
    simp
theorem dmerge_new : ∀ (fs ks : List (Str × D)), (ks.map (·.1) ++ fs.map (·.1)).Nodup → dmerge (ks.map rowD) (fs.map rowD) = some ((ks ++ fs).map rowD)
  | [], ks, _ => by simp [dmerge]
  | (l, z) :: fs, ks, h => by
    have hx : l ∉ ks.map (·.1) := fun m => by
      have := (List.nodup_append.mp h).2.2 _ m l (by simp)
      exact this rfl
    have e : ((l, z) :: fs).map rowD = (.str l, z) :: fs.map rowD := rfl
    rw [e]
    simp only [dmerge, keyOf, Option.bind_some]
    rw [dput_new hx, dmerge_new fs (ks ++ [(l, z)]) (by simpa using h)]
    simp
theorem dget_row : ∀ {ks : List (Str × D)} {l : Str} {z : D}, (ks.map (·.1)).Nodup → (l, z) ∈ ks → dget (ks.map rowD) (.inr l) = some z
  | (m, y) :: ks, l, z, h, hm => by
    have ec : ((m, y) :: ks).map rowD = (.str m, y) :: ks.map rowD := rfl
    simp only [dget, ec, List.find?_cons, dkey_s]
    by_cases e : m = l
    · subst e
      rcases List.mem_cons.mp hm with e2 | e2
      · cases e2; simp
      · exact absurd (List.mem_map_of_mem (f := (·.1)) e2) (List.nodup_cons.mp h).1
    · rcases List.mem_cons.mp hm with e2 | e2
      · cases e2; exact absurd rfl e
      · have := dget_row (List.nodup_cons.mp h).2 e2
        simp only [dget] at this
        simp only [e, decide_false]
        exact this
theorem dget_none {ks : List (Str × D)} {l : Str} (h : l ∉ ks.map (·.1)) : dget (ks.map rowD) (.inr l) = none := by
  simp only [dget, Option.map_eq_none_iff, List.find?_eq_none, List.mem_map, forall_exists_index, and_imp, forall_apply_eq_imp_iff₂, rowD, dkey_s, decide_eq_true_eq]
  exact fun p hp e => h (e ▸ List.mem_map_of_mem hp)
theorem keys_rows (ks : List (Str × D)) : (ks.map rowD).map (·.1) = (ks.map (·.1)).map PyData.str := by
  simp [rowD, Function.comp_def]
theorem sortOk_strs (ks : List Str) (h : ks.length ≤ sizeLine) : sortOk (ks.map PyData.str) = true := by
  simp only [sortOk, Bool.and_eq_true, decide_eq_true_eq, List.length_map, h, and_true]
  refine ⟨⟨?_, ?_⟩, ?_⟩
  · simp only [alikeB, List.all_eq_true, List.mem_map, forall_exists_index, and_imp, forall_apply_eq_imp_iff₂]
    intro a _ b _; rfl
  · simp only [sortB, Bool.or_eq_true]
    right
    simp only [List.all_eq_true, List.mem_map, forall_exists_index, and_imp, forall_apply_eq_imp_iff₂]
    intro a _; trivial
  · simp only [List.all_eq_true, List.mem_map, forall_exists_index, and_imp, forall_apply_eq_imp_iff₂]
    intro a _; rfl
theorem sorted_strs_l (ks : List Str) (h : ks.length ≤ sizeLine) : sortedF2 [.list (ks.map PyData.str)] = some (.list ((sortS ks).map PyData.str), true) := by
  show sortedF [.list (ks.map PyData.str)] = _
  simp only [sortedF, if_pos (sortOk_strs ks h), sortD_str]
theorem sortS_len (ks : List Str) : (sortS ks).length = ks.length := isort_len _ _
end Pv
end
section
set_option Elab.async false
set_option linter.all false
set_option autoImplicit false
set_option maxRecDepth 100000
set_option maxHeartbeats 1000000
namespace Pv.Lw
open PySem L2 Pv Pv.Ev
abbrev N__law_mixed : List Str := ["_law_cell_here", "_law_k", "_law_mix"]
def b__law_mixed : SemS := (sSeq (sSet 2 (sOp modF (sCB intF (pCons (sOp addF (sOp addF (sOp mulF (sOp modF (sCB intF (pCons (sVar 0) pNil)) (sC (.int 2147483647))) (sC (.int 48271))) (sOp mulF (sVar 1) (sC (.int 69621)))) (sC (.int 1048583))) pNil)) (sC (.int 2147483629)))) (sSeq (sSet 2 (sOp modF (sCB intF (pCons (sOp mulF (sVar 2) (sVar 2)) pNil)) (sC (.int 2147483587)))) (sRet (sOp modF (sCB intF (pCons (sOp mulF (sVar 2) (sOp addF (sVar 2) (sC (.int 2)))) pNil)) (sC (.int 2147483579))))))
def F__law_mixed : Fn := fnOf 3 [.v, .v] b__law_mixed
abbrev N__law_cell : List Str := ["_law_script", "_law_k", "_law_cell_here", "_law_found", "_law_j"]
def b__law_cell : SemS := (sSeq (sSet 2 (sC (.int 0))) (sSeq (sIfS (sTest (sOp ltF (sVar 1) (sLenScr 0))) (sSet 2 (sIxScr 0 (sVar 1))) sNx) (sSeq (sIfS (sTest (sOp geF (sVar 2) (sOp powF (sC (.int 10)) (sC (.int 18))))) (sRet (sOp modF (sCB intF (pCons (sOp subF (sVar 2) (sOp powF (sC (.int 10)) (sC (.int 18)))) pNil)) (sOp mulF (sOp mulF (sOp mulF (sOp powF (sC (.int 10)) (sC (.int 60))) (sOp powF (sC (.int 10)) (sC (.int 60)))) (sOp powF (sC (.int 10)) (sC (.int 60)))) (sOp powF (sC (.int 10)) (sC (.int 60)))))) sNx) (sSeq (sSet 3 (sC (.int 0))) (sSeq (sFor (iR1 (pCons (sC (.int 24)) pNil)) (gN 4) (sSet 3 (sOp addF (sOp mulF (sVar 3) (sC (.int 2147483579))) (sCall [.v, .v] F__law_mixed (mV (sVar 2) (mV (sOp addF (sOp addF (sOp mulF (sC (.int 7)) (sVar 1)) (sOp mulF (sC (.int 100)) (sVar 4))) (sOp mulF (sVar 4) (sVar 4))) mNil)))))) (sRet (sVar 3)))))))
def F__law_cell : Fn := fnOf 5 [.s, .v] b__law_cell
abbrev N__law_take : List Str := ["_law_own", "_law_options", "_law_digit"]
def b__law_take : SemS := (sSeq (sSet 2 (sOp modF (sCB intF (pCons (sOp ixG (sVar 0) (sC (.int 0))) pNil)) (sVar 1))) (sSeq (sSub 0 (sC (.int 0)) (sOp divF (sOp ixG (sVar 0) (sC (.int 0))) (sVar 1))) (sRet (sVar 2))))
def F__law_take : Fn := fnOf 3 [.r, .v] b__law_take
theorem mulOk_of {i j : Int} (a b : Nat) (hi : i.natAbs < 2 ^ a) (hj : j.natAbs < 2 ^ b) (h : a + b < 1000000) : mulOk i j = true := by
  have l : ∀ (n c : Nat), n < 2 ^ c → n.log2 ≤ c := fun n c hn => by
    by_cases h0 : n = 0
    · subst h0; simp
    · exact Nat.le_of_lt ((Nat.log2_lt h0).mpr hn)
  have h1 := l _ _ hi
  have h2 := l _ _ hj
  simp only [mulOk, decide_eq_true_eq]
  omega
theorem mixed_D (x k : Int) (hk : 0 ≤ k) (hk2 : k < 1000000) : ∃ r : Int, 0 ≤ r ∧ r < 2147483579 ∧ F__law_mixed [.int x, .int k] = some ((.int r, false), []) := by
  have a1 := Int.emod_nonneg x (show (2147483647 : Int) ≠ 0 by decide)
  have a2 := Int.emod_lt_of_pos x (show (0 : Int) < 2147483647 by decide)
  generalize h1 : x % 2147483647 = y at a1 a2
  have m1 : mulOk y 48271 = true := mulOk_of 32 32 (by omega) (by omega) (by omega)
  have m2 : mulOk k 69621 = true := mulOk_of 32 32 (by omega) (by omega) (by omega)
  have b1 := Int.emod_nonneg (y * 48271 + k * 69621 + 1048583) (show (2147483629 : Int) ≠ 0 by decide)
  have b2 := Int.emod_lt_of_pos (y * 48271 + k * 69621 + 1048583) (show (0 : Int) < 2147483629 by decide)
  generalize h2 : (y * 48271 + k * 69621 + 1048583) % 2147483629 = z at b1 b2
  have m3 : mulOk z z = true := mulOk_of 32 32 (by omega) (by omega) (by omega)
  have c1 := Int.emod_nonneg (z * z) (show (2147483587 : Int) ≠ 0 by decide)
  have c2 := Int.emod_lt_of_pos (z * z) (show (0 : Int) < 2147483587 by decide)
  generalize h3 : (z * z) % 2147483587 = u at c1 c2
  have m4 : mulOk u (u + 2) = true := mulOk_of 32 33 (by omega) (by omega) (by omega)
  refine ⟨(u * (u + 2)) % 2147483579, Int.emod_nonneg _ (by decide), Int.emod_lt_of_pos _ (by decide), ?_⟩
  unfold F__law_mixed b__law_mixed
  simp [h1, m1, m2, h2, m3, h3, m4]
theorem pow18 : powF (.int 10) (.int 18) = some (.int 1000000000000000000, false) := rfl
theorem pow60 : powF (.int 10) (.int 60) = some (.int (10 ^ 60), false) := rfl
def bigE : SemE := (sOp mulF (sOp mulF (sOp mulF (sOp powF (sC (.int 10)) (sC (.int 60))) (sOp powF (sC (.int 10)) (sC (.int 60)))) (sOp powF (sC (.int 10)) (sC (.int 60)))) (sOp powF (sC (.int 10)) (sC (.int 60))))
theorem mul_int {i j : Int} (h : mulOk i j = true) : mulF (.int i) (.int j) = some (.int (i * j), false) := by
  simp only [mulF, h, if_true]
theorem big_D : ∀ ρ : Ro, bigE ρ = some (.val (.int (10 ^ 60 * 10 ^ 60 * 10 ^ 60 * 10 ^ 60)), ρ) := fun ρ => by
  have q1 : mulOk (10 ^ 60) (10 ^ 60) = true := by decide +kernel
  have q2 : mulOk (10 ^ 60 * 10 ^ 60) (10 ^ 60) = true := by decide +kernel
  have q3 : mulOk (10 ^ 60 * 10 ^ 60 * 10 ^ 60) (10 ^ 60) = true := by decide +kernel
  have m1 := mul_int q1
  have m2 := mul_int q2
  have m3 := mul_int q3
  have p := pow60
  unfold bigE
  generalize (10 : Int) ^ 60 = T at *
  simp [p, m1, m2, m3, -mul_i]
abbrev body_cell : SemS := (sSet 3 (sOp addF (sOp mulF (sVar 3) (sC (.int 2147483579))) (sCall [.v, .v] F__law_mixed (mV (sVar 2) (mV (sOp addF (sOp addF (sOp mulF (sC (.int 7)) (sVar 1)) (sOp mulF (sC (.int 100)) (sVar 4))) (sOp mulF (sVar 4) (sVar 4))) mNil)))))
theorem cell_D (ns : List Int) (k : Nat) (hk : k < 1000) : ∃ c : Int, F__law_cell [.list (ns.map .int), .int k] = some ((.int c, false), []) := by
  have q4 : (0 : Int) < 10 ^ 60 * 10 ^ 60 * 10 ^ 60 * 10 ^ 60 := by decide +kernel
  obtain ⟨x, hx⟩ : ∃ x : Int, ((sIfS (sTest (sOp ltF (sVar 1) (sLenScr 0))) (sSet 2 (sIxScr 0 (sVar 1))) sNx) [some (.scr (ns.map .int)), some (.val (.int k)), some (.val (.int 0)), none, none]) = some (.nx [some (.scr (ns.map .int)), some (.val (.int k)), some (.val (.int x)), none, none]) := by
    by_cases h : (k : Int) < ns.length
    · have hk' : k < ns.length := by omega
      refine ⟨ns[k], ?_⟩
      have : atI (ns.map PyData.int) (k : Int) = some (.int ns[k]) := by
        unfold atI ixN
        rw [if_pos (by omega), if_pos (by simpa using h)]
        simp [List.getElem?_eq_getElem hk']
      simp [h, this]
    · refine ⟨0, ?_⟩
      simp [h]
  by_cases hg : (1000000000000000000 : Int) ≤ x
  · refine ⟨(x - 1000000000000000000) % (10 ^ 60 * 10 ^ 60 * 10 ^ 60 * 10 ^ 60), ?_⟩
    unfold F__law_cell b__law_cell
    generalize sIfS (sTest (sOp ltF (sVar 1) (sLenScr 0))) (sSet 2 (sIxScr 0 (sVar 1))) sNx = S at *
    have hb := big_D
    unfold bigE at hb
    generalize (sOp mulF (sOp mulF (sOp mulF (sOp powF (sC (.int 10)) (sC (.int 60))) (sOp powF (sC (.int 10)) (sC (.int 60)))) (sOp powF (sC (.int 10)) (sC (.int 60)))) (sOp powF (sC (.int 10)) (sC (.int 60)))) = BE at *
    generalize ((10 : Int) ^ 60 * 10 ^ 60 * 10 ^ 60 * 10 ^ 60) = B at *
    simp [hx, pow18, hg, hb, q4]
  · have L := forL_inv (g := gN 4) (b := body_cell) (fun j ρ => j ≤ 24 → ∃ (f : Int) (c4 : Option D), 0 ≤ f ∧ f.natAbs < 2 ^ (32 * j) ∧ ρ = [some (.scr (ns.map .int)), some (.val (.int k)), some (.val (.int x)), some (.val (.int f)), c4.map .val])
      (rng 0 24) 0 [some (.scr (ns.map .int)), some (.val (.int k)), some (.val (.int x)), some (.val (.int 0)), none] (fun _ => ⟨0, none, by omega, by simp, rfl⟩) (fun j d ρ hd hI => by
        simp only [Nat.zero_add] at hI ⊢
        simp only [rng, List.getElem?_map, Option.map_eq_some_iff] at hd
        obtain ⟨j', hj', rfl⟩ := hd
        obtain ⟨hj1, hj2⟩ := List.getElem?_eq_some_iff.mp hj'
        simp only [List.getElem_range] at hj2
        subst hj2
        simp only [List.length_range] at hj1
        obtain ⟨f, c4, f0, f1, rfl⟩ := hI (by omega)
        have g1 : f.natAbs < 2 ^ 800 := Nat.lt_of_lt_of_le f1 (Nat.pow_le_pow_right (by decide) (by omega))
        have m1 : mulOk f 2147483579 = true := mulOk_of 800 32 g1 (by decide) (by decide)
        have m2 : mulOk 7 k = true := mulOk_of 32 32 (by omega) (by omega) (by decide)
        have m3 : mulOk 100 (j : Int) = true := mulOk_of 32 32 (by omega) (by omega) (by decide)
        have m4 : mulOk (j : Int) (j : Int) = true := mulOk_of 32 32 (by omega) (by omega) (by decide)
        have jj : (j : Int) * (j : Int) ≤ 24 * 24 := Int.mul_le_mul (by omega) (by omega) (by omega) (by omega)
        have jj0 : 0 ≤ (j : Int) * (j : Int) := Int.mul_nonneg (by omega) (by omega)
        obtain ⟨r, r0, r1, mx⟩ := mixed_D x (7 * (k : Int) + 100 * (j : Int) + (j : Int) * (j : Int)) (by omega) (by omega)
        refine ⟨[some (.scr (ns.map .int)), some (.val (.int k)), some (.val (.int x)), some (.val (.int f)), some (.val (.int (j : Nat)))], [some (.scr (ns.map .int)), some (.val (.int k)), some (.val (.int x)), some (.val (.int (f * 2147483579 + r))), some (.val (.int (j : Nat)))], by simp, ?_, fun _ => ⟨f * 2147483579 + r, some (.int (j : Nat)), by omega, ?_, rfl⟩⟩
        · simp [m1, m2, m3, m4, mx]
        · rw [show 32 * (j + 1) = 32 * j + 32 by omega, Nat.pow_add]
          generalize 2 ^ (32 * j) = P at f1
          rw [show (2 : Nat) ^ 32 = 4294967296 from rfl]
          omega)
    obtain ⟨ρ', L, hI⟩ := L
    obtain ⟨f, c4, f0, f1, rfl⟩ := hI (by simp [rng])
    refine ⟨f, ?_⟩
    have s24 : small62 24 = true := by decide +kernel
    unfold F__law_cell b__law_cell
    generalize sIfS (sTest (sOp ltF (sVar 1) (sLenScr 0))) (sSet 2 (sIxScr 0 (sVar 1))) sNx = S at *
    simp [hx, pow18, pow60, hg, s24, L]
theorem take_D (x m : Int) (hm : 0 < m) (hl : m < 1000000) : F__law_take [.list [.int x], .int m] = some ((.int (x % m), false), [.list [.int (x / m)]]) := by
  have hl2 : m.natAbs.log2 < 9000 := by
    have : m.natAbs.log2 < 20 := (Nat.log2_lt (by omega)).mpr (by omega)
    omega
  have a1 : atI [PyData.int x] 0 = some (.int x) := rfl
  have a2 : ixN 1 0 = some 0 := rfl
  unfold F__law_take b__law_take
  simp [hm, hl2, a1, a2]
end Pv.Lw
end
section
set_option Elab.async false
set_option linter.all false
set_option autoImplicit false
set_option maxRecDepth 100000
set_option maxHeartbeats 1000000
namespace Pv
open PySem L2 PySem.W Pv.Ev
theorem lcL_filter2 {g : SemG} {t : SemT} {el : SemE} {vs : List Nat} {ρ : Ro} {h : D → D} {p : D → Bool} : ∀ {ds : List D} {n : Nat}, (∀ d ∈ ds, ∃ ρ1, g d ρ = some ρ1 ∧ t ρ1 = some (p d, ρ1) ∧ wipeR ρ1 vs = ρ ∧ (p d = true → ∃ r, el ρ1 = some (r, ρ1) ∧ frz ρ1 r = some (h d, ρ1))) → n + ds.length ≤ sizeLine →
    lcL g t el vs ds n ρ = some ((ds.filter p).map h, ρ)
  | [], _, _, _ => rfl
  | d :: ds, n, k, hz => by
    obtain ⟨ρ1, e1, e2, e5, e6⟩ := k d List.mem_cons_self
    rw [List.length_cons] at hz
    have lt : n < sizeLine := by omega
    cases hp : p d with
    | true =>
      obtain ⟨r, e3, e4⟩ := e6 hp
      simp only [lcL, e1, e2, hp, e3, e4, e5, Option.bind_some, if_pos, lt]
      rw [lcL_filter2 (fun x hx => k x (List.mem_cons_of_mem _ hx)) (by omega), List.filter_cons_of_pos hp]
      rfl
    | false =>
      simp only [lcL, e1, e2, hp, e5, Option.bind_some, Bool.false_eq_true, if_false]
      rw [lcL_filter2 (fun x hx => k x (List.mem_cons_of_mem _ hx)) (by omega), List.filter_cons_of_neg (by rw [hp]; exact Bool.false_ne_true)]
theorem sIx_nat (n d i : Nat) : HT.sIx n d (some (i : Int)) = min i n := by
  unfold HT.sIx
  have : ¬ ((i : Int) < 0) := by omega
  simp [this]
theorem cutD_take (ds : List D) (i : Nat) : cutD ds none (some (i : Int)) = ds.take i := by
  unfold cutD
  have a : HT.sIx ds.length 0 none = 0 := rfl
  rw [a, sIx_nat, List.drop_zero, Nat.sub_zero]
  simp
theorem cutD_drop (ds : List D) (i : Nat) : cutD ds (some (i : Int)) none = ds.drop i := by
  unfold cutD
  have a : HT.sIx ds.length ds.length none = ds.length := rfl
  rw [a, sIx_nat]
  by_cases h : i ≤ ds.length
  · rw [Nat.min_eq_left h, List.take_of_length_le (by simp)]
  · rw [Nat.min_eq_right (by omega), List.drop_eq_nil_of_le (by omega : ds.length ≤ i)]
    simp
end Pv
end
section
set_option Elab.async false
set_option linter.all false
set_option autoImplicit false
set_option maxRecDepth 100000
set_option maxHeartbeats 1000000
namespace Pv
open PySem
section
variable {α β : Type}
end
end Pv
end
section
set_option Elab.async false
set_option linter.all false
set_option maxRecDepth 100000
set_option maxHeartbeats 1000000
namespace Pv
open PySem PySem.Spec PyProof.Rows L2 PySem.W
section
variable {X : Cx}
end
def fnNone : Fn := fun _ => none
section
variable {P : Program} {w : World} {K : Fr'} {mg : Str → Option Value} {base : Heap} {x : Str} {k : Nat} {ps : List Str} {ms : List Md} {st : Stmt}
theorem Cal.none_ (h : Here K mg x st) (hl : ps.length = ms.length)
    (hb : ∀ (kV doc pm : Value) (an : Option Addr) (cdv ct : Value) (us : List Value), us.length = ps.length → bindArgs (PySem.W.fnOf x x (defArgs st) (defBody st) (defScope st) .none kV doc pm an cdv ct) ⟨us, []⟩ = pure (ps.zip us)) :
    Cal P w K mg base x k ps ms fnNone := by
  obtain ⟨f, fd, F, m⟩ := h.ex
  refine ⟨⟨f, fd, ⟨fun xs H Q E h => ?_, fun A fs s H ar us xs Q E _ _ _ _ _ h => ?_⟩, F.binds hb, F.kp, m⟩⟩
  · obtain ⟨W, F', ds, z, bs, _, _, _, a, _⟩ := h
    rw [args_len a, hl]
  · obtain ⟨W, F', ds, z, bs, _, _, _, _, e, _⟩ := h
    cases e
end
end Pv
end
section
set_option Elab.async false
set_option linter.all false
set_option maxRecDepth 100000
set_option maxHeartbeats 1000000
namespace Pv.Pg
open PySem Pv
abbrev N_is_name : List Str := ["value", "letter"]
def b_is_name : SemS := (sRet (sAndV (sIsi "str" (sVar 0)) (sAndV (sChain leF leF (sC (.int 1)) (sCB lenF (pCons (sVar 0) pNil)) (sC (.int 8))) (sCB allF (pCons (sLc (gN 1) sYes (sOp inF (sVar 1) (sC (.str "abcdefghijklmnopqrstuvwxyz"))) [1] (iOf walkOf (sVar 0))) pNil)))))
def F_is_name : Fn := fnOf 2 [.v] b_is_name
end Pv.Pg
end
section
set_option Elab.async false
set_option linter.all false
set_option autoImplicit false
set_option maxRecDepth 100000
set_option maxHeartbeats 1000000
namespace Pv.Pg
open PySem Pv
abbrev letters : Str := "abcdefghijklmnopqrstuvwxyz"
def letterB (c : Nat) : Bool := decide (c ∈ chars letters)
def nameB (x : Str) : Bool := decide (1 ≤ (x.length : Int)) && (decide ((x.length : Int) ≤ 8) && x.cps.toList.all letterB)
theorem name_loop (x : Str) (hz : x.length ≤ sizeLine) : (sLc (gN 1) sYes (sOp inF (sVar 1) (sC (.str "abcdefghijklmnopqrstuvwxyz"))) [1] (iOf walkOf (sVar 0))) [some (.val (.str x)), none] = some (.fr (.list (x.cps.toList.map fun c => .bool (letterB c))), [some (.val (.str x)), none]) := by
  have e : lcL (gN 1) sYes (sOp inF (sVar 1) (sC (.str "abcdefghijklmnopqrstuvwxyz"))) [1] (charsD x) 0 [some (.val (.str x)), none] = some ((charsD x).map (fun d => match d with | .str y => .bool (match chars y with | [c] => letterB c | _ => false) | _ => .none), [some (.val (.str x)), none]) := by
    refine lcL_map (fun d hd => ?_) (by rw [charsD, List.length_map, Array.length_toList]; simpa [Str.length] using hz)
    obtain ⟨c, hc, rfl⟩ := List.mem_map.mp hd
    exact ⟨[some (.val (.str x)), some (.val (.str ⟨#[c]⟩))], _, rfl, rfl, rfl, rfl, rfl⟩
  simp only [sLc, iOf, sVar, walkOf, frz, clearAt, List.getElem?_cons_zero, Option.bind_some, List.all_cons, List.getElem?_cons_succ, List.all_nil, Bool.and_self, if_true, e]
  simp only [charsD, List.map_map]
  rfl
theorem is_name_str (x : Str) (hz : x.length ≤ sizeLine) : F_is_name [.str x] = some ((.bool (nameB x), false), []) := by
  have l := name_loop x hz
  have e : b_is_name [some (.val (.str x)), none] = some (.rt (.val (.bool (nameB x))) [some (.val (.str x)), none]) := by
    unfold b_is_name nameB
    have hl : lenF [.str x] = some (.int x.length, false) := by simp only [lenF, if_pos hz]
    simp only [sRet, sAndV, sTest, sIsi, sVar, sChain, sC, sCB, pCons, pNil, look, looks, settle, isiD, tyName, asB, leF, mkR, List.getElem?_cons_zero, Option.bind_some, hl, l, allF, asBls_map, List.all_map]
    by_cases h1 : 1 ≤ (x.length : Int)
    · by_cases h2 : (x.length : Int) ≤ 8
      · simp [h1, h2, l, looks, look, settle, asBls_map, Function.comp_def]
      · simp [h1, h2]
    · simp [h1]
  unfold F_is_name fnOf
  simp only [cells, Option.map_some, Option.bind_some, List.length_cons, List.length_nil]
  show (b_is_name [some (.val (.str x)), none]).bind (endOf [.v]) = _
  rw [e]
  rfl
theorem is_name_other (d : PyData) (h : isiD "str" d = false) : F_is_name [d] = some ((.bool false, false), []) := by
  have e : b_is_name [some (.val d), none] = some (.rt (.val (.bool false)) [some (.val d), none]) := by
    unfold b_is_name
    simp [sRet, sAndV, sTest, sIsi, sVar, look, settle, asB, h]
  unfold F_is_name fnOf
  show (b_is_name [some (.val d), none]).bind (endOf [.v]) = _
  rw [e]
  rfl
def nameD : PyData → Bool
  | .str x => nameB x
  | _ => false
def shortD : PyData → Bool
  | .str x => decide (x.length ≤ sizeLine)
  | _ => true
theorem is_name_D (d : PyData) (h : shortD d = true) : F_is_name [d] = some ((.bool (nameD d), false), []) := by
  cases d with
  | str x => exact is_name_str x (of_decide_eq_true h)
  | none => exact is_name_other _ rfl
  | bool _ => exact is_name_other _ rfl
  | int _ => exact is_name_other _ rfl
  | list _ => exact is_name_other _ rfl
  | tuple _ => exact is_name_other _ rfl
  | dict _ => exact is_name_other _ rfl
theorem _root_.Pv.OkV.shortP {ds : List D} (h : OkV (.tuple ds)) : ∀ d ∈ ds, shortD d = true := fun x hx => by
  have h3 := h.mem hx
  cases x with
  | str x => exact decide_eq_true (Nat.le_trans h3.txt (by decide))
  | _ => rfl
end Pv.Pg
end
section
set_option Elab.async false
set_option linter.all false
set_option autoImplicit false
set_option maxRecDepth 100000
set_option maxHeartbeats 1000000
namespace Pv.Ev
open PySem Pv
theorem str_ne {a b : Str} (h : (a.cps.toList == b.cps.toList) = false) : (a == b) = false := by rw [eqS_beq0]; exact h
theorem str_ne' {a b : Str} (h : (a.cps.toList == b.cps.toList) = false) : (a = b) = False := by
  have := str_ne h
  simpa using this

@[scoped simp] theorem kn_skip_stop : (("skip" : Str) == ("stop" : Str)) = false := str_ne (by decide +kernel)
@[scoped simp] theorem kd_skip_stop : (("skip" : Str) = ("stop" : Str)) = False := str_ne' (by decide +kernel)
@[scoped simp] theorem kn_skip_hole : (("skip" : Str) == ("hole" : Str)) = false := str_ne (by decide +kernel)
@[scoped simp] theorem kd_skip_hole : (("skip" : Str) = ("hole" : Str)) = False := str_ne' (by decide +kernel)
@[scoped simp] theorem kn_skip_do : (("skip" : Str) == ("do" : Str)) = false := str_ne (by decide +kernel)
@[scoped simp] theorem kd_skip_do : (("skip" : Str) = ("do" : Str)) = False := str_ne' (by decide +kernel)
@[scoped simp] theorem kn_skip_call : (("skip" : Str) == ("call" : Str)) = false := str_ne (by decide +kernel)
@[scoped simp] theorem kd_skip_call : (("skip" : Str) = ("call" : Str)) = False := str_ne' (by decide +kernel)
@[scoped simp] theorem kn_skip_hold : (("skip" : Str) == ("hold" : Str)) = false := str_ne (by decide +kernel)
@[scoped simp] theorem kd_skip_hold : (("skip" : Str) = ("hold" : Str)) = False := str_ne' (by decide +kernel)
@[scoped simp] theorem kn_skip_loop : (("skip" : Str) == ("loop" : Str)) = false := str_ne (by decide +kernel)
@[scoped simp] theorem kd_skip_loop : (("skip" : Str) = ("loop" : Str)) = False := str_ne' (by decide +kernel)
@[scoped simp] theorem kn_skip_seq : (("skip" : Str) == ("seq" : Str)) = false := str_ne (by decide +kernel)
@[scoped simp] theorem kd_skip_seq : (("skip" : Str) = ("seq" : Str)) = False := str_ne' (by decide +kernel)
@[scoped simp] theorem kn_skip_either : (("skip" : Str) == ("either" : Str)) = false := str_ne (by decide +kernel)
@[scoped simp] theorem kd_skip_either : (("skip" : Str) = ("either" : Str)) = False := str_ne' (by decide +kernel)
@[scoped simp] theorem kn_stop_skip : (("stop" : Str) == ("skip" : Str)) = false := str_ne (by decide +kernel)
@[scoped simp] theorem kd_stop_skip : (("stop" : Str) = ("skip" : Str)) = False := str_ne' (by decide +kernel)
@[scoped simp] theorem kn_stop_hole : (("stop" : Str) == ("hole" : Str)) = false := str_ne (by decide +kernel)
@[scoped simp] theorem kd_stop_hole : (("stop" : Str) = ("hole" : Str)) = False := str_ne' (by decide +kernel)
@[scoped simp] theorem kn_stop_do : (("stop" : Str) == ("do" : Str)) = false := str_ne (by decide +kernel)
@[scoped simp] theorem kd_stop_do : (("stop" : Str) = ("do" : Str)) = False := str_ne' (by decide +kernel)
@[scoped simp] theorem kn_stop_call : (("stop" : Str) == ("call" : Str)) = false := str_ne (by decide +kernel)
@[scoped simp] theorem kd_stop_call : (("stop" : Str) = ("call" : Str)) = False := str_ne' (by decide +kernel)
@[scoped simp] theorem kn_stop_hold : (("stop" : Str) == ("hold" : Str)) = false := str_ne (by decide +kernel)
@[scoped simp] theorem kd_stop_hold : (("stop" : Str) = ("hold" : Str)) = False := str_ne' (by decide +kernel)
@[scoped simp] theorem kn_stop_loop : (("stop" : Str) == ("loop" : Str)) = false := str_ne (by decide +kernel)
@[scoped simp] theorem kd_stop_loop : (("stop" : Str) = ("loop" : Str)) = False := str_ne' (by decide +kernel)
@[scoped simp] theorem kn_stop_seq : (("stop" : Str) == ("seq" : Str)) = false := str_ne (by decide +kernel)
@[scoped simp] theorem kd_stop_seq : (("stop" : Str) = ("seq" : Str)) = False := str_ne' (by decide +kernel)
@[scoped simp] theorem kn_stop_either : (("stop" : Str) == ("either" : Str)) = false := str_ne (by decide +kernel)
@[scoped simp] theorem kd_stop_either : (("stop" : Str) = ("either" : Str)) = False := str_ne' (by decide +kernel)
@[scoped simp] theorem kn_hole_skip : (("hole" : Str) == ("skip" : Str)) = false := str_ne (by decide +kernel)
@[scoped simp] theorem kd_hole_skip : (("hole" : Str) = ("skip" : Str)) = False := str_ne' (by decide +kernel)
@[scoped simp] theorem kn_hole_stop : (("hole" : Str) == ("stop" : Str)) = false := str_ne (by decide +kernel)
@[scoped simp] theorem kd_hole_stop : (("hole" : Str) = ("stop" : Str)) = False := str_ne' (by decide +kernel)
@[scoped simp] theorem kn_hole_do : (("hole" : Str) == ("do" : Str)) = false := str_ne (by decide +kernel)
@[scoped simp] theorem kd_hole_do : (("hole" : Str) = ("do" : Str)) = False := str_ne' (by decide +kernel)
@[scoped simp] theorem kn_hole_call : (("hole" : Str) == ("call" : Str)) = false := str_ne (by decide +kernel)
@[scoped simp] theorem kd_hole_call : (("hole" : Str) = ("call" : Str)) = False := str_ne' (by decide +kernel)
@[scoped simp] theorem kn_hole_hold : (("hole" : Str) == ("hold" : Str)) = false := str_ne (by decide +kernel)
@[scoped simp] theorem kd_hole_hold : (("hole" : Str) = ("hold" : Str)) = False := str_ne' (by decide +kernel)
@[scoped simp] theorem kn_hole_loop : (("hole" : Str) == ("loop" : Str)) = false := str_ne (by decide +kernel)
@[scoped simp] theorem kd_hole_loop : (("hole" : Str) = ("loop" : Str)) = False := str_ne' (by decide +kernel)
@[scoped simp] theorem kn_hole_seq : (("hole" : Str) == ("seq" : Str)) = false := str_ne (by decide +kernel)
@[scoped simp] theorem kd_hole_seq : (("hole" : Str) = ("seq" : Str)) = False := str_ne' (by decide +kernel)
@[scoped simp] theorem kn_hole_either : (("hole" : Str) == ("either" : Str)) = false := str_ne (by decide +kernel)
@[scoped simp] theorem kd_hole_either : (("hole" : Str) = ("either" : Str)) = False := str_ne' (by decide +kernel)
@[scoped simp] theorem kn_do_skip : (("do" : Str) == ("skip" : Str)) = false := str_ne (by decide +kernel)
@[scoped simp] theorem kd_do_skip : (("do" : Str) = ("skip" : Str)) = False := str_ne' (by decide +kernel)
@[scoped simp] theorem kn_do_stop : (("do" : Str) == ("stop" : Str)) = false := str_ne (by decide +kernel)
@[scoped simp] theorem kd_do_stop : (("do" : Str) = ("stop" : Str)) = False := str_ne' (by decide +kernel)
@[scoped simp] theorem kn_do_hole : (("do" : Str) == ("hole" : Str)) = false := str_ne (by decide +kernel)
@[scoped simp] theorem kd_do_hole : (("do" : Str) = ("hole" : Str)) = False := str_ne' (by decide +kernel)
@[scoped simp] theorem kn_do_call : (("do" : Str) == ("call" : Str)) = false := str_ne (by decide +kernel)
@[scoped simp] theorem kd_do_call : (("do" : Str) = ("call" : Str)) = False := str_ne' (by decide +kernel)
@[scoped simp] theorem kn_do_hold : (("do" : Str) == ("hold" : Str)) = false := str_ne (by decide +kernel)
@[scoped simp] theorem kd_do_hold : (("do" : Str) = ("hold" : Str)) = False := str_ne' (by decide +kernel)
@[scoped simp] theorem kn_do_loop : (("do" : Str) == ("loop" : Str)) = false := str_ne (by decide +kernel)
@[scoped simp] theorem kd_do_loop : (("do" : Str) = ("loop" : Str)) = False := str_ne' (by decide +kernel)
@[scoped simp] theorem kn_do_seq : (("do" : Str) == ("seq" : Str)) = false := str_ne (by decide +kernel)
@[scoped simp] theorem kd_do_seq : (("do" : Str) = ("seq" : Str)) = False := str_ne' (by decide +kernel)
@[scoped simp] theorem kn_do_either : (("do" : Str) == ("either" : Str)) = false := str_ne (by decide +kernel)
@[scoped simp] theorem kd_do_either : (("do" : Str) = ("either" : Str)) = False := str_ne' (by decide +kernel)
@[scoped simp] theorem kn_call_skip : (("call" : Str) == ("skip" : Str)) = false := str_ne (by decide +kernel)
@[scoped simp] theorem kd_call_skip : (("call" : Str) = ("skip" : Str)) = False := str_ne' (by decide +kernel)
@[scoped simp] theorem kn_call_stop : (("call" : Str) == ("stop" : Str)) = false := str_ne (by decide +kernel)
@[scoped simp] theorem kd_call_stop : (("call" : Str) = ("stop" : Str)) = False := str_ne' (by decide +kernel)
@[scoped simp] theorem kn_call_hole : (("call" : Str) == ("hole" : Str)) = false := str_ne (by decide +kernel)
@[scoped simp] theorem kd_call_hole : (("call" : Str) = ("hole" : Str)) = False := str_ne' (by decide +kernel)
@[scoped simp] theorem kn_call_do : (("call" : Str) == ("do" : Str)) = false := str_ne (by decide +kernel)
@[scoped simp] theorem kd_call_do : (("call" : Str) = ("do" : Str)) = False := str_ne' (by decide +kernel)
@[scoped simp] theorem kn_call_hold : (("call" : Str) == ("hold" : Str)) = false := str_ne (by decide +kernel)
@[scoped simp] theorem kd_call_hold : (("call" : Str) = ("hold" : Str)) = False := str_ne' (by decide +kernel)
@[scoped simp] theorem kn_call_loop : (("call" : Str) == ("loop" : Str)) = false := str_ne (by decide +kernel)
@[scoped simp] theorem kd_call_loop : (("call" : Str) = ("loop" : Str)) = False := str_ne' (by decide +kernel)
@[scoped simp] theorem kn_call_seq : (("call" : Str) == ("seq" : Str)) = false := str_ne (by decide +kernel)
@[scoped simp] theorem kd_call_seq : (("call" : Str) = ("seq" : Str)) = False := str_ne' (by decide +kernel)
@[scoped simp] theorem kn_call_either : (("call" : Str) == ("either" : Str)) = false := str_ne (by decide +kernel)
@[scoped simp] theorem kd_call_either : (("call" : Str) = ("either" : Str)) = False := str_ne' (by decide +kernel)
@[scoped simp] theorem kn_hold_skip : (("hold" : Str) == ("skip" : Str)) = false := str_ne (by decide +kernel)
@[scoped simp] theorem kd_hold_skip : (("hold" : Str) = ("skip" : Str)) = False := str_ne' (by decide +kernel)
@[scoped simp] theorem kn_hold_stop : (("hold" : Str) == ("stop" : Str)) = false := str_ne (by decide +kernel)
@[scoped simp] theorem kd_hold_stop : (("hold" : Str) = ("stop" : Str)) = False := str_ne' (by decide +kernel)
@[scoped simp] theorem kn_hold_hole : (("hold" : Str) == ("hole" : Str)) = false := str_ne (by decide +kernel)
@[scoped simp] theorem kd_hold_hole : (("hold" : Str) = ("hole" : Str)) = False := str_ne' (by decide +kernel)
@[scoped simp] theorem kn_hold_do : (("hold" : Str) == ("do" : Str)) = false := str_ne (by decide +kernel)
@[scoped simp] theorem kd_hold_do : (("hold" : Str) = ("do" : Str)) = False := str_ne' (by decide +kernel)
@[scoped simp] theorem kn_hold_call : (("hold" : Str) == ("call" : Str)) = false := str_ne (by decide +kernel)
@[scoped simp] theorem kd_hold_call : (("hold" : Str) = ("call" : Str)) = False := str_ne' (by decide +kernel)
@[scoped simp] theorem kn_hold_loop : (("hold" : Str) == ("loop" : Str)) = false := str_ne (by decide +kernel)
@[scoped simp] theorem kd_hold_loop : (("hold" : Str) = ("loop" : Str)) = False := str_ne' (by decide +kernel)
@[scoped simp] theorem kn_hold_seq : (("hold" : Str) == ("seq" : Str)) = false := str_ne (by decide +kernel)
@[scoped simp] theorem kd_hold_seq : (("hold" : Str) = ("seq" : Str)) = False := str_ne' (by decide +kernel)
@[scoped simp] theorem kn_hold_either : (("hold" : Str) == ("either" : Str)) = false := str_ne (by decide +kernel)
@[scoped simp] theorem kd_hold_either : (("hold" : Str) = ("either" : Str)) = False := str_ne' (by decide +kernel)
@[scoped simp] theorem kn_loop_skip : (("loop" : Str) == ("skip" : Str)) = false := str_ne (by decide +kernel)
@[scoped simp] theorem kd_loop_skip : (("loop" : Str) = ("skip" : Str)) = False := str_ne' (by decide +kernel)
@[scoped simp] theorem kn_loop_stop : (("loop" : Str) == ("stop" : Str)) = false := str_ne (by decide +kernel)
@[scoped simp] theorem kd_loop_stop : (("loop" : Str) = ("stop" : Str)) = False := str_ne' (by decide +kernel)
@[scoped simp] theorem kn_loop_hole : (("loop" : Str) == ("hole" : Str)) = false := str_ne (by decide +kernel)
@[scoped simp] theorem kd_loop_hole : (("loop" : Str) = ("hole" : Str)) = False := str_ne' (by decide +kernel)
@[scoped simp] theorem kn_loop_do : (("loop" : Str) == ("do" : Str)) = false := str_ne (by decide +kernel)
@[scoped simp] theorem kd_loop_do : (("loop" : Str) = ("do" : Str)) = False := str_ne' (by decide +kernel)
@[scoped simp] theorem kn_loop_call : (("loop" : Str) == ("call" : Str)) = false := str_ne (by decide +kernel)
@[scoped simp] theorem kd_loop_call : (("loop" : Str) = ("call" : Str)) = False := str_ne' (by decide +kernel)
@[scoped simp] theorem kn_loop_hold : (("loop" : Str) == ("hold" : Str)) = false := str_ne (by decide +kernel)
@[scoped simp] theorem kd_loop_hold : (("loop" : Str) = ("hold" : Str)) = False := str_ne' (by decide +kernel)
@[scoped simp] theorem kn_loop_seq : (("loop" : Str) == ("seq" : Str)) = false := str_ne (by decide +kernel)
@[scoped simp] theorem kd_loop_seq : (("loop" : Str) = ("seq" : Str)) = False := str_ne' (by decide +kernel)
@[scoped simp] theorem kn_loop_either : (("loop" : Str) == ("either" : Str)) = false := str_ne (by decide +kernel)
@[scoped simp] theorem kd_loop_either : (("loop" : Str) = ("either" : Str)) = False := str_ne' (by decide +kernel)
@[scoped simp] theorem kn_seq_skip : (("seq" : Str) == ("skip" : Str)) = false := str_ne (by decide +kernel)
@[scoped simp] theorem kd_seq_skip : (("seq" : Str) = ("skip" : Str)) = False := str_ne' (by decide +kernel)
@[scoped simp] theorem kn_seq_stop : (("seq" : Str) == ("stop" : Str)) = false := str_ne (by decide +kernel)
@[scoped simp] theorem kd_seq_stop : (("seq" : Str) = ("stop" : Str)) = False := str_ne' (by decide +kernel)
@[scoped simp] theorem kn_seq_hole : (("seq" : Str) == ("hole" : Str)) = false := str_ne (by decide +kernel)
@[scoped simp] theorem kd_seq_hole : (("seq" : Str) = ("hole" : Str)) = False := str_ne' (by decide +kernel)
@[scoped simp] theorem kn_seq_do : (("seq" : Str) == ("do" : Str)) = false := str_ne (by decide +kernel)
@[scoped simp] theorem kd_seq_do : (("seq" : Str) = ("do" : Str)) = False := str_ne' (by decide +kernel)
@[scoped simp] theorem kn_seq_call : (("seq" : Str) == ("call" : Str)) = false := str_ne (by decide +kernel)
@[scoped simp] theorem kd_seq_call : (("seq" : Str) = ("call" : Str)) = False := str_ne' (by decide +kernel)
@[scoped simp] theorem kn_seq_hold : (("seq" : Str) == ("hold" : Str)) = false := str_ne (by decide +kernel)
@[scoped simp] theorem kd_seq_hold : (("seq" : Str) = ("hold" : Str)) = False := str_ne' (by decide +kernel)
@[scoped simp] theorem kn_seq_loop : (("seq" : Str) == ("loop" : Str)) = false := str_ne (by decide +kernel)
@[scoped simp] theorem kd_seq_loop : (("seq" : Str) = ("loop" : Str)) = False := str_ne' (by decide +kernel)
@[scoped simp] theorem kn_seq_either : (("seq" : Str) == ("either" : Str)) = false := str_ne (by decide +kernel)
@[scoped simp] theorem kd_seq_either : (("seq" : Str) = ("either" : Str)) = False := str_ne' (by decide +kernel)
@[scoped simp] theorem kn_either_skip : (("either" : Str) == ("skip" : Str)) = false := str_ne (by decide +kernel)
@[scoped simp] theorem kd_either_skip : (("either" : Str) = ("skip" : Str)) = False := str_ne' (by decide +kernel)
@[scoped simp] theorem kn_either_stop : (("either" : Str) == ("stop" : Str)) = false := str_ne (by decide +kernel)
@[scoped simp] theorem kd_either_stop : (("either" : Str) = ("stop" : Str)) = False := str_ne' (by decide +kernel)
@[scoped simp] theorem kn_either_hole : (("either" : Str) == ("hole" : Str)) = false := str_ne (by decide +kernel)
@[scoped simp] theorem kd_either_hole : (("either" : Str) = ("hole" : Str)) = False := str_ne' (by decide +kernel)
@[scoped simp] theorem kn_either_do : (("either" : Str) == ("do" : Str)) = false := str_ne (by decide +kernel)
@[scoped simp] theorem kd_either_do : (("either" : Str) = ("do" : Str)) = False := str_ne' (by decide +kernel)
@[scoped simp] theorem kn_either_call : (("either" : Str) == ("call" : Str)) = false := str_ne (by decide +kernel)
@[scoped simp] theorem kd_either_call : (("either" : Str) = ("call" : Str)) = False := str_ne' (by decide +kernel)
@[scoped simp] theorem kn_either_hold : (("either" : Str) == ("hold" : Str)) = false := str_ne (by decide +kernel)
@[scoped simp] theorem kd_either_hold : (("either" : Str) = ("hold" : Str)) = False := str_ne' (by decide +kernel)
@[scoped simp] theorem kn_either_loop : (("either" : Str) == ("loop" : Str)) = false := str_ne (by decide +kernel)
@[scoped simp] theorem kd_either_loop : (("either" : Str) = ("loop" : Str)) = False := str_ne' (by decide +kernel)
@[scoped simp] theorem kn_either_seq : (("either" : Str) == ("seq" : Str)) = false := str_ne (by decide +kernel)
@[scoped simp] theorem kd_either_seq : (("either" : Str) = ("seq" : Str)) = False := str_ne' (by decide +kernel)
end Pv.Ev
end
section
set_option Elab.async false
set_option linter.all false
set_option autoImplicit false
set_option maxRecDepth 100000
set_option maxHeartbeats 2000000
namespace Pv.Pg
open PySem L2 Pv Pv.Ev
def formB (L : List Str) : D → Option (List D)
  | .tuple (.str k :: r) =>
    if k = "skip" ∨ k = "stop" ∨ (k = "hole" ∧ k ∈ L) then (if r.length = 0 then some [] else none)
    else if k = "do" ∨ (k = "call" ∧ k ∈ L) then (if r.length = 1 ∧ nameD (r.getD 0 .none) = true then some [] else none)
    else if k = "hold" then (if r.length = 2 ∧ nameD (r.getD 0 .none) = true then some (r.drop 1) else none)
    else if k = "loop" then (if r.length = 1 then some r else none)
    else if (k = "seq" ∨ k = "either") ∧ 2 ≤ r.length then some r else none
  | _ => none
theorem eqv_str (a b : Str) : PyData.eqv (.str a) (.str b) = (a == b) := by simp only [PyData.eqv]
theorem inB_strs {k : Str} {xs : List Str} (hk : PyData.strOk k = true) (hx : ∀ x ∈ xs, PyData.strOk x = true) : inB (.str k) (.tuple (xs.map .str)) = some (decide (k ∈ xs)) := by
  rw [inB_t _ (shaped_s k hk) (shaped_tup fun d hd => by
    obtain ⟨x, hm, rfl⟩ := List.mem_map.mp hd
    exact ⟨by simpa [PyData.canLay0] using hx x hm, by simp [PyData.depth]⟩)]
  congr 1
  rw [Bool.eq_iff_iff]
  simp only [List.any_map, List.any_eq_true, Function.comp, eqv_str, beq_iff_eq, decide_eq_true_eq]
  constructor
  · rintro ⟨x, hx, rfl⟩; exact hx
  · intro h; exact ⟨k, h, rfl⟩
theorem at0 {d : D} {r : List D} : atI (d :: r) 0 = some d := by
  unfold atI ixN
  simp
end Pv.Pg
end
section
set_option Elab.async false
set_option linter.all false
set_option autoImplicit false
set_option maxRecDepth 100000
set_option maxHeartbeats 2000000
namespace Pv.Pg
open PySem L2 Pv Pv.Ev
inductive Part (L : List Str) : D → List D → Prop
  | leaf0 (k : Str) (hk : k = "skip" ∨ k = "stop" ∨ (k = "hole" ∧ k ∈ L)) : Part L (.tuple [.str k]) []
  | leaf1 (k nm : Str) (hk : k = "do" ∨ (k = "call" ∧ k ∈ L)) (hn : nameB nm = true) : Part L (.tuple [.str k, .str nm]) []
  | hold (nm : Str) (p : D) (hn : nameB nm = true) : Part L (.tuple [.str "hold", .str nm, p]) [p]
  | loop (p : D) : Part L (.tuple [.str "loop", p]) [p]
  | many (k : Str) (r : List D) (hk : k = "seq" ∨ k = "either") (hr : 2 ≤ r.length) : Part L (.tuple (.str k :: r)) r
theorem Part.sub {L : List Str} {v : D} {ms : List D} (p : Part L v ms) : ∃ ds, v = .tuple ds ∧ ∀ m ∈ ms, m ∈ ds := by
  cases p with
  | leaf0 k hk => exact ⟨_, rfl, by simp⟩
  | leaf1 k nm hk hn => exact ⟨_, rfl, by simp⟩
  | hold nm p hn => exact ⟨_, rfl, by simp⟩
  | loop p => exact ⟨_, rfl, by simp⟩
  | many k r hk hr => exact ⟨_, rfl, fun m hm => List.mem_cons_of_mem _ hm⟩
theorem Part.ok {L : List Str} {v : D} {ms : List D} (p : Part L v ms) (h : OkV v) : ∀ m ∈ ms, OkV m := by
  obtain ⟨ds, rfl, hs⟩ := p.sub
  exact fun m hm => h.mem (hs m hm)
theorem Part.len {L : List Str} {v : D} {ms : List D} (p : Part L v ms) (h : OkV v) : ms.length ≤ 4000 := by
  cases p with
  | leaf0 k hk => simp
  | leaf1 k nm hk hn => simp
  | hold nm p hn => simp
  | loop p => simp
  | many k r hk hr => have := h.len; simp at this; omega
theorem cut1 (d : D) (r : List D) : cutD (d :: r) (some 1) none = r := by
  have := cutD_drop (d :: r) 1
  simpa using this
def allP (f : D → Option (List D)) : List D → Option (List D)
  | [] => some []
  | d :: ds => (f d).bind fun a => (allP f ds).map (a ++ ·)
def partsB (L : List Str) : Nat → D → Option (List D)
  | 0, _ => none
  | n + 1, v => (formB L v).bind fun ms => (allP (partsB L n) ms).map (v :: ·)
end Pv.Pg
end
section
set_option Elab.async false
set_option linter.all false
set_option autoImplicit false
set_option maxRecDepth 100000
set_option maxHeartbeats 2000000
namespace Pv.Pg
open PySem L2 Pv Pv.Ev
end Pv.Pg
end
section
set_option Elab.async false
set_option linter.all false
set_option autoImplicit false
set_option maxRecDepth 100000
set_option maxHeartbeats 2000000
namespace Pv.Pg
open PySem L2 Pv Pv.Ev
def dsOf : D → List D
  | .tuple ds => ds
  | _ => []
theorem Part.few {L : List Str} {v : D} {ms : List D} (p : Part L v ms) : ms.length ≤ (dsOf v).length := by
  cases p <;> simp [dsOf]
end Pv.Pg
end
section
set_option Elab.async false
set_option linter.all false
set_option autoImplicit false
set_option maxRecDepth 100000
set_option maxHeartbeats 2000000
namespace Pv.Lw
open PySem L2 Pv Pv.Ev Pv.Pg
abbrev W : List Str := ["a", "ab", "b", "hold", "outer", "zz", "either", "longlock", "inner", "here"]
theorem W_ok : ∀ w ∈ W, okVB (.str w) = true ∧ nameB w = true ∧ decide ((PyData.str w).weight ≤ 8) = true := by decide +kernel
def GW (ws : List Str) : Prop := ws ≠ [] ∧ ws.length ≤ 1000 ∧ ∀ w ∈ ws, okVB (.str w) = true ∧ nameB w = true ∧ (PyData.str w).weight ≤ 8
theorem GW.of {ws : List Str} (h1 : ws ≠ []) (h2 : ws.length ≤ 1000) (h : ∀ w ∈ ws, w ∈ W) : GW ws := ⟨h1, h2, fun w hw => by
  obtain ⟨a, b, c⟩ := W_ok w (h w hw)
  exact ⟨a, b, of_decide_eq_true c⟩⟩
structure DB (n wt : Nat) (v : D) : Prop where
  parts : (partsB [] n v).isSome = true
  ok : OkV v
  wgt : v.weight ≤ wt
  dep : v.depth ≤ n
end Pv.Lw
end
section
set_option Elab.async false
set_option linter.all false
set_option maxRecDepth 100000
set_option maxHeartbeats 1000000
namespace Pv
open PySem PySem.Spec PyProof.Rows L2 PySem.W
def okAt (ρ : Ro) (vs : List Nat) : Bool := vs.all fun i => match ρ[i]? with
  | some (some (.val _)) => true
  | some (some _) => false
  | _ => true
theorem ok_at {ρ : Ro} {vs : List Nat} (h : okAt ρ vs = true) {i : Nat} {c : Cell} (hi : i ∈ vs) (e : ρ[i]? = some (some c)) : ∃ d, c = .val d := by
  unfold okAt at h
  have := List.all_eq_true.mp h i hi
  rw [e] at this
  cases c with
  | val d => exact ⟨d, rfl⟩
  | own d => cases this
  | byr d => cases this
  | scr d => cases this
def backR (ρ0 ρ : Ro) : List Nat → Ro
  | [] => ρ
  | v :: vs => (backR ρ0 ρ vs).set v (ρ0[v]?.getD none)
theorem backR_len (ρ0 ρ : Ro) : ∀ vs, (backR ρ0 ρ vs).length = ρ.length
  | [] => rfl
  | v :: vs => by unfold backR; rw [List.length_set, backR_len ρ0 ρ vs]
theorem backR_in {ρ0 ρ : Ro} {i : Nat} {c : Cell} : ∀ {vs : List Nat}, (backR ρ0 ρ vs)[i]? = some (some c) → (i ∈ vs ∧ ρ0[i]? = some (some c)) ∨ ρ[i]? = some (some c)
  | [], h => .inr h
  | v :: vs, h => by
    unfold backR at h
    by_cases hv : v = i
    · subst hv
      left
      refine ⟨List.mem_cons_self, ?_⟩
      by_cases hl : v < (backR ρ0 ρ vs).length
      · rw [List.getElem?_set_self hl] at h
        injection h with h
        cases h0 : ρ0[v]? with
        | none => rw [h0] at h; cases h
        | some o => rw [h0] at h; simp only [Option.getD_some] at h; rw [h]
      · rw [List.getElem?_eq_none (by rw [List.length_set]; omega)] at h; cases h
    · rw [List.getElem?_set_ne hv] at h
      rcases backR_in h with ⟨a, b⟩ | b
      · exact .inl ⟨List.mem_cons_of_mem _ a, b⟩
      · exact .inr b
theorem backR_off {ρ0 ρ : Ro} {i : Nat} : ∀ {vs : List Nat}, i ∉ vs → (backR ρ0 ρ vs)[i]? = ρ[i]?
  | [], _ => rfl
  | v :: vs, h => by
    unfold backR
    rw [List.getElem?_set_ne (fun z => h (by rw [z]; exact List.mem_cons_self)), backR_off (fun z => h (List.mem_cons_of_mem _ z))]
section
variable {K : Fr'} {P : List (Nat × Addr)} {W F H F' H' : Hp} {σ : St} {ρ ρ2 : Ro} {vs : List Nat}
theorem pin_offS (R : Rel K P W F H σ ρ) (h : okAt ρ vs = true) : ∀ p ∈ P, p.1 ∉ vs := fun p hp hi => by
  obtain ⟨_, d, e⟩ := R.pin p hp
  obtain ⟨_, z⟩ := ok_at h hi e
  cases z
theorem Rel.back (R : Rel K P W F H σ ρ) (h : okAt ρ vs = true) (x : Ext W F F') (R2 : Rel K P W F' H' σ ρ2) : Rel K P W F' H' σ (backR ρ ρ2 vs) where
  fh := R2.fh
  wh := R2.wh
  len := R2.len.trans (backR_len _ _ _).symm
  cell := fun i c e => by
    rcases backR_in e with ⟨hi, e1⟩ | e1
    · obtain ⟨d, rfl⟩ := ok_at h hi e1
      obtain ⟨v, hv, hk⟩ := R.cell i _ e1
      exact ⟨v, hv, Rp.mono (Le.of x.same) hk⟩
    · exact R2.cell i c e1
  inj := fun j k c e b hjk h1 h2 o1 o2 s1 s2 => by
    have g : ∀ (i : Nat) (c : Cell), (backR ρ ρ2 vs)[i]? = some (some c) → c.owned = true → ρ2[i]? = some (some c) := fun i c e o => by
      rcases backR_in e with ⟨hi, e1⟩ | e1
      · obtain ⟨d, rfl⟩ := ok_at h hi e1
        cases o
      · exact e1
    exact R2.inj j k c e b hjk (g j c h1 o1) (g k e h2 o2) o1 o2 s1 s2
  pin := fun p q => by
    obtain ⟨h1, d', h2⟩ := R2.pin p q
    exact ⟨h1, d', by rw [backR_off (pin_offS R h p q)]; exact h2⟩
  dis := R2.dis
end
def iW (vs : List Nat) (it : SemI) : SemI := fun ρ => (it ρ).bind fun x => if okAt x.2 vs = true then some (x.1, wipeR x.2 vs) else none
theorem di_iW {X : Cx} {tg iter : Expr} {it : SemI} {vs : List Nat} (hi : DI X tg iter it) : DI X tg iter (iW vs it) := by
  refine ⟨hi.pi.pvi fun σ H R q => ?_⟩
  obtain ⟨P, W, F, ρ, ds, ρ', R0, e, q⟩ := q
  simp only [iW, Option.bind_eq_some_iff, Prod.exists] at e
  obtain ⟨ds1, ρ1, e1, e2⟩ := e
  split at e2
  case isFalse => cases e2
  rename_i hok
  cases e2
  refine ⟨P, W, F, ρ, _, ρ1, R0, e1, fun J H' W' F' sw x R1 w => q J H' W' F' sw x ?_ w⟩
  exact R1.fewer (wipeR_len _ _) (fun i c e => (wipeR_in e).2) fun p hp => wipeR_off (pin_offS R1 hok p hp)
def sLcS (g : SemG) (t : SemT) (el : SemE) (vs : List Nat) (it : SemI) : SemE := fun ρ => if okAt ρ vs = true then (sLc g t el vs (iW vs it) ρ).bind fun x => some (x.1, backR ρ x.2 vs) else none
section
variable {X : Cx}
theorem de_lcS {elt tg iter : Expr} {ifs : List Expr} {scope : Scope} {own : List (Str × Nat)} {pos : Pos} {it : SemI} {g : SemG} {t : SemT} {el : SemE} {us : List Nat} (hi : DI X tg iter it) (ok : BlkOk X.N X.env.scope scope own)
    (hg : ∀ (s : Shared) (H : Hp) (C : Addr) (cl : List (Str × Addr)) (fp : List Addr), DG (X.blk s H scope (compEnvC scope cl C X.env) fp) tg us g) (ht : ∀ (s : Shared) (H : Hp) (C : Addr) (cl : List (Str × Addr)) (fp : List Addr), DTs (X.blk s H scope (compEnvC scope cl C X.env) fp) ifs t)
    (he : ∀ (s : Shared) (H : Hp) (C : Addr) (cl : List (Str × Addr)) (fp : List Addr), DE (X.blk s H scope (compEnvC scope cl C X.env) fp) elt el) (hu : ∀ i ∈ us, i ∈ own.map (·.2)) (hc : X.calm = true) (hN : X.N.Nodup) (hs : ∀ x, foldedSetIterable iter X.env x = pure x := by intro _; rfl) :
    DE X (.ListComp elt [⟨tg, iter, ifs, 0⟩] scope pos) (sLcS g t el (own.map (·.2)) it) := by
  refine ⟨(de_lc (di_iW (vs := own.map (·.2)) hi) ok hg ht he hu hc hN hs).pe.pvi fun σ H Q q => ?_⟩
  obtain ⟨P, W, F, ρ, r, ρ', R, e, q⟩ := q
  simp only [sLcS] at e
  split at e
  case isFalse => cases e
  rename_i hok
  simp only [Option.bind_eq_some_iff, Prod.exists] at e
  obtain ⟨r1, ρ2, e1, e2⟩ := e
  cases e2
  refine ⟨P, W, F, ρ, _, ρ2, R, e1, fun v H' F' x R' o => q v H' F' x (R.back hok x R') ?_⟩
  have e1' := e1
  simp only [sLc, Option.bind_eq_some_iff, Prod.exists] at e1'
  obtain ⟨ds, ρ3, _, e4⟩ := e1'
  split at e4
  case isFalse => cases e4
  simp only [Option.bind_eq_some_iff, Prod.exists] at e4
  obtain ⟨zs, ρ4, _, e5⟩ := e4
  cases e5
  refine ⟨o.1, fun i c e ow => ?_⟩
  rcases backR_in e with ⟨hi, e6⟩ | e6
  · obtain ⟨d, rfl⟩ := ok_at hok hi e6
    cases ow
  · exact o.2 i c e6 ow
end
end Pv
end
section
set_option Elab.async false
set_option linter.all false
set_option maxRecDepth 100000
set_option maxHeartbeats 1000000
namespace Pv
open PySem PySem.Spec PyProof.Rows L2 PySem.W
section
variable {X : Cx}
def dictE : D → Option Bool
  | .dict es => some (!es.isEmpty)
  | _ => none
def sTruthD (f : SemE) : SemT := fun ρ => (f ρ).bind fun x => (look x.2 x.1).bind fun d => (dictE d).bind fun b => some (b, x.2)
theorem RpD.isEmpty {K : Fr'} {F : Hp} {kvs : List (Key × V)} {es : List (D × D)} (r : RpD K F kvs es) : kvs.isEmpty = es.isEmpty := by cases r <;> rfl
theorem tru_rd : TruR X (fun x H Q => ∃ a kvs, x = .ref a ∧ Rd H a (.dK kvs) ∧ Q (!kvs.isEmpty) H) := by
  intro pins s σ H x v Q I rx h
  obtain ⟨p, kvs, rfl, ha, q⟩ := h
  cases rx
  have hl := line63
  have hs : sizeLine = 16777216 := sizeLine_eq
  obtain ⟨hz, hS, vs, r, m⟩ := dk_rd I.hok ha
  have hlen : kvs.length = vs.length := Paired.length r
  exact wpAny_truthy_dict hS m (by omega) ⟨H, I.tok _, by rw [isEmpty_kv r]; exact q⟩
theorem dt_truthD {a : Expr} {f : SemE} (ha : DE X a f) (he : ∀ whole, isTrue a X.env whole = (do let v ← whole; standAt a.pos; holding [v] (truthy v)) := by intro _; rfl) : DT X a (sTruthD f) := by
  refine ⟨(pt_truthR ha.pe tru_rd he).pvi fun σ H Q q => ?_⟩
  obtain ⟨P, W, F, ρ, b, ρ', R, e, q⟩ := q
  simp only [sTruthD, Option.bind_eq_some_iff] at e
  obtain ⟨⟨r, ρ1⟩, e1, d, e2, k, e3, e4⟩ := e
  cases e4
  refine ⟨P, W, F, ρ, r, _, R, e1, fun v H1 F1 x1 R1 o1 => ?_⟩
  have lk := R1.lk o1 e2
  unfold dictE at e3
  split at e3
  case h_2 => cases e3
  cases e3
  obtain ⟨p, kvs, rfl, hr, rp⟩ := lk.dict R1.fh
  refine ⟨p, kvs, rfl, hr, ?_⟩
  rw [rp.isEmpty]
  exact q H1 F1 x1 R1
end
end Pv
end
section
set_option Elab.async false
set_option linter.all false
set_option maxRecDepth 100000
set_option maxHeartbeats 2000000
namespace Pv.Lw
open PySem Pv
def b__law_table : SemS := (sSeq (sPar 1 2 (mR (sLst sNil) (mR sDct0 mNil))) (sSeq (sFor (iR3 (pCons (sOp subF (sCB lenF (pCons (sVar 0) pNil)) (sC (.int 2))) (pCons (sOp subF (sC (.int 0)) (sC (.int 1))) (pCons (sOp subF (sC (.int 0)) (sC (.int 2))) pNil)))) (gN 3) (sSeq (sSet 1 (sOp addF (sVar 1) (sCB listF (pCons (sOp ixG (sVar 0) (sOp addF (sVar 3) (sC (.int 1)))) pNil)))) (sFor (iOf walkOf (sOp ixG (sVar 0) (sVar 3))) (gN 4) (sSub 2 (sVar 4) (sCB sortedF2 (pCons (sVar 1) pNil)))))) (sRet (sVar 2))))
def F__law_table : Fn := fnOf 5 [.v] b__law_table
end Pv.Lw
end
section
set_option Elab.async false
set_option linter.all false
set_option autoImplicit false
set_option maxRecDepth 100000
set_option maxHeartbeats 2000000
namespace Pv
open PySem PySem.Spec PyProof.Rows L2
section
variable {P : Program} {w : World} {κ : Type} [DecidableEq κ]
structure SetKind (knd : HeapKind P w κ) : Prop where
  stays : knd.Stays
  cls : ∀ {A : Around} {E : Value → Shared → Prop} {s : Shared} {k : κ} {b : Addr} {Q : Bool → Shared → Prop}, knd.is s.heap k b → Q false s → wpAny (model P w) A (ofAClassStatement 8 (.ref b)) Q E s
  byV : ∀ {s : Shared} {k : κ} {b : Addr}, knd.is s.heap k b → ∃ r, ∀ {A : Around} {E : Value → Shared → Prop} {Q : Bool → Shared → Prop}, Q r s → wpAny (model P w) A (hashByValue 8 (.ref b)) Q E s
theorem aClass_key : ∀ (k : NestedKey) (v : Value) (n : Nat) (s : Shared), NestedIs s.heap k v → k.depth ≤ n → ∀ {A : Around} {E : Value → Shared → Prop} {Q : Bool → Shared → Prop}, Q false s → wpAny (model P w) A (ofAClassStatement n v) Q E s
  | .none, _, n, s, x, _, _, _, _, h => by cases x; cases n <;> exact wpAny_pure h
  | .num i, _, n, s, x, _, _, _, _, h => by cases x <;> cases n <;> exact wpAny_pure h
  | .text y, _, n, s, x, _, _, _, _, h => by cases x; cases n <;> exact wpAny_pure h
  | .tup ks, _, n, s, x, hn, A, E, Q, h => by
    cases x with
    | @tup a o vs m _ hg hc hd hk =>
      simp only [NestedKey.depth] at hn
      cases n with
      | zero => omega
      | succ n =>
        have all : ∀ v ∈ vs.toList, ∃ k, NestedIs s.heap k v ∧ k.depth ≤ n ∧ k ∈ ks := by
          have go : ∀ (ks : List NestedKey) (l : List Value), NestedAll s.heap ks l → NestedKey.depthAll ks ≤ n → ∀ v ∈ l, ∃ k, NestedIs s.heap k v ∧ k.depth ≤ n ∧ k ∈ ks := by
            intro ks
            induction ks with
            | nil => intro l x _ v hv; cases x; cases hv
            | cons k ks ih =>
              intro l x hd v hv
              cases x with
              | cons x1 x2 =>
                simp only [NestedKey.depthAll] at hd
                rcases List.mem_cons.mp hv with e | hv
                · subst e; exact ⟨k, x1, by omega, List.mem_cons_self⟩
                · obtain ⟨k', a1, a2, a3⟩ := ih _ x2 (by omega) v hv
                  exact ⟨k', a1, a2, List.mem_cons_of_mem _ a3⟩
          exact go ks _ hk (by omega)
        unfold ofAClassStatement
        refine wpAny_bind (wpAny_typeOf ⟨_, hg, hc⟩ ?_)
        dsimp only
        have e : (("tuple" : String) == "tuple") = true := by decide
        simp only [e, if_true, Bool.not_true, Bool.false_eq_true, if_false]
        try refine wpAny_bind (wpAny_pure ?_)
        try simp only [Bool.not_true, Bool.false_eq_true, if_false]
        refine wpAny_bind (wpAny_seqItems hg hd ?_)
        dsimp only
        refine wpAny_bind ?_
        rw [← Array.forIn_toList]
        refine wpAny_forIn_list _ (fun rest r s' => r.1 = none ∧ s' = s ∧ ∀ v ∈ rest, ∃ k, NestedIs s.heap k v ∧ k.depth ≤ n ∧ k ∈ ks) _ ?_ ?_ _ _ ⟨rfl, rfl, all⟩
        · rintro v rest r s' ⟨hr, rfl, hall⟩
          obtain ⟨k, a1, a2, a3⟩ := hall v List.mem_cons_self
          refine wpAny_bind (aClass_key k v n s' a1 a2 ?_)
          simp only [Bool.false_eq_true, if_false]
          exact wpAny_pure ⟨rfl, rfl, fun u hu => hall u (List.mem_cons_of_mem _ hu)⟩
        · rintro ⟨r1, r2⟩ s' ⟨hr, rfl, _⟩
          simp only at hr
          subst hr
          exact wpAny_pure h
termination_by k => sizeOf k
decreasing_by
  all_goals first
    | (have := List.sizeOf_lt_of_mem a3; simp_wf; omega)
    | (simp_wf; omega)
mutual
def byVal : NestedKey → Bool
  | .none => true
  | .num _ => true
  | .text _ => false
  | .tup ks => byVals ks
def byVals : List NestedKey → Bool
  | [] => true
  | k :: ks => byVal k && byVals ks
end
mutual
theorem byV_key : ∀ (k : NestedKey) (v : Value) (n : Nat) (s : Shared), NestedIs s.heap k v → k.depth ≤ n → ∀ {A : Around} {E : Value → Shared → Prop} {Q : Bool → Shared → Prop}, Q (byVal k) s → wpAny (model P w) A (hashByValue n v) Q E s
  | .none, _, n, s, x, _, _, _, _, h => by cases x; cases n <;> exact wpAny_pure h
  | .num i, _, n, s, x, _, _, _, _, h => by cases x <;> cases n <;> exact wpAny_pure h
  | .text y, _, n, s, x, _, _, _, _, h => by cases x; cases n <;> exact wpAny_pure h
  | .tup ks, _, n, s, x, hn, A, E, Q, h => by
    cases x with
    | @tup a o vs m _ hg hc hd hk =>
      simp only [NestedKey.depth] at hn
      cases n with
      | zero => omega
      | succ n =>
        have hT : s.TypeIs (.ref a) "tuple" := ⟨o, hg, hc⟩
        unfold hashByValue
        refine wpAny_bind (wpAny_specialOf hT F.slot_tuple_hash.lookup ?_)
        refine wpAny_bind (wpAny_seqItems hg hd ?_)
        refine wpAny_bind ?_
        show wpAny _ _ (forIn vs _ _) _ _ s
        rw [← Array.forIn_toList]
        refine byV_keys ks vs.toList n s hk (by omega) ?_ _ rfl
        intro r hr
        simp only [byVal] at h
        rcases hr with ⟨e1, e2⟩ | ⟨e1, e2⟩
        · rw [e2] at h
          obtain ⟨r1, r2⟩ := r
          simp only at e1
          subst e1
          exact wpAny_pure h
        · rw [e2] at h
          obtain ⟨r1, r2⟩ := r
          simp only at e1
          subst e1
          exact wpAny_pure h
theorem byV_keys : ∀ (ks : List NestedKey) (vs : List Value) (n : Nat) (s : Shared), NestedAll s.heap ks vs → NestedKey.depthAll ks ≤ n → ∀ {A : Around} {E : Value → Shared → Prop} {Q : Option Bool × Unit → Shared → Prop},
    (∀ r : Option Bool × Unit, (r.1 = none ∧ byVals ks = true) ∨ (r.1 = some false ∧ byVals ks = false) → Q r s) → ∀ r : Option Bool × Unit, r.1 = none →
    wpAny (model P w) A (forIn vs r fun x _ => do
      if !(← hashByValue n x) then pure (.done (some false, ())) else pure (.yield (none, ()))) Q E s
  | [], _, n, s, x, _, A, E, Q, h, r, hr => by
    cases x
    rw [List.forIn_nil]
    exact wpAny_pure (h r (.inl ⟨hr, rfl⟩))
  | k :: ks, _, n, s, x, hn, A, E, Q, h, r, hr => by
    cases x with
    | cons x1 x2 =>
      simp only [NestedKey.depthAll] at hn
      rw [List.forIn_cons]
      refine wpAny_bind (wpAny_bind (byV_key k _ n s x1 (by omega) ?_))
      cases e : byVal k with
      | true =>
        simp only [Bool.not_true, Bool.false_eq_true, if_false]
        refine wpAny_pure ?_
        refine byV_keys ks _ n s x2 (by omega) (fun r' hr' => h r' ?_) _ rfl
        simpa [byVals, e] using hr'
      | false =>
        simp only [Bool.not_false, if_true]
        refine wpAny_pure (wpAny_pure (h _ (.inr ⟨rfl, ?_⟩)))
        simp [byVals, e]
end
theorem nestedSets : SetKind (nestedKind P w) where
  stays := nestedKind_stays
  cls := fun hk h => aClass_key _ _ 8 _ hk.1 hk.2 h
  byV := fun {s k b} hk => ⟨byVal k, fun h => byV_key k _ 8 s hk.1 hk.2 h⟩
end
end Pv
end
section
set_option Elab.async false
set_option linter.all false
set_option autoImplicit false
set_option maxRecDepth 100000
set_option maxHeartbeats 2000000
namespace Pv
open PySem PySem.Spec PyProof.Rows L2

def Msk (m : Nat) : Prop := m = 7 ∨ m = 31 ∨ m = 127 ∨ m = 511
theorem Msk.odd {m : Nat} (h : Msk m) : m % 2 = 1 := by
  rcases h with rfl | rfl | rfl | rfl <;> rfl
theorem Msk.le {m : Nat} (h : Msk m) : m ≤ 511 := by
  rcases h with rfl | rfl | rfl | rfl <;> decide

def orb (m : Nat) : Nat → Nat → List Nat
  | 0, _ => []
  | n + 1, x => x :: orb m n ((x * 5 + 1) % (m + 1))
theorem lcgI_front (m x : Nat) : ∀ k, lcgI m ((x * 5 + 1) % (m + 1)) k = lcgI m x (k + 1)
  | 0 => rfl
  | k + 1 => congrArg (fun z => (z * 5 + 1) % (m + 1)) (lcgI_front m x k)
theorem lcgI_two (m x a : Nat) : ∀ k, lcgI m (lcgI m x a) k = lcgI m x (a + k)
  | 0 => rfl
  | k + 1 => congrArg (fun z => (z * 5 + 1) % (m + 1)) (lcgI_two m x a k)
theorem mem_orb {m : Nat} : ∀ {n x y : Nat}, y ∈ orb m n x → ∃ k, k < n ∧ lcgI m x k = y
  | 0, _, _, h => by cases h
  | n + 1, x, y, h => by
    rcases List.mem_cons.mp h with rfl | h
    · exact ⟨0, Nat.succ_pos _, rfl⟩
    · obtain ⟨k, hk, e⟩ := mem_orb h
      exact ⟨k + 1, Nat.succ_lt_succ hk, (lcgI_front m x k).symm.trans e⟩
def fullB (m : Nat) (os : List Nat) : Bool := (List.range (m + 1)).all fun j => os.contains j
theorem full7 : fullB 7 (orb 7 8 0) = true := by decide +kernel
theorem full31 : fullB 31 (orb 31 32 0) = true := by decide +kernel
theorem full127 : fullB 127 (orb 127 128 0) = true := by decide +kernel
theorem full511 : fullB 511 (orb 511 512 0) = true := by decide +kernel
theorem Msk.orb {m : Nat} (h : Msk m) : fullB m (orb m (m + 1) 0) = true := by
  rcases h with rfl | rfl | rfl | rfl
  · exact full7
  · exact full31
  · exact full127
  · exact full511
theorem Msk.back {m : Nat} (h : Msk m) : lcgI m 0 (m + 1) = 0 := by
  rcases h with rfl | rfl | rfl | rfl <;> decide +kernel
theorem Msk.from0 {m : Nat} (h : Msk m) {j : Nat} (hj : j ≤ m) : ∃ b, b ≤ m ∧ lcgI m 0 b = j := by
  have h1 := List.all_eq_true.mp h.orb j (List.mem_range.mpr (Nat.lt_succ_of_le hj))
  obtain ⟨k, hk, e⟩ := mem_orb (List.contains_iff_mem.mp h1)
  exact ⟨k, Nat.le_of_lt_succ hk, e⟩
theorem Msk.round {m : Nat} (h : Msk m) {i j : Nat} (hi : i ≤ m) (hj : j ≤ m) : ∃ k, k ≤ m ∧ lcgI m i k = j := by
  obtain ⟨a, ha, rfl⟩ := h.from0 hi
  obtain ⟨b, hb, rfl⟩ := h.from0 hj
  by_cases c : a ≤ b
  · exact ⟨b - a, by omega, by rw [lcgI_two, Nat.add_sub_of_le c]⟩
  · refine ⟨b + (m + 1) - a, by omega, ?_⟩
    rw [lcgI_two, show a + (b + (m + 1) - a) = (m + 1) + b by omega, ← lcgI_two, h.back]
theorem run_hits {m : Nat} (hm : Msk m) (h : Int) {j : Nat} (hj : j ≤ m) : ∃ n, n ≤ m + 12 ∧ runI m (SetTable.bits h) n = j := by
  obtain ⟨k, hk, e⟩ := hm.round (runI_le m (SetTable.bits h) 12) hj
  exact ⟨12 + k, by omega, (runI_tail (bits_lt h) k).trans e⟩
theorem way_hits {m : Nat} (hm : Msk m) (h : Int) {j : Nat} (hj : j ≤ m) : ∃ k, k < 10 * SetTable.turns m ∧ way m h k = j := by
  obtain ⟨n, hn, rfl⟩ := run_hits hm h hj
  obtain ⟨k, hk, e⟩ := run_nth m (SetTable.bits h) n
  exact ⟨k, by unfold SetTable.turns; omega, congrArg SetTable.Probe.j e⟩
theorem way_in (m : Nat) (h : Int) (k : Nat) : way m h k ≤ m := by
  have hi : SetTable.bits h % (m + 1) ≤ m := Nat.le_of_lt_succ (Nat.mod_lt _ (Nat.succ_pos _))
  have r := runEnd_bd hi
  have q := nth_in (m := m) k (runAt m (SetTable.bits h % (m + 1)) (SetTable.bits h)) (by unfold runAt; dsimp only; omega)
  exact Nat.le_trans (Nat.le_add_right _ _) q

structure TabK (t : SetTable) (hs : List Int) : Prop where
  ris : Ris t.place.toList
  dm : t.dummies = #[]
  sz : t.place.size = hs.length
  msk : Msk t.mask
  bd : ∀ x ∈ t.place.toList, x ≤ t.mask
  met : ∀ (i : Nat) (h : Int) (j : Nat), hs[i]? = some h → t.place.toList[i]? = some j → ∃ k, way t.mask h k = j ∧ ∀ k', k' < k → way t.mask h k' ∈ t.place.toList
theorem TabK.first {t : SetTable} {hs : List Int} (T : TabK t hs) (hl : hs.length ≤ t.mask) (h : Int) : ∃ n, n < 10 * SetTable.turns t.mask ∧ way t.mask h n ∉ t.place.toList ∧ ∀ k, k < n → way t.mask h k ∈ t.place.toList := by
  obtain ⟨j, hj, hn⟩ := st_missing t.place.toList (t.mask + 1) (by rw [Array.length_toList, T.sz]; omega)
  obtain ⟨k, hk, rfl⟩ := way_hits T.msk h (Nat.le_of_lt_succ hj)
  obtain ⟨n, h1, h2, h3⟩ := st_least (p := fun k => way t.mask h k ∉ t.place.toList) k hn
  exact ⟨n, Nat.lt_of_le_of_lt h1 hk, h2, fun k' hk' => Classical.not_not.mp (h3 k' hk')⟩
theorem TabK.before {t : SetTable} {hs : List Int} (T : TabK t hs) {h : Int} {n i j : Nat} (hn : way t.mask h n ∉ t.place.toList) (hi : hs[i]? = some h) (hj : t.place.toList[i]? = some j) : ∃ k, k < n ∧ way t.mask h k = j := by
  obtain ⟨k, e, hb⟩ := T.met i h j hi hj
  refine ⟨k, Nat.lt_of_not_le fun c => ?_, e⟩
  rcases Nat.eq_or_lt_of_le c with c | c
  · rw [c, e] at hn; exact hn (List.mem_of_getElem? hj)
  · exact hn (hb n c)
theorem TabK.put {t : SetTable} {hs : List Int} (T : TabK t hs) {h : Int} {n : Nat} (hn : way t.mask h n ∉ t.place.toList) (hb : ∀ k, k < n → way t.mask h k ∈ t.place.toList) :
    (t.put (way t.mask h n)).2 = SetTable.below t.place (way t.mask h n) ∧ SetTable.below t.place (way t.mask h n) ≤ hs.length ∧
    TabK (t.put (way t.mask h n)).1 (hs.take (SetTable.below t.place (way t.mask h n)) ++ h :: hs.drop (SetTable.below t.place (way t.mask h n))) ∧
    (t.put (way t.mask h n)).1.mask = t.mask ∧ (t.put (way t.mask h n)).1.led = t.led ∧ (t.put (way t.mask h n)).1.fill = hs.length + 1 := by
  have lej := way_in t.mask h n
  generalize ej : way t.mask h n = j at hn lej
  obtain ⟨cut, _, _⟩ := below_cut T.ris j
  have np : t.place[SetTable.below t.place j]? ≠ some j := fun e => hn (List.mem_of_getElem? (by rw [Array.getElem?_toList]; exact e))
  have pp := put_place t j
  have dm := put_dm T.dm j
  have c1 : SetTable.below t.place j ≤ t.place.toList.length := by rw [Array.length_toList]; exact cut
  have c2 : SetTable.below t.place j ≤ hs.length := T.sz ▸ cut
  have size : (t.put j).1.place.size = hs.length + 1 := by
    rw [← Array.length_toList, pp, len_ins _ c1, Array.length_toList, T.sz]
  have old : ∀ {x : Nat}, x ∈ t.place.toList → x ∈ (t.put j).1.place.toList := fun hx => by
    rw [pp]; exact mem_ins.2 (.inr hx)
  refine ⟨rfl, c2, ⟨ris_insert T.ris np, dm, by rw [len_ins _ c2]; exact size, T.msk, fun x hx => ?_, fun i h' j' h1 h2 => ?_⟩, rfl, rfl, ?_⟩
  · rw [pp] at hx
    rcases mem_ins.1 hx with rfl | q
    · exact lej
    · exact T.bd x q
  · rw [tins_get hs c2] at h1
    rw [pp, tins_get _ c1] at h2
    have keep : (∃ k, way t.mask h' k = j' ∧ ∀ k', k' < k → way t.mask h' k' ∈ t.place.toList) → ∃ k, way (t.put j).1.mask h' k = j' ∧ ∀ k', k' < k → way (t.put j).1.mask h' k' ∈ (t.put j).1.place.toList :=
      fun ⟨k, e, q⟩ => ⟨k, e, fun k' hk' => old (q k' hk')⟩
    by_cases lt : i < SetTable.below t.place j
    · rw [if_pos lt] at h1 h2
      exact keep (T.met i h' j' h1 h2)
    · rw [if_neg lt] at h1 h2
      by_cases eq : i = SetTable.below t.place j
      · rw [if_pos eq] at h1 h2
        cases h1
        cases h2
        exact ⟨n, ej, fun k' hk' => old (hb k' hk')⟩
      · rw [if_neg eq] at h1 h2
        exact keep (T.met (i - 1) h' j' h1 h2)
  · show (t.put j).1.place.size + (t.put j).1.dummies.size = hs.length + 1
    rw [size, dm]
    rfl

theorem free_at {m : Nat} (hm : Msk m) (owner : Array (Option Nat)) (h : Int) {j : Nat} (hj : j ≤ m) (hf : oAt owner j = none) :
    ∃ n, SetTable.layClean.free m owner (SetTable.turns m) (SetTable.bits h % (m + 1)) (SetTable.bits h) = some (way m h n) ∧ oAt owner (way m h n) = none ∧ ∀ k, k < n → oAt owner (way m h k) ≠ none := by
  obtain ⟨c, hc, e⟩ := run_hits hm h hj
  have hw : oAt owner (way m h (off m (SetTable.bits h % (m + 1)) (SetTable.bits h) c)) = none := by
    unfold way
    rw [nth_off, itL_run]
    show oAt owner (runI m (SetTable.bits h) c) = none
    rw [e]; exact hf
  obtain ⟨n, n1, n2, n3⟩ := st_least (p := fun k => oAt owner (way m h k) = none) _ hw
  refine ⟨n, free_spec m owner (SetTable.turns m) c _ _ n (by unfold SetTable.turns; omega) n1 (fun k hk => ?_) ?_, n2, n3⟩
  · cases z : oAt owner (nth m (runAt m (SetTable.bits h % (m + 1)) (SetTable.bits h)) k).j with
    | none => exact absurd z (n3 k hk)
    | some _ => rfl
  · rw [show oAt owner (nth m (runAt m (SetTable.bits h % (m + 1)) (SetTable.bits h)) n).j = none from n2]
    rfl
theorem Own.next {m : Nat} (hm : Msk m) {done : List Int} {owner : Array (Option Nat)} (W : Own m done owner) (hl : done.length ≤ m) (h : Int) :
    ∃ j, SetTable.layClean.free m owner (SetTable.turns m) (SetTable.bits h % (m + 1)) (SetTable.bits h) = some j ∧ Own m (done ++ [h]) (owner.setIfInBounds j (some done.length)) := by
  obtain ⟨ps, len, has⟩ := W.ps
  obtain ⟨f, f1, f2⟩ := st_missing ps (m + 1) (by omega)
  have f3 : oAt owner f = none := Classical.not_not.mp fun z => f2 (has f (Nat.le_of_lt_succ f1) z)
  obtain ⟨n, e1, e2, e3⟩ := free_at hm owner h (Nat.le_of_lt_succ f1) f3
  have le := way_in m h n
  refine ⟨way m h n, e1, ?_⟩
  have own := oAt_set_self (owner := owner) (some done.length) (show way m h n < owner.size by rw [W.sz]; exact Nat.lt_succ_of_le le)
  have stays : ∀ {i : Nat}, oAt owner i ≠ none → oAt (owner.setIfInBounds (way m h n) (some done.length)) i = oAt owner i := fun {i} hi =>
    oAt_set_ne _ fun z => hi (z ▸ e2)
  have stay : ∀ {i : Nat}, oAt owner i ≠ none → oAt (owner.setIfInBounds (way m h n) (some done.length)) i ≠ none := fun hi => by rw [stays hi]; exact hi
  constructor
  · rw [Array.size_setIfInBounds]; exact W.sz
  · intro j k hj e
    by_cases c : j = way m h n
    · rw [c, own] at e
      cases e
      exact ⟨h, n, by simp, c.symm, fun k' hk' => stay (e3 k' hk')⟩
    · rw [oAt_set_ne _ c] at e
      obtain ⟨h', n', a1, a2, a3⟩ := W.at_ j k hj e
      exact ⟨h', n', by rw [List.getElem?_append_left (List.getElem?_eq_some_iff.mp a1).1]; exact a1, a2, fun k' hk' => stay (a3 k' hk')⟩
  · intro k hk
    rw [List.length_append, List.length_singleton] at hk
    rcases Nat.lt_succ_iff_lt_or_eq.mp hk with c | rfl
    · obtain ⟨j, hj, e⟩ := W.all k c
      exact ⟨j, hj, by rw [stays (by rw [e]; exact fun z => nomatch z)]; exact e⟩
    · exact ⟨_, le, own⟩
  · refine ⟨way m h n :: ps, by simp [len], fun j hj e => ?_⟩
    by_cases c : j = way m h n
    · rw [c]; exact List.mem_cons_self
    · rw [oAt_set_ne _ c] at e
      exact List.mem_cons_of_mem _ (has j hj e)
theorem lay_rest {m : Nat} (hm : Msk m) : ∀ (rest done : List Int) (owner : Array (Option Nat)), Own m done owner → done.length + rest.length ≤ m →
    ∃ owner', rest.foldl (stepF m) (some (owner, done.length)) = some (owner', (done ++ rest).length) ∧ Own m (done ++ rest) owner'
  | [], done, owner, W, _ => ⟨owner, by simp, by simpa using W⟩
  | h :: rest, done, owner, W, hl => by
    rw [List.length_cons] at hl
    obtain ⟨j, e, W1⟩ := Own.next hm W (by omega) h
    obtain ⟨owner', f, W2⟩ := lay_rest hm rest (done ++ [h]) _ W1 (by simp; omega)
    rw [List.append_assoc, List.singleton_append] at f W2
    rw [List.length_append, List.length_singleton] at f
    exact ⟨owner', by rw [List.foldl_cons, stepF_some e]; exact f, W2⟩
theorem lay_all {m : Nat} (hm : Msk m) {hs : Array Int} (hn : hs.size ≤ m) : ∃ owner, SetTable.layClean m hs = some owner ∧ Own m hs.toList owner := by
  obtain ⟨owner, f, W⟩ := lay_rest hm hs.toList [] _ (Own.init m) (by simpa using hn)
  refine ⟨owner, ?_, W⟩
  rw [layClean_eq, show hs.toList.foldl (stepF m) (some (Array.replicate (m + 1) none, 0)) = _ from f]
  rfl
theorem relaid_K (t : SetTable) {hs : Array Int} {wanted m : Nat} (hw : SetTable.sizeAbove wanted - 1 = m) (hm : Msk m) (hn : hs.size ≤ m) :
    ∃ t' order, t.relaid hs wanted = some (t', order) ∧ order.toList.Perm (List.range hs.size) ∧ TabK t' (order.toList.map fun i => hs.getD i 0) ∧ t'.mask = m ∧ t'.led = t.led := by
  obtain ⟨owner, e, W⟩ := lay_all hm hn
  have inL : ∀ {j k : Nat}, (j, k) ∈ liveOf m owner ↔ j ≤ m ∧ oAt owner j = some k := mem_live W.sz
  obtain ⟨r1, r2⟩ := ris_live (fun j => owner.getD j none) (List.range (m + 1)) (by
    unfold Ris
    first | exact List.pairwise_lt_range | exact List.pairwise_lt_range _)
  replace r1 : Ris ((liveOf m owner).map (·.1)) := r1
  replace r2 : ∀ x ∈ (liveOf m owner).map (·.1), x ∈ List.range (m + 1) := r2
  have nd : ((liveOf m owner).map (·.1)).Nodup := List.Pairwise.imp (fun h => Nat.ne_of_lt h) r1
  have all2 : ∀ k, k < hs.size → k ∈ (liveOf m owner).map (·.2) := fun k hk => by
    obtain ⟨j, b1, b2⟩ := W.all k (by simpa using hk)
    exact List.mem_map.mpr ⟨(j, k), inL.2 ⟨b1, b2⟩, rfl⟩
  have len : (liveOf m owner).length = hs.size := by
    obtain ⟨ps, p1, p2⟩ := W.ps
    have a := nat_nodup_len ((liveOf m owner).map (·.1)) ps nd fun x hx => by
      obtain ⟨⟨y, k⟩, hq, rfl⟩ := List.mem_map.mp hx
      exact p2 y (inL.1 hq).1 (by rw [(inL.1 hq).2]; exact fun z => nomatch z)
    have b := nat_nodup_len (List.range hs.size) ((liveOf m owner).map (·.2)) List.nodup_range fun k hk => all2 k (List.mem_range.mp hk)
    simp only [List.length_map, List.length_range, Array.length_toList] at a b p1
    omega
  refine ⟨tabOf t m owner, ((liveOf m owner).map (·.2)).toArray, by rw [relaid_eq, hw, e]; rfl, perm_range hs.size _ (by simpa using len) all2, ⟨r1, rfl, by simp [tabOf], hm, fun x hx => Nat.le_of_lt_succ (List.mem_range.mp (r2 x hx)), fun i h j h1 h2 => ?_⟩, rfl, rfl⟩
  have h1' : (((liveOf m owner).map (·.2)).map fun i => hs.getD i 0)[i]? = some h := h1
  have h2' : ((liveOf m owner).map (·.1))[i]? = some j := h2
  simp only [List.getElem?_map, Option.map_eq_some_iff] at h1' h2'
  obtain ⟨⟨y, k⟩, hq, rfl⟩ := h2'
  obtain ⟨_, ⟨_, hq2, rfl⟩, rfl⟩ := h1'
  rw [hq] at hq2
  cases hq2
  obtain ⟨b1, b2⟩ := inL.1 (List.mem_of_getElem? hq)
  obtain ⟨h0, n, a1, a2, a3⟩ := W.at_ y k b1 b2
  have e0 : hs.getD k 0 = h0 := by
    rw [Array.getD_eq_getD_getElem?, ← Array.getElem?_toList, a1]; rfl
  refine ⟨n, by rw [e0]; exact a2, fun k' hk' => ?_⟩
  rw [e0]
  cases z : oAt owner (way m h0 k') with
  | none => exact absurd z (a3 k' hk')
  | some k2 => exact List.mem_map.mpr ⟨(way m h0 k', k2), inL.2 ⟨way_in m h0 k', z⟩, rfl⟩
theorem grow_19 : SetTable.sizeAbove (SetTable.grown 5) = 32 := by decide +kernel
theorem grow_76 : SetTable.sizeAbove (SetTable.grown 19) = 128 := by decide +kernel
theorem grow_306 : SetTable.sizeAbove (SetTable.grown 77) = 512 := by decide +kernel
end Pv
end
section
set_option Elab.async false
set_option linter.all false
set_option autoImplicit false
set_option maxRecDepth 100000
set_option maxHeartbeats 2000000
namespace Pv
open PySem PySem.Spec PyProof.Rows L2
section
variable {P : Program} {w : World} {κ : Type} [DecidableEq κ] {knd : HeapKind P w κ}
def rowK (knd : HeapKind P w κ) (p : Addr × κ) : Int × Value := (knd.hash p.2, .ref p.1)
structure SetK (knd : HeapKind P w κ) (h : Heap) (a : Addr) (L : List (Addr × κ)) (es : Array (Int × Value)) (ep : Nat) (t : SetTable) : Prop where
  at_ : ∃ o, h.get? a = some o ∧ o.ExactSet ∧ o.data = .set es ep t
  rows : es.toList = L.map (rowK knd)
  tab : TabK t (L.map fun p => knd.hash p.2)
  once : (L.map (·.2)).Nodup
  key : ∀ p ∈ L, knd.is h p.2 p.1
  led : w.params.followText "set-order" = true ∨ t.led = true
  room : L.length * 5 < t.mask * 3
  few : L.length < 300
variable {a : Addr} {L : List (Addr × κ)} {es : Array (Int × Value)} {ep : Nat} {t : SetTable} {h : Heap}
theorem rows_size (e : es.toList = L.map (rowK knd)) : es.size = L.length := by
  rw [← Array.length_toList, e, List.length_map]
theorem rows_get (e : es.toList = L.map (rowK knd)) {i : Nat} {p : Addr × κ} (hp : L[i]? = some p) : es[i]? = some (rowK knd p) := by
  rw [← Array.getElem?_toList, e, List.getElem?_map, hp]
  rfl
theorem SetK.size (R : SetK knd h a L es ep t) : es.size = L.length := rows_size R.rows
theorem SetK.place (R : SetK knd h a L es ep t) : t.place.size = L.length := by
  rw [R.tab.sz, List.length_map]
theorem SetK.fits (R : SetK knd h a L es ep t) : t.fits es.size = true := by
  have h1 := R.place
  have h2 := R.size
  have h3 := R.room
  simp only [SetTable.fits, SetTable.fill, R.tab.dm, Bool.and_eq_true, beq_iff_eq, decide_eq_true_eq]
  show t.place.size = es.size ∧ t.place.size + 0 ≤ t.mask
  omega
theorem SetK.kept (R : SetK knd h a L es ep t) : ¬ t.gaveWay = true := by
  unfold SetTable.gaveWay
  rw [R.tab.msk.odd]
  decide
theorem nth_clean (m : Nat) : ∀ (n : Nat) (p : SetTable.Probe), p.dummy = none → (nth m p n).dummy = none
  | 0, _, e => e
  | n + 1, p, e => nth_clean m n (adv m p) (by unfold adv; split <;> exact e)
abbrev stepK (t : SetTable) (x : Int) (n : Nat) : SetTable.Probe := nth t.mask (runAt t.mask (SetTable.bits x % (t.mask + 1)) (SetTable.bits x)) n
theorem stepK_add (t : SetTable) (x : Int) (c q : Nat) : nth t.mask (stepK t x c) q = stepK t x (c + q) := (nth_add t.mask c _ q).symm
end
section
variable {P : Program} {w : World} {κ : Type} [DecidableEq κ] {knd : HeapKind P w κ} {A : Around} {E : Value → Shared → Prop} {s : Shared}
variable {a : Addr} {L : List (Addr × κ)} {es : Array (Int × Value)} {ep : Nat} {t : SetTable}
theorem unseenK (S : SetKind knd) {k : κ} {b : Addr} {Q : Bool → Shared → Prop} (hk : knd.is s.heap k b) {ys : List Value} (hy : ∀ y ∈ ys, ∃ k' c, y = Value.ref c ∧ knd.is s.heap k' c) (h : Q false s) :
    wpAny (model P w) A (searchCouldBeSeen (.ref b) ys) Q E s := by
  unfold searchCouldBeSeen
  refine wpAny_bind ?_
  refine wpAny_forIn_list _ (fun rest r s' => r.1 = none ∧ s' = s ∧ ∀ y ∈ rest, ∃ k' c, y = Value.ref c ∧ knd.is s.heap k' c) _ ?_ ?_ _ _ ⟨rfl, rfl, hy⟩
  · rintro v rest r s' ⟨hr, rfl, hall⟩
    obtain ⟨k', c, rfl, hc⟩ := hall v List.mem_cons_self
    have more : ∀ y ∈ rest, ∃ k' c, y = Value.ref c ∧ knd.is s'.heap k' c := fun u hu => hall u (List.mem_cons_of_mem _ hu)
    dsimp only
    by_cases hv : (b == c || (carriedByValue (.ref b) && carriedByValue (.ref c))) = true
    · exact wp_if_pos hv (wpAny_pure ⟨rfl, rfl, more⟩)
    · refine wp_if_neg hv (wpAny_bind (knd.quiet hk ?_))
      simp only [Bool.not_true, Bool.false_eq_true, if_false]
      refine wpAny_bind (knd.quiet hc ?_)
      simp only [Bool.not_true, Bool.false_eq_true, if_false]
      refine wpAny_bind (S.cls hk ?_)
      simp only [Bool.false_eq_true, if_false]
      refine wpAny_bind (S.cls hc ?_)
      simp only [Bool.false_eq_true, if_false]
      exact wpAny_pure ⟨rfl, rfl, more⟩
  · rintro ⟨r1, r2⟩ s' ⟨hr, rfl, _⟩
    cases hr
    exact wpAny_pure h
theorem searchK (S : SetKind knd) (R : SetK knd s.heap a L es ep t) {x : Addr} {k : κ} (hx : knd.is s.heap k x) (hu : knd.room A) {n : Nat} (n1 : n < 10 * SetTable.turns t.mask)
    (n2 : (stepK t (knd.hash k) n).j ∉ t.place.toList) (n3 : ∀ c, c < n → (stepK t (knd.hash k) c).j ∈ t.place.toList) {Q : SetFound → Shared → Prop}
    (there : k ∈ L.map (·.2) → Q (.there none) s) (free : k ∉ L.map (·.2) → Q (.free (stepK t (knd.hash k) n).j false) s) :
    ∀ (f c : Nat) (stand : Option SetTable.Probe), stand.getD (t.probeStart (knd.hash k)) = stepK t (knd.hash k) c → c ≤ n → n - c < f →
      (∀ (i : Nat) p, L[i]? = some p → p.2 = k → ∃ c', c ≤ c' ∧ c' < n ∧ t.place.toList[i]? = some (stepK t (knd.hash k) c').j) →
      wpAny (model P w) A (setSearchFrom a (.ref x) (knd.hash k) true f stand) Q E s := by
  obtain ⟨o, ho, hex, hd⟩ := R.at_
  intro f
  induction f with
  | zero => intro c stand _ _ hf; exact absurd hf (Nat.not_lt_zero _)
  | succ f ih =>
    intro c stand hst hc hf ahead
    have hash_at : ∀ (i : Nat) p, L[i]? = some p → (es[i]?.map (·.1)).getD 0 = knd.hash p.2 := fun i p hp => by
      rw [rows_get R.rows hp]; rfl
    -- an equal one that lies ahead is not passed by
    have ahead_no : ∀ q : Nat, (∀ (k' i' : Nat), k' < q → t.place.toList[i']? = some (nth t.mask (stepK t (knd.hash k) c) k').j → (es[i']?.map (fun e : Int × Value => e.1)).getD 0 ≠ knd.hash k) → ∀ (i : Nat) (p : Addr × κ), L[i]? = some p → p.2 = k → ∀ c' : Nat, c ≤ c' → t.place.toList[i]? = some (stepK t (knd.hash k) c').j → c + q ≤ c' := by
      intro q hno i p hp hk c' h1 h2
      refine Nat.le_of_not_lt fun hlt => ?_
      refine hno (c' - c) i (by omega) (by rw [stepK_add, show c + (c' - c) = c' by omega]; exact h2) ?_
      rw [hash_at i p hp, hk]
    rw [setSearchFrom_succ]
    refine wpAny_bind (wpAny_setState_of ho hd R.fits ?_)
    dsimp only
    refine wp_if_neg R.kept ?_
    try refine wpAny_bind (wpAny_pure ?_)
    rw [hst]
    rcases go_spec t R.tab.ris R.tab.dm (fun i : Nat => (es[i]?.map (fun e : Int × Value => e.1)).getD 0) (knd.hash k) (10 * SetTable.turns t.mask) (n - c) (stepK t (knd.hash k) c) (nth_clean _ _ _ rfl) (by omega)
      (fun q hq => by rw [stepK_add]; exact n3 (c + q) (by omega)) (by rw [stepK_add, show c + (n - c) = n by omega]; exact n2) with ⟨q, i, hq, hi, hh, hno, hpr⟩ | ⟨hno, hpr⟩
    · have hpr' : t.probe (fun i : Nat => (es[i]?.map (fun e : Int × Value => e.1)).getD 0) (knd.hash k) (stepK t (knd.hash k) c) = some (.candidate (nth t.mask (stepK t (knd.hash k) c) q).j i (nth t.mask (stepK t (knd.hash k) c) (q + 1))) := hpr
      rw [hpr']
      dsimp only
      simp only [stepK_add] at hi ⊢
      have hil : i < L.length := by
        have h1 : i < t.place.toList.length := (List.getElem?_eq_some_iff.mp hi).1
        rw [Array.length_toList, R.place] at h1
        exact h1
      obtain ⟨p, hp⟩ : ∃ p, L[i]? = some p := ⟨_, List.getElem?_eq_getElem hil⟩
      have hm : p ∈ L := List.mem_of_getElem? hp
      have hkey := R.key p hm
      have rest : wpAny (model P w) A (searchRest a (.ref x) (knd.hash k) true f es t (stepK t (knd.hash k) (c + q)).j i (stepK t (knd.hash k) (c + (q + 1)))) Q E s := by
        unfold searchRest
        rw [rows_get R.rows hp]
        simp only [rowK]
        refine wpAny_bind (wpAny_holding (knd.eqBool hu hkey hx ?_))
        refine wpAny_bind (wpAny_setState_of ho hd R.fits ?_)
        dsimp only
        by_cases hkk : p.2 = k
        · exact wp_if_pos (by simp [hkk]) (wpAny_pure (there (List.mem_map.mpr ⟨p, hm, hkk⟩)))
        · refine wp_if_neg (by simp [hkk]) ?_
          try refine wpAny_bind (wpAny_pure ?_)
          rw [sameMem]
          have hsl := slot_live R.tab.ris hi
          simp only [if_true, hsl, rows_get R.rows hp, rowK]
          refine wpAny_bind (wpAny_isSame_ref_self (wpAny_bind (wpAny_pure ?_)))
          simp only [if_true]
          refine wp_if_neg (by simp [hkk]) ?_
          refine ih (c + (q + 1)) _ rfl (by omega) (by omega) fun i0 p0 h0 hk0 => ?_
          obtain ⟨c', a1, a2, a3⟩ := ahead i0 p0 h0 hk0
          have le := ahead_no q hno i0 p0 h0 hk0 c' a1 a3
          rcases Nat.eq_or_lt_of_le le with e | lt
          · exfalso
            rw [← e] at a3
            have s0 := slot_live R.tab.ris a3
            rw [hsl] at s0
            injection s0 with s0
            rw [← s0, hp] at h0
            cases h0
            exact hkk hk0
          · exact ⟨c', by omega, a2, a3⟩
      by_cases hl : t.led = true
      · refine wp_if_neg (by simp [hl]) ?_
        try refine wpAny_bind (wpAny_pure ?_)
        exact rest
      · refine wp_if_pos (by simp [hl]) (wpAny_bind (unseenK S hx (fun y hy => ?_) ?_))
        · obtain ⟨e, he, ee⟩ := List.mem_map.mp hy
          have he1 : e ∈ es ∧ e.1 = knd.hash k := by simpa using he
          have he2 : e ∈ L.map (rowK knd) := R.rows ▸ (by simpa using he1.1)
          obtain ⟨p2, hp2, rfl⟩ := List.mem_map.mp he2
          exact ⟨p2.2, p2.1, ee.symm, R.key p2 hp2⟩
        · refine wp_if_neg (by decide) ?_
          try refine wpAny_bind (wpAny_pure ?_)
          exact rest
    · have hpr' : t.probe (fun i : Nat => (es[i]?.map (fun e : Int × Value => e.1)).getD 0) (knd.hash k) (stepK t (knd.hash k) c) = some (.empty (nth t.mask (stepK t (knd.hash k) c) (n - c)).j none) := hpr
      rw [hpr']
      dsimp only
      rw [stepK_add, show c + (n - c) = n by omega]
      refine wpAny_pure (free fun hm => ?_)
      obtain ⟨p0, h0, hk0⟩ := List.mem_map.mp hm
      obtain ⟨i0, hi0, e0⟩ := List.getElem_of_mem h0
      have h00 : L[i0]? = some p0 := by rw [List.getElem?_eq_getElem hi0, e0]
      obtain ⟨c', a1, a2, a3⟩ := ahead i0 p0 h00 hk0
      have := ahead_no (n - c) hno i0 p0 h00 hk0 c' a1 a3
      omega
theorem setSearchK (S : SetKind knd) (R : SetK knd s.heap a L es ep t) {x : Addr} {k : κ} (hx : knd.is s.heap k x) (hu : knd.room A) {Q : SetFound → Shared → Prop}
    (there : k ∈ L.map (·.2) → Q (.there none) s)
    (free : ∀ n, k ∉ L.map (·.2) → way t.mask (knd.hash k) n ∉ t.place.toList → (∀ c, c < n → way t.mask (knd.hash k) c ∈ t.place.toList) → Q (.free (way t.mask (knd.hash k) n) false) s) :
    wpAny (model P w) A (setSearch a (.ref x) (knd.hash k) true) Q E s := by
  have hroom := R.room
  obtain ⟨n, n1, n2, n3⟩ := R.tab.first (by rw [List.length_map]; omega) (knd.hash k)
  have big : n < 100000 := by
    have : 10 * SetTable.turns t.mask ≤ 5260 := by
      unfold SetTable.turns
      have := R.tab.msk.le
      omega
    omega
  unfold setSearch
  refine searchK S R hx hu n1 n2 n3 there (fun hn => free n hn n2 n3) 100000 0 none rfl (Nat.zero_le _) (by omega) fun i p hp hk => ?_
  have hi : (L.map fun p => knd.hash p.2)[i]? = some (knd.hash k) := by rw [List.getElem?_map, hp, ← hk]; rfl
  have hil : i < t.place.toList.length := by
    rw [Array.length_toList, R.place]
    exact (List.getElem?_eq_some_iff.mp hp).1
  have hj := List.getElem?_eq_getElem hil
  obtain ⟨c, hc, e⟩ := R.tab.before n2 hi hj
  exact ⟨c, Nat.zero_le _, hc, by rw [hj, ← e]⟩
end
end Pv
end
section
set_option Elab.async false
set_option linter.all false
set_option autoImplicit false
set_option maxRecDepth 100000
set_option maxHeartbeats 2000000
namespace Pv
open PySem PySem.Spec PyProof.Rows L2
section
variable {P : Program} {w : World} {κ : Type} [DecidableEq κ] {knd : HeapKind P w κ} {A : Around} {E : Value → Shared → Prop} {s : Shared}
variable {a : Addr} {L : List (Addr × κ)} {es : Array (Int × Value)} {ep : Nat} {t : SetTable}
theorem key_stays (S : SetKind knd) {h h' : Heap} {k : κ} {b : Addr} {o : Obj} {es : Array (Int × Value)} {ep : Nat} {t : SetTable} (hb : knd.is h k b) (ho : h.get? a = some o) (hd : o.data = .set es ep t) (hs : Heap.SameBut a h h') : knd.is h' k b :=
  S.stays.stays (fun c u vs n e d => (hs.2 c fun z => by rw [z, ho] at e; cases e; rw [hd] at d; cases d).trans e) hb
theorem picked (l : List (Addr × κ)) : ∀ idx : List Nat, (∀ i ∈ idx, i < l.length) → (idx.filterMap fun i => l[i]?).map (rowK knd) = idx.filterMap fun i => (l.map (rowK knd))[i]?
  | [], _ => rfl
  | i :: idx, h => by
    have hi := h i List.mem_cons_self
    rw [List.filterMap_cons_some (List.getElem?_eq_getElem hi), List.filterMap_cons_some (b := rowK knd l[i]) (by rw [List.getElem?_map, List.getElem?_eq_getElem hi]; rfl), List.map_cons, picked l idx fun j hj => h j (List.mem_cons_of_mem _ hj)]
theorem all_picked {α : Type} (l : List α) : (List.range l.length).filterMap (fun i => l[i]?) = l := by
  have key : ∀ n, n ≤ l.length → (List.range n).filterMap (fun i => l[i]?) = l.take n := by
    intro n
    induction n with
    | zero => intro _; rfl
    | succ n ih =>
      intro hn
      rw [List.range_succ, List.filterMap_append, ih (Nat.le_of_lt hn), List.take_succ, List.getElem?_eq_getElem hn, List.filterMap_cons_some (List.getElem?_eq_getElem hn)]
      rfl
  rw [key _ (Nat.le_refl _), List.take_length]
theorem ordered (rows : es.toList = L.map (rowK knd)) (order : Array Nat) (hp : order.toList.Perm (List.range L.length)) :
    ∃ L2 : List (Addr × κ), (order.filterMap (es[·]?)).toList = L2.map (rowK knd) ∧ L2.Perm L ∧ (L2.map fun p => knd.hash p.2) = order.toList.map fun i => (es.map (·.1)).getD i 0 := by
  have bd : ∀ i ∈ order.toList, i < L.length := fun i hi => List.mem_range.mp (hp.mem_iff.mp hi)
  refine ⟨order.toList.filterMap fun i => L[i]?, ?_, ?_, ?_⟩
  · rw [Array.toList_filterMap, picked L _ bd, ← rows]
    simp only [Array.getElem?_toList]
  · have := hp.filterMap fun i => L[i]?
    rwa [all_picked] at this
  · have go : ∀ idx : List Nat, (∀ i ∈ idx, i < L.length) → ((idx.filterMap fun i => L[i]?).map fun p => knd.hash p.2) = idx.map fun i => (es.map (·.1)).getD i 0 := by
      intro idx
      induction idx with
      | nil => intro _; rfl
      | cons i idx ih =>
        intro h
        have hi := h i List.mem_cons_self
        have e : (es.map (·.1)).getD i 0 = knd.hash (L[i]).2 := by
          have e5 : (es.map (·.1))[i]? = some (knd.hash (L[i]).2) := by rw [Array.getElem?_map, rows_get rows (List.getElem?_eq_getElem hi)]; rfl
          simp [Array.getD_eq_getD_getElem?, e5]
        rw [List.filterMap_cons_some (List.getElem?_eq_getElem hi), List.map_cons, List.map_cons, e, ih fun j hj => h j (List.mem_cons_of_mem _ hj)]
    exact go _ bd
theorem relayK (S : SetKind knd) {o : Obj} (ho : s.heap.get? a = some o) (hex : o.ExactSet) (hd : o.data = .set es ep t) (rows : es.toList = L.map (rowK knd)) (hsz : t.place.size = es.size) (hdm : t.dummies = #[]) (hfl : es.size ≤ t.mask)
    (once : (L.map (·.2)).Nodup) (key : ∀ p ∈ L, knd.is s.heap p.2 p.1) (led : w.params.followText "set-order" = true ∨ t.led = true) (few : L.length < 300) {wanted M : Nat}
    (hw : SetTable.sizeAbove wanted - 1 = M) (hM : Msk M) (hw2 : SetTable.sizeAbove wanted ≤ 512) (hn : L.length * 5 < M * 3) {Q : Unit → Shared → Prop}
    (hQ : ∀ h' L' es' ep' t', Heap.SameBut a s.heap h' → SetK knd h' a L' es' ep' t' → L'.Perm L → Q () { s with heap := h' }) : wpAny (model P w) A (setRelay a wanted) Q E s := by
  have size := rows_size rows
  obtain ⟨t', order, e, hp, T, em, el⟩ := relaid_K t (hs := es.map (·.1)) (wanted := wanted) hw hM (by rw [Array.size_map, size]; omega)
  rw [Array.size_map, size] at hp
  obtain ⟨L2, r1, r2, r3⟩ := ordered rows order hp
  rw [← r3] at T
  have size2 : (order.filterMap (es[·]?)).size = es.size := by
    rw [rows_size r1, r2.length_eq, size]
  rw [setRelay_eq]
  refine wpAny_bind (wpAny_setState_of ho hd (by
    simp only [SetTable.fits, SetTable.fill, hdm, Bool.and_eq_true, beq_iff_eq, decide_eq_true_eq]
    show t.place.size = es.size ∧ t.place.size + 0 ≤ t.mask
    omega) ?_)
  dsimp only
  refine wp_if_neg (by rw [sizeLine_eq]; omega) ?_
  try refine wpAny_bind (wpAny_pure ?_)
  rw [e]
  dsimp only
  refine wpAny_bind (wp_if_neg (by rw [size2]; simp) ?_)
  try refine wpAny_bind (wpAny_pure ?_)
  refine wpAny_pure ?_
  dsimp only
  refine wpAny_storeSet_of ho hd ?_ (by rw [size2, size, sizeLine_eq]; omega)
  have sb : Heap.SameBut a s.heap (s.heap.update a (Obj.putSet (order.filterMap (es[·]?)) t')) := Heap.SameBut.update ..
  exact hQ _ L2 (order.filterMap (es[·]?)) (ep + 1) t' sb
    { at_ := ⟨_, store_at ho hd, ⟨hex.1, hex.2.1, hex.2.2⟩, rfl⟩
      rows := r1
      tab := T
      once := (r2.map (·.2)).nodup_iff.mpr once
      key := fun p hpm => key_stays S (key p (r2.mem_iff.mp hpm)) ho hd sb
      led := by rw [el]; exact led
      room := by rw [r2.length_eq, em]; exact hn
      few := by rw [r2.length_eq]; exact few } r2
theorem addK (S : SetKind knd) (R : SetK knd s.heap a L es ep t) {x : Addr} {k : κ} (hx : knd.is s.heap k x) (hu : knd.room A) (hfew : L.length + 1 < 300) {Q : Bool → Shared → Prop}
    (hQ : ∀ b h' L' es' ep' t', Heap.SameBut a s.heap h' → SetK knd h' a L' es' ep' t' → (k ∈ L.map (·.2) → L' = L) → (k ∉ L.map (·.2) → L'.Perm ((x, k) :: L)) → Q b { s with heap := h' }) :
    wpAny (model P w) A (setAddHashed a (.ref x) (knd.hash k)) Q E s := by
  obtain ⟨o, ho, hex, hd⟩ := R.at_
  have size := R.size
  have hroom := R.room
  unfold setAddHashed
  refine wpAny_holding ?_
  rw [show (100000 : Nat) = 99999 + 1 from rfl, setAddHashedIn_succ]
  refine wpAny_bind (wpAny_setState_of ho hd R.fits ?_)
  dsimp only
  refine wp_if_neg (by simp [byScan, Value.scannable]) ?_
  try refine wpAny_bind (wpAny_pure ?_)
  refine wpAny_bind (setSearchK S R hx hu (fun hm => ?_) fun n hm n2 n3 => ?_)
  · dsimp only
    exact wpAny_pure (hQ false s.heap L es ep t (Heap.SameBut.refl a s.heap) R (fun _ => rfl) fun z => absurd hm z)
  dsimp only
  refine wpAny_bind (wpAny_setState_of ho hd R.fits ?_)
  dsimp only
  obtain ⟨q1, q2, q3, q4, q5, q9⟩ := R.tab.put n2 n3
  obtain ⟨r, hr⟩ := S.byV hx
  generalize hpt : t.put (way t.mask (knd.hash k) n) = pt at q1 q3 q4 q5 q9 ⊢
  obtain ⟨t1, p⟩ := pt
  dsimp only at q1 q3 q4 q5 q9 ⊢
  subst q1
  -- whatever is told of its hash
  generalize hpp : SetTable.below t.place (way t.mask (knd.hash k) n) = p at q2 q3 ⊢
  have hin : (SetTable.insertAt es p (knd.hash k, Value.ref x)).toList = (L.take p ++ (x, k) :: L.drop p).map (rowK knd) := by
    rw [SetTable.toList_insertAt, R.rows, List.map_append, List.map_cons, List.map_take, List.map_drop]
    rfl
  have hhs : (L.take p ++ (x, k) :: L.drop p).map (fun p => knd.hash p.2) = (L.map fun p => knd.hash p.2).take p ++ knd.hash k :: (L.map fun p => knd.hash p.2).drop p := by
    rw [List.map_append, List.map_cons, List.map_take, List.map_drop]
  rw [← hhs] at q3
  have pm := put_perm L p (x, k)
  generalize SetTable.insertAt es p (knd.hash k, Value.ref x) = es1 at hin ⊢
  generalize L.take p ++ (x, k) :: L.drop p = L1 at pm q3 hin
  have hlen : L1.length = L.length + 1 := pm.length_eq
  have hes := (rows_size hin).trans hlen
  have once1 : (L1.map (·.2)).Nodup := (pm.map (·.2)).nodup_iff.mpr (by rw [List.map_cons]; exact List.nodup_cons.mpr ⟨hm, R.once⟩)
  -- the rest, for the table that keeps all but its word on plain hashes
  have rest : ∀ t2 : SetTable, TabK t2 (L1.map fun p => knd.hash p.2) → t2.mask = t1.mask → t2.led = t1.led → t2.tooFull = t1.tooFull → t2.dummies = t1.dummies → t2.place = t1.place →
      wpAny (model P w) A (do
        storeSet a es1 t2
        if !false && t2.tooFull then setRelay a (SetTable.grown (es.size + 1))
        return true) Q E s := by
    intro t2 T2 m2 l2 f2 d2 pl2
    refine wpAny_bind (wpAny_storeSet_of ho hd ?_ (by rw [hes, sizeLine_eq]; omega))
    have sb : Heap.SameBut a s.heap (s.heap.update a (Obj.putSet es1 t2)) := Heap.SameBut.update ..
    have ho1 := store_at (es' := es1) (t' := t2) ho hd
    generalize s.heap.update a (Obj.putSet es1 t2) = h1 at sb ho1 ⊢
    have key1 : ∀ p ∈ L1, knd.is h1 p.2 p.1 := fun p hp => by
      rcases List.mem_cons.mp (pm.mem_iff.mp hp) with e | hp
      · rw [e]; exact key_stays S hx ho hd sb
      · exact key_stays S (R.key p hp) ho hd sb
    have led1 : w.params.followText "set-order" = true ∨ t2.led = true := by rw [l2, q5]; exact R.led
    have size1 : t2.place.size = es1.size := by
      rw [T2.sz, List.length_map, hlen, hes]
    by_cases hf : t2.tooFull = true
    · have hfull : (L.length + 1) * 5 ≥ t.mask * 3 := by
        have h := hf
        rw [f2] at h
        unfold SetTable.tooFull at h
        rw [decide_eq_true_eq, q9, List.length_map, q4] at h
        exact h
      have two : (t.mask = 7 ∧ L.length = 4) ∨ (t.mask = 31 ∧ L.length = 18) ∨ (t.mask = 127 ∧ L.length = 76) := by
        rcases R.tab.msk with e | e | e | e
        · left; rw [e] at hfull hroom; exact ⟨e, by omega⟩
        · right; left; rw [e] at hfull hroom; exact ⟨e, by omega⟩
        · right; right; rw [e] at hfull hroom; exact ⟨e, by omega⟩
        · exfalso; rw [e] at hfull; omega
      have go : ∀ M, SetTable.sizeAbove (SetTable.grown (L.length + 1)) - 1 = M → Msk M → SetTable.sizeAbove (SetTable.grown (L.length + 1)) ≤ 512 → (L.length + 1) * 5 < M * 3 →
          wpAny (model P w) A (setRelay a (SetTable.grown (es.size + 1))) (fun _ s' => wpAny (model P w) A (pure true) Q E s') E { s with heap := h1 } := fun M a1 a2 a3 a4 => by
        rw [size]
        refine relayK (s := { s with heap := h1 }) S ho1 ⟨hex.1, hex.2.1, hex.2.2⟩ rfl hin size1 T2.dm (by rw [hes, m2, q4]; rcases two with ⟨e, e2⟩ | ⟨e, e2⟩ | ⟨e, e2⟩ <;> omega) once1 key1 led1 (by rw [hlen]; exact hfew) a1 a2 a3 (by rw [hlen]; exact a4) ?_
        intro h2 L2 es2 ep2 t3 sb2 R2 pm2
        exact wpAny_pure (hQ true h2 L2 es2 ep2 t3 (sb.trans sb2) R2 (fun z => absurd z hm) fun _ => pm2.trans pm)
      have fin : wpAny (model P w) A (setRelay a (SetTable.grown (es.size + 1))) (fun _ s' => wpAny (model P w) A (pure true) Q E s') E { s with heap := h1 } := by
        rcases two with ⟨_, e2⟩ | ⟨_, e2⟩ | ⟨_, e2⟩
        · exact go 31 (by rw [e2, grow_19]) (.inr (.inl rfl)) (by rw [e2, grow_19]; decide) (by omega)
        · exact go 127 (by rw [e2, grow_76]) (.inr (.inr (.inl rfl))) (by rw [e2, grow_76]; decide) (by omega)
        · exact go 511 (by rw [e2, grow_306]) (.inr (.inr (.inr rfl))) (by rw [e2, grow_306]; decide) (by omega)
      first
        | (refine wpAny_bind ?_; exact wp_if_pos (by simp [hf]) fin)
        | (refine wp_if_pos (by simp [hf]) ?_; exact wpAny_bind fin)
    · have done : SetK knd h1 a L1 es1 (ep + 1) t2 :=
        { at_ := ⟨_, ho1, ⟨hex.1, hex.2.1, hex.2.2⟩, rfl⟩
          rows := hin
          tab := T2
          once := once1
          key := key1
          led := led1
          room := by
            have h := hf
            rw [f2] at h
            unfold SetTable.tooFull at h
            rw [decide_eq_true_eq, q9, List.length_map] at h
            rw [hlen, m2]
            omega
          few := by rw [hlen]; exact hfew }
      first
        | (refine wpAny_bind ?_; refine wp_if_neg (by simp [hf]) ?_; exact wpAny_pure (wpAny_pure (hQ true h1 L1 es1 (ep + 1) t2 sb done (fun z => absurd z hm) fun _ => pm)))
        | (refine wp_if_neg (by simp [hf]) ?_; exact wpAny_pure (hQ true h1 L1 es1 (ep + 1) t2 sb done (fun z => absurd z hm) fun _ => pm))
  have tab_of : TabK { t1 with plain := false } (L1.map fun p => knd.hash p.2) := ⟨q3.ris, q3.dm, q3.sz, q3.msk, q3.bd, q3.met⟩
  have both : ∀ b : Bool, wpAny (model P w) A (do
        storeSet a es1 (if b = true then t1 else { t1 with plain := false })
        if !false && (if b = true then t1 else { t1 with plain := false }).tooFull then setRelay a (SetTable.grown (es.size + 1))
        return true) Q E s := by
    intro b
    cases b with
    | true => simpa using rest t1 q3 rfl rfl rfl rfl rfl
    | false => simpa using rest { t1 with plain := false } tab_of rfl rfl rfl rfl rfl
  by_cases hp : t1.plain = true
  · exact wp_if_pos hp (wpAny_bind (hr (both r)))
  · exact wp_if_neg hp (wpAny_bind (wpAny_pure (both true)))
end
end Pv
end
section
set_option Elab.async false
set_option linter.all false
set_option autoImplicit false
set_option maxRecDepth 100000
set_option maxHeartbeats 2000000
namespace Pv
open PySem PySem.Spec PyProof.Rows L2
section
variable {P : Program} {w : World} {κ : Type} [DecidableEq κ] {knd : HeapKind P w κ} {A : Around} {E : Value → Shared → Prop} {s : Shared} {a : Addr}
theorem SetK.keep {h h' : Heap} {L : List (Addr × κ)} {es : Array (Int × Value)} {ep : Nat} {t : SetTable} (R : SetK knd h a L es ep t) (k1 : ∀ o, h.get? a = some o → h'.get? a = some o) (k2 : ∀ p ∈ L, knd.is h' p.2 p.1) : SetK knd h' a L es ep t :=
  { R with at_ := let ⟨o, e, r⟩ := R.at_; ⟨o, k1 o e, r⟩, key := k2 }
structure GotK (ks : List (Addr × κ)) (i : Nat) (L : List (Addr × κ)) : Prop where
  sub : ∀ p ∈ L, p ∈ ks
  all : ∀ p ∈ ks.take i, p.2 ∈ L.map (·.2)
  len : L.length ≤ i
theorem GotK.same {ks L : List (Addr × κ)} {i : Nat} {x : Addr × κ} (g : GotK ks i L) (h : ks[i]? = some x) (hm : x.2 ∈ L.map (·.2)) : GotK ks (i + 1) L where
  sub := g.sub
  all := fun p hp => by
    rw [List.take_add_one, h] at hp
    rcases List.mem_append.mp hp with z | z
    · exact g.all p z
    · rw [Option.toList_some, List.mem_singleton] at z; rw [z]; exact hm
  len := Nat.le_succ_of_le g.len
theorem GotK.more {ks L L' : List (Addr × κ)} {i : Nat} {x : Addr × κ} (g : GotK ks i L) (h : ks[i]? = some x) (pm : L'.Perm (x :: L)) : GotK ks (i + 1) L' where
  sub := fun p hp => by
    rcases List.mem_cons.mp (pm.mem_iff.mp hp) with z | z
    · rw [z]; exact List.mem_of_getElem? h
    · exact g.sub p z
  all := fun p hp => by
    rw [(pm.map (·.2)).mem_iff, List.map_cons]
    rw [List.take_add_one, h] at hp
    rcases List.mem_append.mp hp with z | z
    · exact List.mem_cons_of_mem _ (g.all p z)
    · rw [Option.toList_some, List.mem_singleton] at z; rw [z]; exact List.mem_cons_self
  len := by rw [pm.length_eq, List.length_cons]; exact Nat.succ_le_succ g.len
theorem setK_new {h : Heap} (ho : h.get? a = some { cls := .type "set", dict := none, data := .set #[] 0 (.fresh 0 0 (!w.params.followText "set-order")) }) : SetK knd h a [] #[] 0 (.fresh 0 0 (!w.params.followText "set-order")) where
  at_ := ⟨_, ho, ⟨rfl, rfl, rfl⟩, rfl⟩
  rows := rfl
  tab := ⟨List.Pairwise.nil, rfl, rfl, .inl rfl, fun x hx => absurd hx List.not_mem_nil, fun i h j hi => by simp at hi⟩
  once := List.nodup_nil
  key := fun p hp => absurd hp List.not_mem_nil
  led := by
    show _ ∨ (!w.params.followText "set-order") = true
    cases w.params.followText "set-order"
    · exact .inr rfl
    · exact .inl rfl
  room := by
    show 0 * 5 < 7 * 3
    decide
  few := by
    show 0 < 300
    decide
theorem setK_update (SK : SetKind knd) {I : Addr} {fp wr : List Addr} {G : Array GenState → Array GenState → Prop} {n : Nat} {Pv : Nat → Value → Prop} {St : Nat → Shared → Prop} {R : Result → Shared → Prop}
    (W : WalksS P w A.in1 I fp wr G n Pv St) (S : Addr) (hS : S ∉ fp) (ks : List (Addr × κ)) (hn : n = ks.length) (few : ks.length < 300) (val : ∀ i v, Pv i v → ∃ p, ks[i]? = some p ∧ v = .ref p.1)
    (h0 : Heap) (hk : ∀ p ∈ ks, knd.is h0 p.2 p.1) (hS0 : h0.get? S = none) (hw0 : ∀ b ∈ wr, h0.get? b = none) (hu : knd.room A.in1) :
    ∀ (k i : Nat) (s : Shared), n - i = k → i ≤ n → St i s → (∀ b o, h0.get? b = some o → s.heap.get? b = some o) → (∃ L es ep t, SetK knd s.heap S L es ep t ∧ GotK ks i L) →
      (∀ s1 L es ep t, Moved (S :: wr) G s s1 → SetK knd s1.heap S L es ep t → GotK ks n L → R (.ok (.ret .none)) s1) →
      codeAny (model P w) A (.builtin "set.update.loop" ⟨[.ref S, .ref I], []⟩) R s := by
  have off : S ∉ wr := fun h => hS (W.sub _ h)
  have sub : ∀ b ∈ wr, b ∈ S :: wr := fun b hb => List.mem_cons_of_mem _ hb
  have keep : ∀ {s s1 : Shared}, Moved wr G s s1 → (∀ b o, h0.get? b = some o → s.heap.get? b = some o) → ∀ b o, h0.get? b = some o → s1.heap.get? b = some o := fun mv kp b o e =>
    mv.heap b o (fun hb => by rw [hw0 b hb] at e; cases e) (kp b o e)
  have still : ∀ {h : Heap} {p : Addr × κ}, (∀ b o, h0.get? b = some o → h.get? b = some o) → p ∈ ks → knd.is h p.2 p.1 := fun kp hp => SK.stays.stays (fun b o vs m e _ => kp b o e) (hk _ hp)
  intro k
  induction k with
  | zero =>
    intro i s e hi st kp ⟨L, es, ep, t, hs, g⟩ hR
    obtain rfl : i = n := by omega
    refine codeAny_builtin F.entry_set_update_loop ?_
    rw [Around.under_plainId F.plain_set_update_loop _]
    show wpAny _ A.in1 (pyNext (.ref I) >>= _) _ _ s
    refine wpAny_bind (W.done s _ _ st fun s1 mv => ?_)
    have kp1 := keep mv kp
    show wpAny _ A.in1 (ret Value.none) _ _ s1
    exact wpAny_pure (hR s1 L es ep t (mv.mono sub) (hs.keep (fun o e => mv.heap S o off e) fun p hp => still kp1 (g.sub p hp)) g)
  | succ k ih =>
    intro i s e hi st kp ⟨L, es, ep, t, hs, g⟩ hR
    have lt : i < n := by omega
    refine codeAny_builtin F.entry_set_update_loop ?_
    rw [Around.under_plainId F.plain_set_update_loop _]
    show wpAny _ A.in1 (pyNext (.ref I) >>= _) _ _ s
    refine wpAny_bind (W.item i s _ _ lt st fun v s1 hP st1 mv => ?_)
    obtain ⟨p, hp, rfl⟩ := val i v hP
    have kp1 := keep mv kp
    have hs1 := hs.keep (h' := s1.heap) (fun o e => mv.heap S o off e) fun p hp => still kp1 (g.sub p hp)
    have hx := still kp1 (List.mem_of_getElem? hp)
    show wpAny _ A.in1 (holding [Value.ref p.1] (setAdd S (.ref p.1)) >>= _) _ _ s1
    unfold setAdd
    refine wpAny_bind (wpAny_holding (wpAny_holding (wpAny_bind (knd.pyHash hu hx ?_))))
    refine addK (s := { s1 with toks := s1.toks + knd.draws p.2 }) SK hs1 hx hu (by have := g.len; omega) fun b h2 L2 es2 ep2 t2 sb r c1 c2 => ?_
    have g2 : GotK ks (i + 1) L2 := by
      by_cases c : p.2 ∈ L.map (·.2)
      · rw [c1 c]; exact g.same hp c
      · exact g.more hp (c2 c)
    have kp2 : ∀ b o, h0.get? b = some o → h2.get? b = some o := fun b o e => (sb.2 b fun z => by rw [z, hS0] at e; cases e).trans (kp1 b o e)
    refine wpAny_pure ⟨plainId_quiet F.plain_set_update_loop _, ih (i + 1) _ (by omega) lt (W.frame _ s1 _ _ st1 (Nat.le_add_right _ _) fun b hb o e => ?_) kp2 ⟨L2, es2, ep2, t2, r, g2⟩ fun s3 L3 es3 ep3 t3 mv3 r4 g3 => hR s3 L3 es3 ep3 t3 (Moved.trans W.gtrans ((mv.mono sub).then_heap (Nat.le_add_right _ _) fun b o hb e => ?_) mv3) r4 g3⟩
    · rw [sb.2 b fun h => hS (by rw [← h]; exact hb)]; exact e
    · rw [sb.2 b fun h => hb (by rw [h]; exact List.mem_cons_self)]; exact e
end
end Pv
end
section
set_option Elab.async false
set_option linter.all false
set_option maxRecDepth 100000
set_option maxHeartbeats 2000000
namespace Pv
open PySem PySem.Spec PyProof.Rows L2 PySem.W
section
variable {P : Program} {w : World} {κ : Type} [DecidableEq κ] {knd : HeapKind P w κ} {A : Around} {E : Value → Shared → Prop} {s : Shared}

set_option maxHeartbeats 4000000 in
theorem call_setK_list (SK : SetKind knd) {l : Addr} {items : Array Value} (ks : List (Addr × κ)) {Q : Value → Shared → Prop} (calm : A.handled = none) (hl : s.heap.IsList l items) (hx : items.toList = ks.map fun p => Value.ref p.1) (hk : ∀ p ∈ ks, knd.is s.heap p.2 p.1) (few : ks.length < 300) (hu : knd.room A.in1.in1.in1)
    (hQ : ∀ h1 tk L es ep tb, SetK knd h1 s.heap.objs.size L es ep tb → GotK ks ks.length L → (∀ b o, s.heap.get? b = some o → h1.get? b = some o) → Q (.ref s.heap.objs.size) { s with heap := h1, toks := tk }) :
    wpAny (model P w) A (call (.type "set") [.ref l]) Q E s := by
  have size : items.size = ks.length := by
    rw [← Array.length_toList, hx, List.length_map]
  have at_ : ∀ (i : Nat) (v : Value), items[i]? = some v → ∃ p, ks[i]? = some p ∧ v = .ref p.1 := fun i v hv => by
    rw [← Array.getElem?_toList, hx, List.getElem?_map, Option.map_eq_some_iff] at hv
    obtain ⟨p, e1, e2⟩ := hv
    exact ⟨p, e1, e2.symm⟩
  have none_of : ∀ b, s.heap.objs.size ≤ b → s.heap.get? b = none := fun b hb => by
    cases q : s.heap.get? b with
    | none => rfl
    | some o => exact absurd (Nat.lt_of_lt_of_le (Heap.lt_size q) hb) (Nat.lt_irrefl _)
  obtain ⟨c, tl, mro⟩ := F.called_set.mro
  have f1 := F.called_set.made
  have f2 := F.called_set.sub
  have f3 := F.called_set.notType
  have f4 := F.called_set.canCreate
  have f5 := F.typeCall_set_1 (.ref l)
  refine wpAny_call (codeAny_of_tree ?_)
  show wpAny _ _ (callAny (.type "set") _) _ _ _
  refine wpAny_pure ⟨Code.quiet_builtin _ (by decide +kernel), codeAny_builtin F.entry_type_call ?_⟩
  rw [Around.under_plain (weight_type_call_type "set" [.ref l] []) rfl]
  repeat (any_goals (first | assumption | wp_step))
  refine codeAny_mono (code_set_led1 (.ref l) (E := E) (Q₁ := fun v s1 => v = .ref s.heap.objs.size ∧ s1 = { s with heap := s.heap.push { cls := .type "set", dict := none, data := .set #[] 0 (.fresh 0 0 (!w.params.followText "set-order")) } }) ⟨rfl, rfl⟩) fun r s1 hr => ?_
  cases r with
  | error e => exact hr
  | ok fl =>
    cases fl with
    | ret v =>
      obtain ⟨rfl, rfl⟩ := hr
      have hO : (s.heap.push { cls := .type "set", dict := none, data := .set #[] 0 (.fresh 0 0 (!w.params.followText "set-order")) }).get? s.heap.objs.size = some { cls := .type "set", dict := none, data := .set #[] 0 (.fresh 0 0 (!w.params.followText "set-order")) } := Heap.get?_push_size _ rfl
      have ty : Shared.TypeIs { s with heap := s.heap.push { cls := .type "set", dict := none, data := .set #[] 0 (.fresh 0 0 (!w.params.followText "set-order")) } } (.ref s.heap.objs.size) "set" := ⟨_, hO, rfl⟩
      have g1 := F.called_set.init.lookup
      have g2 := F.called_set.init.bind (.ref s.heap.objs.size)
      repeat (any_goals (first | assumption | wp_step))
      refine codeAny_mono (codeAny_call_builtin (R := wants (fun r s2 => r = .none ∧ ∃ h1 tk L es ep tb, s2 = { s with heap := h1, toks := tk } ∧ SetK knd h1 s.heap.objs.size L es ep tb ∧ GotK ks ks.length L ∧
        ∀ b o, s.heap.get? b = some o → h1.get? b = some o) E) F.called_set.init.plain F.entry_set_init (check_set_init_1 ty ?_)) fun r2 s2 hr2 => ?_
      · have small := Heap.lt_size hl.choose_spec.1
        obtain ⟨⟨oc, od, odt, os⟩, hol, hoc, nl, hod⟩ := hl
        simp only at hoc hod
        subst hoc; subst hod
        have hol1 : (s.heap.push { cls := .type "set", dict := none, data := .set #[] 0 (.fresh 0 0 (!w.params.followText "set-order")) }).get? l = some ⟨.type "list", od, .seq items nl, os⟩ := Heap.get?_push_of_some _ hol
        have m1 := F.sub_list_set
        have m2 := F.sub_list_frozenset
        have m3 : (Value.type "list" == Value.type "dict") = false := by decide
        have hl1 : (s.heap.push { cls := .type "set", dict := none, data := .set #[] 0 (.fresh 0 0 (!w.params.followText "set-order")) }).IsList l items := ⟨_, hol1, rfl, nl, rfl⟩
        unfold Builtin.«set.__init__» noKeywords Builtin.Frozenset.updateFrom
        generalize pit : pyIter = PI
        wp_walk
        subst pit
        refine wpAny_pyIter_list hl1 ?_
        refine wpAny_bind (wpAny_runValue ?_)
        have sz : (s.heap.push { cls := .type "set", dict := none, data := .set #[] 0 (.fresh 0 0 (!w.params.followText "set-order")) }).objs.size = s.heap.objs.size + 1 := Heap.size_push ..
        have ne1 : l ≠ (s.heap.push { cls := .type "set", dict := none, data := .set #[] 0 (.fresh 0 0 (!w.params.followText "set-order")) }).objs.size := by rw [sz]; exact Nat.ne_of_lt (Nat.lt_succ_of_lt small)
        have off : s.heap.objs.size ∉ [(s.heap.push { cls := .type "set", dict := none, data := .set #[] 0 (.fresh 0 0 (!w.params.followText "set-order")) }).objs.size, l] := by
          rw [sz]
          simp only [List.mem_cons, List.not_mem_nil, or_false, not_or]
          exact ⟨Nat.ne_of_lt (Nat.lt_succ_self _), Nat.ne_of_gt small⟩
        refine setK_update SK ((Walks.list (by simp [calm]) _ l ne1 items).toS) s.heap.objs.size off ks size few at_ s.heap hk (none_of _ (Nat.le_refl _)) (fun b hb => none_of b (by rw [List.mem_singleton.mp hb, sz]; exact Nat.le_succ _)) hu (items.size - 0) 0 _ rfl (Nat.zero_le _) ⟨⟨_, Heap.get?_push_size _ rfl, rfl, rfl⟩, hl1.push _⟩ (fun b o e => Heap.get?_push_of_some _ (Heap.get?_push_of_some _ e)) ?h0 ?h1
        case h0 => exact ⟨[], #[], 0, _, setK_new (Heap.get?_push_of_some _ hO), ⟨fun p hp => absurd hp List.not_mem_nil, fun p hp => absurd hp (by simp), Nat.le_refl _⟩⟩
        case h1 =>
          intro s3 L es ep tb mv res got
          rw [size] at got
          obtain ⟨h3, g3, d3, t3, o3⟩ := s3
          obtain rfl : g3 = s.gens := mv.gens
          obtain rfl : d3 = s.drawn := mv.drawn
          obtain rfl : o3 = s.os := mv.os
          refine wpAny_pure ?_
          show wpAny _ _ (ret Value.none) _ _ _
          refine wpAny_pure ⟨rfl, h3, t3, L, es, ep, tb, rfl, res, got, fun b o e => ?_⟩
          have lt := Heap.lt_size e
          refine mv.heap b o ?_ (Heap.get?_push_of_some _ (Heap.get?_push_of_some _ e))
          rw [sz]
          simp only [List.mem_cons, List.not_mem_nil, or_false, not_or]
          exact ⟨Nat.ne_of_lt lt, Nat.ne_of_lt (Nat.lt_succ_of_lt lt)⟩
      · cases r2 with
        | error e => exact hr2
        | ok fl2 =>
          cases fl2 with
          | ret v2 =>
            obtain ⟨rfl, h1, tk, L, es, ep, tb, rfl, res, got, kp⟩ := hr2
            repeat (any_goals (first | assumption | wp_step))
            exact hQ h1 tk L es ep tb res got kp
          | _ => exact hr2.elim
    | _ => exact hr.elim


set_option maxHeartbeats 4000000 in
theorem call_setK_tuple (SK : SetKind knd) {l : Addr} {items : Array Value} (ks : List (Addr × κ)) {Q : Value → Shared → Prop} (calm : A.handled = none) (hl : s.heap.IsTuple l items) (hx : items.toList = ks.map fun p => Value.ref p.1) (hk : ∀ p ∈ ks, knd.is s.heap p.2 p.1) (few : ks.length < 300) (hu : knd.room A.in1.in1.in1)
    (hQ : ∀ h1 tk L es ep tb, SetK knd h1 s.heap.objs.size L es ep tb → GotK ks ks.length L → (∀ b o, s.heap.get? b = some o → h1.get? b = some o) → Q (.ref s.heap.objs.size) { s with heap := h1, toks := tk }) :
    wpAny (model P w) A (call (.type "set") [.ref l]) Q E s := by
  have size : items.size = ks.length := by
    rw [← Array.length_toList, hx, List.length_map]
  have at_ : ∀ (i : Nat) (v : Value), items[i]? = some v → ∃ p, ks[i]? = some p ∧ v = .ref p.1 := fun i v hv => by
    rw [← Array.getElem?_toList, hx, List.getElem?_map, Option.map_eq_some_iff] at hv
    obtain ⟨p, e1, e2⟩ := hv
    exact ⟨p, e1, e2.symm⟩
  have none_of : ∀ b, s.heap.objs.size ≤ b → s.heap.get? b = none := fun b hb => by
    cases q : s.heap.get? b with
    | none => rfl
    | some o => exact absurd (Nat.lt_of_lt_of_le (Heap.lt_size q) hb) (Nat.lt_irrefl _)
  obtain ⟨c, tl, mro⟩ := F.called_set.mro
  have f1 := F.called_set.made
  have f2 := F.called_set.sub
  have f3 := F.called_set.notType
  have f4 := F.called_set.canCreate
  have f5 := F.typeCall_set_1 (.ref l)
  refine wpAny_call (codeAny_of_tree ?_)
  show wpAny _ _ (callAny (.type "set") _) _ _ _
  refine wpAny_pure ⟨Code.quiet_builtin _ (by decide +kernel), codeAny_builtin F.entry_type_call ?_⟩
  rw [Around.under_plain (weight_type_call_type "set" [.ref l] []) rfl]
  repeat (any_goals (first | assumption | wp_step))
  refine codeAny_mono (code_set_led1 (.ref l) (E := E) (Q₁ := fun v s1 => v = .ref s.heap.objs.size ∧ s1 = { s with heap := s.heap.push { cls := .type "set", dict := none, data := .set #[] 0 (.fresh 0 0 (!w.params.followText "set-order")) } }) ⟨rfl, rfl⟩) fun r s1 hr => ?_
  cases r with
  | error e => exact hr
  | ok fl =>
    cases fl with
    | ret v =>
      obtain ⟨rfl, rfl⟩ := hr
      have hO : (s.heap.push { cls := .type "set", dict := none, data := .set #[] 0 (.fresh 0 0 (!w.params.followText "set-order")) }).get? s.heap.objs.size = some { cls := .type "set", dict := none, data := .set #[] 0 (.fresh 0 0 (!w.params.followText "set-order")) } := Heap.get?_push_size _ rfl
      have ty : Shared.TypeIs { s with heap := s.heap.push { cls := .type "set", dict := none, data := .set #[] 0 (.fresh 0 0 (!w.params.followText "set-order")) } } (.ref s.heap.objs.size) "set" := ⟨_, hO, rfl⟩
      have g1 := F.called_set.init.lookup
      have g2 := F.called_set.init.bind (.ref s.heap.objs.size)
      repeat (any_goals (first | assumption | wp_step))
      refine codeAny_mono (codeAny_call_builtin (R := wants (fun r s2 => r = .none ∧ ∃ h1 tk L es ep tb, s2 = { s with heap := h1, toks := tk } ∧ SetK knd h1 s.heap.objs.size L es ep tb ∧ GotK ks ks.length L ∧
        ∀ b o, s.heap.get? b = some o → h1.get? b = some o) E) F.called_set.init.plain F.entry_set_init (check_set_init_1 ty ?_)) fun r2 s2 hr2 => ?_
      · have small := Heap.lt_size hl.choose_spec.1
        obtain ⟨⟨oc, od, odt, os⟩, hol, hoc, nl, hod⟩ := hl
        simp only at hoc hod
        subst hoc; subst hod
        have hol1 : (s.heap.push { cls := .type "set", dict := none, data := .set #[] 0 (.fresh 0 0 (!w.params.followText "set-order")) }).get? l = some ⟨.type "tuple", od, .seq items nl, os⟩ := Heap.get?_push_of_some _ hol
        have m1 := F.sub_tuple_set
        have m2 := F.sub_tuple_frozenset
        have m3 : (Value.type "tuple" == Value.type "dict") = false := by decide
        have hl1 : (s.heap.push { cls := .type "set", dict := none, data := .set #[] 0 (.fresh 0 0 (!w.params.followText "set-order")) }).IsTuple l items := ⟨_, hol1, rfl, nl, rfl⟩
        unfold Builtin.«set.__init__» noKeywords Builtin.Frozenset.updateFrom
        generalize pit : pyIter = PI
        wp_walk
        subst pit
        refine wpAny_pyIter_tuple hl1 ?_
        refine wpAny_bind (wpAny_runValue ?_)
        have sz : (s.heap.push { cls := .type "set", dict := none, data := .set #[] 0 (.fresh 0 0 (!w.params.followText "set-order")) }).objs.size = s.heap.objs.size + 1 := Heap.size_push ..
        have ne1 : l ≠ (s.heap.push { cls := .type "set", dict := none, data := .set #[] 0 (.fresh 0 0 (!w.params.followText "set-order")) }).objs.size := by rw [sz]; exact Nat.ne_of_lt (Nat.lt_succ_of_lt small)
        have off : s.heap.objs.size ∉ [(s.heap.push { cls := .type "set", dict := none, data := .set #[] 0 (.fresh 0 0 (!w.params.followText "set-order")) }).objs.size, l] := by
          rw [sz]
          simp only [List.mem_cons, List.not_mem_nil, or_false, not_or]
          exact ⟨Nat.ne_of_lt (Nat.lt_succ_self _), Nat.ne_of_gt small⟩
        refine setK_update SK ((Walks.tuple (by simp [calm]) _ l ne1 items).toS) s.heap.objs.size off ks size few at_ s.heap hk (none_of _ (Nat.le_refl _)) (fun b hb => none_of b (by rw [List.mem_singleton.mp hb, sz]; exact Nat.le_succ _)) hu (items.size - 0) 0 _ rfl (Nat.zero_le _) ⟨⟨_, Heap.get?_push_size _ rfl, rfl, rfl⟩, hl1.push _⟩ (fun b o e => Heap.get?_push_of_some _ (Heap.get?_push_of_some _ e)) ?h0 ?h1
        case h0 => exact ⟨[], #[], 0, _, setK_new (Heap.get?_push_of_some _ hO), ⟨fun p hp => absurd hp List.not_mem_nil, fun p hp => absurd hp (by simp), Nat.le_refl _⟩⟩
        case h1 =>
          intro s3 L es ep tb mv res got
          rw [size] at got
          obtain ⟨h3, g3, d3, t3, o3⟩ := s3
          obtain rfl : g3 = s.gens := mv.gens
          obtain rfl : d3 = s.drawn := mv.drawn
          obtain rfl : o3 = s.os := mv.os
          refine wpAny_pure ?_
          show wpAny _ _ (ret Value.none) _ _ _
          refine wpAny_pure ⟨rfl, h3, t3, L, es, ep, tb, rfl, res, got, fun b o e => ?_⟩
          have lt := Heap.lt_size e
          refine mv.heap b o ?_ (Heap.get?_push_of_some _ (Heap.get?_push_of_some _ e))
          rw [sz]
          simp only [List.mem_cons, List.not_mem_nil, or_false, not_or]
          exact ⟨Nat.ne_of_lt lt, Nat.ne_of_lt (Nat.lt_succ_of_lt lt)⟩
      · cases r2 with
        | error e => exact hr2
        | ok fl2 =>
          cases fl2 with
          | ret v2 =>
            obtain ⟨rfl, h1, tk, L, es, ep, tb, rfl, res, got, kp⟩ := hr2
            repeat (any_goals (first | assumption | wp_step))
            exact hQ h1 tk L es ep tb res got kp
          | _ => exact hr2.elim
    | _ => exact hr.elim

end
end Pv
end
section
set_option Elab.async false
set_option linter.all false
set_option autoImplicit false
set_option maxRecDepth 100000
set_option maxHeartbeats 2000000
namespace Pv
open PySem PySem.Spec PyProof.Rows L2 PySem.W
mutual
def keyN : D → Option NestedKey
  | .none => some .none
  | .int i => some (.num i)
  | .str x => some (.text x)
  | .tuple ds => (keyNs ds).map .tup
  | .bool _ => none
  | .list _ => none
  | .dict _ => none
def keyNs : List D → Option (List NestedKey)
  | [] => some []
  | d :: ds => (keyN d).bind fun k => (keyNs ds).map fun r => k :: r
end
mutual
theorem key_reads {h : Heap} : ∀ (d : D) (v : Value) (as : List Addr) (k : NestedKey), Reads h v d as → keyN d = some k → NestedIs h k v
  | .none, v, as, k, r, e => by cases r; cases e; exact .none
  | .int i, v, as, k, r, e => by cases r; cases e; exact .int i _
  | .str x, v, as, k, r, e => by cases r; cases e; exact .text x _
  | .tuple ds, v, as, k, r, e => by
    simp only [keyN, Option.map_eq_some_iff] at e
    obtain ⟨ks, e, rfl⟩ := e
    cases r with
    | tuple h1 h2 h3 h4 => exact .tup h1 h2 h3 (keys_reads ds _ _ ks h4 e)
  | .bool _, _, _, _, _, e => by cases e
  | .list _, _, _, _, _, e => by cases e
  | .dict _, _, _, _, _, e => by cases e
theorem keys_reads {h : Heap} : ∀ (ds : List D) (vs : List Value) (as : List Addr) (ks : List NestedKey), ReadsAll h vs ds as → keyNs ds = some ks → NestedAll h ks vs
  | [], vs, as, ks, r, e => by cases r; cases e; exact .nil
  | d :: ds, vs, as, ks, r, e => by
    simp only [keyNs, Option.bind_eq_some_iff, Option.map_eq_some_iff] at e
    obtain ⟨k, e1, r2, e2, rfl⟩ := e
    cases r with
    | cons h1 h2 => exact .cons (key_reads d _ _ k h1 e1) (keys_reads ds _ _ r2 h2 e2)
end
mutual
theorem keyN_inj : ∀ (d e : D) (k : NestedKey), keyN d = some k → keyN e = some k → d = e
  | .none, e, k, h1, h2 => by cases h1; cases e <;> simp [keyN] at h2 <;> rfl
  | .int i, e, k, h1, h2 => by cases h1; cases e <;> simp [keyN] at h2; rw [h2]
  | .str x, e, k, h1, h2 => by cases h1; cases e <;> simp [keyN] at h2; rw [h2]
  | .tuple ds, e, k, h1, h2 => by
    simp only [keyN, Option.map_eq_some_iff] at h1
    obtain ⟨ks, e1, rfl⟩ := h1
    cases e with
    | tuple es =>
      simp only [keyN, Option.map_eq_some_iff] at h2
      obtain ⟨ks2, e2, e3⟩ := h2
      cases e3
      rw [keyNs_inj ds es _ e1 e2]
    | _ => simp [keyN] at h2
  | .bool _, _, _, h1, _ => by cases h1
  | .list _, _, _, h1, _ => by cases h1
  | .dict _, _, _, h1, _ => by cases h1
theorem keyNs_inj : ∀ (ds es : List D) (ks : List NestedKey), keyNs ds = some ks → keyNs es = some ks → ds = es
  | [], es, ks, h1, h2 => by
    cases h1
    cases es with
    | nil => rfl
    | cons e es => simp [keyNs, Option.bind_eq_some_iff] at h2
  | d :: ds, es, ks, h1, h2 => by
    simp only [keyNs, Option.bind_eq_some_iff, Option.map_eq_some_iff] at h1
    obtain ⟨k, a1, r, a2, rfl⟩ := h1
    cases es with
    | nil => cases h2
    | cons e es =>
      simp only [keyNs, Option.bind_eq_some_iff, Option.map_eq_some_iff] at h2
      obtain ⟨k2, b1, r2, b2, b3⟩ := h2
      cases b3
      rw [keyN_inj d e _ a1 b1, keyNs_inj ds es _ a2 b2]
end
def sameD (d e : D) : Bool := match keyN d, keyN e with
  | some k, some l => decide (k = l)
  | _, _ => false
def dedupD : List D → List D
  | [] => []
  | x :: r => if (r.any fun y => sameD y x) = true then dedupD r else x :: dedupD r
theorem sameD_iff {d e : D} {k : NestedKey} (h : keyN d = some k) : sameD e d = true ↔ e = d := by
  unfold sameD
  rw [h]
  constructor
  · intro q
    split at q
    · rename_i k1 l e1 e2
      cases e2
      exact keyN_inj e d k1 e1 (by rw [h, of_decide_eq_true q])
    · cases q
  · rintro rfl
    rw [h]
    exact decide_eq_true rfl
def keyed (ds : List D) : Bool := ds.all fun d => (keyN d).isSome
theorem keyed_of {ds : List D} (h : keyed ds = true) {d : D} (hd : d ∈ ds) : ∃ k, keyN d = some k := Option.isSome_iff_exists.mp (List.all_eq_true.mp h d hd)
theorem mem_dedupD {y : D} : ∀ {xs : List D}, keyed xs = true → (y ∈ dedupD xs ↔ y ∈ xs)
  | [], _ => Iff.rfl
  | x :: r, h => by
    obtain ⟨k, hk⟩ := keyed_of h List.mem_cons_self
    have hr : keyed r = true := List.all_eq_true.mpr fun d hd => List.all_eq_true.mp h d (List.mem_cons_of_mem _ hd)
    have hx : (r.any fun y => sameD y x) = true ↔ x ∈ r := by
      rw [List.any_eq_true]
      exact ⟨fun ⟨y, a, b⟩ => by rw [← (sameD_iff hk).mp b]; exact a, fun a => ⟨x, a, (sameD_iff hk).mpr rfl⟩⟩
    unfold dedupD
    split
    · next q =>
      rw [mem_dedupD hr, List.mem_cons]
      exact ⟨.inr, fun e => e.elim (fun e => by rw [e]; exact hx.mp q) id⟩
    · rw [List.mem_cons, List.mem_cons, mem_dedupD hr]
theorem nodup_dedupD : ∀ {xs : List D}, keyed xs = true → (dedupD xs).Nodup
  | [], _ => List.nodup_nil
  | x :: r, h => by
    obtain ⟨k, hk⟩ := keyed_of h List.mem_cons_self
    have hr : keyed r = true := List.all_eq_true.mpr fun d hd => List.all_eq_true.mp h d (List.mem_cons_of_mem _ hd)
    unfold dedupD
    split
    · exact nodup_dedupD hr
    · next q =>
      refine List.nodup_cons.mpr ⟨fun m => q ?_, nodup_dedupD hr⟩
      rw [List.any_eq_true]
      exact ⟨x, (mem_dedupD hr).mp m, (sameD_iff hk).mpr rfl⟩
theorem toks_inj {d e : D} (h : PySem.W.alike d e = true) (ht : keyToks d = keyToks e) : PyData.eqv d e = true := by
  cases q : PyData.eqv d e with
  | true => rfl
  | false =>
    exfalso
    have h2 := (toks_eqv d e h).2 q [] [.inl 0]
    rw [ht, List.append_nil, lex_irrefl] at h2
    have h3 := lex_pre (keyToks e) [] [.inl 0]
    rw [List.append_nil, h2] at h3
    exact absurd h3 (by decide)
mutual
theorem eqv_key : ∀ (d e : D) (k : NestedKey), keyN d = some k → PyData.eqv d e = true → PySem.W.alike d e = true → d = e
  | .none, e, k, h, q, a => by cases e <;> simp [PySem.W.alike] at a <;> rfl
  | .int i, e, k, h, q, a => by cases e <;> simp [PySem.W.alike] at a; simpa [PyData.eqv] using q
  | .str x, e, k, h, q, a => by cases e <;> simp [PySem.W.alike] at a; simpa [PyData.eqv] using q
  | .tuple ds, e, k, h, q, a => by
    cases e with
    | tuple es =>
      simp only [keyN, Option.map_eq_some_iff] at h
      obtain ⟨ks, e1, rfl⟩ := h
      rw [eqv_keys ds es ks e1 (by simpa [PyData.eqv] using q) (by simpa [PySem.W.alike] using a)]
    | _ => simp [PySem.W.alike] at a
  | .bool _, _, _, h, _, _ => by cases h
  | .list _, _, _, h, _, _ => by cases h
  | .dict _, _, _, h, _, _ => by cases h
theorem eqv_keys : ∀ (ds es : List D) (ks : List NestedKey), keyNs ds = some ks → PyData.eqvAll ds es = true → PySem.W.alikeAll ds es = true → ds = es
  | [], es, ks, h, q, a => by
    cases es with
    | nil => rfl
    | cons e es => simp [PyData.eqvAll] at q
  | d :: ds, es, ks, h, q, a => by
    cases es with
    | nil => simp [PyData.eqvAll] at q
    | cons e es =>
      simp only [keyNs, Option.bind_eq_some_iff, Option.map_eq_some_iff] at h
      obtain ⟨k, h1, r, h2, rfl⟩ := h
      rw [eqv_all_cons, Bool.and_eq_true] at q
      obtain ⟨a1, a2⟩ := alike_all_cons a
      rw [eqv_key d e k h1 q.1 a1, eqv_keys ds es r h2 q.2 a2]
end
end Pv
end
section
set_option Elab.async false
set_option linter.all false
set_option autoImplicit false
set_option maxRecDepth 100000
set_option maxHeartbeats 2000000
namespace Pv
open PySem PySem.Spec PyProof.Rows L2 PySem.W
theorem dataLe_antisymm {d e : D} {k : NestedKey} (a : PySem.W.alike d e = true) (hk : keyN d = some k) (h1 : dataLe false id d e = true) (h2 : dataLe false id e d = true) : d = e := by
  have e1 : PyProof.Rows.lexLt itemOrd (keyToks e) (keyToks d) = false := by
    have h : (!PyProof.Rows.lexLt itemOrd (keyToks e) (keyToks d)) = true := h1
    simpa using h
  have e2 : PyProof.Rows.lexLt itemOrd (keyToks d) (keyToks e) = false := by
    have h : (!PyProof.Rows.lexLt itemOrd (keyToks d) (keyToks e)) = true := h2
    simpa using h
  exact eqv_key d e k hk (toks_inj a ((listOrd itemOrd).total _ _ e2 e1)) a
theorem sorted_one {α : Type} {le : α → α → Bool} : ∀ {l m : List α}, l.Perm m → l.Pairwise (fun a b => le a b = true) → m.Pairwise (fun a b => le a b = true) → (∀ a ∈ l, ∀ b ∈ l, le a b = true → le b a = true → a = b) → l = m
  | [], m, p, _, _, _ => (List.nil_perm.mp p).symm
  | x :: l, [], p, _, _, _ => absurd p.length_eq (by simp)
  | x :: l, y :: m, p, h1, h2, an => by
    obtain ⟨a1, a2⟩ := List.pairwise_cons.mp h1
    obtain ⟨b1, b2⟩ := List.pairwise_cons.mp h2
    have hx : x ∈ y :: m := p.mem_iff.mp List.mem_cons_self
    have hy : y ∈ x :: l := p.mem_iff.mpr List.mem_cons_self
    have e : x = y := by
      rcases List.mem_cons.mp hx with e | hx
      · exact e
      · rcases List.mem_cons.mp hy with e | hy'
        · exact e.symm
        · exact an x List.mem_cons_self y hy (a1 y hy') (b1 x hx)
    subst e
    rw [sorted_one (List.Perm.cons_inv p) a2 b2 fun a ha b hb => an a (List.mem_cons_of_mem _ ha) b (List.mem_cons_of_mem _ hb)]
theorem sortD_sorted (ds : List D) : (sortD ds).Pairwise fun a b => dataLe false id a b = true := isort_sorted (dataLe false id) dataLe_trans dataLe_total ds
theorem sortD_perm (ds : List D) : (sortD ds).Perm ds := isort_perm _ ds
theorem sortD_one {ds es : List D} (p : ds.Perm es) (al : AllAlike es) (hk : keyed es = true) : sortD ds = sortD es := by
  refine sorted_one ((sortD_perm ds).trans (p.trans (sortD_perm es).symm)) (sortD_sorted ds) (sortD_sorted es) fun a ha b hb h1 h2 => ?_
  have ma : a ∈ es := p.mem_iff.mp ((sortD_perm ds).mem_iff.mp ha)
  have mb : b ∈ es := p.mem_iff.mp ((sortD_perm ds).mem_iff.mp hb)
  obtain ⟨k, hk⟩ := keyed_of hk ma
  exact dataLe_antisymm (al a ma b mb) hk h1 h2
def uniqD (ds : List D) : List D := sortD (dedupD ds)
def setOk (ds : List D) : Bool := keyed ds && (decide (ds.length < 300) && (sortOk ds && ds.all fun d => match d with
  | .tuple _ => decide (d.depth ≤ 8)
  | _ => false))
end Pv
end
section
set_option Elab.async false
set_option linter.all false
set_option autoImplicit false
set_option maxRecDepth 100000
set_option maxHeartbeats 2000000
namespace Pv
open PySem PySem.Spec PyProof.Rows L2 PySem.W
def phiK (w : World) (a : Addr) (as : List Addr) : Heap → Prop := fun h => ∃ o es ep t, h.get? a = some o ∧ o.ExactSet ∧ o.data = .set es ep t ∧ es.toList.map (·.2) = as.map Value.ref ∧ t.fits es.size = true ∧ es.size < 300 ∧ Ris t.place.toList ∧ (w.params.followText "set-order" = true ∨ t.led = true)
theorem phiK.keep {w : World} {a : Addr} {as : List Addr} {h h' : Heap} (x : phiK w a as h) (k : ∀ o, h.get? a = some o → h'.get? a = some o) : phiK w a as h' := by
  obtain ⟨o, es, ep, t, e, r⟩ := x
  exact ⟨o, es, ep, t, k o e, r⟩
theorem phiK_of {P : Program} {w : World} {h : Heap} {a : Addr} {L : List (Addr × NestedKey)} {es : Array (Int × Value)} {ep : Nat} {t : SetTable} (R : SetK (nestedKind P w) h a L es ep t) : phiK w a (L.map (·.1)) h := by
  obtain ⟨o, e1, e2, e3⟩ := R.at_
  refine ⟨o, es, ep, t, e1, e2, e3, ?_, R.fits, by rw [R.size]; exact R.few, R.tab.ris, R.led⟩
  rw [R.rows, List.map_map, List.map_map]
  rfl
mutual
theorem keyN_depth : ∀ (d : D) (k : NestedKey), keyN d = some k → k.depth ≤ d.depth
  | .none, k, e => by cases e; simp [NestedKey.depth]
  | .int i, k, e => by cases e; simp [NestedKey.depth]
  | .str x, k, e => by cases e; simp [NestedKey.depth]
  | .tuple ds, k, e => by
    simp only [keyN, Option.map_eq_some_iff] at e
    obtain ⟨ks, e, rfl⟩ := e
    have := keyNs_depth ds ks e
    simp only [NestedKey.depth, PyData.depth]
    omega
  | .bool _, _, e => by cases e
  | .list _, _, e => by cases e
  | .dict _, _, e => by cases e
theorem keyNs_depth : ∀ (ds : List D) (ks : List NestedKey), keyNs ds = some ks → NestedKey.depthAll ks ≤ PyData.depthAll ds
  | [], ks, e => by cases e; simp [NestedKey.depthAll]
  | d :: ds, ks, e => by
    simp only [keyNs, Option.bind_eq_some_iff, Option.map_eq_some_iff] at e
    obtain ⟨k, e1, r, e2, rfl⟩ := e
    have h1 := keyN_depth d k e1
    have h2 := keyNs_depth ds r e2
    simp only [NestedKey.depthAll, PyData.depthAll]
    omega
end
section
variable {X : Cx} {K : Fr'} {F H : Hp}
theorem keys_at {pins : List (Addr × Obj)} {σ : St} {s : Shared} (I : Inv X pins σ H s) (l : Le F H) : ∀ {xs : List V} {ds : List D} {us : List Value}, RpA X.K F xs ds → Vals xs us → (∀ d ∈ ds, (∃ zs, d = .tuple zs) ∧ d.depth ≤ 8 ∧ plain d = true ∧ (keyN d).isSome = true) →
    ∃ ks : List (Addr × NestedKey), us = ks.map (fun p => Value.ref p.1) ∧ EachIs (fun (p : Addr × NestedKey) d => keyN d = some p.2 ∧ Rp X.K F (.ref p.1) d ∧ NestedIs s.heap p.2 (.ref p.1)) ks ds
  | _, _, _, .nil, .nil, _ => ⟨[], rfl, .nil⟩
  | _, _, _, .cons (d := d) r t, .cons q u, h => by
    obtain ⟨ks, e1, e2⟩ := keys_at I l t u fun d hd => h d (List.mem_cons_of_mem _ hd)
    obtain ⟨⟨zs, rfl⟩, hd, hp, hk⟩ := h _ List.mem_cons_self
    obtain ⟨k, hk⟩ := Option.isSome_iff_exists.mp hk
    cases r with
    | @tup a xs _ sq ra =>
      have r0 : Rp X.K F (.ref a) (.tuple zs) := .tup sq ra
      obtain ⟨as, rd⟩ := Dp.reads I _ _ _ ((r0.mono l).dp hp) q
      cases (show _ = Value.ref a from q)
      exact ⟨(a, k) :: ks, by rw [e1]; rfl, .cons ⟨hk, r0, key_reads _ _ _ _ rd hk⟩ e2⟩
theorem each_right {α β : Type} {R : α → β → Prop} : ∀ {as : List α} {bs : List β}, EachIs R as bs → ∀ b ∈ bs, ∃ a ∈ as, R a b
  | _, _, .nil, b, hb => absurd hb List.not_mem_nil
  | _, _, .cons (a := a) h t, b, hb => by
    rcases List.mem_cons.mp hb with rfl | hb
    · exact ⟨a, List.mem_cons_self, h⟩
    · obtain ⟨x, hx, r⟩ := each_right t b hb
      exact ⟨x, List.mem_cons_of_mem _ hx, r⟩
theorem held_once {ks L : List (Addr × NestedKey)} {ds : List D} {h : Heap} (e : EachIs (fun (p : Addr × NestedKey) d => keyN d = some p.2 ∧ Rp K F (.ref p.1) d ∧ NestedIs h p.2 (.ref p.1)) ks ds) (g : GotK ks ks.length L) (nd : (L.map (·.2)).Nodup) (hk : keyed ds = true) :
    ∃ es : List D, RpA K F ((L.map (·.1)).map V.ref) es ∧ es.Perm (dedupD ds) := by
  have of_ks : ∀ p ∈ ks, ∃ d ∈ ds, keyN d = some p.2 ∧ Rp K F (.ref p.1) d := fun p hp => by
    obtain ⟨d, hd, a1, a2, _⟩ := e.left p hp
    exact ⟨d, hd, a1, a2⟩
  have to_ks : ∀ d ∈ ds, ∃ p ∈ ks, keyN d = some p.2 := fun d hd => by
    obtain ⟨p, hp, a1, _⟩ := each_right e d hd
    exact ⟨p, hp, a1⟩
  have mk : ∀ l : List (Addr × NestedKey), (∀ p ∈ l, p ∈ ks) → ∃ es : List D, RpA K F ((l.map (·.1)).map V.ref) es ∧ (∀ x ∈ es, x ∈ ds ∧ ∃ p ∈ l, keyN x = some p.2) ∧ (∀ p ∈ l, ∃ x ∈ es, keyN x = some p.2) ∧ ((l.map (·.2)).Nodup → es.Nodup) := by
    intro l
    induction l with
    | nil => intro _; exact ⟨[], .nil, fun x hx => absurd hx List.not_mem_nil, fun p hp => absurd hp List.not_mem_nil, fun _ => List.nodup_nil⟩
    | cons p l ih =>
      intro hl
      obtain ⟨es, b1, b2, b3, b4⟩ := ih fun q hq => hl q (List.mem_cons_of_mem _ hq)
      obtain ⟨d, hd, a1, a2⟩ := of_ks p (hl p List.mem_cons_self)
      refine ⟨d :: es, .cons a2 b1, fun x hx => ?_, fun q hq => ?_, fun n => ?_⟩
      · rcases List.mem_cons.mp hx with rfl | hx
        · exact ⟨hd, p, List.mem_cons_self, a1⟩
        · obtain ⟨c1, q, c2, c3⟩ := b2 x hx
          exact ⟨c1, q, List.mem_cons_of_mem _ c2, c3⟩
      · rcases List.mem_cons.mp hq with rfl | hq
        · exact ⟨d, List.mem_cons_self, a1⟩
        · obtain ⟨x, c1, c2⟩ := b3 q hq
          exact ⟨x, List.mem_cons_of_mem _ c1, c2⟩
      · rw [List.map_cons, List.nodup_cons] at n
        refine List.nodup_cons.mpr ⟨fun hm => ?_, b4 n.2⟩
        obtain ⟨_, q, c2, c3⟩ := b2 d hm
        rw [a1] at c3
        exact n.1 (List.mem_map.mpr ⟨q, c2, (Option.some.inj c3).symm⟩)
  obtain ⟨es, b1, b2, b3, b4⟩ := mk L g.sub
  refine ⟨es, b1, ?_⟩
  classical
  refine (List.perm_ext_iff_of_nodup (b4 nd) (nodup_dedupD hk)).mpr fun x => ?_
  rw [mem_dedupD hk]
  refine ⟨fun hx => (b2 x hx).1, fun hx => ?_⟩
  obtain ⟨p, hp, a1⟩ := to_ks x hx
  have hm := g.all p (by rw [List.take_length]; exact hp)
  obtain ⟨q, hq, e2⟩ := List.mem_map.mp hm
  obtain ⟨y, hy, a2⟩ := b3 q hq
  rw [e2, ← a1] at a2
  obtain ⟨k, hk'⟩ := keyed_of hk hx
  rw [keyN_inj x y k hk' (a2.trans hk')]
  exact hy
def rSetK (K : Fr') (w : World) : List V → Hp → VK → Prop := fun vs H Q => ∃ (F : Hp) (a : Addr) (xs : List V) (ds : List D), vs = [.ref a] ∧ Le F H ∧ (SqL K H a xs ∨ SqT K H a xs) ∧ RpA K F xs ds ∧ setOk ds = true ∧
  ∀ (p : Addr) (as : List Addr) (es : List D), H p = none → RpA K F (as.map V.ref) es → es.Perm (dedupD ds) → Q (.ref p) (upd H p (.ext (phiK w p as)))
theorem setOk_iff {ds : List D} (h : setOk ds = true) : keyed ds = true ∧ ds.length < 300 ∧ sortOk ds = true ∧ ∀ d ∈ ds, (∃ zs, d = .tuple zs) ∧ d.depth ≤ 8 ∧ plain d = true ∧ (keyN d).isSome = true := by
  simp only [setOk, Bool.and_eq_true, decide_eq_true_eq] at h
  obtain ⟨h1, h2, h3, h4⟩ := h
  refine ⟨h1, h2, h3, fun d hd => ?_⟩
  have q := List.all_eq_true.mp h4 d hd
  obtain ⟨al, _⟩ := sortOk_iff h3
  cases d with
  | tuple zs => exact ⟨⟨zs, rfl⟩, of_decide_eq_true q, alike_self_plain _ (al _ hd _ hd), List.all_eq_true.mp h1 _ hd⟩
  | _ => cases q
theorem each_len {α β : Type} {R : α → β → Prop} : ∀ {as : List α} {bs : List β}, EachIs R as bs → as.length = bs.length
  | _, _, .nil => rfl
  | _, _, .cons _ t => congrArg (· + 1) (each_len t)
theorem cr_setK (hc : X.calm = true) (hu : X.A.units + 100 < cLine) : CallR X (.type "set") (rSetK X.K X.w) := by
  intro pins s σ H vs us Q I r h
  obtain ⟨F, a, xs, ds, rfl, l, hs, ra, ok, q⟩ := h
  rw [Vals.ref1 r]
  obtain ⟨o1, o2, o3, o4⟩ := setOk_iff ok
  have room : (nestedKind X.prog X.w).room X.A.in1.in1.in1 := by
    show X.A.units + 1 + 1 + 1 + 8 < cLine
    omega
  have fin : ∀ (ks : List (Addr × NestedKey)), EachIs (fun (p : Addr × NestedKey) d => keyN d = some p.2 ∧ Rp X.K F (.ref p.1) d ∧ NestedIs s.heap p.2 (.ref p.1)) ks ds →
      (∀ p ∈ ks, (nestedKind X.prog X.w).is s.heap p.2 p.1) ∧ ks.length < 300 ∧
      ∀ h1 tk L es ep tb, SetK (nestedKind X.prog X.w) h1 s.heap.objs.size L es ep tb → GotK ks ks.length L → (∀ b o, s.heap.get? b = some o → h1.get? b = some o) → EP X pins σ Q (.ref s.heap.objs.size) { s with heap := h1, toks := tk } := by
    intro ks e
    refine ⟨fun p hp => ?_, by rw [each_len e]; exact o2, fun h1 tk L es ep tb R g k => ?_⟩
    · obtain ⟨d, hd, a1, _, a3⟩ := e.left p hp
      exact ⟨a3, Nat.le_trans (keyN_depth d _ a1) (o4 d hd).2.1⟩
    · obtain ⟨ds2, b1, b2⟩ := held_once e g R.once o1
      refine ⟨.ref s.heap.objs.size, _, I.laid (o := .ext (phiK X.w s.heap.objs.size (L.map (·.1)))) (t' := tk) k (Nat.le_refl _) ?_, rfl, q _ _ ds2 (I.hok.fresh (Nat.le_refl _)) b1 b2⟩
      obtain ⟨o, ho, _⟩ := R.at_
      exact ⟨phiK_of R, ⟨o, ho⟩, fun g1 g2 x k => x.keep k⟩
  rcases hs with hs | hs
  · obtain ⟨its, rv, ⟨o, n, ho, hc', _, hd⟩, _⟩ := I.list hs
    obtain ⟨ks, e1, e2⟩ := keys_at I l ra rv o4
    obtain ⟨f1, f2, f3⟩ := fin ks e2
    exact call_setK_list nestedSets ks (I.ok.hd hc) (items := its.toArray) ⟨o, ho, hc', n, hd⟩ (by rw [← e1]) f1 f2 room f3
  · obtain ⟨its, rv, ht, _⟩ := I.tuple hs
    obtain ⟨ks, e1, e2⟩ := keys_at I l ra rv o4
    obtain ⟨f1, f2, f3⟩ := fin ks e2
    exact call_setK_tuple nestedSets ks (I.ok.hd hc) (items := its.toArray) ht (by rw [← e1]) f1 f2 room f3
end
end Pv
end
section
set_option Elab.async false
set_option linter.all false
set_option autoImplicit false
set_option maxRecDepth 100000
set_option maxHeartbeats 2000000
namespace Pv
open PySem PySem.Spec PyProof.Rows L2 PySem.W
theorem each_perm {α β : Type} {R : α → β → Prop} {l out : List α} (p : out.Perm l) : ∀ {m : List β}, EachIs R l m → ∃ cs, EachIs R out cs ∧ cs.Perm m := by
  induction p with
  | nil => intro m e; cases e; exact ⟨[], .nil, .nil⟩
  | cons x _ ih =>
    intro m e
    cases e with
    | cons h t =>
      obtain ⟨cs, a, b⟩ := ih t
      exact ⟨_ :: cs, .cons h a, b.cons _⟩
  | swap x y l =>
    intro m e
    cases e with
    | cons h1 t =>
      cases t with
      | cons h2 t => exact ⟨_ :: _ :: _, .cons h2 (.cons h1 t), .swap _ _ _⟩
  | trans _ _ ih1 ih2 =>
    intro m e
    obtain ⟨cs, a, b⟩ := ih2 e
    obtain ⟨ds, c, d⟩ := ih1 a
    exact ⟨ds, c, d.trans b⟩
section
variable {X : Cx}
def rSortSetK (K : Fr') (w : World) : List V → Hp → VK → Prop := fun vs H Q => ∃ (F : Hp) (a : Addr) (as : List Addr) (es ds : List D), vs = [.ref a] ∧ H a = some (.ext (phiK w a as)) ∧ Le F H ∧ RpA K F (as.map V.ref) es ∧ es.Perm (dedupD ds) ∧ setOk ds = true ∧
  ∀ (p : Addr) (ys : List V), H p = none → RpA K F ys (uniqD ds) → Q (.ref p) (upd H p (.lst ys))
theorem refs_is {pins : List (Addr × Obj)} {σ : St} {s : Shared} {H F : Hp} (I : Inv X pins σ H s) (l : Le F H) : ∀ {as : List Addr} {es : List D}, RpA X.K F (as.map V.ref) es → (∀ d ∈ es, plain d = true) → EachIs (fun v d => Is X.K F v d ∧ ∃ bs, Reads s.heap v d bs) (as.map Value.ref) es
  | [], _, r, _ => by cases r; exact .nil
  | a :: as, _, r, h => by
    cases r with
    | @cons _ _ d _ r t =>
      obtain ⟨bs, rd⟩ := Dp.reads I d (.ref a) (.ref a) ((r.mono l).dp (h d List.mem_cons_self)) rfl
      exact .cons ⟨⟨.ref a, rfl, r⟩, bs, rd⟩ (refs_is I l t fun d hd => h d (List.mem_cons_of_mem _ hd))
theorem dedup_sub {ds : List D} (h : keyed ds = true) {d : D} (hd : d ∈ dedupD ds) : d ∈ ds := (mem_dedupD h).mp hd
theorem dedup_len : ∀ ds : List D, (dedupD ds).length ≤ ds.length
  | [] => Nat.le_refl _
  | x :: r => by
    have := dedup_len r
    unfold dedupD
    split
    · simp only [List.length_cons]; omega
    · simp only [List.length_cons]; omega
theorem cr_sortSetK (hc : X.calm = true) (hu : X.A.units + 100 < cLine) : CallR X (.builtin "sorted") (rSortSetK X.K X.w) := by
  intro pins s σ H xs us Q I r h
  obtain ⟨F, a, as, es, ds, rfl, ha, l, ra, pm, ok, q⟩ := h
  rw [Vals.ref1 r]
  obtain ⟨o1, o2, o3, o4⟩ := setOk_iff ok
  obtain ⟨⟨o, tes, ep, t, g1, g2, g3, g4, g5, g6, g7, g8⟩, _, _⟩ := (show ObjOk X.prog X.w H s.heap a (.ext (phiK X.w a as)) from I.hok a _ ha)
  have al : AllAlike (dedupD ds) := fun d hd e he => (sortOk_iff o3).1 d (dedup_sub o1 hd) e (dedup_sub o1 he)
  have ky : keyed (dedupD ds) = true := List.all_eq_true.mpr fun d hd => List.all_eq_true.mp o1 d (dedup_sub o1 hd)
  have lenB : (dedupD ds).length ≤ sizeLine := Nat.le_trans (dedup_len ds) (Nat.le_trans (Nat.le_of_lt o2) (by decide))
  refine sorted_got (R := Is X.K F) (bs := dedupD ds) (S := fun cs => cs.Perm (dedupD ds)) (fun cs p => p) (fun E1 Q1 k => ?_) al (.inl fun d hd => (o4 d (dedup_sub o1 hd)).1) lenB (fun b hb => ?_) fun s1 p out cs k kp hp hg pc each1 => ?_
  · refine collect_set (show X.A.in1.handled = none from I.ok.hd hc) (es := tes) (ep := ep) (t := t) ⟨o, g1, g2.1, g3⟩ g5 (by unfold scanBound; omega) g7 g8 fun s' out k1 k2 g o' pmv => ?_
    rw [g4] at pmv
    obtain ⟨cs, c1, c2⟩ := each_perm pmv (refs_is I l ra fun d hd => (o4 d (dedup_sub o1 (pm.mem_iff.mp hd))).2.2.1)
    exact k s' out cs ⟨k1, g, o'⟩ (c2.trans pm) (c1.mono fun _ _ z => z.1) (c1.mono fun _ _ ⟨_, bs, rd⟩ => ⟨bs, PyProof.Rows.Reads.keeps (fun _ _ e => k1 _ _ e) rd⟩)
  · have := (o4 b (dedup_sub o1 hb)).2.1
    omega
  · obtain ⟨ys, r1, rp1⟩ := of_is each1
    rw [sortD_one pc al ky] at rp1
    obtain ⟨J, hn⟩ := new_list I kp hp hg r1 (by rw [rp1.length, (sortD_perm _).length_eq]; exact lenB)
    exact ⟨.ref p, _, J, rfl, q p ys hn rp1⟩
end
end Pv
end
section
set_option Elab.async false
set_option linter.all false
set_option autoImplicit false
set_option maxRecDepth 100000
set_option maxHeartbeats 2000000
namespace Pv
open PySem PySem.Spec PyProof.Rows L2 PySem.W
def itemsD : D → Option (List D)
  | .list ds => some ds
  | .tuple ds => some ds
  | _ => none
theorem itemsD_at {K : Fr'} {F H : Hp} {v : V} {d : D} {ds : List D} (l : Le F H) (lk : Lk K F H v d) (e : itemsD d = some ds) : ∃ a xs, v = .ref a ∧ (SqL K H a xs ∨ SqT K H a xs) ∧ RpA K F xs ds := by
  cases d with
  | list es =>
    cases e
    obtain ⟨a, vs, rfl, ha, rp⟩ := lk.list l
    exact ⟨a, vs, rfl, .inl (.inl (.inl ha)), rp⟩
  | tuple es =>
    cases e
    obtain ⟨a, vs, rfl, ha, rp, _⟩ := lk.tuple l
    exact ⟨a, vs, rfl, .inr ha, rp⟩
  | _ => cases e
def sSortSetD (f : SemE) : SemE := fun ρ => (f ρ).bind fun (r, ρ1) => (look ρ1 (settle r)).bind fun d => (itemsD d).bind fun ds => if setOk ds = true then some (.fr (.list (uniqD ds)), ρ1) else none
section
variable {X : Cx}
theorem de_sortSetD {e : Expr} {f : SemE} {p p2 pos pos2 : Pos} (hc : X.calm = true) (hu : X.A.units + 100 < cLine) (hg : Gl X "sorted") (hm : X.mg "sorted" = none) (hg2 : Gl X "set") (hm2 : X.mg "set" = none) (he : DE X e f)
    (hs : starEach [e] X.env = (false, eval e X.env) :: starEach [] X.env := by rfl) (hpl : (backTo pos2 (starEach [] X.env)).any (·.1) = false := by rfl)
    (hs2 : starEach [.Call (.Name "set" p2) [e] [] pos2] X.env = (false, eval (.Call (.Name "set" p2) [e] [] pos2) X.env) :: starEach [] X.env := by rfl) (hpl2 : (backTo pos (starEach [] X.env)).any (·.1) = false := by rfl) :
    DE X (.Call (.Name "sorted" p) [.Call (.Name "set" p2) [e] [] pos2] [] pos) (sSortSetD f) := by
  have hi := pe_callTy (pos := pos2) (p := p2) (cr_setK (X := X) hc hu) hg2 hm2 rfl (pa_cons he.pe pa_nil hs) (by decide) (by decide) hs hpl
  refine ⟨(pe_callB (pos := pos) (p := p) (cr_sortSetK hc hu) hg hm rfl (pa_cons hi pa_nil hs2) (by decide) (by decide) hs2 hpl2).pvi fun σ H Q q => ?_⟩
  obtain ⟨P, W, F, ρ, r, ρ', R, ev, q⟩ := q
  simp only [sSortSetD, Option.bind_eq_some_iff, Prod.exists] at ev
  obtain ⟨r1, ρ1, e1, d, e2, ds, e3, e4⟩ := ev
  split at e4
  · next hz =>
    cases e4
    refine ⟨P, W, F, ρ, r1, _, R, e1, fun v H1 F1 x1 R1 o1 => ?_⟩
    obtain ⟨F2, x2, R2, o2⟩ := R1.settle o1
    obtain ⟨a, xs, rfl, hs', ra⟩ := itemsD_at R2.fh (R2.lk o2 e2) e3
    refine ⟨F2, a, xs, ds, rfl, R2.fh, hs', ra, hz, fun p as es hp rp pm => ?_⟩
    have g1 := Grow.heap R2.fh hp (.ext (phiK X.w p as))
    have R3 := R2.grow g1
    refine ⟨F2, p, as, es, ds, rfl, upd_same, R3.fh, rp, pm, hz, fun p2 ys hp2 rp2 => ?_⟩
    have hpost : Post X.K F2 (upd H1 p (.ext (phiK X.w p as))) Q (.list (uniqD ds), true) :=
      post_of R3 fun v H' F' x5 R5 o => q v H' F' (((x1.trans x2)).trans x5) R5 o
    exact hpost.lst R3.fh rp2 p2 hp2
  · cases e4
end
end Pv
end
section
set_option Elab.async false
set_option linter.all false
set_option maxRecDepth 100000
set_option maxHeartbeats 1000000
namespace Pv
open PySem PySem.Spec PyProof.Rows L2 PySem.W
theorem sDc_ok {K : Fr'} {it : SemI} {g : SemG} {t : SemT} {kf vf : SemE} {us vs : List Nat} (hu : ∀ i ∈ us, i ∈ vs) {σ : St} {H : Hp} {Q : VK} (q : tD K (sDc g t kf vf vs it) σ H Q) : tDc (tDI K it) (tDG K us g) (tDT K t) (tD K kf) (tD K vf) vs σ H Q := by
  obtain ⟨P, W, F, ρ, r, ρ', R, e, q⟩ := q
  simp only [sDc, Option.bind_eq_some_iff, Prod.exists] at e
  obtain ⟨ds, ρ1, e1, e2⟩ := e
  split at e2
  case isFalse => cases e2
  rename_i hclr
  simp only [Option.bind_eq_some_iff, Prod.exists] at e2
  obtain ⟨zs, ρ2, e2, e3⟩ := e2
  cases e3
  refine ⟨P, W, F, ρ, ds, ρ1, R, e1, fun J H1 W1 F1 sw x1 R1 w => ?_⟩
  intro D hD
  obtain ⟨G, Y, w, hG, hY⟩ := w.ex
  have hWD : W1 D = none := by
    cases e : W1 D with
    | none => rfl
    | some u => have := R1.wh D u e; rw [hD] at this; cases this
  have hFD := R1.fh.none hD
  have hp := pin_off R1 hclr
  refine walk_it w (step := fun x H' Nx => tDG K us g x (wipe σ vs) H' fun σ2 H2 => wipe σ2 vs = wipe σ vs ∧ tDT K t σ2 H2 fun b H3 => _)
    (fun i H => ∃ F2 ρ2 es kvs, Ext W1 F1 F2 ∧ Rel K P (upd W1 D (.dK kvs)) F2 H σ ρ2 ∧ F2 D = none ∧ clearAt ρ2 vs = true ∧ RpD K F2 kvs es ∧ dcL g t kf vf vs (ds.drop i) es ρ2 = some (zs, ρ')) ?_ ?_ ?_ ?_
  · refine ⟨F1, ρ1, [], [], Ext.refl _ _, ?_, hFD, hclr, .nil, by simpa using e2⟩
    have R2 := R1.grow (Grow.heap R1.fh hD (.dK []))
    refine R2.protect upd_same hFD fun i c e ow es => ?_
    obtain ⟨v, hv, hk⟩ := R1.cell i c e
    rw [es] at hv; cases hv
    cases c with
    | val d => cases ow
    | own d => obtain ⟨b, eb, _, _, o⟩ := hk; cases eb; rw [hD] at o; exact o
    | byr d => obtain ⟨b, eb, _, _, o⟩ := hk; cases eb; rw [hD] at o; exact o
    | scr ds => cases ow
  · rintro i H hi ⟨F2, ρ2, es, kvs, x2, R2, _⟩
    exact hG F2 H x2.same R2.fh (fun b o u e => R2.wh b _ (by rw [upd_ne (ne_of_none e hWD)]; exact e))
  · rintro i x H H' hi ⟨F2, ρ2, es, kvs, x2, R2, hFD2, hclr2, rxs, e3⟩ y
    have hd : ds[i]? = some ds[i] := List.getElem?_eq_getElem hi
    obtain ⟨F3, g3, rp⟩ := hY i _ F2 H H' x x2.same R2.fh hd y
    rw [List.drop_eq_getElem_cons hi] at e3
    simp only [dcL, Option.bind_eq_some_iff, Prod.exists] at e3
    obtain ⟨ρ3, e4, b, ρ4, e5, e6⟩ := e3
    have R3 := (R2.grow g3).toWipe hclr2
    have x3 := g3.ext R2.wh
    refine ⟨P, _, F3, ρ2, ds[i], ρ3, R3, rp, e4, fun σ4 H4 F4 x4 R4 of4 => ?_⟩
    have hw4 : wipe σ4 vs = wipe σ vs := (wipe_eq of4 hu).trans wipe_wipe
    refine ⟨hw4, P, _, F4, ρ3, b, ρ4, R4, e5, fun H5 F5 x5 R5 => ?_⟩
    cases b with
    | false =>
      simp only [Bool.false_eq_true, if_false] at e6 ⊢
      have x25 := (x3.trans x4).trans x5
      refine ⟨F5, wipeR ρ4 vs, es, kvs, (x2.trans x25.un), R5.wiped hw4 hp, ?_, clear_wipeR, rxs.mono (Le.of x25.same), e6⟩
      rw [x25.off D (by rw [upd_same]; exact fun z => nomatch z)]; exact hFD2
    | true =>
      simp only [if_true, Option.bind_eq_some_iff, Prod.exists] at e6 ⊢
      obtain ⟨r, ρ5, e7, kd, ρ6, e8, k, e9, r2, ρ7, e10, z, ρ8, e11, e12⟩ := e6
      split at e12
      case isFalse => cases e12
      rename_i hlen
      refine ⟨P, _, F5, ρ4, r, ρ5, R5, e7, fun y H6 F6 x6 R6 o6 => ?_⟩
      obtain ⟨F7, x7, R7, rp7⟩ := R6.frz o6 e8
      refine ⟨P, _, F7, ρ6, r2, ρ7, R7, e10, fun v H8 F8 x8 R8 o8 => ?_⟩
      obtain ⟨F9, x9, R9, rp9⟩ := R8.frz o8 e11
      have x29 := (((((x3.trans x4).trans x5).trans x6).trans x7).trans x8).trans x9
      have hF9 : F9 D = none := by rw [x29.off D (by rw [upd_same]; exact fun z => nomatch z)]; exact hFD2
      have rk := rxs.mono (Le.of x29.same)
      exact ⟨kvs, k, keyOf_kV (F := F7) (H := H6) (.inl rp7) e9, R9.wh D _ upd_same, by rw [rk.length]; exact hlen, F9, wipeR ρ8 vs, dput es k z, putK kvs k v, x2.trans x29.un, (R9.kept hF9).wiped hw4 hp, hF9, clear_wipeR, rk.put rp9, e12⟩
  · rintro H ⟨F2, ρ2, es, kvs, x2, R2, hFD2, hclr2, rxs, e3⟩
    rw [List.drop_length] at e3
    cases e3
    have own : OwnO K F2 (H D) (.dict zs) := by
      rw [R2.wh D _ upd_same]
      exact rxs
    exact q _ H F2 (x1.trans (x2.less sw)) ((R2.unprotect hWD).lessW sw) (RvOk.lessW sw (r := .fr _) ⟨⟨D, rfl, hWD, hFD2, own⟩, R2.noown⟩)
section
variable {X : Cx}
theorem ps_setDc {i : Nat} {y : Str} {py : Pos} {kx vx tg iter : Expr} {ifs : List Expr} {scope : Scope} {own : List (Str × Nat)} {pos spos : Pos} {wi : TI} {g : TG} {tt : TT} {tk tv : TE} (hc : X.calm = true) (hN : X.N.Nodup) (hy : X.N[i]? = some y) (hyl : X.env.scope.names.lookup y = some .local)
    (hsw : swapsWith (.DictComp kx vx [⟨tg, iter, ifs, 0⟩] scope pos) (some (.Name y py)) spos.line X.env = pure true) (hi : PI X tg iter wi) (ok : BlkOk X.N X.env.scope scope own)
    (hg : ∀ (s : Shared) (H : Hp) (C : Addr) (cl : List (Str × Addr)) (fp : List Addr), PG (X.blk s H scope (compEnvC scope cl C X.env) fp) tg g) (ht : ∀ (s : Shared) (H : Hp) (C : Addr) (cl : List (Str × Addr)) (fp : List Addr), PTs (X.blk s H scope (compEnvC scope cl C X.env) fp) ifs tt)
    (hk : ∀ (s : Shared) (H : Hp) (C : Addr) (cl : List (Str × Addr)) (fp : List Addr), PE (X.blk s H scope (compEnvC scope cl C X.env) fp) kx tk)
    (he : ∀ (s : Shared) (H : Hp) (C : Addr) (cl : List (Str × Addr)) (fp : List Addr), PE (X.blk s H scope (compEnvC scope cl C X.env) fp) vx tv) (hs : ∀ x, foldedSetIterable iter X.env x = pure x := by intro _; rfl) :
    PS X (.Assign [.Name y py] (.DictComp kx vx [⟨tg, iter, ifs, 0⟩] scope pos) spos) (tAsg (tDc wi g tt tk tv (own.map (·.2))) (gName i)) := by
  refine ⟨fun pins s σ H D I h => ?_⟩
  rw [exec_Assign_Name_used _ _ _ _ hsw]
  refine wpAny_bind (wpAny_standAt (wpAny_bind ?_))
  show wpAny _ X.A (do let _ ← comprehension (.DictComp kx vx [⟨tg, iter, ifs, 0⟩] scope pos) scope X.env (firstIterPos [⟨tg, iter, ifs, 0⟩] pos) newDict false (eval iter X.env) (some (assign (.Name y py) X.env))) _ _ s
  have h : tDc wi g tt tk tv (own.map (·.2)) σ H (fun x H1 => gName i x σ H1 D.nx) := h
  refine wpAny_bind (thn (dc_core (Qf := fun _ s' => SP X pins D .next s') hc hN I hi ok hg ht hk he hs h fun L C s' m H' I' q hn f => ?_) fun _ s' hq => wpAny_pure (wpAny_pure hq))
  show wpAny _ _ (assign (.Name y py) X.env (.ref L)) _ _ _
  refine wpAny_assign_Name (store_ok2 (v := V.ref L) I' hN hy (.inl hyl) rfl (fun s2 I2 ⟨a, sb, ha⟩ => ?_) (.inr hyl))
  obtain ⟨f0, f1, f2, f3, f4, f5⟩ := f
  have haC : C ≠ a := by
    rcases ha with z | z
    · rw [z]; exact f1
    · exact fun e => f4 y a z e.symm
  refine ⟨m, hn.sameBut sb haC, fun h3 sb3 => ?_⟩
  exact ⟨_, H', I2.turned (t' := s2.toks) (fun b o hb e => (sb3.2 b hb).trans e) f0 f1 f3 f4 f5, q⟩
theorem ds_setDc {i : Nat} {y : Str} {py : Pos} {kx vx tg iter : Expr} {ifs : List Expr} {scope : Scope} {own : List (Str × Nat)} {pos spos : Pos} {it : SemI} {g : SemG} {t : SemT} {kf vf : SemE} {us : List Nat} (hy : X.N[i]? = some y) (hyl : X.env.scope.names.lookup y = some .local)
    (hsw : swapsWith (.DictComp kx vx [⟨tg, iter, ifs, 0⟩] scope pos) (some (.Name y py)) spos.line X.env = pure true) (hi : DI X tg iter it) (ok : BlkOk X.N X.env.scope scope own)
    (hg : ∀ (s : Shared) (H : Hp) (C : Addr) (cl : List (Str × Addr)) (fp : List Addr), DG (X.blk s H scope (compEnvC scope cl C X.env) fp) tg us g) (ht : ∀ (s : Shared) (H : Hp) (C : Addr) (cl : List (Str × Addr)) (fp : List Addr), DTs (X.blk s H scope (compEnvC scope cl C X.env) fp) ifs t)
    (hk : ∀ (s : Shared) (H : Hp) (C : Addr) (cl : List (Str × Addr)) (fp : List Addr), DE (X.blk s H scope (compEnvC scope cl C X.env) fp) kx kf) (he : ∀ (s : Shared) (H : Hp) (C : Addr) (cl : List (Str × Addr)) (fp : List Addr), DE (X.blk s H scope (compEnvC scope cl C X.env) fp) vx vf)
    (hu : ∀ i ∈ us, i ∈ own.map (·.2)) (hc : X.calm = true) (hN : X.N.Nodup) (hs : ∀ x, foldedSetIterable iter X.env x = pure x := by intro _; rfl) :
    DS X (.Assign [.Name y py] (.DictComp kx vx [⟨tg, iter, ifs, 0⟩] scope pos) spos) (sSet i (sDc g t kf vf (own.map (·.2)) it)) :=
  ⟨(ps_setDc (g := tDG X.K us g) (tt := tDT X.K t) (tk := tD X.K kf) (tv := tD X.K vf) hc hN hy hyl hsw hi.pi ok (fun s H C cl fp => (hg s H C cl fp).pg) (fun s H C cl fp => (ht s H C cl fp).pt) (fun s H C cl fp => (hk s H C cl fp).pe) (fun s H C cl fp => (he s H C cl fp).pe) hs).pvi fun D σ H q => sDc_ok hu (sSet_ok q)⟩
end
end Pv
end
section
set_option Elab.async false
set_option linter.all false
set_option maxRecDepth 100000
set_option maxHeartbeats 1000000
namespace Pv
open PySem PySem.Spec PyProof.Rows L2 PySem.W
section
variable {X : Cx}
def putAll : List (D × D) → List (Key × D) → List (D × D)
  | es, [] => es
  | es, (k, v) :: t => putAll (dput es k v) t
end
end Pv
end
section
set_option Elab.async false
set_option linter.all false
set_option maxRecDepth 100000
set_option maxHeartbeats 2000000
namespace Pv.Pg
open PySem Pv
def b_is_set : SemS := (sSeq (sIfS (sOr (sNot (sTruth (sIsi "tuple" (sVar 0)))) (sNot (sTruth (sCB allF (pCons (sLc (gN 3) sYes (sCall [.v] F_is_name (mV (sVar 3) mNil)) [3] (iOf walkOf (sVar 0))) pNil))))) (sRet (sC (.bool false))) sNx) (sRet (sCB allF (pCons (sLc (gT 2 (gsCons (gN 1) (gsCons (gN 2) gsNil))) sYes (sOp ltF (sVar 1) (sVar 2)) [1, 2] (iZp (sCons (sVar 0) (sCons (sSl slF (sVar 0) (oSome (sC (.int 1))) oNone) sNil)))) pNil))))
def F_is_set : Fn := fnOf 4 [.v] b_is_set
def b_is_profile : SemS := (sSeq (sIfS (sOr (sNot (sTruth (sIsi "tuple" (sVar 0)))) (sOr (sTest (sOp eqF (sOp modF (sCB lenF (pCons (sVar 0) pNil)) (sC (.int 2))) (sC (.int 1)))) (sTest (sOp gtF (sCB lenF (pCons (sVar 0) pNil)) (sOp mulF (sC (.int 2)) (sC (.int 8))))))) (sRet (sC (.bool false))) sNx) (sSeq (sIfS (sOr (sNot (sTruth (sCB allF (pCons (sLc (gN 2) sYes (sCall [.v] F_is_set (mV (sVar 2) mNil)) [2] (iOf walkOf (sVar 0))) pNil)))) (sTest (sOp inF (sTup sNil) (sSl slF (sVar 0) oNone (oSome (sNeg (sC (.int 1)))))))) (sRet (sC (.bool false))) sNx) (sSeq (sSet 1 (sLc2 (gN 2) sYes (iOf walkOf (sVar 2)) (gN 3) sYes (sVar 3) [2, 3] [3] (iOf walkOf (sVar 0)))) (sRet (sAndV (sOp leF (sCB lenF (pCons (sVar 1) pNil)) (sC (.int 8))) (sOp eqF (sLenSet (sVar 1)) (sCB lenF (pCons (sVar 1) pNil))))))))
def F_is_profile : Fn := fnOf 4 [.v] b_is_profile
def b_check_profile : SemS := (sIfS (sNot (sTruth (sCall [.v] F_is_profile (mV (sVar 0) mNil)))) sStuck sNx)
def F_check_profile : Fn := fnOf 1 [.v] b_check_profile
def b_check_locks : SemS := (sIfS (sOr (sNot (sTruth (sCall [.v] F_is_set (mV (sVar 0) mNil)))) (sOr (sTest (sOp gtF (sCB lenF (pCons (sVar 0) pNil)) (sVar 1))) (sNot (sTruth (sCB allF (pCons (sLc (gN 3) sYes (sOp inF (sVar 3) (sVar 0)) [3] (iOf walkOf (sVar 2))) pNil)))))) sStuck sNx)
def F_check_locks : Fn := fnOf 4 [.v, .v, .v] b_check_locks
def b_together : SemS := (sRet (sCB tupleF2 (pCons (sSortSet (sOp addF (sVar 0) (sVar 1))) pNil)))
def F_together : Fn := fnOf 2 [.v, .v] b_together
def b_without_names : SemS := (sRet (sCB tupleF2 (pCons (sLc (gN 2) (sTest (sOp notInF (sVar 2) (sVar 1))) (sVar 2) [2] (iOf walkOf (sVar 0))) pNil)))
def F_without_names : Fn := fnOf 3 [.v, .v] b_without_names
def b_rows_of : SemS := (sSeq (sPar 1 2 (mV (sTup sNil) (mR sDct0 mNil))) (sSeq (sFor (iR3 (pCons (sOp subF (sCB lenF (pCons (sVar 0) pNil)) (sC (.int 2))) (pCons (sNeg (sC (.int 1))) (pCons (sNeg (sC (.int 2))) pNil)))) (gN 3) (sSeq (sSet 1 (sCall [.v, .v] F_together (mV (sVar 1) (mV (sOp ixG (sVar 0) (sOp addF (sVar 3) (sC (.int 1)))) mNil)))) (sExpr (sMut "dict" 2 updateM (sCons (sDc (gN 4) sYes (sVar 4) (sVar 1) [4] (iOf walkOf (sOp ixG (sVar 0) (sVar 3)))) sNil))))) (sRet (sVar 2))))
def F_rows_of : Fn := fnOf 5 [.v] b_rows_of
def b_made : SemS := (sSeq (sPar 1 2 (mR (sLst sNil) (mR (sCB dictF (pCons (sVar 0) pNil)) mNil))) (sSeq (sWhile (sTruthD (sVar 2)) (sSeq (sSet 3 (sCB maxF (pCons (sLcS (gN 5) sYes (sCB lenF (pCons (sVar 5) pNil)) [5] (iOf valsOf (sVar 2))) pNil))) (sSeq (sSet 4 (sCB tupleF2 (pCons (sCB sortedF2 (pCons (sLcS (gT 2 (gsCons (gN 7) (gsCons (gN 5) gsNil))) (sTest (sOp eqF (sCB lenF (pCons (sVar 5) pNil)) (sVar 3))) (sVar 7) [7, 5] (iOf itemsOf (sVar 2))) pNil)) pNil))) (sSeq (sSet 5 (sOp ixG (sVar 2) (sOp ixG (sVar 4) (sC (.int 0))))) (sSeq (sSet 2 (sDc (gT 2 (gsCons (gN 7) (gsCons (gN 8) gsNil))) (sTest (sOp notInF (sVar 7) (sVar 4))) (sVar 7) (sVar 8) [7, 8] (iOf itemsOf (sVar 2)))) (sSeq (sSet 6 (sLc2 (gN 8) sYes (iOf walkOf (sVar 8)) (gN 9) sYes (sVar 9) [8, 9] [9] (iOf valsOf (sVar 2)))) (sSet 1 (sOp addF (sVar 1) (sLst (sCons (sVar 4) (sCons (sCall [.v, .v] F_without_names (mV (sVar 5) (mV (sVar 6) mNil))) sNil)))))))))) 1000000) (sRet (sCB tupleF2 (pCons (sVar 1) pNil)))))
def F_made : Fn := fnOf 10 [.v] b_made
def b_is_below : SemS := (sSeq (sIfS (sNot (sTruth (sCB allF (pCons (sLc (gN 2) sYes (sOp inF (sVar 2) (sVar 1)) [2] (iOf walkOf (sVar 0))) pNil)))) (sRet (sC (.bool false))) sNx) (sRet (sCB allF (pCons (sLc2 (gT 2 (gsCons (gN 2) (gsCons (gN 3) gsNil))) sYes (iOf walkOf (sVar 3)) (gN 4) sYes (sOrV (sOp inF (sVar 4) (sVar 1)) (sOp inF (sVar 4) (sOp ixG (sVar 1) (sVar 2)))) [2, 3, 4] [4] (iOf itemsOf (sVar 0))) pNil))))
def F_is_below : Fn := fnOf 5 [.v, .v] b_is_below
def b_names_in : SemS := (sRet (sLc2 (gN 1) sYes (iOf walkOf (sVar 1)) (gN 2) sYes (sVar 2) [1, 2] [2] (iOf walkOf (sVar 0))))
def F_names_in : Fn := fnOf 3 [.v] b_names_in
def b_below : SemS := (sSeq (sExpr (sCall [.v] F_check_profile (mV (sVar 0) mNil))) (sSeq (sExpr (sCall [.v] F_check_profile (mV (sVar 1) mNil))) (sRet (sCall [.v, .v] F_is_below (mV (sCall [.v] F_rows_of (mV (sVar 0) mNil)) (mV (sCall [.v] F_rows_of (mV (sVar 1) mNil)) mNil))))))
def F_below : Fn := fnOf 2 [.v, .v] b_below
def b_do_fit : SemS := (sSeq (sIfS (sTruth (sCB anyF (pCons (sLc (gN 2) sYes (sOp inF (sVar 2) (sVar 1)) [2] (iOf walkOf (sVar 0))) pNil))) (sRet (sC (.bool false))) sNx) (sRet (sNotV (sCB anyF (pCons (sLc2 (gT 2 (gsCons (gN 2) (gsCons (gN 3) gsNil))) sYes (iOf walkOf (sVar 3)) (gN 4) (sTest (sOp inF (sVar 4) (sVar 1))) (sOp inF (sVar 2) (sOp ixG (sVar 1) (sVar 4))) [2, 3, 4] [4] (iOf itemsOf (sVar 0))) pNil)))))
def F_do_fit : Fn := fnOf 5 [.v, .v] b_do_fit
end Pv.Pg
end
section
set_option Elab.async false
set_option linter.all false
set_option maxRecDepth 100000
set_option maxHeartbeats 2000000
namespace Pv.Pg
open PySem Pv
def b_check_profiles : SemS := (sSeq (sIfS (sOr (sNot (sTruth (sIsi "tuple" (sVar 0)))) (sTest (sOp gtF (sCB lenF (pCons (sVar 0) pNil)) (sC (.int 150))))) sStuck sNx) (sIfS (sNot (sTruth (sCB allF (pCons (sLc (gN 1) sYes (sCall [.v] F_is_profile (mV (sVar 1) mNil)) [1] (iOf walkOf (sVar 0))) pNil)))) sStuck sNx))
def F_check_profiles : Fn := fnOf 2 [.v] b_check_profiles
def b_least_rows : SemS := (sSeq (sSet 1 (sLst sNil)) (sSeq (sFor (iOf walkOf (sVar 0)) (gN 2) (sIfS (sNot (sTruth (sCB anyF (pCons (sLc (gN 3) sYes (sCall [.v, .v] F_is_below (mV (sVar 3) (mV (sVar 2) mNil))) [3] (iOf walkOf (sVar 1))) pNil)))) (sSet 1 (sOp addF (sLc (gN 3) (sNot (sTruth (sCall [.v, .v] F_is_below (mV (sVar 2) (mV (sVar 3) mNil))))) (sVar 3) [3] (iOf walkOf (sVar 1))) (sLst (sCons (sVar 2) sNil)))) sNx)) (sRet (sVar 1))))
def F_least_rows : Fn := fnOf 4 [.v] b_least_rows
end Pv.Pg
end
section
set_option Elab.async false
set_option linter.all false
set_option maxRecDepth 100000
set_option maxHeartbeats 1000000
namespace Pv
open PySem PySem.Spec PyProof.Rows L2 PySem.W
def gL (n : Nat) (g : SemGs) : SemG := fun d ρ => match d with
  | .list ds => if ds.length = n then g ds ρ else none
  | _ => none
section
variable {X : Cx}
end
namespace Ev
@[scoped simp] theorem gL_u (n : Nat) (g : SemGs) (ds : List D) (ρ : Ro) : gL n g (.list ds) ρ = if ds.length = n then g ds ρ else none := rfl
end Ev
end Pv
end
section
set_option Elab.async false
set_option linter.all false
set_option autoImplicit false
set_option maxRecDepth 100000
set_option maxHeartbeats 2000000
namespace Pv.Pg
open PySem Pv
theorem names_loop (ds : List PyData) (hs : ∀ d ∈ ds, shortD d = true) (hz : ds.length ≤ sizeLine) : (sLc (gN 3) sYes (sCall [.v] F_is_name (mV (sVar 3) mNil)) [3] (iOf walkOf (sVar 0))) [some (.val (.tuple ds)), none, none, none] = some (.fr (.list (ds.map fun d => .bool (nameD d))), [some (.val (.tuple ds)), none, none, none]) := by
  have e : lcL (gN 3) sYes (sCall [.v] F_is_name (mV (sVar 3) mNil)) [3] ds 0 [some (.val (.tuple ds)), none, none, none] = some (ds.map (fun d => .bool (nameD d)), [some (.val (.tuple ds)), none, none, none]) := by
    refine lcL_map (fun d hd => ?_) (by omega)
    refine ⟨[some (.val (.tuple ds)), none, none, some (.val d)], .val (.bool (nameD d)), rfl, rfl, ?_, rfl, rfl⟩
    have := is_name_D d (hs d hd)
    simp [sCall, mV, mNil, sVar, frz, mIdx, mData, mBack, mkR, this]
  simp only [sLc, iOf, sVar, walkOf, frz, clearAt, List.getElem?_cons_zero, Option.bind_some, List.all_cons, List.getElem?_cons_succ, List.all_nil, Bool.and_self, if_true, e]
def ltD : PyData → PyData → Bool
  | .str a, .str b => decide (a.cps.toList < b.cps.toList)
  | _, _ => false
def pairLt : PyData → PyData
  | .tuple [a, b] => .bool (ltD a b)
  | _ => .none
theorem nm_str {d : PyData} (h : nameD d = true) : ∃ x, d = .str x := by
  cases d with
  | str x => exact ⟨x, rfl⟩
  | _ => cases h
theorem cut_tail (ds : List PyData) : cutD ds (some 1) none = ds.drop 1 := by
  unfold cutD
  have a : HT.sIx ds.length 0 (some 1) = min 1 ds.length := by unfold HT.sIx; simp
  have b : HT.sIx ds.length ds.length none = ds.length := rfl
  rw [a, b]
  cases ds with
  | nil => rfl
  | cons x r => simp
theorem mem_zipD : ∀ {xs ys : List PyData} {p : PyData}, p ∈ zipD xs ys → ∃ a b, a ∈ xs ∧ b ∈ ys ∧ p = .tuple [a, b]
  | [], _, _, h => by simp [zipD] at h
  | _ :: _, [], _, h => by simp [zipD] at h
  | x :: xs, y :: ys, p, h => by
    rcases List.mem_cons.mp (show p ∈ .tuple [x, y] :: zipD xs ys from h) with e | e
    · exact ⟨x, y, List.mem_cons_self, List.mem_cons_self, e⟩
    · obtain ⟨a, b, h1, h2, h3⟩ := mem_zipD e
      exact ⟨a, b, List.mem_cons_of_mem _ h1, List.mem_cons_of_mem _ h2, h3⟩
theorem rise_loop (ds : List PyData) (hs : ∀ d ∈ ds, nameD d = true) (hz : ds.length ≤ sizeLine) :
    (sLc (gT 2 (gsCons (gN 1) (gsCons (gN 2) gsNil))) sYes (sOp ltF (sVar 1) (sVar 2)) [1, 2] (iZp (sCons (sVar 0) (sCons (sSl slF (sVar 0) (oSome (sC (.int 1))) oNone) sNil)))) [some (.val (.tuple ds)), none, none, none] =
      some (.fr (.list ((zipD ds (ds.drop 1)).map pairLt)), [some (.val (.tuple ds)), none, none, none]) := by
  have e : lcL (gT 2 (gsCons (gN 1) (gsCons (gN 2) gsNil))) sYes (sOp ltF (sVar 1) (sVar 2)) [1, 2] (zipD ds (ds.drop 1)) 0 [some (.val (.tuple ds)), none, none, none] = some ((zipD ds (ds.drop 1)).map pairLt, [some (.val (.tuple ds)), none, none, none]) := by
    refine lcL_map (fun p hp => ?_) (by rw [zipD_len, List.length_drop]; omega)
    obtain ⟨a, b, ha, hb, rfl⟩ := mem_zipD hp
    obtain ⟨x, rfl⟩ := nm_str (hs a ha)
    obtain ⟨y, rfl⟩ := nm_str (hs b (List.mem_of_mem_drop hb))
    exact ⟨[some (.val (.tuple ds)), some (.val (.str x)), some (.val (.str y)), none], _, rfl, rfl, rfl, rfl, rfl⟩
  have hzp : zipOk ds = true := List.all_eq_true.mpr fun d hd => by
    obtain ⟨x, rfl⟩ := nm_str (hs d hd)
    rfl
  rw [List.drop_one] at e ⊢
  simp [hzp, sLc, iZp, sCons, sNil, sSl, sVar, sC, oSome, oNone, asI, slF, look, settle, frz, mkR, clearAt, cut_tail, e]
def pairB : PyData → Bool
  | .tuple [a, b] => ltD a b
  | _ => false
def risesB (ds : List PyData) : Bool := (zipD ds (ds.drop 1)).all pairB
def setB : PyData → Bool
  | .tuple ds => ds.all nameD && risesB ds
  | _ => false
theorem asBls_pairs : ∀ ps : List PyData, (∀ p ∈ ps, ∃ a b, p = .tuple [a, b]) → asBls (ps.map pairLt) = some (ps.map pairB)
  | [], _ => rfl
  | p :: r, h => by
    obtain ⟨a, b, rfl⟩ := h p List.mem_cons_self
    simp only [List.map_cons, pairLt, pairB, asBls, asBls_pairs r fun q hq => h q (List.mem_cons_of_mem _ hq), Option.map_some]
theorem is_set_D (d : PyData) (hs : ∀ ds, d = .tuple ds → (∀ x ∈ ds, shortD x = true) ∧ ds.length ≤ sizeLine) : F_is_set [d] = some ((.bool (setB d), false), []) := by
  have fin : ∀ b : Bool, b_is_set [some (.val d), none, none, none] = some (.rt (.val (.bool b)) [some (.val d), none, none, none]) → b = setB d → F_is_set [d] = some ((.bool (setB d), false), []) := by
    intro b e1 e2
    unfold F_is_set fnOf
    show (b_is_set [some (.val d), none, none, none]).bind (endOf [.v]) = _
    rw [e1, e2]
    rfl
  by_cases ht : isiD "tuple" d = true
  · cases d with
    | tuple ds =>
      obtain ⟨h1, h2⟩ := hs ds rfl
      have l1 := names_loop ds h1 h2
      by_cases hn : ds.all nameD = true
      · have l2 := rise_loop ds (fun d hd => List.all_eq_true.mp hn d hd) h2
        have l3 := asBls_pairs (zipD ds (ds.drop 1)) fun p hp => by obtain ⟨a, b, _, _, e⟩ := mem_zipD hp; exact ⟨a, b, e⟩
        refine fin (risesB ds) ?_ (by simp only [setB, hn, Bool.true_and])
        unfold b_is_set risesB
        have a1 : ((ds.map nameD).all id) = true := by rw [List.all_map]; exact hn
        rw [sSeq, sIfS]
        simp only [sSeq, sIfS, sOr, sNot, sTruth, thenS, truth, sNx, sRet, sIsi, sCB, pCons, pNil, sVar, sC, look, looks, settle, isiD, tyName, mkR, allF, asBls_map, List.getElem?_cons_zero, Option.bind_some, l1, a1]
        rw [List.drop_one] at l2 l3
        simp [sRet, l2, l3, sCB, pCons, pNil, looks, look, settle, allF, mkR, Function.comp_def]
      · have a1 : ((ds.map nameD).all id) = false := by rw [List.all_map]; exact Bool.eq_false_iff.mpr hn
        refine fin false ?_ (by simp only [setB, Bool.eq_false_iff.mpr hn, Bool.false_and])
        unfold b_is_set
        simp only [sSeq, sIfS, sOr, sNot, sTruth, thenS, truth, sNx, sRet, sIsi, sCB, pCons, pNil, sVar, sC, look, looks, settle, isiD, tyName, mkR, allF, asBls_map, List.getElem?_cons_zero, Option.bind_some, l1, a1]
        simp
    | _ => cases ht
  · have ht' : isiD "tuple" d = false := Bool.eq_false_iff.mpr ht
    refine fin false ?_ ?_
    · unfold b_is_set
      simp [sSeq, sIfS, sOr, sNot, sTruth, thenS, truth, sRet, sIsi, sVar, sC, look, settle, ht']
    · cases d with
      | tuple ds => cases ht'
      | _ => rfl
open L2 Pv.Ev
def isE (d : D) : Bool := PyData.eqv d (.tuple [])
def strOf : D → Option Str
  | .str x => some x
  | _ => none
def namesL : D → List Str
  | .tuple ds => ds.filterMap strOf
  | _ => []
def allNames (xs : List D) : List Str := xs.flatMap namesL
def profB : D → Bool
  | .tuple xs => decide (xs.length % 2 = 0) && (xs.all setB && (!(xs.dropLast.any isE) && (decide ((allNames xs).length ≤ 8) && decide ((dedupS (allNames xs)).length = (allNames xs).length))))
  | _ => false
theorem set_tuple {d : D} (h : setB d = true) : ∃ ds, d = .tuple ds ∧ ds.all nameD = true ∧ risesB ds = true := by
  cases d with
  | tuple ds => simp only [setB, Bool.and_eq_true] at h; exact ⟨ds, rfl, h⟩
  | _ => simp [setB] at h
theorem names_eq : ∀ {ds : List D}, ds.all nameD = true → ds = (ds.filterMap strOf).map PyData.str
  | [], _ => rfl
  | d :: ds, h => by
    simp only [List.all_cons, Bool.and_eq_true] at h
    obtain ⟨x, rfl⟩ := nm_str h.1
    have := names_eq h.2
    simp only [List.filterMap_cons, strOf, List.map_cons]
    rw [← this]
theorem set_names {d : D} (h : setB d = true) : d = .tuple ((namesL d).map PyData.str) := by
  obtain ⟨ds, rfl, h1, _⟩ := set_tuple h
  simp only [namesL]
  rw [← names_eq h1]
theorem many_names : ∀ {xs : List D}, xs.all setB = true → xs.any isE = false → xs.length ≤ (allNames xs).length
  | [], _, _ => Nat.le_refl _
  | d :: ds, h, k => by
    simp only [List.all_cons, Bool.and_eq_true] at h
    simp only [List.any_cons, Bool.or_eq_false_iff] at k
    have := many_names h.2 k.2
    have e := set_names h.1
    have : 1 ≤ (namesL d).length := by
      cases hn : namesL d with
      | nil => rw [hn] at e; rw [e] at k; simp [isE, PyData.eqv, PyData.eqvAll] at k
      | cons x r => simp
    simp only [allNames, List.flatMap_cons, List.length_append, List.length_cons] at *
    omega
theorem too_long {xs : List D} (h : 16 < xs.length) : profB (.tuple xs) = false := by
  apply Bool.eq_false_iff.mpr
  intro hp
  simp only [profB, Bool.and_eq_true, decide_eq_true_eq, Bool.not_eq_true'] at hp
  obtain ⟨_, h1, h2, h3, _⟩ := hp
  have h1' : xs.dropLast.all setB = true := List.all_eq_true.mpr fun d hd => List.all_eq_true.mp h1 d ((List.dropLast_sublist xs).subset hd)
  have h4 := many_names h1' h2
  have h5 : (allNames xs.dropLast).length ≤ (allNames xs).length := by
    cases xs with
    | nil => simp
    | cons x r =>
      conv => rhs; rw [← List.dropLast_concat_getLast (List.cons_ne_nil x r)]
      simp [allNames]
  rw [List.length_dropLast] at h4
  omega
theorem sets_loop {xs : List D} (h : OkV (.tuple xs)) (c : Option Cell) (c3 : Option Cell) : lcL (gN 2) sYes (sCall [.v] F_is_set (mV (sVar 2) mNil)) [2] xs 0 [some (.val (.tuple xs)), c, none, c3] = some (xs.map fun d => .bool (setB d), [some (.val (.tuple xs)), c, none, c3]) := by
  refine lcL_map (fun d hd => ?_) (by rw [Nat.zero_add]; exact Nat.le_trans h.len (by decide))
  refine ⟨[some (.val (.tuple xs)), c, some (.val d), c3], .val (.bool (setB d)), by simp, by simp, ?_, rfl, by simp⟩
  have := is_set_D d (fun ds e => by
    subst e
    have h2 := h.mem hd
    refine ⟨fun x hx => ?_, Nat.le_trans h2.len (by decide)⟩
    have h3 := h2.mem hx
    cases x with
    | str x => exact decide_eq_true (Nat.le_trans h3.txt (by decide))
    | _ => rfl)
  simp [this]
theorem cut_last (xs : List D) : cutD xs none (some (-1)) = xs.dropLast := by
  unfold cutD
  have a : HT.sIx xs.length 0 none = 0 := rfl
  have b : HT.sIx xs.length xs.length (some (-1)) = xs.length - 1 := by
    unfold HT.sIx
    simp
    omega
  rw [a, b, List.dropLast_eq_take]
  simp
theorem flat_loop {xs : List D} (h : xs.all setB = true) (hz : (allNames xs).length ≤ sizeLine) (c c1 : Option Cell) : lc2L (gN 2) sYes (iOf walkOf (sVar 2)) (gN 3) sYes (sVar 3) [2, 3] [3] xs 0 [c, c1, none, none] = some ((allNames xs).map PyData.str, [c, c1, none, none]) := by
  have e : (allNames xs).map PyData.str = xs.flatMap fun d => (namesL d).map PyData.str := by
    simp [allNames, List.map_flatMap]
  rw [e]
  refine lc2L_map (inner := fun d => (namesL d).map PyData.str) (fun d hd => ?_) (by rw [← e, List.length_map]; omega)
  have hs := List.all_eq_true.mp h d hd
  have hn := set_names hs
  refine ⟨[c, c1, some (.val d), none], (namesL d).map PyData.str, [c, c1, some (.val d), none], by simp, by simp, ?_, by simp, fun m hm => ?_, by simp⟩
  · conv => lhs; rw [hn]
    simp
    exact hn.symm
  · have := lcL_map (g := gN 3) (t := sYes) (el := sVar 3) (vs := [3]) (ρ := [c, c1, some (.val d), none]) (h := id) (ds := (namesL d).map PyData.str) (n := m) (fun y hy => ⟨[c, c1, some (.val d), some (.val y)], .val y, by simp, by simp, by simp, by simp, by simp⟩) hm
    simpa using this
theorem names_few {xs : List D} (h : OkV (.tuple xs)) : (allNames xs).length ≤ 4000 := by
  have hw := h.wt
  simp only [PyData.weight] at hw
  refine Nat.le_trans ?_ hw
  clear h hw
  induction xs with
  | nil => simp [allNames]
  | cons d r ih =>
    have : (namesL d).length ≤ d.weight := by
      cases d with
      | tuple ds =>
        simp only [namesL, PyData.weight]
        exact Nat.le_trans (List.length_filterMap_le _ _) weightAll_len
      | _ => simp [namesL]
    simp only [allNames, List.flatMap_cons, List.length_append, PyData.weightAll] at *
    omega
theorem decInt (a b : Nat) : ((a : Int) == (b : Int)) = decide (a = b) := by
  by_cases h : a = b
  · subst h; simp
  · simp [h]; omega
theorem F_is_profile_D (v : D) (h : OkV v) : F_is_profile [v] = some ((.bool (profB v), false), []) := by
  cases v with
  | tuple xs =>
    have hz : xs.length ≤ sizeLine := Nat.le_trans h.len (by decide)
    have l1 := sets_loop h none none
    have m1 : mulOk 2 8 = true := by decide +kernel
    unfold F_is_profile b_is_profile
    by_cases h1 : xs.length % 2 = 0
    · have g1 : (xs.length : Int) % 2 = 0 := by omega
      by_cases h2 : 16 < xs.length
      · have g2 : (16 : Int) < xs.length := by omega
        rw [too_long h2]
        simp [isiD, tyName, g1, g2, m1]
      · have g2 : ¬ (16 : Int) < xs.length := by omega
        by_cases h3 : xs.all setB = true
        · have i1 : inB (.tuple []) (.tuple xs.dropLast) = some (xs.dropLast.any isE) := inB_t _ rfl (h.sub fun d hd => (List.dropLast_sublist xs).subset hd)
          by_cases h4 : xs.dropLast.any isE = true
          · simp [isiD, tyName, g1, g2, m1, l1, Function.comp_def, h3, cut_last, i1, h4, profB]
          · have h4' : xs.dropLast.any isE = false := Bool.eq_false_iff.mpr h4
            have hn : (allNames xs).length ≤ sizeLine := Nat.le_trans (names_few h) (by decide)
            have l2 := flat_loop h3 hn (some (.val (.tuple xs))) none
            by_cases h5 : (allNames xs).length ≤ 8
            · have g5 : ((allNames xs).length : Int) ≤ 8 := by omega
              have g6 : (allNames xs).length + 1 < scanBound := Nat.lt_of_le_of_lt (Nat.succ_le_succ h5) (by decide)
              simp [isiD, tyName, g1, h1, g2, m1, l1, Function.comp_def, h3, cut_last, i1, h4', l2, g5, h5, g6, profB, decInt]
            · have g5 : ¬ ((allNames xs).length : Int) ≤ 8 := by omega
              simp [isiD, tyName, g1, g2, m1, l1, Function.comp_def, h3, cut_last, i1, h4', l2, g5, h5, profB]
        · have h3' : xs.all setB = false := Bool.eq_false_iff.mpr h3
          simp [isiD, tyName, g1, g2, m1, l1, Function.comp_def, h3', profB]
    · have g1 : (xs.length : Int) % 2 = 1 := by omega
      simp [isiD, tyName, g1, h1, profB]
  | _ =>
    unfold F_is_profile b_is_profile
    simp [isiD, tyName, profB]
theorem shaped_lst {ds : List D} (h : ∀ d ∈ ds, d.canLay0 = true ∧ d.depth ≤ 63) : SeqAt.shaped (.list ds) = true := by
  have h1 := canLayAll_iff.mpr fun d hd => (h d hd).1
  have h2 := depthAll_iff.mpr fun d hd => (h d hd).2
  simp only [SeqAt.shaped, PyData.canLay0, PyData.depth, h1, Bool.true_and, decide_eq_true_eq]
  exact decide_eq_true (Nat.succ_le_succ h2)
theorem eqvAll_str : ∀ {xs ys : List Str}, PyData.eqvAll (xs.map PyData.str) (ys.map PyData.str) = decide (xs = ys)
  | [], [] => rfl
  | x :: xs, [] => by simp [PyData.eqvAll]
  | [], y :: ys => by simp [PyData.eqvAll]
  | x :: xs, y :: ys => by
    simp only [List.map_cons, PyData.eqvAll, PyData.eqv, eqvAll_str (xs := xs) (ys := ys), List.cons.injEq]
    by_cases h : x = y
    · subst h; simp
    · simp [h]
theorem rises_iff : ∀ {ns : List Str}, risesB (ns.map PyData.str) = true ↔ Asc ns
  | [] => by simp [risesB, zipD, Asc]
  | [x] => by simp [risesB, zipD, Asc]
  | x :: y :: r => by
    have ih := rises_iff (ns := y :: r)
    have e : risesB ((x :: y :: r).map PyData.str) = (ltS x y && risesB ((y :: r).map PyData.str)) := rfl
    rw [e, Bool.and_eq_true, ih]
    simp only [Asc, List.pairwise_cons, List.mem_cons, forall_eq_or_imp]
    constructor
    · rintro ⟨h1, h2, h3⟩
      exact ⟨⟨h1, fun z hz => ltS_trans h1 (h2 z hz)⟩, h2, h3⟩
    · rintro ⟨⟨h1, _⟩, h2, h3⟩
      exact ⟨h1, h2, h3⟩
end Pv.Pg
end
section
set_option Elab.async false
set_option linter.all false
set_option autoImplicit false
set_option maxRecDepth 100000
set_option maxHeartbeats 2000000
namespace Pv.Pg
open PySem L2 Pv Pv.Ev
def accS (ns : List (List Str)) (m : Nat) : Nat → List Str × List (Str × List Str)
  | 0 => ([], [])
  | k + 1 => ((accS ns m k).1 ++ ns.getD (2 * (m - 1 - k) + 1) [], (accS ns m k).2 ++ (ns.getD (2 * (m - 1 - k)) []).map fun l => (l, sortS ((accS ns m k).1 ++ ns.getD (2 * (m - 1 - k) + 1) [])))
theorem drop_two (ns : List (List Str)) (j : Nat) (h : j + 1 < ns.length) : ns.drop j = ns.getD j [] :: ns.getD (j + 1) [] :: ns.drop (j + 2) := by
  rw [List.drop_eq_getElem_cons (by omega), List.drop_eq_getElem_cons (by omega : j + 1 < ns.length)]
  simp [List.getD_eq_getElem?_getD, List.getElem?_eq_getElem (by omega : j < ns.length), List.getElem?_eq_getElem h]
theorem acc_perm (ns : List (List Str)) (m : Nat) (hm : ns.length = 2 * m) : ∀ k, k ≤ m → ((accS ns m k).1 ++ (accS ns m k).2.map (·.1)).Perm (ns.drop (2 * (m - k))).flatten
  | 0, _ => by
    have : ns.drop (2 * (m - 0)) = [] := List.drop_eq_nil_of_le (by omega)
    rw [this]; exact .refl _
  | k + 1, h => by
    have ih := acc_perm ns m hm k (by omega)
    have e : 2 * (m - 1 - k) + 2 = 2 * (m - k) := by omega
    have e2 : 2 * (m - (k + 1)) = 2 * (m - 1 - k) := by omega
    rw [e2, drop_two ns _ (by omega), e, List.flatten_cons, List.flatten_cons]
    simp only [accS, List.map_append, List.map_map, Function.comp_def, List.map_id']
    generalize ns.getD (2 * (m - 1 - k)) [] = h0
    generalize ns.getD (2 * (m - 1 - k) + 1) [] = u0
    refine List.Perm.trans ?_ ((ih.append_left u0).append_left h0)
    refine (List.perm_iff_count.mpr fun a => ?_)
    simp only [List.count_append]
    omega
theorem acc_nodup (ns : List (List Str)) (m : Nat) (hm : ns.length = 2 * m) (hn : ns.flatten.Nodup) (k : Nat) (hk : k ≤ m) : ((accS ns m k).1 ++ (accS ns m k).2.map (·.1)).Nodup := by
  refine (acc_perm ns m hm k hk).nodup_iff.mpr ?_
  have : (ns.drop (2 * (m - k))).flatten.Sublist ns.flatten := by
    conv => rhs; rw [← List.take_append_drop (2 * (m - k)) ns]
    rw [List.flatten_append]
    exact List.sublist_append_right _ _
  exact this.nodup hn
theorem acc_len (ns : List (List Str)) (m : Nat) (hm : ns.length = 2 * m) (k : Nat) (hk : k ≤ m) : (accS ns m k).1.length + (accS ns m k).2.length ≤ ns.flatten.length := by
  have h := (acc_perm ns m hm k hk).length_eq
  have : (ns.drop (2 * (m - k))).flatten.Sublist ns.flatten := by
    conv => rhs; rw [← List.take_append_drop (2 * (m - k)) ns]
    rw [List.flatten_append]
    exact List.sublist_append_right _ _
  have := this.length_le
  simp only [List.length_append, List.length_map] at h
  omega
def valT (p : Str × List Str) : Str × D := (p.1, .tuple (p.2.map .str))
def valL (p : Str × List Str) : Str × D := (p.1, .list (p.2.map .str))
def setsD (ns : List (List Str)) : D := .tuple (ns.map fun n => .tuple (n.map .str))
theorem together_D (xs ys : List Str) (h : xs.length + ys.length ≤ 1000) : F_together [.tuple (xs.map .str), .tuple (ys.map .str)] = some ((.tuple ((uniqS (xs ++ ys)).map .str), false), []) := by
  unfold F_together b_together
  have g1 : xs.length + ys.length ≤ sizeLine := Nat.le_trans h (by decide)
  have g2 : xs.length + ys.length + 1 < scanBound := Nat.lt_of_le_of_lt (Nat.succ_le_succ h) (by decide)
  have g3 : asStrs (xs.map PyData.str ++ ys.map PyData.str) = some (xs ++ ys) := by rw [← List.map_append, asStrs_m]
  simp [g1, g3, g2]
theorem range_ok : ∀ n : Nat, n < 17 → n % 2 = 0 → (Builtin.Range.small ((n : Int) - 2) (-1) (-2) = true ∧ 0 ≤ Builtin.Range.rangeSize ((n : Int) - 2) (-1) (-2) ∧ (Builtin.Range.rangeSize ((n : Int) - 2) (-1) (-2)).toNat = n / 2) := by decide +kernel
theorem at_set {ns : List (List Str)} {j : Nat} (h : j < ns.length) : (ns.map fun n => PyData.tuple (n.map .str))[j]? = some (.tuple ((ns.getD j []).map .str)) := by
  simp [List.getElem?_eq_getElem h, List.getD_eq_getElem?_getD]
theorem atI_nat {α : Type} {xs : List α} {j : Nat} {i : Int} {x : α} (h : xs[j]? = some x) (e : i = (j : Nat)) : atI xs i = some x := by
  subst e
  have hj : j < xs.length := (List.getElem?_eq_some_iff.mp h).1
  unfold atI ixN
  rw [if_pos (by omega), if_pos (by omega)]
  simpa using h
theorem dput_len (es : List (D × D)) (k : Key) (z : D) : (dput es k z).length ≤ es.length + 1 := by
  unfold dput; split <;> simp
theorem dputs_len {α : Type} (hk : α → Key) (v : α → D) : ∀ (a : List α) (es : List (D × D)), (a.foldl (fun es d => dput es (hk d) (v d)) es).length ≤ es.length + a.length
  | [], es => by simp
  | x :: a, es => by
    have h1 := dputs_len hk v a (dput es (hk x) (v x))
    have h2 := dput_len es (hk x) (v x)
    simp only [List.foldl_cons, List.length_cons]
    omega
def keyG (d : D) : Key := (keyOf d).getD (.inl 0)
theorem same_loop (c0 c2 c3 : Option Cell) (z : D) (hs : List Str) (hn : hs.Nodup) (hl : hs.length ≤ 1000) : dcL (gN 4) sYes (sVar 4) (sVar 1) [4] (hs.map .str) [] [c0, some (.val z), c2, c3, none] = some ((hs.map fun l => (l, z)).map rowD, [c0, some (.val z), c2, c3, none]) := by
  have := dcL_map (g := gN 4) (t := sYes) (kf := sVar 4) (vf := sVar 1) (vs := [4]) (ρ := [c0, some (.val z), c2, c3, none]) (hk := keyG) (h := fun _ => z) (ds := hs.map .str) (es := []) (fun d hd => by
    obtain ⟨x, hx, rfl⟩ := List.mem_map.mp hd
    exact ⟨[c0, some (.val z), c2, c3, some (.val (.str x))], .val (.str x), .val z, by simp, by simp, by simp, by simp [keyG, keyD], by simp, by simp, by simp⟩) (fun a b e => by
      have h1 := dputs_len keyG (fun _ => z) a []
      have h2 : a.length ≤ hs.length := by
        have := congrArg List.length e
        simp at this; omega
      exact Nat.lt_of_le_of_lt h1 (Nat.lt_of_le_of_lt (by simp; omega) (by decide : 1000 < sizeLine)))
  rw [this, List.foldl_map]
  have e := dputs_new (α := Str) id (fun _ => z) hs [] (by simpa using hn)
  simp only [List.map_nil, List.nil_append] at e
  simp only [keyG, keyOf, Option.getD_some, id] at e ⊢
  rw [e]
abbrev body_rows : SemS := (sSeq (sSet 1 (sCall [.v, .v] F_together (mV (sVar 1) (mV (sOp ixG (sVar 0) (sOp addF (sVar 3) (sC (.int 1)))) mNil)))) (sExpr (sMut "dict" 2 updateM (sCons (sDc (gN 4) sYes (sVar 4) (sVar 1) [4] (iOf walkOf (sOp ixG (sVar 0) (sVar 3)))) sNil))))
structure Good (ns : List (List Str)) (m : Nat) : Prop where
  len : ns.length = 2 * m
  few : m ≤ 8
  nd : ns.flatten.Nodup
  small : ns.flatten.length ≤ 8
theorem Good.parts {ns : List (List Str)} {m : Nat} (G : Good ns m) {k : Nat} (hk : k < m) :
    (accS ns m k).1.length + (ns.getD (2 * (m - 1 - k) + 1) []).length ≤ 8 ∧ (accS ns m k).2.length + (ns.getD (2 * (m - 1 - k)) []).length ≤ 8 ∧ ((accS ns m k).1 ++ ns.getD (2 * (m - 1 - k) + 1) []).Nodup ∧
    ((accS ns m k).2.map (·.1) ++ ns.getD (2 * (m - 1 - k)) []).Nodup := by
  have h1 := acc_nodup ns m G.len G.nd (k + 1) (by omega)
  have h2 := acc_len ns m G.len (k + 1) (by omega)
  have h3 := G.small
  simp only [accS, List.length_append, List.length_map, List.map_append, List.map_map, Function.comp_def, List.map_id'] at h1 h2
  have h4 := List.nodup_append.mp h1
  exact ⟨by omega, by omega, h4.1, h4.2.1⟩
theorem rows_step (t : List D) (V u h : List Str) (E : List (Str × D)) (i : Int) (a1 : atI t i = some (.tuple (h.map .str))) (a2 : atI t (i + 1) = some (.tuple (u.map .str)))
    (p1 : V.length + u.length ≤ 8) (p2 : E.length + h.length ≤ 8) (p3 : (V ++ u).Nodup) (p4 : (E.map (·.1) ++ h).Nodup) :
    body_rows [some (.val (.tuple t)), some (.val (.tuple ((sortS V).map .str))), some (.own (.dict (E.map rowD))), some (.val (.int i)), none] =
      some (.nx [some (.val (.tuple t)), some (.val (.tuple ((sortS (V ++ u)).map .str))), some (.own (.dict ((E ++ h.map fun l => (l, PyData.tuple ((sortS (V ++ u)).map .str))).map rowD))), some (.val (.int i)), none]) := by
  have t1 := together_D (sortS V) u (by rw [sortS_len]; omega)
  have t2 : uniqS (sortS V ++ u) = sortS (V ++ u) := by
    rw [← uniqS_nodup p3]
    exact uniqS_ext fun z => by simp [mem_sortS]
  rw [t2] at t1
  generalize (sortS (V ++ u)).map PyData.str = U at *
  have t3 := same_loop (some (.val (.tuple t))) (some (.own (.dict (E.map rowD)))) (some (.val (.int i))) (.tuple U) h (List.nodup_append.mp p4).2.1 (by omega)
  have t4 := dmerge_new (h.map fun l => (l, PyData.tuple U)) E (by simpa [Function.comp_def] using p4)
  have t5 : E.length + h.length ≤ sizeLine := Nat.le_trans p2 (by decide)
  generalize hE : h.map (fun l => (l, PyData.tuple U)) = E2 at *
  have t6 : E2.length = h.length := by rw [← hE]; simp
  have t7 : E.length + E2.length ≤ sizeLine := by omega
  simp [a1, a2, t1, t3, t4, t7]
theorem rows_of_D (ns : List (List Str)) (m : Nat) (G : Good ns m) : F_rows_of [setsD ns] = some ((.dict (((accS ns m m).2.map valT).map rowD), true), []) := by
  have hlen := G.len
  have hfew := G.few
  have R := range_ok ns.length (by omega) (by omega)
  obtain ⟨ρ', L, hI⟩ := forL_inv (g := gN 3) (b := body_rows) (fun k ρ => k ≤ m → ∃ c3 : Option D, ρ = [some (.val (setsD ns)), some (.val (.tuple ((sortS (accS ns m k).1).map .str))), some (.own (.dict (((accS ns m k).2.map valT).map rowD))), c3.map .val, none])
    (rng3 ((ns.length : Int) - 2) (-2) (ns.length / 2)) 0 [some (.val (setsD ns)), some (.val (.tuple [])), some (.own (.dict [])), none, none] (fun _ => ⟨none, rfl⟩) (fun k d ρ hd hI => by
      simp only [Nat.zero_add] at hI ⊢
      simp only [rng3, List.getElem?_map, Option.map_eq_some_iff, List.getElem?_range] at hd
      obtain ⟨k', hk', rfl⟩ := hd
      obtain ⟨hk1, hk2⟩ := List.getElem?_eq_some_iff.mp hk'
      simp only [List.getElem_range] at hk2
      subst hk2
      simp only [List.length_range] at hk1
      have hk : k < m := by omega
      obtain ⟨c3, rfl⟩ := hI (by omega)
      obtain ⟨p1, p2, p3, p4⟩ := G.parts hk
      have st := rows_step (ns.map fun n => PyData.tuple (n.map .str)) (accS ns m k).1 (ns.getD (2 * (m - 1 - k) + 1) []) (ns.getD (2 * (m - 1 - k)) []) ((accS ns m k).2.map valT) ((ns.length : Int) - 2 + (k : Nat) * -2)
        (atI_nat (at_set (by omega)) (by omega)) (atI_nat (at_set (by omega)) (by omega)) p1 (by simpa using p2) p3 (by simpa [valT, Function.comp_def] using p4)
      refine ⟨[some (.val (setsD ns)), some (.val (.tuple ((sortS (accS ns m k).1).map .str))), some (.own (.dict (((accS ns m k).2.map valT).map rowD))), some (.val (.int ((ns.length : Int) - 2 + (k : Nat) * -2))), none], _, by simp, st, fun _ => ⟨some (.int ((ns.length : Int) - 2 + (k : Nat) * -2)), ?_⟩⟩
      simp only [accS, List.map_append, List.map_map]
      rfl)
  obtain ⟨c3, rfl⟩ := hI (by simp [rng3]; omega)
  have e : 0 + (rng3 ((ns.length : Int) - 2) (-2) (ns.length / 2)).length = m := by simp [rng3]; omega
  rw [e] at L
  unfold F_rows_of b_rows_of
  generalize (((accS ns m m).2.map valT).map rowD) = E at *
  unfold setsD at L ⊢
  simp [R, L]
theorem check_D {v : D} (h : OkV v) (hp : profB v = true) : F_check_profile [v] = some ((.none, false), []) := by
  unfold F_check_profile b_check_profile
  simp [F_is_profile_D v h, hp]
theorem keysT (ks : List (Str × List Str)) : (ks.map valT).map (·.1) = ks.map (·.1) := by simp [valT, Function.comp_def]
theorem keysL (ks : List (Str × List Str)) : (ks.map valL).map (·.1) = ks.map (·.1) := by simp [valL, Function.comp_def]
end Pv.Pg
end
section
set_option Elab.async false
set_option linter.all false
set_option autoImplicit false
set_option maxRecDepth 100000
set_option maxHeartbeats 2000000
namespace Pv.Ev
open PySem L2 Pv
def okC : Option (Option Cell) → Bool
  | some (some (.val _)) => true
  | some (some _) => false
  | _ => true
section
variable (i : Nat) (ρ ρ0 : Ro) (d : D) (vs : List Nat)
@[scoped simp] theorem okC1 : okC (some (some (.val d))) = true := rfl
@[scoped simp] theorem okC2 : okC (some none) = true := rfl
@[scoped simp] theorem okC3 (c : Option D) : okC (some (c.map Cell.val)) = true := by cases c <;> rfl
@[scoped simp] theorem okAt_n : okAt ρ [] = true := rfl
@[scoped simp] theorem okAt_c (v : Nat) : okAt ρ (v :: vs) = (okC ρ[v]? && okAt ρ vs) := rfl
@[scoped simp] theorem backR_n : backR ρ0 ρ [] = ρ := rfl
@[scoped simp] theorem backR_c (v : Nat) : backR ρ0 ρ (v :: vs) = (backR ρ0 ρ vs).set v (ρ0[v]?.getD none) := rfl
@[scoped simp] theorem iW_u (it : SemI) : iW vs it ρ = bd (it ρ) fun x => if okAt x.2 vs = true then some (x.1, wipeR x.2 vs) else none := rfl
@[scoped simp] theorem sLcS_u (g : SemG) (t : SemT) (el : SemE) (it : SemI) : sLcS g t el vs it ρ = if okAt ρ vs = true then bd (sLc g t el vs (iW vs it) ρ) fun x => some (x.1, backR ρ x.2 vs) else none := rfl
@[scoped simp] theorem dictE_u (es : List (D × D)) : dictE (.dict es) = some (!es.isEmpty) := rfl
@[scoped simp] theorem sTruthD_u (f : SemE) : sTruthD f ρ = bd (f ρ) fun x => bd (look x.2 x.1) fun d => bd (dictE d) fun b => some (b, x.2) := rfl
end
end Pv.Ev
namespace Pv
open PySem L2 Pv.Ev
theorem dcL_filter {g : SemG} {t : SemT} {kf vf : SemE} {vs : List Nat} {ρ : Ro} {hk : D → L2.Key} {h : D → D} {p : D → Bool} : ∀ {ds : List D} {es : List (D × D)}, (∀ d ∈ ds, ∃ ρ1, g d ρ = some ρ1 ∧ t ρ1 = some (p d, ρ1) ∧ wipeR ρ1 vs = ρ ∧ (p d = true → ∃ r r2, kf ρ1 = some (r, ρ1) ∧ frz ρ1 r = some (keyD (hk d), ρ1) ∧ vf ρ1 = some (r2, ρ1) ∧ frz ρ1 r2 = some (h d, ρ1))) →
    es.length + ds.length ≤ 100000 → dcL g t kf vf vs ds es ρ = some ((ds.filter p).foldl (fun es d => dput es (hk d) (h d)) es, ρ)
  | [], _, _, _ => rfl
  | d :: ds, es, k, hz => by
    obtain ⟨ρ1, e1, e2, e7, e8⟩ := k d List.mem_cons_self
    rw [List.length_cons] at hz
    have lt : es.length < sizeLine := Nat.lt_of_le_of_lt (by omega : es.length ≤ 100000) (by decide)
    have kr : ∀ x ∈ ds, _ := fun x hx => k x (List.mem_cons_of_mem _ hx)
    cases hp : p d with
    | true =>
      obtain ⟨r, r2, e3, e4, e5, e6⟩ := e8 hp
      have hl : (dput es (hk d) (h d)).length ≤ es.length + 1 := by unfold dput; split <;> simp
      simp only [dcL, e1, e2, hp, e3, e4, keyOf_keyD, e5, e6, e7, Option.bind_some, if_pos, lt]
      rw [dcL_filter kr (by omega), List.filter_cons_of_pos hp]
      rfl
    | false =>
      simp only [dcL, e1, e2, hp, e7, Option.bind_some, Bool.false_eq_true, if_false]
      rw [dcL_filter kr (by omega), List.filter_cons_of_neg (by rw [hp]; exact Bool.false_ne_true)]
end Pv
namespace Pv.Pg
open PySem L2 Pv Pv.Ev
abbrev Blk := List Str × List Str
def flatP (ps : List Blk) : List (List Str) := ps.flatMap fun b => [b.1, b.2]
def heldP (ps : List Blk) : List Str := ps.flatMap (·.1)
def usedP (ps : List Blk) : List Str := ps.flatMap (·.2)
def UB : List Blk → Str → List Str
  | [], _ => []
  | b :: ps, l => if l ∈ b.1 then usedP (b :: ps) else UB ps l
structure VP (ps : List Blk) : Prop where
  asc : ∀ b ∈ ps, Asc b.1 ∧ Asc b.2
  ne1 : ∀ b ∈ ps, b.1 ≠ []
  ne2 : ∀ b ∈ ps.dropLast, b.2 ≠ []
  nd : (heldP ps ++ usedP ps).Nodup
theorem VP.tail {b : Blk} {ps : List Blk} (h : VP (b :: ps)) : VP ps where
  asc := fun c hc => h.asc c (List.mem_cons_of_mem _ hc)
  ne1 := fun c hc => h.ne1 c (List.mem_cons_of_mem _ hc)
  ne2 := fun c hc => h.ne2 c (by
    cases ps with
    | nil => cases hc
    | cons d r => exact List.mem_cons_of_mem _ hc)
  nd := by
    have := h.nd
    simp only [heldP, usedP, List.flatMap_cons] at this ⊢
    refine List.Sublist.nodup (List.Sublist.append (List.sublist_append_right _ _) (List.sublist_append_right _ _)) this
theorem VP.used_ne {b : Blk} {ps : List Blk} (h : VP (b :: ps)) (hp : ps ≠ []) : b.2 ≠ [] := h.ne2 b (by
  cases ps with
  | nil => exact absurd rfl hp
  | cons d r => exact List.mem_cons_self)
theorem UB_used (ps : List Blk) (l : Str) : ∀ x ∈ UB ps l, x ∈ usedP ps := by
  induction ps with
  | nil => intro x hx; cases hx
  | cons b ps ih =>
    intro x hx
    simp only [UB] at hx
    split at hx
    · exact hx
    · simp only [usedP, List.flatMap_cons, List.mem_append]
      exact .inr (ih x hx)
structure RowsOf (R : List (Str × List Str)) (ps : List Blk) : Prop where
  nd : (R.map (·.1)).Nodup
  keys : ∀ l, l ∈ R.map (·.1) ↔ l ∈ heldP ps
  vals : ∀ p ∈ R, Asc p.2 ∧ ∀ x, x ∈ p.2 ↔ x ∈ UB ps p.1
def dictR (R : List (Str × List Str)) : D := .dict ((R.map valT).map rowD)
theorem asc_unique {a b : List Str} (ha : Asc a) (hb : Asc b) (h : ∀ x, x ∈ a ↔ x ∈ b) : a = b :=
  sorted_unique (nodup_perm ha.nodup hb.nodup h) ha.sorted hb.sorted
theorem nodup_len {a b : List Str} (ha : a.Nodup) (hb : b.Nodup) (h : ∀ x, x ∈ a ↔ x ∈ b) : a.length = b.length := (nodup_perm ha hb h).length_eq
theorem sub_len {a b : List Str} (ha : a.Nodup) (h : ∀ x ∈ a, x ∈ b) : a.length ≤ b.length := List.Nodup.length_le_of_subset ha h
end Pv.Pg
end
section
set_option Elab.async false
set_option linter.all false
set_option maxRecDepth 100000
set_option maxHeartbeats 1000000
namespace Pv
open PySem PySem.Spec PyProof.Rows L2 PySem.W
def fzC (i : Nat) (ρ : Ro) : Option (Option Cell) → Ro
  | some (some (.own d)) => ρ.set i (some (.val d))
  | _ => ρ
def sFz (i : Nat) (f : SemE) : SemE := fun ρ => f (fzC i ρ ρ[i]?)
def sFzS (i : Nat) (f : SemS) : SemS := fun ρ => f (fzC i ρ ρ[i]?)
theorem Rel.fz {K : Fr'} {P : List (Nat × Addr)} {W F H : Hp} {σ : St} {ρ : Ro} (R : Rel K P W F H σ ρ) (i : Nat) : ∃ F', Ext W F F' ∧ Rel K P W F' H σ (fzC i ρ ρ[i]?) := by
  cases e : ρ[i]? with
  | none => exact ⟨F, Ext.refl _ _, R⟩
  | some o =>
    cases o with
    | none => exact ⟨F, Ext.refl _ _, R⟩
    | some c =>
      cases c with
      | own d =>
        obtain ⟨v, hv, _⟩ := R.cell i _ e
        obtain ⟨F', x, R', _⟩ := R.cellFrz e hv
        exact ⟨F', x, R'⟩
      | val d => exact ⟨F, Ext.refl _ _, R⟩
      | byr d => exact ⟨F, Ext.refl _ _, R⟩
      | scr ds => exact ⟨F, Ext.refl _ _, R⟩
section
variable {X : Cx}
theorem de_fz (i : Nat) {e : Expr} {f : SemE} (h : DE X e f) : DE X e (sFz i f) := by
  refine ⟨h.pe.pvi fun σ H Q q => ?_⟩
  obtain ⟨P, W, F, ρ, r, ρ', R, e, q⟩ := q
  obtain ⟨F2, x2, R2⟩ := R.fz i
  exact ⟨P, W, F2, _, r, ρ', R2, e, fun v H' F' x R' o => q v H' F' (x2.trans x) R' o⟩
theorem ds_fz (i : Nat) {st : Stmt} {f : SemS} (h : DS X st f) : DS X st (sFzS i f) := by
  refine ⟨h.ps.pvi fun D σ H q => ?_⟩
  obtain ⟨P, W, F, ρ, o, R, e, q⟩ := q
  obtain ⟨F2, x2, R2⟩ := R.fz i
  exact ⟨P, W, F2, _, o, R2, e, q.ext x2⟩
end
namespace Ev
section
variable (i : Nat) (ρ : Ro) (d : D)
@[scoped simp] theorem sFz_u (f : SemE) : sFz i f ρ = f (fzC i ρ ρ[i]?) := rfl
@[scoped simp] theorem sFzS_u (f : SemS) : sFzS i f ρ = f (fzC i ρ ρ[i]?) := rfl
@[scoped simp] theorem fzC1 : fzC i ρ (some (some (.own d))) = ρ.set i (some (.val d)) := rfl
@[scoped simp] theorem fzC2 : fzC i ρ (some (some (.val d))) = ρ := rfl
@[scoped simp] theorem fzC3 : fzC i ρ (some (some (.byr d))) = ρ := rfl
@[scoped simp] theorem fzC4 : fzC i ρ (some none) = ρ := rfl
@[scoped simp] theorem fzC5 (ds : List D) : fzC i ρ (some (some (.scr ds))) = ρ := rfl
end
end Ev
end Pv
end
section
set_option Elab.async false
set_option linter.all false
set_option maxRecDepth 100000
set_option maxHeartbeats 1000000
namespace Pv
open PySem PySem.Spec PyProof.Rows L2 PySem.W
section
variable {X : Cx}
def rgOkB (a b : Int) : Bool := decide (0 ≤ a ∧ a ≤ 16777216 ∧ 0 ≤ b ∧ b ≤ 16777216)
def sTupRg1 (f : SemE) : SemE := fun ρ => (f ρ).bind fun (r, ρ1) => (look ρ1 r).bind fun d => (asI d).bind fun n => if (rgOkB 0 n && !needS (rng 0 n.toNat)) = true then some (.val (.tuple (rng 0 n.toNat)), ρ1) else none
def sLstRg1 (f : SemE) : SemE := fun ρ => (f ρ).bind fun (r, ρ1) => (look ρ1 r).bind fun d => (asI d).bind fun n => if rgOkB 0 n = true then some (.fr (.list (rng 0 n.toNat)), ρ1) else none
def isDic : D → Bool
  | .dict _ => true
  | _ => false
def get2 (d : D) (k : Key) (r : Rv) : Option Rv := match d with
  | .dict es => (match dget es k with
    | some z => some (.val z)
    | none => some r)
  | _ => none
def sGet2 (f g h : SemE) : SemE := fun ρ => (f ρ).bind fun (r, ρ1) => (look ρ1 (settle r)).bind fun d0 => if isDic d0 = true then (g ρ1).bind fun (rk, ρ2) => (look ρ2 (settle rk)).bind fun kd => (keyOf kd).bind fun k => (h ρ2).bind fun (rx, ρ3) => (look ρ3 (settle r)).bind fun d => (get2 d k rx).bind fun z => some (z, ρ3) else none
def ddrop (es : List (D × D)) (k : Key) : List (D × D) := es.filter fun p => !dkey p.1 k
theorem RpD.drop {K : Fr'} {F : Hp} {kvs : List (Key × V)} {es : List (D × D)} (r : RpD K F kvs es) (k : Key) : RpD K F (dropK kvs k) (ddrop es k) := by
  induction kvs generalizing es with
  | nil => cases r; exact .nil
  | cons p kvs ih =>
    cases r with
    | @cons k0 v0 _ d0 es r t =>
      unfold dropK ddrop
      by_cases h : k0 = k
      · rw [List.filter_cons_of_neg (by simpa using h), List.filter_cons_of_neg (by rw [dkey_keyD]; simpa using h)]
        exact ih t
      · rw [List.filter_cons_of_pos (by simpa using h), List.filter_cons_of_pos (by rw [dkey_keyD]; simpa using h)]
        exact .cons r (ih t)
def dpopM : OpM
  | .dict es, [kd] => (keyOf kd).bind fun k => (dget es k).map fun z => (.dict (ddrop es k), z)
  | _, _ => none
end
namespace Ev
section
variable (ρ : Ro) (f g h : SemE)
@[scoped simp] theorem sTupRg1_u : sTupRg1 f ρ = bd (f ρ) fun x => bd (look x.2 x.1) fun d => bd (asI d) fun n => if (rgOkB 0 n && !needS (rng 0 n.toNat)) = true then some (.val (.tuple (rng 0 n.toNat)), x.2) else none := rfl
@[scoped simp] theorem sLstRg1_u : sLstRg1 f ρ = bd (f ρ) fun x => bd (look x.2 x.1) fun d => bd (asI d) fun n => if rgOkB 0 n = true then some (.fr (.list (rng 0 n.toNat)), x.2) else none := rfl
@[scoped simp] theorem sGet2_u : sGet2 f g h ρ = bd (f ρ) fun x => bd (look x.2 (settle x.1)) fun d0 => if isDic d0 = true then bd (g x.2) fun y => bd (look y.2 (settle y.1)) fun kd => bd (keyOf kd) fun k => bd (h y.2) fun w => bd (look w.2 (settle x.1)) fun d => bd (get2 d k w.1) fun z => some (z, w.2) else none := rfl
@[scoped simp] theorem isDic_d (es : List (D × D)) : isDic (.dict es) = true := rfl
@[scoped simp] theorem dpop_u (es : List (D × D)) (d : D) : dpopM (.dict es) [d] = bd (keyOf d) fun k => (dget es k).map fun z => (.dict (ddrop es k), z) := rfl
end
end Ev
end Pv
end
section
set_option Elab.async false
set_option linter.all false
set_option maxRecDepth 100000
set_option maxHeartbeats 2000000
namespace Pv
open PySem PySem.Spec PyProof.Rows L2 PySem.W
abbrev dc2 (kx vx ta ia tb ib : Expr) (fa fb : List Expr) (sc : Scope) (at_ : Pos) : Expr := .DictComp kx vx [⟨ta, ia, fa, 0⟩, ⟨tb, ib, fb, 0⟩] sc at_
section
variable {prog : Program} {w : World} {A : Around} {R : Result → Shared → Prop} {s : Shared} {kx vx ta ia tb ib : Expr} {fa fb : List Expr} {sc : Scope} {at_ : Pos} {it : Value} {D : Addr} {env : Env}
section
variable (N : Value → Shared → Prop) (hN : N = notedBy (model prog w) A env fun e t => R (.error e) t) (I : Nat → Shared → Prop)
include hN
end
end
end Pv
namespace Pv
open PySem PySem.Spec PyProof.Rows L2 PySem.W
section
variable {X : Cx}
end
end Pv
end
section
set_option Elab.async false
set_option linter.all false
set_option maxRecDepth 100000
set_option maxHeartbeats 2000000
namespace Pv
open PySem PySem.Spec PyProof.Rows L2 PySem.W
section
variable {X : Cx}
end
section
variable (g : SemG) (t : SemT) (it1 : SemI) (g1 : SemG) (t1 : SemT) (kf vf : SemE) (vs vs1 : List Nat)
def dc2L : List D → List (D × D) → Ro → Option (List (D × D) × Ro)
  | [], es, ρ => some (es, ρ)
  | d :: ds, es, ρ => (g d ρ).bind fun ρ1 => (t ρ1).bind fun (b, ρ2) => if b = true then (it1 ρ2).bind fun (ds1, ρ3) => if clearAt ρ3 vs1 = true then (dcL g1 t1 kf vf vs1 ds1 es ρ3).bind fun (fs, ρ4) => dc2L ds fs (wipeR ρ4 vs) else none
    else dc2L ds es (wipeR ρ2 vs)
def sDc2 (it : SemI) : SemE := fun ρ => (it ρ).bind fun (ds, ρ1) => if clearAt ρ1 vs = true then (dc2L g t it1 g1 t1 kf vf vs vs1 ds [] ρ1).bind fun (es, ρ2) => some (.fr (.dict es), ρ2) else none
end
section
variable {K : Fr'} {g g1 : SemG} {t t1 : SemT} {it1 : SemI} {kf vf : SemE} {vs vs1 us us1 : List Nat}
end
section
variable {X : Cx}
end
section
variable {X : Cx}
end
namespace Ev
@[scoped simp] theorem sDc2_u (ρ : Ro) (g : SemG) (t : SemT) (it1 : SemI) (g1 : SemG) (t1 : SemT) (kf vf : SemE) (vs vs1 : List Nat) (it : SemI) : sDc2 g t it1 g1 t1 kf vf vs vs1 it ρ = bd (it ρ) fun x => if clearAt x.2 vs = true then bd (dc2L g t it1 g1 t1 kf vf vs vs1 x.1 [] x.2) fun y => some (.fr (.dict y.1), y.2) else none := rfl
end Ev
end Pv
end
section
set_option Elab.async false
set_option linter.all false
set_option maxRecDepth 100000
set_option maxHeartbeats 2000000
namespace Pv.Pg
open PySem Pv
end Pv.Pg
end
section
set_option Elab.async false
set_option linter.all false
set_option maxRecDepth 100000
set_option maxHeartbeats 1000000
namespace Pv
open PySem PySem.Spec PyProof.Rows L2 PySem.W
section
variable {P : Program} {w : World} {A : Around} {E : Value → Shared → Prop} {s : Shared}
end
def gS2 (g : SemGs) : SemG := fun d ρ => match d with
  | .str x => (match x.cps.toList with
    | [c, d] => g [.str ⟨#[c]⟩, .str ⟨#[d]⟩] ρ
    | _ => none)
  | _ => none
section
variable {X : Cx} {pos : Pos}
end
namespace Ev
@[scoped simp] theorem gS2_u (g : SemGs) (x : Str) (c d : Nat) (ρ : Ro) (h : x.cps.toList = [c, d]) : gS2 g (.str x) ρ = g [.str ⟨#[c]⟩, .str ⟨#[d]⟩] ρ := by simp [gS2, h]
end Ev
end Pv
end
section
set_option Elab.async false
set_option linter.all false
set_option maxRecDepth 100000
set_option maxHeartbeats 1000000
namespace Pv
open PySem PySem.Spec PyProof.Rows L2 PySem.W
section
variable {X : Cx}
end
def cutF (F : Hp) (a : Addr) : Hp := fun b => if b = a then Option.none else F b
theorem cutF_ne {F : Hp} {a b : Addr} (h : b ≠ a) : cutF F a b = F b := by unfold cutF; rw [if_neg h]
section
variable {K : Fr'} {F : Hp} {a : Addr} {kvs : List (Key × V)}
theorem cut_sqt (hF : F a = some (.dK kvs)) {b : Addr} {xs : List V} (h : SqT K F b xs) : SqT K (cutF F a) b xs := by
  rcases h with (h | ⟨o, h⟩) | h
  · exact .inl (.inl (by rw [cutF_ne (fun z => by rw [z, hF] at h; cases h)]; exact h))
  · exact .inl (.inr ⟨o, by rw [cutF_ne (fun z => by rw [z, hF] at h; cases h)]; exact h⟩)
  · exact .inr h
theorem cut_strong (hF : F a = some (.dK kvs)) {b : Addr} {xs : List V} (h : Strong K F b xs) : Strong K (cutF F a) b xs := by
  rcases h with ⟨o, h, e⟩ | h
  · exact .inl ⟨o, by rw [cutF_ne (fun z => by rw [z, hF] at h; cases h)]; exact h, e⟩
  · exact .inr h
mutual
theorem Rp.cutP (hF : F a = some (.dK kvs)) : ∀ {v : V} {d : D}, Rp K F v d → plain d = true → Rp K (cutF F a) v d
  | _, _, .non, _ => .non
  | _, _, .bl b, _ => .bl b
  | _, _, .int i, _ => .int i
  | _, _, .str x, _ => .str x
  | _, _, .lst s r, h => .lst (by rw [cutF_ne (fun z => by rw [z, hF] at s; cases s)]; exact s) (RpA.cutP hF r (by simpa [plain] using h))
  | _, _, .tup s r, h => .tup ⟨cut_sqt hF s.1, fun z => cut_strong hF (s.2 z)⟩ (RpA.cutP hF r (by simpa [plain] using h))
  | _, _, .dic s r, h => by simp [plain] at h
theorem RpA.cutP (hF : F a = some (.dK kvs)) : ∀ {vs : List V} {ds : List D}, RpA K F vs ds → plainA ds = true → RpA K (cutF F a) vs ds
  | _, _, .nil, _ => .nil
  | _, _, .cons r t, h => by
    simp only [plainA, Bool.and_eq_true] at h
    exact .cons (Rp.cutP hF r h.1) (RpA.cutP hF t h.2)
end
theorem OwnO.cutP (hF : F a = some (.dK kvs)) {o : Option HO} {d : D} (q : OwnO K F o d) (h : plain d = true) : OwnO K (cutF F a) o d := by
  unfold OwnO at q ⊢
  split at q
  · exact q.cutP hF (by simpa [plain] using h)
  · simp [plain] at h
  · exact q.elim
end
def resto : Option Cell → Option Cell → Option (Option Cell)
  | some (.val d), _ => some (some (.val d))
  | _, none => some none
  | _, some (.val d) => if plain d = true then some (some (.val d)) else none
  | _, some (.own d) => if plain d = true then some (some (.own d)) else none
  | _, some (.byr d) => if plain d = true then some (some (.byr d)) else none
  | some (.scr es), some (.scr _) => some (some (.scr es))
  | _, some (.scr _) => none
def restoL : Ro → Ro → Option Ro
  | [], [] => some []
  | c :: cs, e :: es => (resto c e).bind fun x => (restoL cs es).map (x :: ·)
  | _, _ => none
def outP : Rv → Bool
  | .val d => plain d
  | .fr d => plain d
  | .at _ => false
def borC (i : Nat) (f : SemE) (ρ : Ro) : Option (Option Cell) → Option (Rv × Ro)
  | some (some (.own (.dict es))) => (f (ρ.set i (some (.val (.dict es))))).bind fun x =>
    if outP x.1 = true then (restoL (ρ.set i none) (x.2.set i none)).map fun ρ3 => (x.1, ρ3.set i (some (.own (.dict es)))) else none
  | _ => none
def sBor (i : Nat) (f : SemE) : SemE := fun ρ => borC i f ρ ρ[i]?
section
variable {X : Cx}
end
namespace Ev
section
variable (i : Nat) (ρ : Ro) (f : SemE) (d : D) (c : Option Cell)
@[scoped simp] theorem sBor_u : sBor i f ρ = borC i f ρ ρ[i]? := rfl
@[scoped simp] theorem borC_u (es : List (D × D)) : borC i f ρ (some (some (.own (.dict es)))) = bd (f (ρ.set i (some (.val (.dict es))))) fun x =>
    if outP x.1 = true then bd (restoL (ρ.set i none) (x.2.set i none)) fun ρ3 => some (x.1, ρ3.set i (some (.own (.dict es)))) else none := by
  unfold bd Bd
  simp only [borC, Option.map_eq_bind]
  rfl
@[scoped simp] theorem outP1 : outP (.val d) = plain d := rfl
@[scoped simp] theorem outP2 : outP (.fr d) = plain d := rfl
@[scoped simp] theorem restoL0 : restoL [] [] = some [] := rfl
@[scoped simp] theorem restoL1 (c e : Option Cell) (cs es : Ro) : restoL (c :: cs) (e :: es) = bd (resto c e) fun x => bd (restoL cs es) fun y => some (x :: y) := by
  unfold bd Bd
  simp only [restoL, Option.map_eq_bind]
  rfl
@[scoped simp] theorem resto1 : resto (some (.val d)) c = some (some (.val d)) := by cases c <;> rfl
@[scoped simp] theorem resto2 : resto none none = some none := rfl
@[scoped simp] theorem resto3 (es : D) : resto (some (.own es)) (some (.own d)) = if plain d = true then some (some (.own d)) else none := rfl
@[scoped simp] theorem resto4 : resto none (some (.val d)) = if plain d = true then some (some (.val d)) else none := rfl
@[scoped simp] theorem resto5 (es : D) : resto (some (.own es)) (some (.val d)) = if plain d = true then some (some (.val d)) else none := rfl
@[scoped simp] theorem resto6 (x : Option D) : resto (x.map .val) (x.map .val) = some (x.map .val) := by cases x <;> rfl
@[scoped simp] theorem resto7 (es : D) : resto (some (.byr es)) (some (.byr d)) = if plain d = true then some (some (.byr d)) else none := rfl
end
end Ev
end Pv
end
section
set_option Elab.async false
set_option linter.all false
set_option maxRecDepth 100000
set_option maxHeartbeats 1000000
namespace Pv
open PySem PySem.Spec PyProof.Rows L2 PySem.W
def fgC : Option Cell → Option Cell
  | some (.byr d) => some (.byr d)
  | _ => none
def sFgt (f : SemS) : SemS := fun ρ => f (ρ.map fgC)
namespace Ev
@[scoped simp] theorem sFgt_u (f : SemS) (ρ : Ro) : sFgt f ρ = f (ρ.map fgC) := rfl
@[scoped simp] theorem fgC1 (c : Option D) : fgC (c.map .val) = none := by cases c <;> rfl
@[scoped simp] theorem fgC2 (c : Option D) : fgC (c.map .own) = none := by cases c <;> rfl
@[scoped simp] theorem fgC3 (d : D) : fgC (some (.val d)) = none := rfl
@[scoped simp] theorem fgC4 (d : D) : fgC (some (.own d)) = none := rfl
@[scoped simp] theorem fgC5 (ds : List D) : fgC (some (.scr ds)) = none := rfl
@[scoped simp] theorem fgC6 : fgC none = none := rfl
end Ev
end Pv
end
section
set_option Elab.async false
set_option linter.all false
set_option maxRecDepth 100000
set_option maxHeartbeats 1000000
namespace Pv
open PySem PySem.Spec PyProof.Rows L2 PySem.W
section
variable {X : Cx}
end
def pairL : List (SemE × SemE) → Ro → Option (List (Key × D) × Ro)
  | [], ρ => some ([], ρ)
  | (kf, vf) :: r, ρ => (kf ρ).bind fun (a, ρ1) => (frz ρ1 a).bind fun (kd, ρ2) => (keyOf kd).bind fun k => (vf ρ2).bind fun (b, ρ3) => (frz ρ3 b).bind fun (d, ρ4) => (pairL r ρ4).bind fun (ps, ρ5) => some ((k, d) :: ps, ρ5)
def sDsp (l : List (SemE × SemE)) : SemE := fun ρ => (pairL l ρ).bind fun (ps, ρ1) => some (.fr (.dict (putAll [] ps)), ρ1)
abbrev TPs (K : Fr') (l : List (SemE × SemE)) : List (TE × TE) := l.map fun x => (tD K x.1, tD K x.2)
structure DPs (X : Cx) (pos : Pos) (keys : List (Option Expr)) (values : List Expr) (l : List (SemE × SemE)) : Prop where
  pp : PPs X pos keys values (TPs X.K l)
section
variable {X : Cx} {pos : Pos}
end
def joinF (a : Str) : D → Option D
  | .list ds => (asStrs ds).bind fun ys => if (ys.map (·.length)).sum + ys.length * a.length ≤ 16777216 then some (.str (Txt.join a ys)) else none
  | _ => none
def sJoin (a : Str) (g : SemE) : SemE := fun ρ => (g ρ).bind fun (r, ρ1) => (look ρ1 (settle r)).bind fun d => (joinF a d).bind fun z => some (.val z, ρ1)
namespace Ev
section
variable (ρ : Ro) (a : Str) (g : SemE) (ys : List Str)
@[scoped simp] theorem sJoin_u : sJoin a g ρ = bd (g ρ) fun x => bd (look x.2 (settle x.1)) fun d => bd (joinF a d) fun z => some (.val z, x.2) := rfl
@[scoped simp] theorem sDsp_u (l : List (SemE × SemE)) : sDsp l ρ = bd (pairL l ρ) fun x => some (.fr (.dict (putAll [] x.1)), x.2) := rfl
@[scoped simp] theorem pairL0 : pairL [] ρ = some ([], ρ) := rfl
@[scoped simp] theorem pairL1 (kf vf : SemE) (r : List (SemE × SemE)) : pairL ((kf, vf) :: r) ρ = bd (kf ρ) fun a => bd (frz a.2 a.1) fun kd => bd (keyOf kd.1) fun k => bd (vf kd.2) fun b => bd (frz b.2 b.1) fun d => bd (pairL r d.2) fun y => some ((k, d.1) :: y.1, y.2) := rfl
end
end Ev
end Pv
end
section
set_option Elab.async false
set_option linter.all false
set_option maxRecDepth 100000
set_option maxHeartbeats 1000000
namespace Pv
open PySem PySem.Spec PyProof.Rows L2 HT
def stepL {α : Type} (xs : List α) (i : Nat) : List α := (List.range ((xs.length + 1 - i) / 2)).filterMap fun m => xs[i + 2 * m]?
theorem step_places (n i : Nat) : Builtin.Slice.slicePlaces (min (i : Int) n) n 2 = (n + 1 - i) / 2 := by
  unfold Builtin.Slice.slicePlaces
  rw [if_pos (by decide)]
  by_cases h : i < n
  · have e : min (i : Int) n = i := by omega
    rw [e, if_pos (by omega)]
    omega
  · have e : min (i : Int) n = n := by omega
    rw [e, if_neg (by omega)]
    have : (n + 1 - i) / 2 = 0 := by omega
    rw [this]
    rfl
theorem step_pick (xs : Array Value) (i : Nat) : ((List.range ((xs.size + 1 - i) / 2)).filterMap fun (m : Nat) => xs[((min (i : Int) xs.size) + (m : Int) * 2).toNat]?).toArray = (stepL xs.toList i).toArray := by
  congr 1
  unfold stepL
  rw [Array.length_toList]
  have go : ∀ l : List Nat, (∀ m ∈ l, m < (xs.size + 1 - i) / 2) → l.filterMap (fun (m : Nat) => xs[((min (i : Int) xs.size) + (m : Int) * 2).toNat]?) = l.filterMap fun m => xs.toList[i + 2 * m]? := by
    intro l
    induction l with
    | nil => intro _; rfl
    | cons m l ih =>
      intro h
      have lt := h m List.mem_cons_self
      have e1 : ((min (i : Int) xs.size) + (m : Int) * 2).toNat = i + 2 * m := by omega
      rw [List.filterMap_cons, List.filterMap_cons, ih fun k hk => h k (List.mem_cons_of_mem _ hk), e1, Array.getElem?_toList]
  exact go _ fun m hm => List.mem_range.mp hm
theorem step_len {α : Type} (xs : List α) (i : Nat) : (stepL xs i).length ≤ xs.length := by
  unfold stepL
  refine Nat.le_trans (List.length_filterMap_le _ _) ?_
  rw [List.length_range]
  omega
section
variable {prog : Program} {w : World} {A : Around} {E : Value → Shared → Prop} {s : Shared}
theorem getItem_tuple_step {t sl : Addr} {items : Array Value} {i : Nat} {u u2 : Tok} {Q : Value → Shared → Prop} (ht : IsTup s.heap t items) (hs : s.heap.IsSliceOf sl (.int i u) .none (.int 2 u2))
    (h : Q (.ref s.heap.objs.size) { s with heap := s.heap.push { cls := .type "tuple", data := .seq (stepL items.toList i).toArray } }) (hsz : items.size ≤ sizeLine) : wpAny (model prog w) A (getItem (.ref t) (.ref sl)) Q E s := by
  have htake : sizeOk (.seq (stepL items.toList i).toArray) := by
    show (stepL items.toList i).toArray.size ≤ sizeLine
    rw [List.size_toArray]
    exact Nat.le_trans (step_len _ _) (by rw [Array.length_toList]; exact hsz)
  obtain ⟨os, hos, hcs, hds⟩ := id hs
  have hTs : s.TypeIs (.ref sl) "slice" := ⟨os, hos, hcs⟩
  unfold getItem
  try with_reducible refine wpAny_holding ?_
  first | refine wpAny_bind (wpAny_pure ?_) | skip
  refine wpAny_bind (wpAny_sequenceKey ht.typeIs (by decide) ?_)
  refine wpAny_bind (wpAny_callSpecial?_slot (name := Str.ofString "__getitem__") ht.typeIs slot_tuple_getitem
    (wpAny_call_entry slot_tuple_getitem ht.typeIs entry_tuple_getitem ?_ (args_tuple_getitem _ _)))
  show wpAny _ _ (Builtin.Tuple.tupleItemsOf (.ref t) >>= _) _ _ s
  refine wpAny_bind (tupleItemsOf_ ht (wpAny_bind (wpAny_typeOf hTs ?_)))
  rw [if_pos (by decide)]
  refine wpAny_bind ?_
  unfold Builtin.Slice.sliceApplied Builtin.Slice.sliceFields
  refine wpAny_bind (wpAny_bind (wpAny_field hos hds (x := .int i u) rfl (wpAny_bind (wpAny_field hos hds (x := .none) rfl (wpAny_bind (wpAny_field hos hds (x := .int 2 u2) rfl (wpAny_pure ?_)))))))
  refine wpAny_bind (slicePart_int ?_)
  show wpAny _ _ (if ((2 : Int) == 0) = true then _ else _) _ _ s
  rw [if_neg (by decide)]
  refine wpAny_bind (slicePart_int (wpAny_bind (slicePart_none (wpAny_bind (wpAny_pure ?_)))))
  have ad : Builtin.Slice.sliceAdjust (some (i : Int)) Option.none 2 (items.size : Int) = (min (i : Int) items.size, (items.size : Int)) := by
    unfold Builtin.Slice.sliceAdjust
    have : ¬ (i : Int) < 0 := by omega
    simp [this]
  show wpAny _ _ (match Builtin.Slice.sliceAdjust (some (i : Int)) Option.none 2 (items.size : Int) with | (lo, hi) => pure (lo, (2 : Int), Builtin.Slice.slicePlaces lo hi 2)) _ _ s
  rw [ad]
  show wpAny _ _ (pure (min (i : Int) items.size, (2 : Int), Builtin.Slice.slicePlaces (min (i : Int) items.size) (items.size : Int) 2)) _ _ s
  rw [step_places]
  refine wpAny_pure ?_
  have hno : ¬ ((min (i : Int) items.size == 0 && (2 : Int) == 1 && (items.size + 1 - i) / 2 == items.size) = true) := by
    intro q
    rw [Bool.and_eq_true, Bool.and_eq_true] at q
    exact absurd q.1.2 (by decide)
  show wpAny _ _ (if (min (i : Int) items.size == 0 && (2 : Int) == 1 && (items.size + 1 - i) / 2 == items.size) = true then _ else _) _ _ s
  rw [if_neg hno, step_pick]
  first
    | exact wpAny_bind (m := Builtin.Tuple.tupleExact _) (wpAny_newObj_type (wpAny_pure ⟨_, rfl, wpAny_pure h⟩) htake)
    | exact wpAny_bind (m := Builtin.Tuple.tupleExact _) (wpAny_newObj_type (wpAny_bind (wpAny_pure (wpAny_pure ⟨_, rfl, wpAny_pure h⟩))) htake)
    | exact wpAny_bind (wpAny_bind (m := Builtin.Tuple.tupleExact _) (wpAny_newObj_type (wpAny_pure (wpAny_pure ⟨_, rfl, wpAny_pure h⟩)) htake))
    | exact wpAny_bind (wpAny_bind (m := Builtin.Tuple.tupleExact _) (wpAny_newObj_type (wpAny_pure ⟨_, rfl, wpAny_pure h⟩) htake))
end
theorem vals_pick {xs : List V} {us : List Value} (r : Vals xs us) : ∀ l : List Nat, Vals (l.filterMap fun m => xs[m]?) (l.filterMap fun m => us[m]?)
  | [] => .nil
  | m :: l => by
    have ih := vals_pick r l
    rw [List.filterMap_cons, List.filterMap_cons]
    by_cases h : m < xs.length
    · have h2 : m < us.length := by rw [← r.length]; exact h
      rw [List.getElem?_eq_getElem h, List.getElem?_eq_getElem h2]
      obtain ⟨u, e, ru⟩ := r.get (List.getElem?_eq_getElem h)
      rw [List.getElem?_eq_getElem h2] at e
      cases e
      exact .cons ru ih
    · rw [List.getElem?_eq_none (by omega), List.getElem?_eq_none (by rw [← r.length]; omega)]
      exact ih
theorem rpa_pick {K : Fr'} {F : Hp} {xs : List V} {ds : List D} (r : RpA K F xs ds) : ∀ l : List Nat, RpA K F (l.filterMap fun m => xs[m]?) (l.filterMap fun m => ds[m]?)
  | [] => .nil
  | m :: l => by
    have ih := rpa_pick r l
    rw [List.filterMap_cons, List.filterMap_cons]
    by_cases h : m < xs.length
    · have h2 : m < ds.length := by rw [← r.length]; exact h
      rw [List.getElem?_eq_getElem h, List.getElem?_eq_getElem h2]
      obtain ⟨u, e, ru⟩ := r.get m _ (List.getElem?_eq_getElem h2)
      rw [List.getElem?_eq_getElem h] at e
      cases e
      exact .cons ru ih
    · rw [List.getElem?_eq_none (by omega), List.getElem?_eq_none (by rw [← r.length]; omega)]
      exact ih
theorem step_idx {α : Type} (xs : List α) (i : Nat) : stepL xs i = ((List.range ((xs.length + 1 - i) / 2)).map fun m => i + 2 * m).filterMap fun m => xs[m]? := by
  unfold stepL
  rw [List.filterMap_map]
  rfl
theorem vals_step {xs : List V} {us : List Value} (r : Vals xs us) (i : Nat) : Vals (stepL xs i) (stepL us i) := by
  rw [step_idx, step_idx, ← r.length]; exact vals_pick r _
theorem rpa_step {K : Fr'} {F : Hp} {xs : List V} {ds : List D} (r : RpA K F xs ds) (i : Nat) : RpA K F (stepL xs i) (stepL ds i) := by
  rw [step_idx, step_idx, ← r.length]; exact rpa_pick r _
section
variable {X : Cx}
def tStep (K : PySem.W.Frag) (te tl : TE) : TE := fun σ H Q => te σ H fun x H1 => tPart tl σ H1 fun y H2 => ∃ a xs, ∃ i : Nat, x = .ref a ∧ y = some (i : Int) ∧ SqT K H2 a xs ∧ ∀ p o, H2 p = none → o.dict = none → Q (.ref p) (upd H2 p (.frz o (.tup (stepL xs i))))
theorem pe_step {e lo : Expr} {te tl : TE} {k : Nat} {p1 p3 pos : Pos} (he : PE X e te) (hl : PE X lo tl) : PE X (.Subscript e (.Slice (some lo) none (some (.Constant (.int 2) k p1)) p3) pos) (tStep X.K te tl) := by
  refine ⟨fun pins s σ H Q I h => ?_⟩
  refine Subscript_ (thn (he.run pins s σ H _ I h) fun v s1 ⟨x, H1, I1, r1, q1⟩ => ?_)
  have hlo : PO X (some lo) (tPart tl) := po_some hl
  have hst : PO X (some (.Constant (.int 2) k p1)) (tPart (tC (.int 2))) := po_some pe_int
  refine wpAny_Slice (thn (hlo.run pins s1 σ H1 _ I1 q1) fun vl s2 ⟨l, H2, I2, pl, a, xs, i, ex, el, hx, q⟩ => ?_)
  subst ex el
  cases r1
  refine thn (po_none.run pins s2 σ H2 (fun o H3 => o = none ∧ H3 = H2) I2 ⟨rfl, rfl⟩) fun vu s3 ⟨u, H3, I3, pu, eu, e3⟩ => ?_
  subst eu e3
  refine thn (hst.run pins s3 σ H3 (fun o H4 => o = some 2 ∧ H4 = H3) I3 ⟨2, rfl, rfl, rfl⟩) fun vs s4 ⟨o, H4, I4, ps, eo, e4⟩ => ?_
  subst eo e4
  cases pu
  cases pl with
  | int _ tl' =>
  cases ps with
  | int _ tk =>
  have I5 : Inv X pins σ H4 { s4 with heap := s4.heap.push { cls := .type "slice", data := .fields #[.int i tl', .none, .int 2 tk] } } := I4.kept (t' := s4.toks) fun b ob q => Heap.get?_push_of_some _ q
  obtain ⟨its, r, ht, hz⟩ := I5.tuple hx
  have hlen := r.length
  refine tail_any (ops := [.ref a, .ref s4.heap.objs.size]) ht.typeIs slot_tuple_getitem.lookup ?_ (by with_unfolding_all rfl)
  refine getItem_tuple_step (i := i) (u := tl') (u2 := tk) ht (Heap.IsSliceOf.new _ (.int i tl') .none (.int 2 tk)) ?_ (by rw [List.size_toArray]; omega)
  exact new_tupS I5 (vals_step r i) (Nat.le_trans (step_len _ _) hz) q
def step2 : D → D → Option D
  | .tuple ds, .int i => if 0 ≤ i then some (.tuple (stepL ds i.toNat)) else none
  | _, _ => none
def sStep2 (f g : SemE) : SemE := fun ρ => (f ρ).bind fun (r, ρ1) => (look ρ1 (settle r)).bind fun d0 => (g ρ1).bind fun (r2, ρ2) => (look ρ2 (settle r2)).bind fun d2 => (look ρ2 (settle r)).bind fun d => (step2 d d2).bind fun z => some (.val z, ρ2)
theorem de_step2 {e lo : Expr} {f g : SemE} {k : Nat} {p1 p3 pos : Pos} (he : DE X e f) (hl : DE X lo g) : DE X (.Subscript e (.Slice (some lo) none (some (.Constant (.int 2) k p1)) p3) pos) (sStep2 f g) := by
  refine ⟨(pe_step he.pe hl.pe).pvi fun σ H Q q => ?_⟩
  obtain ⟨P, W, F, ρ, r, ρ', R, e, q⟩ := q
  simp only [sStep2, Option.bind_eq_some_iff, Prod.exists] at e
  obtain ⟨r1, ρ1, e1, d0, e2, r2, ρ2, e3, d2, e4, d, e5, z, e6, e7⟩ := e
  cases e7
  unfold step2 at e6
  split at e6
  case h_2 => cases e6
  rename_i ds i
  split at e6
  case isFalse => cases e6
  rename_i hi
  cases e6
  refine ⟨P, W, F, ρ, r1, ρ1, R, e1, fun v H1 F1 x1 R1 o1 => ?_⟩
  obtain ⟨F2, x2, R2, o2⟩ := R1.settle o1
  refine ⟨P, W, F2, ρ1, r2, _, R2, e3, fun v2 H3 F3 x3 R3 o3 => ?_⟩
  obtain ⟨F4, x4, R4, o4⟩ := R3.settle o3
  have lk2 := (R4.lk o4 e4).int
  subst lk2
  have lk := lk_later o2 (x3.trans x4).same R4 _ e5
  obtain ⟨a, xs, rfl, hx, rp, _⟩ := lk.tuple R4.fh
  refine ⟨i, rfl, a, xs, i.toNat, rfl, by rw [Int.toNat_of_nonneg hi], hx, ?_⟩
  exact (post_of (zb := (.tuple (stepL ds i.toNat), false)) R4 fun v H' F' x5 R5 o => q v H' F' ((((x1.trans x2).trans x3).trans x4).trans x5) R5 o).tup R4.fh (rpa_step rp _)
end
namespace Ev
@[scoped simp] theorem sStep2_u (ρ : Ro) (f g : SemE) : sStep2 f g ρ = bd (f ρ) fun x => bd (look x.2 (settle x.1)) fun _ => bd (g x.2) fun y => bd (look y.2 (settle y.1)) fun d2 => bd (look y.2 (settle x.1)) fun d => bd (step2 d d2) fun z => some (.val z, y.2) := rfl
theorem step2_t (ds : List D) (i : Nat) : step2 (.tuple ds) (.int (i : Nat)) = some (.tuple (stepL ds i)) := by
  have : (0 : Int) ≤ (i : Nat) := by omega
  simp [step2, this]
end Ev
end Pv
end
section
set_option Elab.async false
set_option linter.all false
set_option maxRecDepth 100000
set_option maxHeartbeats 1000000
namespace Pv
open PySem PySem.Spec PyProof.Rows L2 PySem.W
section
variable {X : Cx}
end
end Pv
end
section
set_option Elab.async false
set_option linter.all false
set_option maxRecDepth 100000
set_option maxHeartbeats 2000000
namespace Pv.Pg
open PySem Pv
end Pv.Pg
end
section
set_option Elab.async false
set_option linter.all false
set_option maxRecDepth 100000
set_option maxHeartbeats 2000000
namespace Pv.Pg
open PySem Pv
abbrev L1_subsets : SemS := (sSet 1 (sOp addF (sVar 1) (sLc (gN 3) sYes (sOp addF (sVar 3) (sTup (sCons (sVar 2) sNil))) [3] (iOf walkOf (sVar 1)))))
def b_subsets : SemS := (sSeq (sSet 1 (sLst (sCons (sTup sNil) sNil))) (sSeq (sFor (iOf walkOf (sVar 0)) (gN 2) L1_subsets) (sRet (sSl slF (sVar 1) (oSome (sC (.int 1))) oNone))))
def F_subsets : Fn := fnOf 4 [.v] b_subsets
abbrev L1_profiles_from (self_ : Fn) : SemS := (sSeq (sSet 5 (sCB tupleF2 (pCons (sLc (gN 6) (sTest (sOp notInF (sVar 6) (sVar 4))) (sVar 6) [6] (iOf walkOf (sVar 3))) pNil))) (sSet 1 (sOp addF (sVar 1) (sLc (gN 7) sYes (sOp addF (sTup (sCons (sVar 2) (sCons (sVar 4) sNil))) (sVar 7)) [7] (iOf walkOf (sCall [.v] self_ (mV (sVar 5) mNil)))))))
abbrev L2_profiles_from (self_ : Fn) : SemS := (sSeq (sSet 3 (sCB tupleF2 (pCons (sLc (gN 6) (sTest (sOp notInF (sVar 6) (sVar 2))) (sVar 6) [6] (iOf walkOf (sVar 0))) pNil))) (sSeq (sExpr (sMut "list" 1 appendM (sCons (sTup (sCons (sVar 2) (sCons (sTup sNil) sNil))) sNil))) (sFor (iOf walkOf (sCall [.v] F_subsets (mV (sVar 3) mNil))) (gN 4) (L1_profiles_from self_))))
def b_profiles_from (self_ : Fn) : SemS := (sSeq (sSet 1 (sLst (sCons (sTup sNil) sNil))) (sSeq (sFor (iOf walkOf (sCall [.v] F_subsets (mV (sVar 0) mNil))) (gN 2) (L2_profiles_from self_)) (sRet (sVar 1))))
def F_profiles_from : Nat → Fn
  | 0 => fnNone
  | n + 1 => fnOf 8 [.v] (b_profiles_from (F_profiles_from n))
def b_blockers : SemS := (sSeq (sExpr (sCall [.v] F_check_profiles (mV (sVar 0) mNil))) (sSeq (sExpr (sCall [.v, .v, .v] F_check_locks (mV (sVar 1) (mV (sC (.int 4)) (mV (sLc2 (gN 4) sYes (iOf walkOf (sCall [.v] F_names_in (mV (sVar 4) mNil))) (gN 6) sYes (sVar 6) [4, 6] [6] (iOf walkOf (sVar 0))) mNil))))) (sSeq (sSet 2 (sLc (gN 4) sYes (sCall [.v] F_rows_of (mV (sVar 4) mNil)) [4] (iOf walkOf (sVar 0)))) (sSeq (sSet 3 (sLc (gN 4) sYes (sCall [.v] F_rows_of (mV (sVar 4) mNil)) [4] (iOf walkOf (sCall [.v] (F_profiles_from 45) (mV (sVar 1) mNil))))) (sSeq (sFzS 2 (sSet 3 (sLc (gN 5) (sNot (sTruth (sCB anyF (pCons (sLc (gN 7) sYes (sCall [.v, .v] F_do_fit (mV (sVar 5) (mV (sVar 7) mNil))) [7] (iOf walkOf (sVar 2))) pNil)))) (sVar 5) [5] (iOf walkOf (sVar 3))))) (sRet (sCB tupleF2 (pCons (sCB sortedF2 (pCons (sLc (gN 5) sYes (sCall [.v] F_made (mV (sVar 5) mNil)) [5] (iOf walkOf (sCall [.v] F_least_rows (mV (sVar 3) mNil)))) pNil)) pNil))))))))
def F_blockers : Fn := fnOf 8 [.v, .v] b_blockers
end Pv.Pg
end
section
set_option Elab.async false
set_option linter.all false
set_option autoImplicit false
set_option maxRecDepth 100000
set_option maxHeartbeats 1000000
namespace Pv
open PySem PySem.Spec PyProof.Rows L2 PySem.W
section
variable {X : Cx}
end
end Pv
end
section
set_option Elab.async false
set_option linter.all false
set_option autoImplicit false
set_option maxRecDepth 100000
set_option maxHeartbeats 2000000
namespace Pv
open PySem PySem.Spec PyProof.Rows L2 PySem.W
section
variable {X : Cx}
end
end Pv
end
section
set_option Elab.async false
set_option linter.all false
set_option maxRecDepth 100000
set_option maxHeartbeats 2000000
namespace Pv.K11
open PySem Pv Pv.Pg Pv.Lw
def b__law_some : SemS := (sSeq (sSet 3 (sCall [.r, .v] F__law_take (mR (sVar 0) (mV (sCB lenF (pCons (sVar 1) pNil)) mNil)))) (sRet (sSl slF (sOp addF (sSl slF (sVar 1) (oSome (sVar 3)) oNone) (sSl slF (sVar 1) oNone (oSome (sVar 3)))) oNone (oSome (sVar 2)))))
def F__law_some : Fn := fnOf 4 [.r, .v, .v] b__law_some
abbrev L1__law_parts (self_ : Fn) : SemS := (sSeq (sExpr (sMut "list" 1 appendM (sCons (sOp addF (sOp addF (sSl slF (sVar 2) oNone (oSome (sVar 3))) (sLst (sCons (sLst (sCons (sOp ixG (sVar 0) (sC (.int 0))) sNil)) sNil))) (sSl slF (sVar 2) (oSome (sVar 3)) oNone)) sNil))) (sIfS (sTest (sOp ltF (sVar 3) (sCB lenF (pCons (sVar 2) pNil)))) (sSeq (sSet 4 (sLst (sCons (sOp addF (sLst (sCons (sOp ixG (sVar 0) (sC (.int 0))) sNil)) (sOp ixG (sVar 2) (sVar 3))) sNil))) (sExpr (sMut "list" 1 appendM (sCons (sOp addF (sOp addF (sSl slF (sVar 2) oNone (oSome (sVar 3))) (sVar 4)) (sSl slF (sVar 2) (oSome (sOp addF (sVar 3) (sC (.int 1)))) oNone)) sNil)))) sNx))
abbrev L2__law_parts (self_ : Fn) : SemS := (sFor (iR1 (pCons (sOp addF (sCB lenF (pCons (sVar 2) pNil)) (sC (.int 1))) pNil)) (gN 3) (L1__law_parts self_))
def b__law_parts (self_ : Fn) : SemS := (sSeq (sIfS (sTest (sOp eqF (sVar 0) (sLst sNil))) (sRet (sLst (sCons (sLst sNil) sNil))) sNx) (sSeq (sSet 1 (sLst sNil)) (sSeq (sFor (iOf walkOf (sCall [.v] self_ (mV (sSl slF (sVar 0) (oSome (sC (.int 1))) oNone) mNil))) (gN 2) (L2__law_parts self_)) (sRet (sVar 1)))))
def F__law_parts : Nat → Fn
  | 0 => fnNone
  | n + 1 => fnOf 5 [.v] (b__law_parts (F__law_parts n))
abbrev L1__law_every : SemS := (sSeq (sSet 4 (sIf (sTest (sOp eqF (sOp modF (sCB intF (pCons (sCB lenF (pCons (sVar 4) pNil)) pNil)) (sC (.int 2))) (sC (.int 1)))) (sOp addF (sVar 4) (sLst (sCons (sTup sNil) sNil))) (sVar 4))) (sExpr (sMut "list" 1 appendM (sCons (sCB tupleF2 (pCons (sVar 4) pNil)) sNil))))
abbrev L2__law_every : SemS := (sSeq (sSet 3 (sLc (gN 5) sYes (sCB tupleF2 (pCons (sCB sortedF2 (pCons (sVar 5) pNil)) pNil)) [5] (iOf walkOf (sVar 2)))) (sFor (iOf walkOf (sLst (sCons (sVar 3) (sCons (sSl slF (sVar 3) (oSome (sC (.int 1))) oNone) sNil)))) (gN 4) L1__law_every))
def b__law_every : SemS := (sSeq (sSet 1 (sLst (sCons (sTup sNil) sNil))) (sSeq (sFor (iOf walkOf (sCall [.v] (F__law_parts 45) (mV (sCB sortedF2 (pCons (sVar 0) pNil)) mNil))) (gN 2) L2__law_every) (sRet (sSortSetD (sVar 1)))))
def F__law_every : Fn := fnOf 6 [.v] b__law_every
abbrev L1__law_rows : SemS := (sSet 3 (sOp addF (sVar 3) (sCB listF (pCons (sVar 4) pNil))))
abbrev L2__law_rows : SemS := (sSub 1 (sVar 5) (sVar 3))
abbrev L3__law_rows : SemS := (sSeq (sSet 3 (sLst sNil)) (sSeq (sFor (iOf walkOf (sStep2 (sVar 0) (sOp addF (sVar 2) (sC (.int 1))))) (gN 4) L1__law_rows) (sFor (iOf walkOf (sOp ixG (sVar 0) (sVar 2))) (gN 5) L2__law_rows)))
def b__law_rows : SemS := (sSeq (sSet 1 sDct0) (sSeq (sFor (iR3 (pCons (sC (.int 0)) (pCons (sCB lenF (pCons (sVar 0) pNil)) (pCons (sC (.int 2)) pNil)))) (gN 2) L3__law_rows) (sRet (sVar 1))))
def F__law_rows : Fn := fnOf 6 [.v] b__law_rows
abbrev L1__law_fit : SemS := (sIfS (sTruth (sCB anyF (pCons (sLc (gN 3) sYes (sAndV (sOp inF (sVar 3) (sVar 1)) (sOp inF (sVar 2) (sOp ixG (sVar 1) (sVar 3)))) [3] (iOf walkOf (sOp ixG (sVar 0) (sVar 2)))) pNil))) (sRet (sC (.bool false))) sNx)
def b__law_fit : SemS := (sSeq (sIfS (sTruth (sCB anyF (pCons (sLcS (gN 2) sYes (sOp inF (sVar 2) (sVar 1)) [2] (iOf walkOf (sVar 0))) pNil))) (sRet (sC (.bool false))) sNx) (sSeq (sFor (iOf walkOf (sVar 0)) (gN 2) L1__law_fit) (sRet (sC (.bool true)))))
def F__law_fit : Fn := fnOf 4 [.v, .v] b__law_fit
abbrev L1__law_below : SemS := (sSeq (sIfS (sTest (sOp notInF (sVar 2) (sVar 1))) (sRet (sC (.bool false))) sNx) (sIfS (sNot (sTruth (sCB allF (pCons (sLc (gN 3) sYes (sOrV (sOp inF (sVar 3) (sVar 1)) (sOp inF (sVar 3) (sOp ixG (sVar 1) (sVar 2)))) [3] (iOf walkOf (sOp ixG (sVar 0) (sVar 2)))) pNil)))) (sRet (sC (.bool false))) sNx))
def b__law_below : SemS := (sSeq (sFor (iOf walkOf (sVar 0)) (gN 2) L1__law_below) (sRet (sC (.bool true))))
def F__law_below : Fn := fnOf 4 [.v, .v] b__law_below
def b__law_one_of : SemS := (sRet (sOp ixG (sVar 1) (sCall [.r, .v] F__law_take (mR (sVar 0) (mV (sCB lenF (pCons (sVar 1) pNil)) mNil)))))
def F__law_one_of : Fn := fnOf 2 [.r, .v] b__law_one_of
abbrev L1__law_least : SemS := (sIfS (sNot (sTruth (sCB anyF (pCons (sLc (gT 2 (gsCons (gN 4) (gsCons (gN 5) gsNil))) sYes (sCall [.v, .v] F__law_below (mV (sVar 5) (mV (sVar 3) mNil))) [4, 5] (iOf walkOf (sVar 1))) pNil)))) (sSet 1 (sOp addF (sLc (gT 2 (gsCons (gN 4) (gsCons (gN 5) gsNil))) (sNot (sTruth (sCall [.v, .v] F__law_below (mV (sVar 3) (mV (sVar 5) mNil))))) (sTup (sCons (sVar 4) (sCons (sVar 5) sNil))) [4, 5] (iOf walkOf (sVar 1))) (sLst (sCons (sTup (sCons (sVar 2) (sCons (sVar 3) sNil))) sNil)))) sNx)
def b__law_least : SemS := (sSeq (sSet 1 (sLst sNil)) (sSeq (sFor (iOf walkOf (sVar 0)) (gT 2 (gsCons (gN 2) (gsCons (gN 3) gsNil))) L1__law_least) (sRet (sCB tupleF2 (pCons (sCB sortedF2 (pCons (sLcS (gT 2 (gsCons (gN 2) (gsCons (gN 3) gsNil))) sYes (sVar 2) [2, 3] (iOf walkOf (sVar 1))) pNil)) pNil)))))
def F__law_least : Fn := fnOf 6 [.v] b__law_least
def b__law_good : SemS := (sSeq (sSet 3 (sCB strF (pCons (sLst (sCons (sVar 0) (sCons (sVar 1) sNil))) pNil))) (sSeq (sSet 4 (sLc (gN 7) sYes (sTup (sCons (sVar 7) (sCons (sCall [.v] F__law_rows (mV (sVar 7) mNil)) sNil))) [7] (iOf walkOf (sVar 2)))) (sSeq (sSet 5 (sLc (gN 7) sYes (sCall [.v] F__law_rows (mV (sVar 7) mNil)) [7] (iOf walkOf (sVar 0)))) (sSeq (sFzS 5 (sSet 4 (sLc (gT 2 (gsCons (gN 7) (gsCons (gN 8) gsNil))) (sNot (sTruth (sCB anyF (pCons (sLc (gN 9) sYes (sCall [.v, .v] F__law_fit (mV (sVar 8) (mV (sVar 9) mNil))) [9] (iOf walkOf (sVar 5))) pNil)))) (sTup (sCons (sVar 7) (sCons (sVar 8) sNil))) [7, 8] (iOf walkOf (sVar 4))))) (sSeq (sSet 6 (sCall [.v, .v] F_blockers (mV (sVar 0) (mV (sVar 1) mNil)))) (sRet (sAndV (sOp eqF (sVar 6) (sCall [.v] F__law_least (mV (sVar 4) mNil))) (sOp eqF (sCB strF (pCons (sLst (sCons (sVar 0) (sCons (sVar 1) sNil))) pNil)) (sVar 3)))))))))
def F__law_good : Fn := fnOf 10 [.v, .v, .v] b__law_good
abbrev L1_law : SemS := (sSeq (sFzS 5 (sSet 7 (sLc (gN 9) sYes (sCall [.r, .v] F__law_one_of (mR (sVar 2) (mV (sVar 5) mNil))) [9] (iR1 (pCons (sCall [.r, .v] F__law_take (mR (sVar 2) (mV (sC (.int 5)) mNil))) pNil))))) (sSeq (sIfS (sNot (sTruth (sCall [.v, .v, .v] F__law_good (mV (sCB tupleF2 (pCons (sVar 7) pNil)) (mV (sVar 4) (mV (sVar 5) mNil)))))) (sRet (sC (.bool false))) sNx) (sIfS (sNot (sTruth (sCall [.v, .v, .v] F__law_good (mV (sCB tupleF2 (pCons (sSortSetD (sVar 7)) pNil)) (mV (sVar 4) (mV (sVar 5) mNil)))))) (sRet (sC (.bool false))) sNx)))
abbrev L2_law : SemS := (sSeq (sSet 2 (sLst (sCons (sCall [.s, .v] F__law_cell (mS 0 (mV (sVar 1) mNil))) sNil))) (sSeq (sSet 3 (sOp addF (sC (.int 1)) (sCall [.r, .v] F__law_take (mR (sVar 2) (mV (sC (.int 4)) mNil))))) (sSeq (sSet 4 (sCB tupleF2 (pCons (sCB sortedF2 (pCons (sCall [.r, .v, .v] F__law_some (mR (sVar 2) (mV (sLst (sCons (sC (.str "a")) (sCons (sC (.str "ab")) (sCons (sC (.str "b")) (sCons (sC (.str "here")) (sCons (sC (.str "longlock")) (sCons (sC (.str "z")) sNil))))))) (mV (sVar 3) mNil)))) pNil)) pNil))) (sSeq (sSet 5 (sCall [.v] F__law_every (mV (sVar 4) mNil))) (sFor (iR1 (pCons (sC (.int 4)) pNil)) (gN 6) L1_law)))))
def b_law : SemS := (sSeq (sFor (iR1 (pCons (sCB maxF (pCons (sCB minF (pCons (sLenScr 0) (pCons (sC (.int 5)) pNil))) (pCons (sC (.int 1)) pNil))) pNil)) (gN 1) L2_law) (sSeq (sSet 5 (sCall [.v] F__law_every (mV (sLst (sCons (sC (.str "a")) (sCons (sC (.str "b")) (sCons (sC (.str "c")) sNil)))) mNil))) (sSeq (sIfS (sNot (sTruth (sCB allF (pCons (sFz 5 (sLc (gN 10) sYes (sCall [.v, .v, .v] F__law_good (mV (sTup (sCons (sVar 10) sNil)) (mV (sTup (sCons (sC (.str "a")) (sCons (sC (.str "b")) (sCons (sC (.str "c")) sNil)))) (mV (sVar 5) mNil)))) [10] (iOf walkOf (sVar 5)))) pNil)))) (sRet (sC (.bool false))) sNx) (sSeq (sIfS (sOr (sTest (sOp neF (sCall [.v, .v] F_blockers (mV (sTup sNil) (mV (sTup (sCons (sC (.str "a")) sNil)) mNil))) (sTup (sCons (sTup sNil) sNil)))) (sOr (sTest (sOp neF (sCall [.v, .v] F_blockers (mV (sTup (sCons (sTup sNil) sNil)) (mV (sTup (sCons (sC (.str "a")) (sCons (sC (.str "b")) sNil))) mNil))) (sTup sNil))) (sTest (sOp neF (sCall [.v, .v] F_blockers (mV (sTup sNil) (mV (sTup sNil) mNil))) (sTup (sCons (sTup sNil) sNil)))))) (sRet (sC (.bool false))) sNx) (sSeq (sIfS (sOr (sTest (sOp neF (sCall [.v, .v] F_blockers (mV (sTup (sCons (sTup sNil) sNil)) (mV (sTup sNil) mNil))) (sTup sNil))) (sTest (sOp neF (sCall [.v, .v] F_blockers (mV (sTup (sCons (sTup sNil) (sCons (sTup sNil) sNil))) (mV (sTup sNil) mNil))) (sTup sNil)))) (sRet (sC (.bool false))) sNx) (sSeq (sSet 8 (sTup (sCons (sTup (sCons (sTup (sCons (sC (.str "a")) sNil)) (sCons (sTup sNil) sNil))) (sCons (sTup (sCons (sTup (sCons (sC (.str "b")) sNil)) (sCons (sTup sNil) sNil))) sNil)))) (sSeq (sIfS (sOr (sTest (sOp neF (sCall [.v, .v] F_blockers (mV (sVar 8) (mV (sTup (sCons (sC (.str "a")) (sCons (sC (.str "b")) sNil))) mNil))) (sTup (sCons (sTup (sCons (sTup (sCons (sC (.str "a")) (sCons (sC (.str "b")) sNil))) (sCons (sTup sNil) sNil))) sNil)))) (sTest (sOp neF (sCall [.v, .v] F_blockers (mV (sTup (sCons (sTup (sCons (sTup (sCons (sC (.str "a")) (sCons (sC (.str "b")) sNil))) (sCons (sTup sNil) sNil))) sNil)) (mV (sTup (sCons (sC (.str "a")) (sCons (sC (.str "b")) sNil))) mNil))) (sVar 8)))) (sRet (sC (.bool false))) sNx) (sRet (sAndV (sOp eqF (sCall [.v, .v] F_blockers (mV (sTup (sCons (sTup (sCons (sTup (sCons (sC (.str "a")) sNil)) (sCons (sTup sNil) sNil))) sNil)) (mV (sTup (sCons (sC (.str "a")) sNil)) mNil))) (sTup (sCons (sTup (sCons (sTup (sCons (sC (.str "a")) sNil)) (sCons (sTup sNil) sNil))) sNil))) (sOp eqF (sCall [.v, .v] F_blockers (mV (sTup sNil) (mV (sTup (sCons (sC (.str "a")) (sCons (sC (.str "b")) sNil))) mNil))) (sTup (sCons (sTup sNil) sNil))))))))))))
def F_law : Fn := fnOf 11 [.s] b_law
end Pv.K11
end
section
set_option Elab.async false
set_option linter.all false
set_option maxRecDepth 100000
set_option maxHeartbeats 2000000
namespace Pv.K11
open PySem PySem.Spec PyProof.Rows L2 PySem.W Pv Pv.Pg Pv.Lw
abbrev top (i : Nat) : Stmt := PySem.Challenge.pw_nestedholds_k11_blockers.main.body.getD i (.Pass ⟨0, 0, 0, 0⟩)
structure Tops (K : Fr') (mg : Str → Option Value) : Prop where
  h_is_name : Here K mg "is_name" (top 7)
  h_is_set : Here K mg "is_set" (top 11)
  h_is_profile : Here K mg "is_profile" (top 12)
  h_check_profiles : Here K mg "check_profiles" (top 13)
  h_check_locks : Here K mg "check_locks" (top 14)
  h_together : Here K mg "together" (top 15)
  h_without_names : Here K mg "without_names" (top 16)
  h_rows_of : Here K mg "rows_of" (top 17)
  h_made : Here K mg "made" (top 18)
  h_is_below : Here K mg "is_below" (top 19)
  h_least_rows : Here K mg "least_rows" (top 20)
  h_names_in : Here K mg "names_in" (top 21)
  h_do_fit : Here K mg "do_fit" (top 22)
  h_subsets : Here K mg "subsets" (top 23)
  h_profiles_from : Here K mg "profiles_from" (top 24)
  h_blockers : Here K mg "blockers" (top 27)
  h__law_mixed : Here K mg "_law_mixed" (top 29)
  h__law_cell : Here K mg "_law_cell" (top 30)
  h__law_take : Here K mg "_law_take" (top 31)
  h__law_some : Here K mg "_law_some" (top 32)
  h__law_parts : Here K mg "_law_parts" (top 33)
  h__law_every : Here K mg "_law_every" (top 34)
  h__law_rows : Here K mg "_law_rows" (top 35)
  h__law_fit : Here K mg "_law_fit" (top 36)
  h__law_below : Here K mg "_law_below" (top 37)
  h__law_one_of : Here K mg "_law_one_of" (top 38)
  h__law_least : Here K mg "_law_least" (top 39)
  h__law_good : Here K mg "_law_good" (top 40)
  h_law : Here K mg "law" (top 41)
  z_all : mg "all" = none
  z_any : mg "any" = none
  z_dict : mg "dict" = none
  z_int : mg "int" = none
  z_isinstance : mg "isinstance" = none
  z_len : mg "len" = none
  z_list : mg "list" = none
  z_max : mg "max" = none
  z_min : mg "min" = none
  z_range : mg "range" = none
  z_set : mg "set" = none
  z_sorted : mg "sorted" = none
  z_str : mg "str" = none
  z_tuple : mg "tuple" = none
  z_zip : mg "zip" = none
  g_LETTERS : ∃ t, mg "LETTERS" = some (.str "abcdefghijklmnopqrstuvwxyz" t)
  g_LONGEST : ∃ t, mg "LONGEST" = some (.int 8 t)
  g_MOST_LOCKS : ∃ t, mg "MOST_LOCKS" = some (.int 4 t)
  g_MOST_NAMES : ∃ t, mg "MOST_NAMES" = some (.int 8 t)
  g_MOST_PROFILES : ∃ t, mg "MOST_PROFILES" = some (.int 150 t)
section
variable {P : Program} {w : World} {K : Fr'} {mg : Str → Option Value} {base : Heap}
abbrev N_is_name : List Str := ["value", "letter"]
theorem c_is_name (T : Tops K mg) : Cal P w K mg base "is_name" 1 ["value"] [.v] F_is_name := by
  have S : FnScope N_is_name ["value"] (defScope (top 7)) := ⟨rfl, rfl, rfl, by decide +kernel, rfl, by decide +kernel, by decide +kernel⟩
  refine Cal.mk_ (k := 0) T.h_is_name S rfl (fun _ _ _ _ _ _ us hl => match us, hl with | [_], _ => rfl) fun f cdv A outer s H E hr gd0 => ?_
  have hu : (A.deeper (envOfC "is_name" (defScope (top 7)) s.heap.objs.size f cdv)).units + 100 < cLine := hu_room hr
  have gd : (A.deeper (envOfC "is_name" (defScope (top 7)) s.heap.objs.size f cdv)).guards = some [] := gd0
  exact (dss_one (ds_ret (de_and (de_isi rfl T.z_isinstance rfl T.z_str rfl (by decide) (de_var (pv 0))) (de_and (de_chain or_le or_le de_int (de_callB cr_len rfl T.z_len rfl (dp_cons (de_var (pv 0)) dp_nil)) (de_gint rfl T.g_LONGEST)) (de_one (de_callB (cr_allD rfl) rfl T.z_all rfl (dp_cons (de_lc (own := [("letter", 1)]) (di_anyW (de_var (pv 0))) (blkOk_by rfl) (fun _ _ _ _ _ => (dg_name (pg_name S.nd rfl (by first | exact Or.inl rfl | exact Or.inr rfl)))) (fun _ _ _ _ _ => dts_nil) (fun _ _ _ _ _ => (de_cmp (or_inH hu) (de_var (pv 1)) (de_gstr rfl T.g_LETTERS) (by with_unfolding_all rfl))) (by decide) rfl S.nd) dp_nil)))))))
abbrev N_is_set : List Str := ["value", "one", "other", "name"]
theorem c_is_set (T : Tops K mg) : Cal P w K mg base "is_set" 2 ["value"] [.v] F_is_set := by
  have S : FnScope N_is_set ["value"] (defScope (top 11)) := ⟨rfl, rfl, rfl, by decide +kernel, rfl, by decide +kernel, by decide +kernel⟩
  refine Cal.mk_ (k := 1) T.h_is_set S rfl (fun _ _ _ _ _ _ us hl => match us, hl with | [_], _ => rfl) fun f cdv A outer s H E hr gd0 => ?_
  have hu : (A.deeper (envOfC "is_set" (defScope (top 11)) s.heap.objs.size f cdv)).units + 100 < cLine := hu_room hr
  have gd : (A.deeper (envOfC "is_set" (defScope (top 11)) s.heap.objs.size f cdv)).guards = some [] := gd0
  exact (dss_cons (ds_if (dw_dt (dw_or (dt_not (dt_truth (de_isi rfl T.z_isinstance rfl T.z_tuple rfl (by decide) (de_var (pv 0))))) (dw_or1 (dt_not (dt_truth (de_callB (cr_allD rfl) rfl T.z_all rfl (dp_cons (de_lc (own := [("name", 3)]) (di_anyW (de_var (pv 0))) (blkOk_by rfl) (fun _ _ _ _ _ => (dg_name (pg_name S.nd rfl (by first | exact Or.inl rfl | exact Or.inr rfl)))) (fun _ _ _ _ _ => dts_nil) (fun _ _ _ _ _ => (de_cal (c_is_name T) hr (by decide) gd rfl (dm_v (de_var (pv 3)) dm_nil))) (by decide) rfl S.nd) dp_nil))))))) (dss_one (ds_ret de_bool)) dss_nil) (dss_one (ds_ret (de_callB (cr_allD rfl) rfl T.z_all rfl (dp_cons (de_lc (own := [("one", 1), ("other", 2)]) (di_zipW rfl T.z_zip (da_cons (de_var (pv 0)) (da_cons (de_slice sr_sl (de_var (pv 0)) (do_some de_int) do_none) da_nil))) (blkOk_by rfl) (fun _ _ _ _ _ => (dg_tup (dgs_cons (dg_name (pg_name S.nd rfl (by first | exact Or.inl rfl | exact Or.inr rfl))) (dgs_cons (dg_name (pg_name S.nd rfl (by first | exact Or.inl rfl | exact Or.inr rfl))) dgs_nil)) rfl)) (fun _ _ _ _ _ => dts_nil) (fun _ _ _ _ _ => (de_cmp or_lt (de_var (pv 1)) (de_var (pv 2)) (nomark _))) (by decide) rfl S.nd) dp_nil)))))
abbrev N_is_profile : List Str := ["value", "names", "some", "name"]
theorem c_is_profile (T : Tops K mg) : Cal P w K mg base "is_profile" 3 ["value"] [.v] F_is_profile := by
  have S : FnScope N_is_profile ["value"] (defScope (top 12)) := ⟨rfl, rfl, rfl, by decide +kernel, rfl, by decide +kernel, by decide +kernel⟩
  refine Cal.mk_ (k := 2) T.h_is_profile S rfl (fun _ _ _ _ _ _ us hl => match us, hl with | [_], _ => rfl) fun f cdv A outer s H E hr gd0 => ?_
  have hu : (A.deeper (envOfC "is_profile" (defScope (top 12)) s.heap.objs.size f cdv)).units + 100 < cLine := hu_room hr
  have gd : (A.deeper (envOfC "is_profile" (defScope (top 12)) s.heap.objs.size f cdv)).guards = some [] := gd0
  exact (dss_cons (ds_if (dw_dt (dw_or (dt_not (dt_truth (de_isi rfl T.z_isinstance rfl T.z_tuple rfl (by decide) (de_var (pv 0))))) (dw_or (dt_cmp (or_eqH hu) (de_op or_mod (de_callB cr_len rfl T.z_len rfl (dp_cons (de_var (pv 0)) dp_nil)) de_int) de_int (nomark _)) (dw_or1 (dt_cmp or_gt (de_callB cr_len rfl T.z_len rfl (dp_cons (de_var (pv 0)) dp_nil)) (de_op or_mul de_int (de_gint rfl T.g_MOST_NAMES)) (nomark _)))))) (dss_one (ds_ret de_bool)) dss_nil) (dss_cons (ds_if (dw_dt (dw_or (dt_not (dt_truth (de_callB (cr_allD rfl) rfl T.z_all rfl (dp_cons (de_lc (own := [("some", 2)]) (di_anyW (de_var (pv 0))) (blkOk_by rfl) (fun _ _ _ _ _ => (dg_name (pg_name S.nd rfl (by first | exact Or.inl rfl | exact Or.inr rfl)))) (fun _ _ _ _ _ => dts_nil) (fun _ _ _ _ _ => (de_cal (c_is_set T) hr (by decide) gd rfl (dm_v (de_var (pv 2)) dm_nil))) (by decide) rfl S.nd) dp_nil)))) (dw_or1 (dt_cmp (or_inH hu) (de_tup da_nil) (de_slice sr_sl (de_var (pv 0)) do_none (do_some (de_neg de_int))) (by with_unfolding_all rfl))))) (dss_one (ds_ret de_bool)) dss_nil) (dss_cons (ds_setLc2 (vs1 := [3]) rfl rfl (by rfl) (own := [("some", 2), ("name", 3)]) (di_anyW (de_var (pv 0))) (blkOk_by rfl) (fun _ _ _ _ _ => (dg_name (pg_name S.nd rfl (by first | exact Or.inl rfl | exact Or.inr rfl)))) (fun _ _ _ _ _ => dts_nil) (fun _ _ _ _ _ => (di_anyW (de_var (pv 2)))) (fun _ _ _ _ _ => (dg_name (pg_name S.nd rfl (by first | exact Or.inl rfl | exact Or.inr rfl)))) (fun _ _ _ _ _ => dts_nil) (fun _ _ _ _ _ => (de_var (pv 3))) (by decide) (by decide) (by decide) rfl S.nd) (dss_one (ds_ret (de_and (de_cmp or_le (de_callB cr_len rfl T.z_len rfl (dp_cons (de_var (pv 1)) dp_nil)) (de_gint rfl T.g_MOST_NAMES) (nomark _)) (de_one (de_cmp (or_eqH hu) (de_lenSet rfl rfl T.z_len rfl T.z_set (de_var (pv 1))) (de_callB cr_len rfl T.z_len rfl (dp_cons (de_var (pv 1)) dp_nil)) (nomark _)))))))))
abbrev N_check_profiles : List Str := ["profiles", "profile"]
theorem c_check_profiles (T : Tops K mg) : Cal P w K mg base "check_profiles" 4 ["profiles"] [.v] F_check_profiles := by
  have S : FnScope N_check_profiles ["profiles"] (defScope (top 13)) := ⟨rfl, rfl, rfl, by decide +kernel, rfl, by decide +kernel, by decide +kernel⟩
  refine Cal.mk_ (k := 3) T.h_check_profiles S rfl (fun _ _ _ _ _ _ us hl => match us, hl with | [_], _ => rfl) fun f cdv A outer s H E hr gd0 => ?_
  have hu : (A.deeper (envOfC "check_profiles" (defScope (top 13)) s.heap.objs.size f cdv)).units + 100 < cLine := hu_room hr
  have gd : (A.deeper (envOfC "check_profiles" (defScope (top 13)) s.heap.objs.size f cdv)).guards = some [] := gd0
  exact (dss_cons (ds_if (dw_dt (dw_or (dt_not (dt_truth (de_isi rfl T.z_isinstance rfl T.z_tuple rfl (by decide) (de_var (pv 0))))) (dw_or1 (dt_cmp or_gt (de_callB cr_len rfl T.z_len rfl (dp_cons (de_var (pv 0)) dp_nil)) (de_gint rfl T.g_MOST_PROFILES) (nomark _))))) (dss_one ds_never) dss_nil) (dss_one (ds_if (dt_not (dt_truth (de_callB (cr_allD rfl) rfl T.z_all rfl (dp_cons (de_lc (own := [("profile", 1)]) (di_anyW (de_var (pv 0))) (blkOk_by rfl) (fun _ _ _ _ _ => (dg_name (pg_name S.nd rfl (by first | exact Or.inl rfl | exact Or.inr rfl)))) (fun _ _ _ _ _ => dts_nil) (fun _ _ _ _ _ => (de_cal (c_is_profile T) hr (by decide) gd rfl (dm_v (de_var (pv 1)) dm_nil))) (by decide) rfl S.nd) dp_nil)))) (dss_one ds_never) dss_nil)))
abbrev N_check_locks : List Str := ["locks", "most", "needed", "lock"]
theorem c_check_locks (T : Tops K mg) : Cal P w K mg base "check_locks" 3 ["locks", "most", "needed"] [.v, .v, .v] F_check_locks := by
  have S : FnScope N_check_locks ["locks", "most", "needed"] (defScope (top 14)) := ⟨rfl, rfl, rfl, by decide +kernel, rfl, by decide +kernel, by decide +kernel⟩
  refine Cal.mk_ (k := 2) T.h_check_locks S rfl (fun _ _ _ _ _ _ us hl => match us, hl with | [_, _, _], _ => rfl) fun f cdv A outer s H E hr gd0 => ?_
  have hu : (A.deeper (envOfC "check_locks" (defScope (top 14)) s.heap.objs.size f cdv)).units + 100 < cLine := hu_room hr
  have gd : (A.deeper (envOfC "check_locks" (defScope (top 14)) s.heap.objs.size f cdv)).guards = some [] := gd0
  exact (dss_one (ds_if (dw_dt (dw_or (dt_not (dt_truth (de_cal (c_is_set T) hr (by decide) gd rfl (dm_v (de_var (pv 0)) dm_nil)))) (dw_or (dt_cmp or_gt (de_callB cr_len rfl T.z_len rfl (dp_cons (de_var (pv 0)) dp_nil)) (de_var (pv 1)) (nomark _)) (dw_or1 (dt_not (dt_truth (de_callB (cr_allD rfl) rfl T.z_all rfl (dp_cons (de_lc (own := [("lock", 3)]) (di_anyW (de_var (pv 2))) (blkOk_by rfl) (fun _ _ _ _ _ => (dg_name (pg_name S.nd rfl (by first | exact Or.inl rfl | exact Or.inr rfl)))) (fun _ _ _ _ _ => dts_nil) (fun _ _ _ _ _ => (de_cmp (or_inH hu) (de_var (pv 3)) (de_var (pv 0)) (by with_unfolding_all rfl))) (by decide) rfl S.nd) dp_nil)))))))) (dss_one ds_never) dss_nil))
abbrev N_together : List Str := ["one", "other"]
theorem c_together (T : Tops K mg) : Cal P w K mg base "together" 1 ["one", "other"] [.v, .v] F_together := by
  have S : FnScope N_together ["one", "other"] (defScope (top 15)) := ⟨rfl, rfl, rfl, by decide +kernel, rfl, by decide +kernel, by decide +kernel⟩
  refine Cal.mk_ (k := 0) T.h_together S rfl (fun _ _ _ _ _ _ us hl => match us, hl with | [_, _], _ => rfl) fun f cdv A outer s H E hr gd0 => ?_
  have hu : (A.deeper (envOfC "together" (defScope (top 15)) s.heap.objs.size f cdv)).units + 100 < cLine := hu_room hr
  have gd : (A.deeper (envOfC "together" (defScope (top 15)) s.heap.objs.size f cdv)).guards = some [] := gd0
  exact (dss_one (ds_ret (de_callTy (cr_tuple2 rfl) rfl T.z_tuple rfl (dp_cons (de_sortSet rfl hu rfl T.z_sorted rfl T.z_set (de_op or_add (de_var (pv 0)) (de_var (pv 1)))) dp_nil))))
abbrev N_without_names : List Str := ["names", "others", "name"]
theorem c_without_names (T : Tops K mg) : Cal P w K mg base "without_names" 1 ["names", "others"] [.v, .v] F_without_names := by
  have S : FnScope N_without_names ["names", "others"] (defScope (top 16)) := ⟨rfl, rfl, rfl, by decide +kernel, rfl, by decide +kernel, by decide +kernel⟩
  refine Cal.mk_ (k := 0) T.h_without_names S rfl (fun _ _ _ _ _ _ us hl => match us, hl with | [_, _], _ => rfl) fun f cdv A outer s H E hr gd0 => ?_
  have hu : (A.deeper (envOfC "without_names" (defScope (top 16)) s.heap.objs.size f cdv)).units + 100 < cLine := hu_room hr
  have gd : (A.deeper (envOfC "without_names" (defScope (top 16)) s.heap.objs.size f cdv)).guards = some [] := gd0
  exact (dss_one (ds_ret (de_callTy (cr_tuple2 rfl) rfl T.z_tuple rfl (dp_cons (de_lc (own := [("name", 2)]) (di_anyW (de_var (pv 0))) (blkOk_by rfl) (fun _ _ _ _ _ => (dg_name (pg_name S.nd rfl (by first | exact Or.inl rfl | exact Or.inr rfl)))) (fun _ _ _ _ _ => (dts_one (dt_cmp (or_notInH hu) (de_var (pv 2)) (de_var (pv 1)) (by with_unfolding_all rfl)))) (fun _ _ _ _ _ => (de_var (pv 2))) (by decide) rfl S.nd) dp_nil))))
abbrev N_rows_of : List Str := ["profile", "used", "found", "at", "lock"]
theorem c_rows_of (T : Tops K mg) : Cal P w K mg base "rows_of" 2 ["profile"] [.v] F_rows_of := by
  have S : FnScope N_rows_of ["profile"] (defScope (top 17)) := ⟨rfl, rfl, rfl, by decide +kernel, rfl, by decide +kernel, by decide +kernel⟩
  refine Cal.mk_ (k := 1) T.h_rows_of S rfl (fun _ _ _ _ _ _ us hl => match us, hl with | [_], _ => rfl) fun f cdv A outer s H E hr gd0 => ?_
  have hu : (A.deeper (envOfC "rows_of" (defScope (top 17)) s.heap.objs.size f cdv)).units + 100 < cLine := hu_room hr
  have gd : (A.deeper (envOfC "rows_of" (defScope (top 17)) s.heap.objs.size f cdv)).guards = some [] := gd0
  exact (dss_cons (ds_par2 (ms := [.v, .r]) rfl S.nd rfl rfl (Or.inr rfl) (Or.inl rfl) (dm_v (de_tup da_nil) (dm_r de_dct0 dm_nil))) (dss_cons (ds_for (di_rangeW3 rfl T.z_range (dp_cons (de_op or_sub (de_callB cr_len rfl T.z_len rfl (dp_cons (de_var (pv 0)) dp_nil)) de_int) (dp_cons (de_neg de_int) (dp_cons (de_neg de_int) dp_nil)))) (dg_name (pg_name S.nd rfl (by first | exact Or.inl rfl | exact Or.inr rfl))) (dss_cons (ds_setN S.nd rfl (Or.inr rfl) (de_cal (c_together T) hr (by decide) gd rfl (dm_v (de_var (pv 1)) (dm_v (de_ixG (hu64 hu) ir_ix (de_var (pv 0)) (de_op or_add (de_var (pv 3)) de_int)) dm_nil)))) (dss_one (ds_expr (de_mut PySem.F.plainAttrs_dict PySem.F.slot_dict_update PySem.F.type_dict_update mt_updateD (pv 2) (da_cons (de_dc (own := [("lock", 4)]) (di_anyW (de_ixG (hu64 hu) ir_ix (de_var (pv 0)) (de_var (pv 3)))) (blkOk_by rfl) (fun _ _ _ _ _ => (dg_name (pg_name S.nd rfl (by first | exact Or.inl rfl | exact Or.inr rfl)))) (fun _ _ _ _ _ => dts_nil) (fun _ _ _ _ _ => (de_var (pv 4))) (fun _ _ _ _ _ => (de_var (pv 1))) (by decide) rfl S.nd) da_nil))))) pass_nox rfl) (dss_one (ds_ret (de_var (pv 2))))))
abbrev N_made : List Str := ["rows", "found", "left", "most", "first", "used", "rest", "lock", "some", "name"]
theorem c_made (T : Tops K mg) : Cal P w K mg base "made" 2 ["rows"] [.v] F_made := by
  have S : FnScope N_made ["rows"] (defScope (top 18)) := ⟨rfl, rfl, rfl, by decide +kernel, rfl, by decide +kernel, by decide +kernel⟩
  refine Cal.mk_ (k := 1) T.h_made S rfl (fun _ _ _ _ _ _ us hl => match us, hl with | [_], _ => rfl) fun f cdv A outer s H E hr gd0 => ?_
  have hu : (A.deeper (envOfC "made" (defScope (top 18)) s.heap.objs.size f cdv)).units + 100 < cLine := hu_room hr
  have gd : (A.deeper (envOfC "made" (defScope (top 18)) s.heap.objs.size f cdv)).guards = some [] := gd0
  exact (dss_cons (ds_par (ms := [.r, .r]) rfl S.nd rfl rfl (by decide) rfl rfl (dm_r (de_lst da_nil) (dm_r (de_callTy cr_dictD rfl T.z_dict rfl (dp_cons (de_var (pv 0)) dp_nil)) dm_nil)) (by rfl)) (dss_cons (ds_while (dt_truthD (de_var (pv 2))) (dss_cons (ds_setN S.nd rfl (Or.inr rfl) (de_callB (cr_maxD rfl) rfl T.z_max rfl (dp_cons (de_lcS (own := [("used", 5)]) (di_valuesW (de_var (pv 2))) (blkOk_by rfl) (fun _ _ _ _ _ => (dg_name (pg_name S.nd rfl (by first | exact Or.inl rfl | exact Or.inr rfl)))) (fun _ _ _ _ _ => dts_nil) (fun _ _ _ _ _ => (de_callB cr_len rfl T.z_len rfl (dp_cons (de_var (pv 5)) dp_nil))) (by decide) rfl S.nd) dp_nil))) (dss_cons (ds_setN S.nd rfl (Or.inr rfl) (de_callTy (cr_tuple2 rfl) rfl T.z_tuple rfl (dp_cons (de_callB (cr_sorted2 rfl hu) rfl T.z_sorted rfl (dp_cons (de_lcS (own := [("lock", 7), ("used", 5)]) (di_itemsW (de_var (pv 2))) (blkOk_by rfl) (fun _ _ _ _ _ => (dg_tup (dgs_cons (dg_name (pg_name S.nd rfl (by first | exact Or.inl rfl | exact Or.inr rfl))) (dgs_cons (dg_name (pg_name S.nd rfl (by first | exact Or.inl rfl | exact Or.inr rfl))) dgs_nil)) rfl)) (fun _ _ _ _ _ => (dts_one (dt_cmp (or_eqH hu) (de_callB cr_len rfl T.z_len rfl (dp_cons (de_var (pv 5)) dp_nil)) (de_var (pv 3)) (nomark _)))) (fun _ _ _ _ _ => (de_var (pv 7))) (by decide) rfl S.nd) dp_nil)) dp_nil))) (dss_cons (ds_setN S.nd rfl (Or.inl rfl) (de_ixG (hu64 hu) ir_ix (de_var (pv 2)) (de_ixG (hu64 hu) ir_ix (de_var (pv 4)) de_int))) (dss_cons (ds_setDc rfl rfl (by rfl) (own := [("lock", 7), ("some", 8)]) (di_itemsW (de_var (pv 2))) (blkOk_by rfl) (fun _ _ _ _ _ => (dg_tup (dgs_cons (dg_name (pg_name S.nd rfl (by first | exact Or.inl rfl | exact Or.inr rfl))) (dgs_cons (dg_name (pg_name S.nd rfl (by first | exact Or.inl rfl | exact Or.inr rfl))) dgs_nil)) rfl)) (fun _ _ _ _ _ => (dts_one (dt_cmp (or_notInH hu) (de_var (pv 7)) (de_var (pv 4)) (by with_unfolding_all rfl)))) (fun _ _ _ _ _ => (de_var (pv 7))) (fun _ _ _ _ _ => (de_var (pv 8))) (by decide) rfl S.nd) (dss_cons (ds_setLc2 (vs1 := [9]) rfl rfl (by rfl) (own := [("some", 8), ("name", 9)]) (di_valuesW (de_var (pv 2))) (blkOk_by rfl) (fun _ _ _ _ _ => (dg_name (pg_name S.nd rfl (by first | exact Or.inl rfl | exact Or.inr rfl)))) (fun _ _ _ _ _ => dts_nil) (fun _ _ _ _ _ => (di_anyW (de_var (pv 8)))) (fun _ _ _ _ _ => (dg_name (pg_name S.nd rfl (by first | exact Or.inl rfl | exact Or.inr rfl)))) (fun _ _ _ _ _ => dts_nil) (fun _ _ _ _ _ => (de_var (pv 9))) (by decide) (by decide) (by decide) rfl S.nd) (dss_one (ds_setN S.nd rfl (Or.inl rfl) (de_op or_add (de_var (pv 1)) (de_lst (da_cons (de_var (pv 4)) (da_cons (de_cal (c_without_names T) hr (by decide) gd rfl (dm_v (de_var (pv 5)) (dm_v (de_var (pv 6)) dm_nil))) da_nil))))))))))) pass_nox) (dss_one (ds_ret (de_callTy (cr_tuple2 rfl) rfl T.z_tuple rfl (dp_cons (de_var (pv 1)) dp_nil))))))
abbrev N_is_below : List Str := ["one", "other", "lock", "used", "name"]
theorem c_is_below (T : Tops K mg) : Cal P w K mg base "is_below" 1 ["one", "other"] [.v, .v] F_is_below := by
  have S : FnScope N_is_below ["one", "other"] (defScope (top 19)) := ⟨rfl, rfl, rfl, by decide +kernel, rfl, by decide +kernel, by decide +kernel⟩
  refine Cal.mk_ (k := 0) T.h_is_below S rfl (fun _ _ _ _ _ _ us hl => match us, hl with | [_, _], _ => rfl) fun f cdv A outer s H E hr gd0 => ?_
  have hu : (A.deeper (envOfC "is_below" (defScope (top 19)) s.heap.objs.size f cdv)).units + 100 < cLine := hu_room hr
  have gd : (A.deeper (envOfC "is_below" (defScope (top 19)) s.heap.objs.size f cdv)).guards = some [] := gd0
  exact (dss_cons (ds_if (dt_not (dt_truth (de_callB (cr_allD rfl) rfl T.z_all rfl (dp_cons (de_lc (own := [("lock", 2)]) (di_anyW (de_var (pv 0))) (blkOk_by rfl) (fun _ _ _ _ _ => (dg_name (pg_name S.nd rfl (by first | exact Or.inl rfl | exact Or.inr rfl)))) (fun _ _ _ _ _ => dts_nil) (fun _ _ _ _ _ => (de_cmp (or_inH hu) (de_var (pv 2)) (de_var (pv 1)) (by with_unfolding_all rfl))) (by decide) rfl S.nd) dp_nil)))) (dss_one (ds_ret de_bool)) dss_nil) (dss_one (ds_ret (de_callB (cr_allD rfl) rfl T.z_all rfl (dp_cons (de_lc2 (vs1 := [4]) (own := [("lock", 2), ("used", 3), ("name", 4)]) (di_itemsW (de_var (pv 0))) (blkOk_by rfl) (fun _ _ _ _ _ => (dg_tup (dgs_cons (dg_name (pg_name S.nd rfl (by first | exact Or.inl rfl | exact Or.inr rfl))) (dgs_cons (dg_name (pg_name S.nd rfl (by first | exact Or.inl rfl | exact Or.inr rfl))) dgs_nil)) rfl)) (fun _ _ _ _ _ => dts_nil) (fun _ _ _ _ _ => (di_anyW (de_var (pv 3)))) (fun _ _ _ _ _ => (dg_name (pg_name S.nd rfl (by first | exact Or.inl rfl | exact Or.inr rfl)))) (fun _ _ _ _ _ => dts_nil) (fun _ _ _ _ _ => (de_or (de_cmp (or_inH hu) (de_var (pv 4)) (de_var (pv 1)) (by with_unfolding_all rfl)) (de_one (de_cmp (or_inH hu) (de_var (pv 4)) (de_ixG (hu64 hu) ir_ix (de_var (pv 1)) (de_var (pv 2))) (by with_unfolding_all rfl))))) (by decide) (by decide) (by decide) rfl S.nd) dp_nil)))))
abbrev N_least_rows : List Str := ["choices", "found", "one", "other"]
theorem c_least_rows (T : Tops K mg) : Cal P w K mg base "least_rows" 2 ["choices"] [.v] F_least_rows := by
  have S : FnScope N_least_rows ["choices"] (defScope (top 20)) := ⟨rfl, rfl, rfl, by decide +kernel, rfl, by decide +kernel, by decide +kernel⟩
  refine Cal.mk_ (k := 1) T.h_least_rows S rfl (fun _ _ _ _ _ _ us hl => match us, hl with | [_], _ => rfl) fun f cdv A outer s H E hr gd0 => ?_
  have hu : (A.deeper (envOfC "least_rows" (defScope (top 20)) s.heap.objs.size f cdv)).units + 100 < cLine := hu_room hr
  have gd : (A.deeper (envOfC "least_rows" (defScope (top 20)) s.heap.objs.size f cdv)).guards = some [] := gd0
  exact (dss_cons (ds_setN S.nd rfl (Or.inl rfl) (de_lst da_nil)) (dss_cons (ds_for (di_anyW (de_var (pv 0))) (dg_name (pg_name S.nd rfl (by first | exact Or.inl rfl | exact Or.inr rfl))) (dss_one (ds_if (dt_not (dt_truth (de_callB (cr_anyD rfl) rfl T.z_any rfl (dp_cons (de_lc (own := [("other", 3)]) (di_anyW (de_var (pv 1))) (blkOk_by rfl) (fun _ _ _ _ _ => (dg_name (pg_name S.nd rfl (by first | exact Or.inl rfl | exact Or.inr rfl)))) (fun _ _ _ _ _ => dts_nil) (fun _ _ _ _ _ => (de_cal (c_is_below T) hr (by decide) gd rfl (dm_v (de_var (pv 3)) (dm_v (de_var (pv 2)) dm_nil)))) (by decide) rfl S.nd) dp_nil)))) (dss_one (ds_setN S.nd rfl (Or.inl rfl) (de_op or_add (de_lc (own := [("other", 3)]) (di_anyW (de_var (pv 1))) (blkOk_by rfl) (fun _ _ _ _ _ => (dg_name (pg_name S.nd rfl (by first | exact Or.inl rfl | exact Or.inr rfl)))) (fun _ _ _ _ _ => (dts_one (dt_not (dt_truth (de_cal (c_is_below T) hr (by decide) gd rfl (dm_v (de_var (pv 2)) (dm_v (de_var (pv 3)) dm_nil))))))) (fun _ _ _ _ _ => (de_var (pv 3))) (by decide) rfl S.nd) (de_lst (da_cons (de_var (pv 2)) da_nil))))) dss_nil)) pass_nox rfl) (dss_one (ds_ret (de_var (pv 1))))))
abbrev N_names_in : List Str := ["profile", "some", "name"]
theorem c_names_in (T : Tops K mg) : Cal P w K mg base "names_in" 1 ["profile"] [.v] F_names_in := by
  have S : FnScope N_names_in ["profile"] (defScope (top 21)) := ⟨rfl, rfl, rfl, by decide +kernel, rfl, by decide +kernel, by decide +kernel⟩
  refine Cal.mk_ (k := 0) T.h_names_in S rfl (fun _ _ _ _ _ _ us hl => match us, hl with | [_], _ => rfl) fun f cdv A outer s H E hr gd0 => ?_
  have hu : (A.deeper (envOfC "names_in" (defScope (top 21)) s.heap.objs.size f cdv)).units + 100 < cLine := hu_room hr
  have gd : (A.deeper (envOfC "names_in" (defScope (top 21)) s.heap.objs.size f cdv)).guards = some [] := gd0
  exact (dss_one (ds_ret (de_lc2 (vs1 := [2]) (own := [("some", 1), ("name", 2)]) (di_anyW (de_var (pv 0))) (blkOk_by rfl) (fun _ _ _ _ _ => (dg_name (pg_name S.nd rfl (by first | exact Or.inl rfl | exact Or.inr rfl)))) (fun _ _ _ _ _ => dts_nil) (fun _ _ _ _ _ => (di_anyW (de_var (pv 1)))) (fun _ _ _ _ _ => (dg_name (pg_name S.nd rfl (by first | exact Or.inl rfl | exact Or.inr rfl)))) (fun _ _ _ _ _ => dts_nil) (fun _ _ _ _ _ => (de_var (pv 2))) (by decide) (by decide) (by decide) rfl S.nd)))
abbrev N_do_fit : List Str := ["one", "other", "lock", "used", "name"]
theorem c_do_fit (T : Tops K mg) : Cal P w K mg base "do_fit" 1 ["one", "other"] [.v, .v] F_do_fit := by
  have S : FnScope N_do_fit ["one", "other"] (defScope (top 22)) := ⟨rfl, rfl, rfl, by decide +kernel, rfl, by decide +kernel, by decide +kernel⟩
  refine Cal.mk_ (k := 0) T.h_do_fit S rfl (fun _ _ _ _ _ _ us hl => match us, hl with | [_, _], _ => rfl) fun f cdv A outer s H E hr gd0 => ?_
  have hu : (A.deeper (envOfC "do_fit" (defScope (top 22)) s.heap.objs.size f cdv)).units + 100 < cLine := hu_room hr
  have gd : (A.deeper (envOfC "do_fit" (defScope (top 22)) s.heap.objs.size f cdv)).guards = some [] := gd0
  exact (dss_cons (ds_if (dt_truth (de_callB (cr_anyD rfl) rfl T.z_any rfl (dp_cons (de_lc (own := [("lock", 2)]) (di_anyW (de_var (pv 0))) (blkOk_by rfl) (fun _ _ _ _ _ => (dg_name (pg_name S.nd rfl (by first | exact Or.inl rfl | exact Or.inr rfl)))) (fun _ _ _ _ _ => dts_nil) (fun _ _ _ _ _ => (de_cmp (or_inH hu) (de_var (pv 2)) (de_var (pv 1)) (by with_unfolding_all rfl))) (by decide) rfl S.nd) dp_nil))) (dss_one (ds_ret de_bool)) dss_nil) (dss_one (ds_ret (de_not (de_callB (cr_anyD rfl) rfl T.z_any rfl (dp_cons (de_lc2 (vs1 := [4]) (own := [("lock", 2), ("used", 3), ("name", 4)]) (di_itemsW (de_var (pv 0))) (blkOk_by rfl) (fun _ _ _ _ _ => (dg_tup (dgs_cons (dg_name (pg_name S.nd rfl (by first | exact Or.inl rfl | exact Or.inr rfl))) (dgs_cons (dg_name (pg_name S.nd rfl (by first | exact Or.inl rfl | exact Or.inr rfl))) dgs_nil)) rfl)) (fun _ _ _ _ _ => dts_nil) (fun _ _ _ _ _ => (di_anyW (de_var (pv 3)))) (fun _ _ _ _ _ => (dg_name (pg_name S.nd rfl (by first | exact Or.inl rfl | exact Or.inr rfl)))) (fun _ _ _ _ _ => (dts_one (dt_cmp (or_inH hu) (de_var (pv 4)) (de_var (pv 1)) (by with_unfolding_all rfl)))) (fun _ _ _ _ _ => (de_cmp (or_inH hu) (de_var (pv 2)) (de_ixG (hu64 hu) ir_ix (de_var (pv 1)) (de_var (pv 4))) (by with_unfolding_all rfl))) (by decide) (by decide) (by decide) rfl S.nd) dp_nil))))))
abbrev N_subsets : List Str := ["names", "found", "name", "some"]
theorem c_subsets (T : Tops K mg) : Cal P w K mg base "subsets" 1 ["names"] [.v] F_subsets := by
  have S : FnScope N_subsets ["names"] (defScope (top 23)) := ⟨rfl, rfl, rfl, by decide +kernel, rfl, by decide +kernel, by decide +kernel⟩
  refine Cal.mk_ (k := 0) T.h_subsets S rfl (fun _ _ _ _ _ _ us hl => match us, hl with | [_], _ => rfl) fun f cdv A outer s H E hr gd0 => ?_
  have hu : (A.deeper (envOfC "subsets" (defScope (top 23)) s.heap.objs.size f cdv)).units + 100 < cLine := hu_room hr
  have gd : (A.deeper (envOfC "subsets" (defScope (top 23)) s.heap.objs.size f cdv)).guards = some [] := gd0
  exact (dss_cons (ds_setN S.nd rfl (Or.inl rfl) (de_lst (da_cons (de_tup da_nil) da_nil))) (dss_cons (ds_for (di_anyW (de_var (pv 0))) (dg_name (pg_name S.nd rfl (by first | exact Or.inl rfl | exact Or.inr rfl))) (dss_one (ds_setN S.nd rfl (Or.inl rfl) (de_op or_add (de_var (pv 1)) (de_lc (own := [("some", 3)]) (di_anyW (de_var (pv 1))) (blkOk_by rfl) (fun _ _ _ _ _ => (dg_name (pg_name S.nd rfl (by first | exact Or.inl rfl | exact Or.inr rfl)))) (fun _ _ _ _ _ => dts_nil) (fun _ _ _ _ _ => (de_op or_add (de_var (pv 3)) (de_tup (da_cons (de_var (pv 2)) da_nil)))) (by decide) rfl S.nd)))) pass_nox rfl) (dss_one (ds_ret (de_slice sr_sl (de_var (pv 1)) (do_some de_int) do_none)))))
abbrev N_profiles_from : List Str := ["names", "found", "first", "rest", "used", "left", "name", "tail"]
theorem c_profiles_from (T : Tops K mg) : ∀ n : Nat, Cal P w K mg base "profiles_from" (1 + n) ["names"] [.v] (F_profiles_from n)
  | 0 => Cal.none_ T.h_profiles_from rfl (fun _ _ _ _ _ _ us hl => match us, hl with | [_], _ => rfl)
  | n + 1 => by
    have ih := c_profiles_from T n
    have S : FnScope N_profiles_from ["names"] (defScope (top 24)) := ⟨rfl, rfl, rfl, by decide +kernel, rfl, by decide +kernel, by decide +kernel⟩
    refine Cal.mk_ (k := 1 + n) T.h_profiles_from S rfl (fun _ _ _ _ _ _ us hl => match us, hl with | [_], _ => rfl) fun f cdv A outer s H E hr gd0 => ?_
    have hu : (A.deeper (envOfC "profiles_from" (defScope (top 24)) s.heap.objs.size f cdv)).units + 100 < cLine := hu_room hr
    have gd : (A.deeper (envOfC "profiles_from" (defScope (top 24)) s.heap.objs.size f cdv)).guards = some [] := gd0
    exact (dss_cons (ds_setN S.nd rfl (Or.inl rfl) (de_lst (da_cons (de_tup da_nil) da_nil))) (dss_cons (ds_for (di_anyW (de_cal (c_subsets T) hr (by omega) gd rfl (dm_v (de_var (pv 0)) dm_nil))) (dg_name (pg_name S.nd rfl (by first | exact Or.inl rfl | exact Or.inr rfl))) (dss_cons (ds_setN S.nd rfl (Or.inl rfl) (de_callTy (cr_tuple2 rfl) rfl T.z_tuple rfl (dp_cons (de_lc (own := [("name", 6)]) (di_anyW (de_var (pv 0))) (blkOk_by rfl) (fun _ _ _ _ _ => (dg_name (pg_name S.nd rfl (by first | exact Or.inl rfl | exact Or.inr rfl)))) (fun _ _ _ _ _ => (dts_one (dt_cmp (or_notInH hu) (de_var (pv 6)) (de_var (pv 2)) (by with_unfolding_all rfl)))) (fun _ _ _ _ _ => (de_var (pv 6))) (by decide) rfl S.nd) dp_nil))) (dss_cons (ds_expr (de_mut PySem.F.plainAttrs_list PySem.F.slot_list_append PySem.F.type_list_append mt_appendD (pv 1) (da_cons (de_tup (da_cons (de_var (pv 2)) (da_cons (de_tup da_nil) da_nil))) da_nil))) (dss_one (ds_for (di_anyW (de_cal (c_subsets T) hr (by omega) gd rfl (dm_v (de_var (pv 3)) dm_nil))) (dg_name (pg_name S.nd rfl (by first | exact Or.inl rfl | exact Or.inr rfl))) (dss_cons (ds_setN S.nd rfl (Or.inl rfl) (de_callTy (cr_tuple2 rfl) rfl T.z_tuple rfl (dp_cons (de_lc (own := [("name", 6)]) (di_anyW (de_var (pv 3))) (blkOk_by rfl) (fun _ _ _ _ _ => (dg_name (pg_name S.nd rfl (by first | exact Or.inl rfl | exact Or.inr rfl)))) (fun _ _ _ _ _ => (dts_one (dt_cmp (or_notInH hu) (de_var (pv 6)) (de_var (pv 4)) (by with_unfolding_all rfl)))) (fun _ _ _ _ _ => (de_var (pv 6))) (by decide) rfl S.nd) dp_nil))) (dss_one (ds_setN S.nd rfl (Or.inl rfl) (de_op or_add (de_var (pv 1)) (de_lc (own := [("tail", 7)]) (di_anyW (de_cal ih hr (by omega) gd rfl (dm_v (de_var (pv 5)) dm_nil))) (blkOk_by rfl) (fun _ _ _ _ _ => (dg_name (pg_name S.nd rfl (by first | exact Or.inl rfl | exact Or.inr rfl)))) (fun _ _ _ _ _ => dts_nil) (fun _ _ _ _ _ => (de_op or_add (de_tup (da_cons (de_var (pv 2)) (da_cons (de_var (pv 4)) da_nil))) (de_var (pv 7)))) (by decide) rfl S.nd))))) pass_nox rfl)))) pass_nox rfl) (dss_one (ds_ret (de_var (pv 1))))))
abbrev N_blockers : List Str := ["profiles", "locks", "known", "found", "profile", "rows", "name", "other"]
theorem c_blockers (T : Tops K mg) : Cal P w K mg base "blockers" 47 ["profiles", "locks"] [.v, .v] F_blockers := by
  have S : FnScope N_blockers ["profiles", "locks"] (defScope (top 27)) := ⟨rfl, rfl, rfl, by decide +kernel, rfl, by decide +kernel, by decide +kernel⟩
  refine Cal.mk_ (k := 46) T.h_blockers S rfl (fun _ _ _ _ _ _ us hl => match us, hl with | [_, _], _ => rfl) fun f cdv A outer s H E hr gd0 => ?_
  have hu : (A.deeper (envOfC "blockers" (defScope (top 27)) s.heap.objs.size f cdv)).units + 100 < cLine := hu_room hr
  have gd : (A.deeper (envOfC "blockers" (defScope (top 27)) s.heap.objs.size f cdv)).guards = some [] := gd0
  exact (dss_cons (ds_expr (de_cal (c_check_profiles T) hr (by decide) gd rfl (dm_v (de_var (pv 0)) dm_nil))) (dss_cons (ds_expr (de_cal (c_check_locks T) hr (by decide) gd rfl (dm_v (de_var (pv 1)) (dm_v (de_gint rfl T.g_MOST_LOCKS) (dm_v (de_lc2 (vs1 := [6]) (own := [("profile", 4), ("name", 6)]) (di_anyW (de_var (pv 0))) (blkOk_by rfl) (fun _ _ _ _ _ => (dg_name (pg_name S.nd rfl (by first | exact Or.inl rfl | exact Or.inr rfl)))) (fun _ _ _ _ _ => dts_nil) (fun _ _ _ _ _ => (di_anyW (de_cal (c_names_in T) hr (by decide) gd rfl (dm_v (de_var (pv 4)) dm_nil)))) (fun _ _ _ _ _ => (dg_name (pg_name S.nd rfl (by first | exact Or.inl rfl | exact Or.inr rfl)))) (fun _ _ _ _ _ => dts_nil) (fun _ _ _ _ _ => (de_var (pv 6))) (by decide) (by decide) (by decide) rfl S.nd) dm_nil))))) (dss_cons (ds_setN S.nd rfl (Or.inr rfl) (de_lc (own := [("profile", 4)]) (di_anyW (de_var (pv 0))) (blkOk_by rfl) (fun _ _ _ _ _ => (dg_name (pg_name S.nd rfl (by first | exact Or.inl rfl | exact Or.inr rfl)))) (fun _ _ _ _ _ => dts_nil) (fun _ _ _ _ _ => (de_cal (c_rows_of T) hr (by decide) gd rfl (dm_v (de_var (pv 4)) dm_nil))) (by decide) rfl S.nd)) (dss_cons (ds_setLc rfl rfl (by rfl) (own := [("profile", 4)]) (di_anyW (de_cal (c_profiles_from T 45) hr (by decide) gd rfl (dm_v (de_var (pv 1)) dm_nil))) (blkOk_by rfl) (fun _ _ _ _ _ => (dg_name (pg_name S.nd rfl (by first | exact Or.inl rfl | exact Or.inr rfl)))) (fun _ _ _ _ _ => dts_nil) (fun _ _ _ _ _ => (de_cal (c_rows_of T) hr (by decide) gd rfl (dm_v (de_var (pv 4)) dm_nil))) (by decide) rfl S.nd) (dss_cons (ds_fz 2 (ds_setLc rfl rfl (by rfl) (own := [("rows", 5)]) (di_anyW (de_var (pv 3))) (blkOk_by rfl) (fun _ _ _ _ _ => (dg_name (pg_name S.nd rfl (by first | exact Or.inl rfl | exact Or.inr rfl)))) (fun _ _ _ _ _ => (dts_one (dt_not (dt_truth (de_callB (cr_anyD rfl) rfl T.z_any rfl (dp_cons (de_lc (own := [("other", 7)]) (di_anyW (de_var (pv 2))) (blkOk_by rfl) (fun _ _ _ _ _ => (dg_name (pg_name S.nd rfl (by first | exact Or.inl rfl | exact Or.inr rfl)))) (fun _ _ _ _ _ => dts_nil) (fun _ _ _ _ _ => (de_cal (c_do_fit T) hr (by decide) gd rfl (dm_v (de_var (pv 5)) (dm_v (de_var (pv 7)) dm_nil)))) (by decide) rfl S.nd) dp_nil)))))) (fun _ _ _ _ _ => (de_var (pv 5))) (by decide) rfl S.nd)) (dss_one (ds_ret (de_callTy (cr_tuple2 rfl) rfl T.z_tuple rfl (dp_cons (de_callB (cr_sorted2 rfl hu) rfl T.z_sorted rfl (dp_cons (de_lc (own := [("rows", 5)]) (di_anyW (de_cal (c_least_rows T) hr (by decide) gd rfl (dm_v (de_var (pv 3)) dm_nil))) (blkOk_by rfl) (fun _ _ _ _ _ => (dg_name (pg_name S.nd rfl (by first | exact Or.inl rfl | exact Or.inr rfl)))) (fun _ _ _ _ _ => dts_nil) (fun _ _ _ _ _ => (de_cal (c_made T) hr (by decide) gd rfl (dm_v (de_var (pv 5)) dm_nil))) (by decide) rfl S.nd) dp_nil)) dp_nil)))))))))
abbrev N__law_mixed : List Str := ["_law_cell_here", "_law_k", "_law_mix"]
theorem c__law_mixed (T : Tops K mg) : Cal P w K mg base "_law_mixed" 1 ["_law_cell_here", "_law_k"] [.v, .v] F__law_mixed := by
  have S : FnScope N__law_mixed ["_law_cell_here", "_law_k"] (defScope (top 29)) := ⟨rfl, rfl, rfl, by decide +kernel, rfl, by decide +kernel, by decide +kernel⟩
  refine Cal.mk_ (k := 0) T.h__law_mixed S rfl (fun _ _ _ _ _ _ us hl => match us, hl with | [_, _], _ => rfl) fun f cdv A outer s H E hr gd0 => ?_
  have hu : (A.deeper (envOfC "_law_mixed" (defScope (top 29)) s.heap.objs.size f cdv)).units + 100 < cLine := hu_room hr
  have gd : (A.deeper (envOfC "_law_mixed" (defScope (top 29)) s.heap.objs.size f cdv)).guards = some [] := gd0
  exact (dss_cons (ds_setN S.nd rfl (Or.inl rfl) (de_op or_mod (de_callTy cr_int rfl T.z_int rfl (dp_cons (de_op or_add (de_op or_add (de_op or_mul (de_op or_mod (de_callTy cr_int rfl T.z_int rfl (dp_cons (de_var (pv 0)) dp_nil)) de_int) de_int) (de_op or_mul (de_var (pv 1)) de_int)) de_int) dp_nil)) de_int)) (dss_cons (ds_setN S.nd rfl (Or.inl rfl) (de_op or_mod (de_callTy cr_int rfl T.z_int rfl (dp_cons (de_op or_mul (de_var (pv 2)) (de_var (pv 2))) dp_nil)) de_int)) (dss_one (ds_ret (de_op or_mod (de_callTy cr_int rfl T.z_int rfl (dp_cons (de_op or_mul (de_var (pv 2)) (de_op or_add (de_var (pv 2)) de_int)) dp_nil)) de_int)))))
abbrev N__law_cell : List Str := ["_law_script", "_law_k", "_law_cell_here", "_law_found", "_law_j"]
theorem c__law_cell (T : Tops K mg) : Cal P w K mg base "_law_cell" 2 ["_law_script", "_law_k"] [.s, .v] F__law_cell := by
  have S : FnScope N__law_cell ["_law_script", "_law_k"] (defScope (top 30)) := ⟨rfl, rfl, rfl, by decide +kernel, rfl, by decide +kernel, by decide +kernel⟩
  refine Cal.mk_ (k := 1) T.h__law_cell S rfl (fun _ _ _ _ _ _ us hl => match us, hl with | [_, _], _ => rfl) fun f cdv A outer s H E hr gd0 => ?_
  have hu : (A.deeper (envOfC "_law_cell" (defScope (top 30)) s.heap.objs.size f cdv)).units + 100 < cLine := hu_room hr
  have gd : (A.deeper (envOfC "_law_cell" (defScope (top 30)) s.heap.objs.size f cdv)).guards = some [] := gd0
  exact (dss_cons (ds_setN S.nd rfl (Or.inl rfl) de_int) (dss_cons (ds_if (dt_cmp or_lt (de_var (pv 1)) (de_lenScr rfl T.z_len (pv 0)) (nomark _)) (dss_one (ds_setN S.nd rfl (Or.inl rfl) (de_ixScr (pv 0) (de_var (pv 1))))) dss_nil) (dss_cons (ds_if (dt_cmp or_ge (de_var (pv 2)) (de_op or_pow de_int de_int) (nomark _)) (dss_one (ds_ret (de_op or_mod (de_callTy cr_int rfl T.z_int rfl (dp_cons (de_op or_sub (de_var (pv 2)) (de_op or_pow de_int de_int)) dp_nil)) (de_op or_mul (de_op or_mul (de_op or_mul (de_op or_pow de_int de_int) (de_op or_pow de_int de_int)) (de_op or_pow de_int de_int)) (de_op or_pow de_int de_int))))) dss_nil) (dss_cons (ds_setN S.nd rfl (Or.inl rfl) de_int) (dss_cons (ds_for (di_rangeW1 rfl T.z_range (dp_cons de_int dp_nil)) (dg_name (pg_name S.nd rfl (by first | exact Or.inl rfl | exact Or.inr rfl))) (dss_one (ds_setN S.nd rfl (Or.inl rfl) (de_op or_add (de_op or_mul (de_var (pv 3)) de_int) (de_cal (c__law_mixed T) hr (by decide) gd rfl (dm_v (de_var (pv 2)) (dm_v (de_op or_add (de_op or_add (de_op or_mul de_int (de_var (pv 1))) (de_op or_mul de_int (de_var (pv 4)))) (de_op or_mul (de_var (pv 4)) (de_var (pv 4)))) dm_nil)))))) pass_nox rfl) (dss_one (ds_ret (de_var (pv 3)))))))))
abbrev N__law_take : List Str := ["_law_digits", "_law_options", "_law_digit"]
theorem c__law_take (T : Tops K mg) : Cal P w K mg base "_law_take" 1 ["_law_digits", "_law_options"] [.r, .v] F__law_take := by
  have S : FnScope N__law_take ["_law_digits", "_law_options"] (defScope (top 31)) := ⟨rfl, rfl, rfl, by decide +kernel, rfl, by decide +kernel, by decide +kernel⟩
  refine Cal.mk_ (k := 0) T.h__law_take S rfl (fun _ _ _ _ _ _ us hl => match us, hl with | [_, _], _ => rfl) fun f cdv A outer s H E hr gd0 => ?_
  have hu : (A.deeper (envOfC "_law_take" (defScope (top 31)) s.heap.objs.size f cdv)).units + 100 < cLine := hu_room hr
  have gd : (A.deeper (envOfC "_law_take" (defScope (top 31)) s.heap.objs.size f cdv)).guards = some [] := gd0
  exact (dss_cons (ds_setN S.nd rfl (Or.inl rfl) (de_op or_mod (de_callTy cr_int rfl T.z_int rfl (dp_cons (de_ixG (hu64 hu) ir_ix (de_var (pv 0)) de_int) dp_nil)) (de_var (pv 1)))) (dss_cons (ds_sub (hu1 hu) (pv 0) de_int (de_op or_div (de_ixG (hu64 hu) ir_ix (de_var (pv 0)) de_int) (de_var (pv 1)))) (dss_one (ds_ret (de_var (pv 2))))))
abbrev N__law_some : List Str := ["_law_digits", "_law_labels", "_law_many", "_law_at"]
theorem c__law_some (T : Tops K mg) : Cal P w K mg base "_law_some" 2 ["_law_digits", "_law_labels", "_law_many"] [.r, .v, .v] F__law_some := by
  have S : FnScope N__law_some ["_law_digits", "_law_labels", "_law_many"] (defScope (top 32)) := ⟨rfl, rfl, rfl, by decide +kernel, rfl, by decide +kernel, by decide +kernel⟩
  refine Cal.mk_ (k := 1) T.h__law_some S rfl (fun _ _ _ _ _ _ us hl => match us, hl with | [_, _, _], _ => rfl) fun f cdv A outer s H E hr gd0 => ?_
  have hu : (A.deeper (envOfC "_law_some" (defScope (top 32)) s.heap.objs.size f cdv)).units + 100 < cLine := hu_room hr
  have gd : (A.deeper (envOfC "_law_some" (defScope (top 32)) s.heap.objs.size f cdv)).guards = some [] := gd0
  exact (dss_cons (ds_setN S.nd rfl (Or.inl rfl) (de_cal (c__law_take T) hr (by decide) gd rfl (dm_r (de_var (pv 0)) (dm_v (de_callB cr_len rfl T.z_len rfl (dp_cons (de_var (pv 1)) dp_nil)) dm_nil)))) (dss_one (ds_ret (de_slice sr_sl (de_op or_add (de_slice sr_sl (de_var (pv 1)) (do_some (de_var (pv 3))) do_none) (de_slice sr_sl (de_var (pv 1)) do_none (do_some (de_var (pv 3))))) do_none (do_some (de_var (pv 2)))))))
abbrev N__law_parts : List Str := ["_law_labels", "_law_found", "_law_rest", "_law_at", "_law_more"]
theorem c__law_parts (T : Tops K mg) : ∀ n : Nat, Cal P w K mg base "_law_parts" (0 + n) ["_law_labels"] [.v] (F__law_parts n)
  | 0 => Cal.none_ T.h__law_parts rfl (fun _ _ _ _ _ _ us hl => match us, hl with | [_], _ => rfl)
  | n + 1 => by
    have ih := c__law_parts T n
    have S : FnScope N__law_parts ["_law_labels"] (defScope (top 33)) := ⟨rfl, rfl, rfl, by decide +kernel, rfl, by decide +kernel, by decide +kernel⟩
    refine Cal.mk_ (k := 0 + n) T.h__law_parts S rfl (fun _ _ _ _ _ _ us hl => match us, hl with | [_], _ => rfl) fun f cdv A outer s H E hr gd0 => ?_
    have hu : (A.deeper (envOfC "_law_parts" (defScope (top 33)) s.heap.objs.size f cdv)).units + 100 < cLine := hu_room hr
    have gd : (A.deeper (envOfC "_law_parts" (defScope (top 33)) s.heap.objs.size f cdv)).guards = some [] := gd0
    exact (dss_cons (ds_if (dt_cmp (or_eqH hu) (de_var (pv 0)) (de_lst da_nil) (nomark _)) (dss_one (ds_ret (de_lst (da_cons (de_lst da_nil) da_nil)))) dss_nil) (dss_cons (ds_setN S.nd rfl (Or.inl rfl) (de_lst da_nil)) (dss_cons (ds_for (di_anyW (de_cal ih hr (by omega) gd rfl (dm_v (de_slice sr_sl (de_var (pv 0)) (do_some de_int) do_none) dm_nil))) (dg_name (pg_name S.nd rfl (by first | exact Or.inl rfl | exact Or.inr rfl))) (dss_one (ds_for (di_rangeW1 rfl T.z_range (dp_cons (de_op or_add (de_callB cr_len rfl T.z_len rfl (dp_cons (de_var (pv 2)) dp_nil)) de_int) dp_nil)) (dg_name (pg_name S.nd rfl (by first | exact Or.inl rfl | exact Or.inr rfl))) (dss_cons (ds_expr (de_mut PySem.F.plainAttrs_list PySem.F.slot_list_append PySem.F.type_list_append mt_appendD (pv 1) (da_cons (de_op or_add (de_op or_add (de_slice sr_sl (de_var (pv 2)) do_none (do_some (de_var (pv 3)))) (de_lst (da_cons (de_lst (da_cons (de_ixG (hu64 hu) ir_ix (de_var (pv 0)) de_int) da_nil)) da_nil))) (de_slice sr_sl (de_var (pv 2)) (do_some (de_var (pv 3))) do_none)) da_nil))) (dss_one (ds_if (dt_cmp or_lt (de_var (pv 3)) (de_callB cr_len rfl T.z_len rfl (dp_cons (de_var (pv 2)) dp_nil)) (nomark _)) (dss_cons (ds_setN S.nd rfl (Or.inl rfl) (de_lst (da_cons (de_op or_add (de_lst (da_cons (de_ixG (hu64 hu) ir_ix (de_var (pv 0)) de_int) da_nil)) (de_ixG (hu64 hu) ir_ix (de_var (pv 2)) (de_var (pv 3)))) da_nil))) (dss_one (ds_expr (de_mut PySem.F.plainAttrs_list PySem.F.slot_list_append PySem.F.type_list_append mt_appendD (pv 1) (da_cons (de_op or_add (de_op or_add (de_slice sr_sl (de_var (pv 2)) do_none (do_some (de_var (pv 3)))) (de_var (pv 4))) (de_slice sr_sl (de_var (pv 2)) (do_some (de_op or_add (de_var (pv 3)) de_int)) do_none)) da_nil))))) dss_nil))) pass_nox rfl)) pass_nox rfl) (dss_one (ds_ret (de_var (pv 1)))))))
abbrev N__law_every : List Str := ["_law_labels", "_law_found", "_law_piles", "_law_row", "_law_part", "_law_pile"]
theorem c__law_every (T : Tops K mg) : Cal P w K mg base "_law_every" 46 ["_law_labels"] [.v] F__law_every := by
  have S : FnScope N__law_every ["_law_labels"] (defScope (top 34)) := ⟨rfl, rfl, rfl, by decide +kernel, rfl, by decide +kernel, by decide +kernel⟩
  refine Cal.mk_ (k := 45) T.h__law_every S rfl (fun _ _ _ _ _ _ us hl => match us, hl with | [_], _ => rfl) fun f cdv A outer s H E hr gd0 => ?_
  have hu : (A.deeper (envOfC "_law_every" (defScope (top 34)) s.heap.objs.size f cdv)).units + 100 < cLine := hu_room hr
  have gd : (A.deeper (envOfC "_law_every" (defScope (top 34)) s.heap.objs.size f cdv)).guards = some [] := gd0
  exact (dss_cons (ds_setN S.nd rfl (Or.inl rfl) (de_lst (da_cons (de_tup da_nil) da_nil))) (dss_cons (ds_for (di_anyW (de_cal (c__law_parts T 45) hr (by decide) gd rfl (dm_v (de_callB (cr_sorted2 rfl hu) rfl T.z_sorted rfl (dp_cons (de_var (pv 0)) dp_nil)) dm_nil))) (dg_name (pg_name S.nd rfl (by first | exact Or.inl rfl | exact Or.inr rfl))) (dss_cons (ds_setLc rfl rfl (by rfl) (own := [("_law_pile", 5)]) (di_anyW (de_var (pv 2))) (blkOk_by rfl) (fun _ _ _ _ _ => (dg_name (pg_name S.nd rfl (by first | exact Or.inl rfl | exact Or.inr rfl)))) (fun _ _ _ _ _ => dts_nil) (fun _ _ _ _ _ => (de_callTy (cr_tuple2 rfl) rfl T.z_tuple rfl (dp_cons (de_callB (cr_sorted2 rfl hu) rfl T.z_sorted rfl (dp_cons (de_var (pv 5)) dp_nil)) dp_nil))) (by decide) rfl S.nd) (dss_one (ds_for (di_anyW (de_lst (da_cons (de_var (pv 3)) (da_cons (de_slice sr_sl (de_var (pv 3)) (do_some de_int) do_none) da_nil)))) (dg_name (pg_name S.nd rfl (by first | exact Or.inl rfl | exact Or.inr rfl))) (dss_cons (ds_setN S.nd rfl (Or.inl rfl) (de_if (dt_cmp (or_eqH hu) (de_op or_mod (de_callTy cr_int rfl T.z_int rfl (dp_cons (de_callB cr_len rfl T.z_len rfl (dp_cons (de_var (pv 4)) dp_nil)) dp_nil)) de_int) de_int (nomark _)) (de_op or_add (de_var (pv 4)) (de_lst (da_cons (de_tup da_nil) da_nil))) (de_var (pv 4)))) (dss_one (ds_expr (de_mut PySem.F.plainAttrs_list PySem.F.slot_list_append PySem.F.type_list_append mt_appendD (pv 1) (da_cons (de_callTy (cr_tuple2 rfl) rfl T.z_tuple rfl (dp_cons (de_var (pv 4)) dp_nil)) da_nil))))) pass_nox rfl))) pass_nox rfl) (dss_one (ds_ret (de_sortSetD rfl hu rfl T.z_sorted rfl T.z_set (de_var (pv 1)))))))
abbrev N__law_rows : List Str := ["_law_shape", "_law_found", "_law_at", "_law_later", "_law_labels", "_law_lock"]
theorem c__law_rows (T : Tops K mg) : Cal P w K mg base "_law_rows" 1 ["_law_shape"] [.v] F__law_rows := by
  have S : FnScope N__law_rows ["_law_shape"] (defScope (top 35)) := ⟨rfl, rfl, rfl, by decide +kernel, rfl, by decide +kernel, by decide +kernel⟩
  refine Cal.mk_ (k := 0) T.h__law_rows S rfl (fun _ _ _ _ _ _ us hl => match us, hl with | [_], _ => rfl) fun f cdv A outer s H E hr gd0 => ?_
  have hu : (A.deeper (envOfC "_law_rows" (defScope (top 35)) s.heap.objs.size f cdv)).units + 100 < cLine := hu_room hr
  have gd : (A.deeper (envOfC "_law_rows" (defScope (top 35)) s.heap.objs.size f cdv)).guards = some [] := gd0
  exact (dss_cons (ds_setN S.nd rfl (Or.inl rfl) de_dct0) (dss_cons (ds_for (di_rangeW3 rfl T.z_range (dp_cons de_int (dp_cons (de_callB cr_len rfl T.z_len rfl (dp_cons (de_var (pv 0)) dp_nil)) (dp_cons de_int dp_nil)))) (dg_name (pg_name S.nd rfl (by first | exact Or.inl rfl | exact Or.inr rfl))) (dss_cons (ds_setN S.nd rfl (Or.inl rfl) (de_lst da_nil)) (dss_cons (ds_for (di_anyW (de_step2 (de_var (pv 0)) (de_op or_add (de_var (pv 2)) de_int))) (dg_name (pg_name S.nd rfl (by first | exact Or.inl rfl | exact Or.inr rfl))) (dss_one (ds_setN S.nd rfl (Or.inl rfl) (de_op or_add (de_var (pv 3)) (de_callTy (cr_listD rfl) rfl T.z_list rfl (dp_cons (de_var (pv 4)) dp_nil))))) pass_nox rfl) (dss_one (ds_for (di_anyW (de_ixG (hu64 hu) ir_ix (de_var (pv 0)) (de_var (pv 2)))) (dg_name (pg_name S.nd rfl (by first | exact Or.inl rfl | exact Or.inr rfl))) (dss_one (ds_sub (hu1 hu) (pv 1) (de_var (pv 5)) (de_var (pv 3)))) pass_nox rfl)))) pass_nox rfl) (dss_one (ds_ret (de_var (pv 1))))))
abbrev N__law_fit : List Str := ["_law_one", "_law_other", "_law_lock", "_law_name"]
theorem c__law_fit (T : Tops K mg) : Cal P w K mg base "_law_fit" 1 ["_law_one", "_law_other"] [.v, .v] F__law_fit := by
  have S : FnScope N__law_fit ["_law_one", "_law_other"] (defScope (top 36)) := ⟨rfl, rfl, rfl, by decide +kernel, rfl, by decide +kernel, by decide +kernel⟩
  refine Cal.mk_ (k := 0) T.h__law_fit S rfl (fun _ _ _ _ _ _ us hl => match us, hl with | [_, _], _ => rfl) fun f cdv A outer s H E hr gd0 => ?_
  have hu : (A.deeper (envOfC "_law_fit" (defScope (top 36)) s.heap.objs.size f cdv)).units + 100 < cLine := hu_room hr
  have gd : (A.deeper (envOfC "_law_fit" (defScope (top 36)) s.heap.objs.size f cdv)).guards = some [] := gd0
  exact (dss_cons (ds_if (dt_truth (de_callB (cr_anyD rfl) rfl T.z_any rfl (dp_cons (de_lcS (own := [("_law_lock", 2)]) (di_anyW (de_var (pv 0))) (blkOk_by rfl) (fun _ _ _ _ _ => (dg_name (pg_name S.nd rfl (by first | exact Or.inl rfl | exact Or.inr rfl)))) (fun _ _ _ _ _ => dts_nil) (fun _ _ _ _ _ => (de_cmp (or_inH hu) (de_var (pv 2)) (de_var (pv 1)) (by with_unfolding_all rfl))) (by decide) rfl S.nd) dp_nil))) (dss_one (ds_ret de_bool)) dss_nil) (dss_cons (ds_for (di_anyW (de_var (pv 0))) (dg_name (pg_name S.nd rfl (by first | exact Or.inl rfl | exact Or.inr rfl))) (dss_one (ds_if (dt_truth (de_callB (cr_anyD rfl) rfl T.z_any rfl (dp_cons (de_lc (own := [("_law_name", 3)]) (di_anyW (de_ixG (hu64 hu) ir_ix (de_var (pv 0)) (de_var (pv 2)))) (blkOk_by rfl) (fun _ _ _ _ _ => (dg_name (pg_name S.nd rfl (by first | exact Or.inl rfl | exact Or.inr rfl)))) (fun _ _ _ _ _ => dts_nil) (fun _ _ _ _ _ => (de_and (de_cmp (or_inH hu) (de_var (pv 3)) (de_var (pv 1)) (by with_unfolding_all rfl)) (de_one (de_cmp (or_inH hu) (de_var (pv 2)) (de_ixG (hu64 hu) ir_ix (de_var (pv 1)) (de_var (pv 3))) (by with_unfolding_all rfl))))) (by decide) rfl S.nd) dp_nil))) (dss_one (ds_ret de_bool)) dss_nil)) pass_nox rfl) (dss_one (ds_ret de_bool))))
abbrev N__law_below : List Str := ["_law_one", "_law_other", "_law_lock", "_law_name"]
theorem c__law_below (T : Tops K mg) : Cal P w K mg base "_law_below" 1 ["_law_one", "_law_other"] [.v, .v] F__law_below := by
  have S : FnScope N__law_below ["_law_one", "_law_other"] (defScope (top 37)) := ⟨rfl, rfl, rfl, by decide +kernel, rfl, by decide +kernel, by decide +kernel⟩
  refine Cal.mk_ (k := 0) T.h__law_below S rfl (fun _ _ _ _ _ _ us hl => match us, hl with | [_, _], _ => rfl) fun f cdv A outer s H E hr gd0 => ?_
  have hu : (A.deeper (envOfC "_law_below" (defScope (top 37)) s.heap.objs.size f cdv)).units + 100 < cLine := hu_room hr
  have gd : (A.deeper (envOfC "_law_below" (defScope (top 37)) s.heap.objs.size f cdv)).guards = some [] := gd0
  exact (dss_cons (ds_for (di_anyW (de_var (pv 0))) (dg_name (pg_name S.nd rfl (by first | exact Or.inl rfl | exact Or.inr rfl))) (dss_cons (ds_if (dt_cmp (or_notInH hu) (de_var (pv 2)) (de_var (pv 1)) (by with_unfolding_all rfl)) (dss_one (ds_ret de_bool)) dss_nil) (dss_one (ds_if (dt_not (dt_truth (de_callB (cr_allD rfl) rfl T.z_all rfl (dp_cons (de_lc (own := [("_law_name", 3)]) (di_anyW (de_ixG (hu64 hu) ir_ix (de_var (pv 0)) (de_var (pv 2)))) (blkOk_by rfl) (fun _ _ _ _ _ => (dg_name (pg_name S.nd rfl (by first | exact Or.inl rfl | exact Or.inr rfl)))) (fun _ _ _ _ _ => dts_nil) (fun _ _ _ _ _ => (de_or (de_cmp (or_inH hu) (de_var (pv 3)) (de_var (pv 1)) (by with_unfolding_all rfl)) (de_one (de_cmp (or_inH hu) (de_var (pv 3)) (de_ixG (hu64 hu) ir_ix (de_var (pv 1)) (de_var (pv 2))) (by with_unfolding_all rfl))))) (by decide) rfl S.nd) dp_nil)))) (dss_one (ds_ret de_bool)) dss_nil))) pass_nox rfl) (dss_one (ds_ret de_bool)))
abbrev N__law_one_of : List Str := ["_law_digits", "_law_every_here"]
theorem c__law_one_of (T : Tops K mg) : Cal P w K mg base "_law_one_of" 2 ["_law_digits", "_law_every_here"] [.r, .v] F__law_one_of := by
  have S : FnScope N__law_one_of ["_law_digits", "_law_every_here"] (defScope (top 38)) := ⟨rfl, rfl, rfl, by decide +kernel, rfl, by decide +kernel, by decide +kernel⟩
  refine Cal.mk_ (k := 1) T.h__law_one_of S rfl (fun _ _ _ _ _ _ us hl => match us, hl with | [_, _], _ => rfl) fun f cdv A outer s H E hr gd0 => ?_
  have hu : (A.deeper (envOfC "_law_one_of" (defScope (top 38)) s.heap.objs.size f cdv)).units + 100 < cLine := hu_room hr
  have gd : (A.deeper (envOfC "_law_one_of" (defScope (top 38)) s.heap.objs.size f cdv)).guards = some [] := gd0
  exact (dss_one (ds_ret (de_ixG (hu64 hu) ir_ix (de_var (pv 1)) (de_cal (c__law_take T) hr (by decide) gd rfl (dm_r (de_var (pv 0)) (dm_v (de_callB cr_len rfl T.z_len rfl (dp_cons (de_var (pv 1)) dp_nil)) dm_nil))))))
abbrev N__law_least : List Str := ["_law_grids", "_law_found", "_law_shape", "_law_rows_here", "_law_name", "_law_other"]
theorem c__law_least (T : Tops K mg) : Cal P w K mg base "_law_least" 2 ["_law_grids"] [.v] F__law_least := by
  have S : FnScope N__law_least ["_law_grids"] (defScope (top 39)) := ⟨rfl, rfl, rfl, by decide +kernel, rfl, by decide +kernel, by decide +kernel⟩
  refine Cal.mk_ (k := 1) T.h__law_least S rfl (fun _ _ _ _ _ _ us hl => match us, hl with | [_], _ => rfl) fun f cdv A outer s H E hr gd0 => ?_
  have hu : (A.deeper (envOfC "_law_least" (defScope (top 39)) s.heap.objs.size f cdv)).units + 100 < cLine := hu_room hr
  have gd : (A.deeper (envOfC "_law_least" (defScope (top 39)) s.heap.objs.size f cdv)).guards = some [] := gd0
  exact (dss_cons (ds_setN S.nd rfl (Or.inl rfl) (de_lst da_nil)) (dss_cons (ds_for (di_anyW (de_var (pv 0))) (dg_tup (dgs_cons (dg_name (pg_name S.nd rfl (by first | exact Or.inl rfl | exact Or.inr rfl))) (dgs_cons (dg_name (pg_name S.nd rfl (by first | exact Or.inl rfl | exact Or.inr rfl))) dgs_nil)) rfl) (dss_one (ds_if (dt_not (dt_truth (de_callB (cr_anyD rfl) rfl T.z_any rfl (dp_cons (de_lc (own := [("_law_name", 4), ("_law_other", 5)]) (di_anyW (de_var (pv 1))) (blkOk_by rfl) (fun _ _ _ _ _ => (dg_tup (dgs_cons (dg_name (pg_name S.nd rfl (by first | exact Or.inl rfl | exact Or.inr rfl))) (dgs_cons (dg_name (pg_name S.nd rfl (by first | exact Or.inl rfl | exact Or.inr rfl))) dgs_nil)) rfl)) (fun _ _ _ _ _ => dts_nil) (fun _ _ _ _ _ => (de_cal (c__law_below T) hr (by decide) gd rfl (dm_v (de_var (pv 5)) (dm_v (de_var (pv 3)) dm_nil)))) (by decide) rfl S.nd) dp_nil)))) (dss_one (ds_setN S.nd rfl (Or.inl rfl) (de_op or_add (de_lc (own := [("_law_name", 4), ("_law_other", 5)]) (di_anyW (de_var (pv 1))) (blkOk_by rfl) (fun _ _ _ _ _ => (dg_tup (dgs_cons (dg_name (pg_name S.nd rfl (by first | exact Or.inl rfl | exact Or.inr rfl))) (dgs_cons (dg_name (pg_name S.nd rfl (by first | exact Or.inl rfl | exact Or.inr rfl))) dgs_nil)) rfl)) (fun _ _ _ _ _ => (dts_one (dt_not (dt_truth (de_cal (c__law_below T) hr (by decide) gd rfl (dm_v (de_var (pv 3)) (dm_v (de_var (pv 5)) dm_nil))))))) (fun _ _ _ _ _ => (de_tup (da_cons (de_var (pv 4)) (da_cons (de_var (pv 5)) da_nil)))) (by decide) rfl S.nd) (de_lst (da_cons (de_tup (da_cons (de_var (pv 2)) (da_cons (de_var (pv 3)) da_nil))) da_nil))))) dss_nil)) pass_nox rfl) (dss_one (ds_ret (de_callTy (cr_tuple2 rfl) rfl T.z_tuple rfl (dp_cons (de_callB (cr_sorted2 rfl hu) rfl T.z_sorted rfl (dp_cons (de_lcS (own := [("_law_shape", 2), ("_law_rows_here", 3)]) (di_anyW (de_var (pv 1))) (blkOk_by rfl) (fun _ _ _ _ _ => (dg_tup (dgs_cons (dg_name (pg_name S.nd rfl (by first | exact Or.inl rfl | exact Or.inr rfl))) (dgs_cons (dg_name (pg_name S.nd rfl (by first | exact Or.inl rfl | exact Or.inr rfl))) dgs_nil)) rfl)) (fun _ _ _ _ _ => dts_nil) (fun _ _ _ _ _ => (de_var (pv 2))) (by decide) rfl S.nd) dp_nil)) dp_nil))))))
abbrev N__law_good : List Str := ["_law_given", "_law_locks", "_law_every_here", "_law_kept", "_law_all_held", "_law_own", "_law_found", "_law_shape", "_law_rows_here", "_law_one"]
theorem c__law_good (T : Tops K mg) : Cal P w K mg base "_law_good" 48 ["_law_given", "_law_locks", "_law_every_here"] [.v, .v, .v] F__law_good := by
  have S : FnScope N__law_good ["_law_given", "_law_locks", "_law_every_here"] (defScope (top 40)) := ⟨rfl, rfl, rfl, by decide +kernel, rfl, by decide +kernel, by decide +kernel⟩
  refine Cal.mk_ (k := 47) T.h__law_good S rfl (fun _ _ _ _ _ _ us hl => match us, hl with | [_, _, _], _ => rfl) fun f cdv A outer s H E hr gd0 => ?_
  have hu : (A.deeper (envOfC "_law_good" (defScope (top 40)) s.heap.objs.size f cdv)).units + 100 < cLine := hu_room hr
  have gd : (A.deeper (envOfC "_law_good" (defScope (top 40)) s.heap.objs.size f cdv)).guards = some [] := gd0
  exact (dss_cons (ds_setN S.nd rfl (Or.inl rfl) (de_callTy (cr_strD gd hu) rfl T.z_str rfl (dp_cons (de_lst (da_cons (de_var (pv 0)) (da_cons (de_var (pv 1)) da_nil))) dp_nil))) (dss_cons (ds_setLc rfl rfl (by rfl) (own := [("_law_shape", 7)]) (di_anyW (de_var (pv 2))) (blkOk_by rfl) (fun _ _ _ _ _ => (dg_name (pg_name S.nd rfl (by first | exact Or.inl rfl | exact Or.inr rfl)))) (fun _ _ _ _ _ => dts_nil) (fun _ _ _ _ _ => (de_tup (da_cons (de_var (pv 7)) (da_cons (de_cal (c__law_rows T) hr (by decide) gd rfl (dm_v (de_var (pv 7)) dm_nil)) da_nil)))) (by decide) rfl S.nd) (dss_cons (ds_setN S.nd rfl (Or.inr rfl) (de_lc (own := [("_law_shape", 7)]) (di_anyW (de_var (pv 0))) (blkOk_by rfl) (fun _ _ _ _ _ => (dg_name (pg_name S.nd rfl (by first | exact Or.inl rfl | exact Or.inr rfl)))) (fun _ _ _ _ _ => dts_nil) (fun _ _ _ _ _ => (de_cal (c__law_rows T) hr (by decide) gd rfl (dm_v (de_var (pv 7)) dm_nil))) (by decide) rfl S.nd)) (dss_cons (ds_fz 5 (ds_setLc rfl rfl (by rfl) (own := [("_law_shape", 7), ("_law_rows_here", 8)]) (di_anyW (de_var (pv 4))) (blkOk_by rfl) (fun _ _ _ _ _ => (dg_tup (dgs_cons (dg_name (pg_name S.nd rfl (by first | exact Or.inl rfl | exact Or.inr rfl))) (dgs_cons (dg_name (pg_name S.nd rfl (by first | exact Or.inl rfl | exact Or.inr rfl))) dgs_nil)) rfl)) (fun _ _ _ _ _ => (dts_one (dt_not (dt_truth (de_callB (cr_anyD rfl) rfl T.z_any rfl (dp_cons (de_lc (own := [("_law_one", 9)]) (di_anyW (de_var (pv 5))) (blkOk_by rfl) (fun _ _ _ _ _ => (dg_name (pg_name S.nd rfl (by first | exact Or.inl rfl | exact Or.inr rfl)))) (fun _ _ _ _ _ => dts_nil) (fun _ _ _ _ _ => (de_cal (c__law_fit T) hr (by decide) gd rfl (dm_v (de_var (pv 8)) (dm_v (de_var (pv 9)) dm_nil)))) (by decide) rfl S.nd) dp_nil)))))) (fun _ _ _ _ _ => (de_tup (da_cons (de_var (pv 7)) (da_cons (de_var (pv 8)) da_nil)))) (by decide) rfl S.nd)) (dss_cons (ds_setN S.nd rfl (Or.inl rfl) (de_cal (c_blockers T) hr (by decide) gd rfl (dm_v (de_var (pv 0)) (dm_v (de_var (pv 1)) dm_nil)))) (dss_one (ds_ret (de_and (de_cmp (or_eqH hu) (de_var (pv 6)) (de_cal (c__law_least T) hr (by decide) gd rfl (dm_v (de_var (pv 4)) dm_nil)) (nomark _)) (de_one (de_cmp (or_eqH hu) (de_callTy (cr_strD gd hu) rfl T.z_str rfl (dp_cons (de_lst (da_cons (de_var (pv 0)) (da_cons (de_var (pv 1)) da_nil))) dp_nil)) (de_var (pv 3)) (nomark _)))))))))))
abbrev N_law : List Str := ["_law_script", "_law_round_at", "_law_digits", "_law_many", "_law_locks", "_law_every_here", "_law_k", "_law_given", "_law_pair", "_law_j", "_law_shape"]
theorem c_law (T : Tops K mg) : Cal P w K mg base "law" 49 ["_law_script"] [.s] F_law := by
  have S : FnScope N_law ["_law_script"] (defScope (top 41)) := ⟨rfl, rfl, rfl, by decide +kernel, rfl, by decide +kernel, by decide +kernel⟩
  refine Cal.mk_ (k := 48) T.h_law S rfl (fun _ _ _ _ _ _ us hl => match us, hl with | [_], _ => rfl) fun f cdv A outer s H E hr gd0 => ?_
  have hu : (A.deeper (envOfC "law" (defScope (top 41)) s.heap.objs.size f cdv)).units + 100 < cLine := hu_room hr
  have gd : (A.deeper (envOfC "law" (defScope (top 41)) s.heap.objs.size f cdv)).guards = some [] := gd0
  exact (dss_cons (ds_for (di_rangeW1 rfl T.z_range (dp_cons (de_callB (cr_maxD rfl) rfl T.z_max rfl (dp_cons (de_callB (cr_minD rfl) rfl T.z_min rfl (dp_cons (de_lenScr rfl T.z_len (pv 0)) (dp_cons de_int dp_nil))) (dp_cons de_int dp_nil))) dp_nil)) (dg_name (pg_name S.nd rfl (by first | exact Or.inl rfl | exact Or.inr rfl))) (dss_cons (ds_setN S.nd rfl (Or.inr rfl) (de_lst (da_cons (de_cal (c__law_cell T) hr (by decide) gd rfl (dm_s (pv 0) (dm_v (de_var (pv 1)) dm_nil))) da_nil))) (dss_cons (ds_setN S.nd rfl (Or.inl rfl) (de_op or_add de_int (de_cal (c__law_take T) hr (by decide) gd rfl (dm_r (de_var (pv 2)) (dm_v de_int dm_nil))))) (dss_cons (ds_setN S.nd rfl (Or.inl rfl) (de_callTy (cr_tuple2 rfl) rfl T.z_tuple rfl (dp_cons (de_callB (cr_sorted2 rfl hu) rfl T.z_sorted rfl (dp_cons (de_cal (c__law_some T) hr (by decide) gd rfl (dm_r (de_var (pv 2)) (dm_v (de_lst (da_cons de_str (da_cons de_str (da_cons de_str (da_cons de_str (da_cons de_str (da_cons de_str da_nil))))))) (dm_v (de_var (pv 3)) dm_nil)))) dp_nil)) dp_nil))) (dss_cons (ds_setN S.nd rfl (Or.inr rfl) (de_cal (c__law_every T) hr (by decide) gd rfl (dm_v (de_var (pv 4)) dm_nil))) (dss_one (ds_for (di_rangeW1 rfl T.z_range (dp_cons de_int dp_nil)) (dg_name (pg_name S.nd rfl (by first | exact Or.inl rfl | exact Or.inr rfl))) (dss_cons (ds_fz 5 (ds_setLc rfl rfl (by rfl) (own := [("_law_j", 9)]) (di_rangeW1 rfl T.z_range (dp_cons (de_cal (c__law_take T) hr (by decide) gd rfl (dm_r (de_var (pv 2)) (dm_v de_int dm_nil))) dp_nil)) (blkOk_by rfl) (fun _ _ _ _ _ => (dg_name (pg_name S.nd rfl (by first | exact Or.inl rfl | exact Or.inr rfl)))) (fun _ _ _ _ _ => dts_nil) (fun _ _ _ _ _ => (de_cal (c__law_one_of T) hr (by decide) gd rfl (dm_r (de_var (pv 2)) (dm_v (de_var (pv 5)) dm_nil)))) (by decide) rfl S.nd)) (dss_cons (ds_if (dt_not (dt_truth (de_cal (c__law_good T) hr (by decide) gd rfl (dm_v (de_callTy (cr_tuple2 rfl) rfl T.z_tuple rfl (dp_cons (de_var (pv 7)) dp_nil)) (dm_v (de_var (pv 4)) (dm_v (de_var (pv 5)) dm_nil)))))) (dss_one (ds_ret de_bool)) dss_nil) (dss_one (ds_if (dt_not (dt_truth (de_cal (c__law_good T) hr (by decide) gd rfl (dm_v (de_callTy (cr_tuple2 rfl) rfl T.z_tuple rfl (dp_cons (de_sortSetD rfl hu rfl T.z_sorted rfl T.z_set (de_var (pv 7))) dp_nil)) (dm_v (de_var (pv 4)) (dm_v (de_var (pv 5)) dm_nil)))))) (dss_one (ds_ret de_bool)) dss_nil)))) pass_nox rfl)))))) pass_nox rfl) (dss_cons (ds_setN S.nd rfl (Or.inr rfl) (de_cal (c__law_every T) hr (by decide) gd rfl (dm_v (de_lst (da_cons de_str (da_cons de_str (da_cons de_str da_nil)))) dm_nil))) (dss_cons (ds_if (dt_not (dt_truth (de_callB (cr_allD rfl) rfl T.z_all rfl (dp_cons (de_fz 5 (de_lc (own := [("_law_shape", 10)]) (di_anyW (de_var (pv 5))) (blkOk_by rfl) (fun _ _ _ _ _ => (dg_name (pg_name S.nd rfl (by first | exact Or.inl rfl | exact Or.inr rfl)))) (fun _ _ _ _ _ => dts_nil) (fun _ _ _ _ _ => (de_cal (c__law_good T) hr (by decide) gd rfl (dm_v (de_tup (da_cons (de_var (pv 10)) da_nil)) (dm_v (de_tup (da_cons de_str (da_cons de_str (da_cons de_str da_nil)))) (dm_v (de_var (pv 5)) dm_nil))))) (by decide) rfl S.nd)) dp_nil)))) (dss_one (ds_ret de_bool)) dss_nil) (dss_cons (ds_if (dw_dt (dw_or (dt_cmp (or_neH hu) (de_cal (c_blockers T) hr (by decide) gd rfl (dm_v (de_tup da_nil) (dm_v (de_tup (da_cons de_str da_nil)) dm_nil))) (de_tup (da_cons (de_tup da_nil) da_nil)) (nomark _)) (dw_or (dt_cmp (or_neH hu) (de_cal (c_blockers T) hr (by decide) gd rfl (dm_v (de_tup (da_cons (de_tup da_nil) da_nil)) (dm_v (de_tup (da_cons de_str (da_cons de_str da_nil))) dm_nil))) (de_tup da_nil) (nomark _)) (dw_or1 (dt_cmp (or_neH hu) (de_cal (c_blockers T) hr (by decide) gd rfl (dm_v (de_tup da_nil) (dm_v (de_tup da_nil) dm_nil))) (de_tup (da_cons (de_tup da_nil) da_nil)) (nomark _)))))) (dss_one (ds_ret de_bool)) dss_nil) (dss_cons (ds_if (dw_dt (dw_or (dt_cmp (or_neH hu) (de_cal (c_blockers T) hr (by decide) gd rfl (dm_v (de_tup (da_cons (de_tup da_nil) da_nil)) (dm_v (de_tup da_nil) dm_nil))) (de_tup da_nil) (nomark _)) (dw_or1 (dt_cmp (or_neH hu) (de_cal (c_blockers T) hr (by decide) gd rfl (dm_v (de_tup (da_cons (de_tup da_nil) (da_cons (de_tup da_nil) da_nil))) (dm_v (de_tup da_nil) dm_nil))) (de_tup da_nil) (nomark _))))) (dss_one (ds_ret de_bool)) dss_nil) (dss_cons (ds_setN S.nd rfl (Or.inl rfl) (de_tup (da_cons (de_tup (da_cons (de_tup (da_cons de_str da_nil)) (da_cons (de_tup da_nil) da_nil))) (da_cons (de_tup (da_cons (de_tup (da_cons de_str da_nil)) (da_cons (de_tup da_nil) da_nil))) da_nil)))) (dss_cons (ds_if (dw_dt (dw_or (dt_cmp (or_neH hu) (de_cal (c_blockers T) hr (by decide) gd rfl (dm_v (de_var (pv 8)) (dm_v (de_tup (da_cons de_str (da_cons de_str da_nil))) dm_nil))) (de_tup (da_cons (de_tup (da_cons (de_tup (da_cons de_str (da_cons de_str da_nil))) (da_cons (de_tup da_nil) da_nil))) da_nil)) (nomark _)) (dw_or1 (dt_cmp (or_neH hu) (de_cal (c_blockers T) hr (by decide) gd rfl (dm_v (de_tup (da_cons (de_tup (da_cons (de_tup (da_cons de_str (da_cons de_str da_nil))) (da_cons (de_tup da_nil) da_nil))) da_nil)) (dm_v (de_tup (da_cons de_str (da_cons de_str da_nil))) dm_nil))) (de_var (pv 8)) (nomark _))))) (dss_one (ds_ret de_bool)) dss_nil) (dss_one (ds_ret (de_and (de_cmp (or_eqH hu) (de_cal (c_blockers T) hr (by decide) gd rfl (dm_v (de_tup (da_cons (de_tup (da_cons (de_tup (da_cons de_str da_nil)) (da_cons (de_tup da_nil) da_nil))) da_nil)) (dm_v (de_tup (da_cons de_str da_nil)) dm_nil))) (de_tup (da_cons (de_tup (da_cons (de_tup (da_cons de_str da_nil)) (da_cons (de_tup da_nil) da_nil))) da_nil)) (nomark _)) (de_one (de_cmp (or_eqH hu) (de_cal (c_blockers T) hr (by decide) gd rfl (dm_v (de_tup da_nil) (dm_v (de_tup (da_cons de_str (da_cons de_str da_nil))) dm_nil))) (de_tup (da_cons (de_tup da_nil) da_nil)) (nomark _)))))))))))))
end
end Pv.K11
end
section
set_option Elab.async false
set_option linter.all false
set_option autoImplicit false
set_option maxRecDepth 100000
set_option maxHeartbeats 2000000
namespace Pv.Lw
open PySem L2 Pv Pv.Ev Pv.Pg
end Pv.Lw
end
section
set_option Elab.async false
set_option linter.all false
set_option autoImplicit false
set_option maxRecDepth 100000
set_option maxHeartbeats 1000000
namespace Pv.Ev
open PySem L2 Pv
section
variable (g : SemG) (t : SemT) (el kf : SemE) (vs : List Nat)
def ob (b : Bool) (d : D) : Option D := if b = true then some d else none
@[scoped simp] theorem ob_u {β : Type} (p : Prop) [Decidable p] (d : D) (ρ : β) : (if p then some (some d, ρ) else some (none, ρ)) = some (ob (decide p) d, ρ) := by
  unfold ob
  by_cases h : p <;> simp [h]
@[scoped simp] theorem ob_u' {β : Type} (p : Prop) [Decidable p] (d : D) (ρ : β) : (if p then some (none, ρ) else some (some d, ρ)) = some (ob (!decide p) d, ρ) := by
  unfold ob
  by_cases h : p <;> simp [h]
def lcP (d : D) (ρ : Ro) : Option (Option D × Ro) := bd (g d ρ) fun ρ1 => bd (t ρ1) fun x => if x.1 = true then bd (el x.2) fun y => bd (frz y.2 y.1) fun z => some (some z.1, wipeR z.2 vs) else some (none, wipeR x.2 vs)
@[scoped simp] theorem lcP_u (d : D) (ρ : Ro) : lcP g t el vs d ρ = bd (g d ρ) fun ρ1 => bd (t ρ1) fun x => if x.1 = true then bd (el x.2) fun y => bd (frz y.2 y.1) fun z => some (some z.1, wipeR z.2 vs) else some (none, wipeR x.2 vs) := rfl
def lcQ (d : D) (ρ : Ro) : Option (D × Ro) := bd (g d ρ) fun ρ1 => bd (el ρ1) fun y => bd (frz y.2 y.1) fun z => some (z.1, wipeR z.2 vs)
@[scoped simp] theorem lcQ_u (d : D) (ρ : Ro) : lcQ g el vs d ρ = bd (g d ρ) fun ρ1 => bd (el ρ1) fun y => bd (frz y.2 y.1) fun z => some (z.1, wipeR z.2 vs) := rfl
end
section
variable {g : SemG} {t : SemT} {el kf : SemE} {vs : List Nat} {ρ : Ro} {α : Type}
theorem bd_eq {α β : Type} {a : Option α} {f : α → Option β} {b : β} : bd a f = some b ↔ ∃ x, a = some x ∧ f x = some b := by
  unfold bd Bd; exact Option.bind_eq_some_iff
theorem lc_q {k : α → D} {h : α → D} : ∀ {xs : List α} {n : Nat}, (∀ x ∈ xs, lcQ g el vs (k x) ρ = some (h x, ρ)) → n + xs.length ≤ sizeLine → lcL g sYes el vs (xs.map k) n ρ = some (xs.map h, ρ)
  | [], _, _, _ => rfl
  | x :: xs, n, H, hz => by
    have e := H x List.mem_cons_self
    rw [lcQ_u, bd_eq] at e
    obtain ⟨ρ1, e1, e⟩ := e
    rw [bd_eq] at e
    obtain ⟨⟨r, ρ2⟩, e2, e⟩ := e
    rw [bd_eq] at e
    obtain ⟨⟨z, ρ3⟩, e3, e⟩ := e
    simp only [Option.some.injEq, Prod.mk.injEq] at e
    obtain ⟨rfl, e4⟩ := e
    simp only [List.length_cons] at hz
    have lt : n < sizeLine := by omega
    have ih := lc_q (fun y hy => H y (List.mem_cons_of_mem _ hy)) (n := n + 1) (by omega)
    simp only at e2 e3 e4
    simp only [List.map_cons, lcL, e1, Option.bind_some, sYes, e2, e3, e4, lt, if_true, ih]
theorem lc_p {k : α → D} {o : α → Option D} : ∀ {xs : List α} {n : Nat}, (∀ x ∈ xs, lcP g t el vs (k x) ρ = some (o x, ρ)) → n + xs.length ≤ sizeLine → lcL g t el vs (xs.map k) n ρ = some (xs.filterMap o, ρ)
  | [], _, _, _ => rfl
  | x :: xs, n, H, hz => by
    have e := H x List.mem_cons_self
    rw [lcP_u, bd_eq] at e
    obtain ⟨ρ1, e1, e⟩ := e
    rw [bd_eq] at e
    obtain ⟨⟨b, ρ2⟩, e2, e⟩ := e
    simp only [List.length_cons] at hz
    have lt : n < sizeLine := by omega
    have ih := fun m => lc_p (fun y hy => H y (List.mem_cons_of_mem _ hy)) (n := m)
    simp only at e
    cases b with
    | true =>
      rw [if_pos rfl, bd_eq] at e
      obtain ⟨⟨r, ρ3⟩, e3, e⟩ := e
      rw [bd_eq] at e
      obtain ⟨⟨z, ρ4⟩, e4, e⟩ := e
      simp only [Option.some.injEq, Prod.mk.injEq] at e
      obtain ⟨ez, e5⟩ := e
      simp only at e3 e4 e5
      simp only [List.map_cons, lcL, e1, Option.bind_some, e2, e3, e4, e5, lt, if_true, ih (n + 1) (by omega), List.filterMap_cons, ← ez]
    | false =>
      rw [if_neg Bool.false_ne_true] at e
      simp only [Option.some.injEq, Prod.mk.injEq] at e
      obtain ⟨ez, e5⟩ := e
      simp only [List.map_cons, lcL, e1, Option.bind_some, e2, e5, Bool.false_eq_true, if_false, ih n (by omega), List.filterMap_cons, ← ez]
@[scoped simp] theorem fm_ob (p : α → Bool) (h : α → D) : ∀ xs : List α, xs.filterMap (fun x => ob (p x) (h x)) = (xs.filter p).map h
  | [] => rfl
  | x :: xs => by
    rw [List.filterMap_cons, List.filter_cons, fm_ob p h xs]
    cases e : p x <;> simp [ob]
end
@[scoped simp] theorem sz1 (n : Nat) (h : n ≤ 1000) : (n ≤ sizeLine) = True := eq_true (Nat.le_trans h (by decide))
@[scoped simp] theorem sz2 (n : Nat) (h : n ≤ 1000) : (n < sizeLine) = True := eq_true (Nat.lt_of_le_of_lt h (by decide))
@[scoped simp] theorem sz3 (n m : Nat) (h : n ≤ 1000) (k : m ≤ 1000) : (n + m ≤ sizeLine) = True := eq_true (Nat.le_trans (Nat.add_le_add h k) (by decide))
@[scoped simp] theorem sz4 (n m : Nat) (h : n ≤ 1000) (k : m ≤ 1000) : (n + m < sizeLine) = True := eq_true (Nat.lt_of_le_of_lt (Nat.add_le_add h k) (by decide))
section
variable {β : Type} (p : Prop) [Decidable p] (b c : Bool) (ρ : β)
@[scoped simp] theorem mg_v : (if p then some (Rv.val (.bool b), ρ) else some (Rv.val (.bool c), ρ)) = some (Rv.val (.bool (if p then b else c)), ρ) := by by_cases h : p <;> simp [h]
@[scoped simp] theorem mg_t : (if p then some (b, ρ) else some (c, ρ)) = some (if p then b else c, ρ) := by by_cases h : p <;> simp [h]
end
end Pv.Ev
end
section
set_option Elab.async false
set_option linter.all false
set_option autoImplicit false
set_option maxRecDepth 100000
set_option maxHeartbeats 1000000
namespace Pv.Ev
open PySem L2 Pv
section
variable {g : SemG} {b : SemS} {α σ : Type} {k : α → D}
def foP (g : SemG) (b : SemS) (d : D) (ρ : Ro) : Option Out := bd (g d ρ) b
@[scoped simp] theorem foP_u (g : SemG) (b : SemS) (d : D) (ρ : Ro) : foP g b d ρ = bd (g d ρ) b := rfl
theorem foP_some {d : D} {ρ : Ro} {o : Out} (h : foP g b d ρ = some o) : ∃ ρ1, g d ρ = some ρ1 ∧ b ρ1 = some o := bd_eq.mp h
theorem for_pre (R : List α → Ro → Prop) (xs : List α) (ρ : Ro) (r : R [] ρ) (H : ∀ pre x post, xs = pre ++ x :: post → ∀ ρ, R pre ρ → ∃ ρ', foP g b (k x) ρ = some (.nx ρ') ∧ R (pre ++ [x]) ρ') :
    ∃ ρ', forL g b (xs.map k) ρ = some (.nx ρ') ∧ R xs ρ' := by
  have key : ∀ (post pre : List α) (ρ : Ro), xs = pre ++ post → R pre ρ → ∃ ρ', forL g b (post.map k) ρ = some (.nx ρ') ∧ R xs ρ' := by
    intro post
    induction post with
    | nil => intro pre ρ e r; rw [List.append_nil] at e; exact ⟨ρ, rfl, by rw [e]; exact r⟩
    | cons x post ih =>
      intro pre ρ e r
      obtain ⟨ρ1, e1, r1⟩ := H pre x post e ρ r
      obtain ⟨ρ2, e2, e3⟩ := foP_some e1
      simp only [List.map_cons, forL, e2, e3, Option.bind_some]
      exact ih (pre ++ [x]) ρ1 (by rw [e]; simp) r1
  exact key xs [] ρ rfl r
theorem for_try (R R' : Ro → Prop) (ok : α → Bool) (z : Rv) : ∀ (xs : List α) (ρ : Ro), R ρ → (∀ x ∈ xs, ∀ ρ, R ρ → (ok x = true → ∃ ρ', foP g b (k x) ρ = some (.nx ρ') ∧ R ρ') ∧ (ok x = false → ∃ ρ', foP g b (k x) ρ = some (.rt z ρ') ∧ R' ρ')) →
    (xs.all ok = true → ∃ ρ', forL g b (xs.map k) ρ = some (.nx ρ') ∧ R ρ') ∧ (xs.all ok = false → ∃ ρ', forL g b (xs.map k) ρ = some (.rt z ρ') ∧ R' ρ')
  | [], ρ, r, _ => ⟨fun _ => ⟨ρ, rfl, r⟩, fun h => by cases h⟩
  | x :: xs, ρ, r, H => by
    obtain ⟨h1, h2⟩ := H x List.mem_cons_self ρ r
    simp only [List.map_cons, forL, List.all_cons]
    cases hk : ok x with
    | true =>
      obtain ⟨ρ1, e, r1⟩ := h1 hk
      obtain ⟨ρ2, e1, e2⟩ := foP_some e
      simp only [e1, e2, Option.bind_some, Bool.true_and]
      exact for_try R R' ok z xs ρ1 r1 fun y hy => H y (List.mem_cons_of_mem _ hy)
    | false =>
      obtain ⟨ρ1, e, r1⟩ := h2 hk
      obtain ⟨ρ2, e1, e2⟩ := foP_some e
      simp only [e1, e2, Option.bind_some, Bool.false_and]
      exact ⟨fun h => absurd h Bool.false_ne_true, fun _ => ⟨ρ1, rfl, r1⟩⟩
end
section
variable {g : SemG} {el : SemE} {vs : List Nat} {α β : Type} {k : α → D} {f : β → D}
theorem lc_draw (R : Ro → Prop) (Q : β → Prop) : ∀ (xs : List α) (n : Nat) (ρ : Ro), R ρ → n + xs.length ≤ sizeLine → (∀ x ∈ xs, ∀ ρ, R ρ → ∃ ρ' y, lcQ g el vs (k x) ρ = some (f y, ρ') ∧ R ρ' ∧ Q y) →
    ∃ (ρ' : Ro) (ys : List β), lcL g sYes el vs (xs.map k) n ρ = some (ys.map f, ρ') ∧ R ρ' ∧ ys.length = xs.length ∧ ∀ y ∈ ys, Q y
  | [], n, ρ, r, _, _ => ⟨ρ, [], rfl, r, rfl, fun y h => by cases h⟩
  | x :: xs, n, ρ, r, hz, H => by
    obtain ⟨ρ1, y, e, r1, q⟩ := H x List.mem_cons_self ρ r
    rw [lcQ_u, bd_eq] at e
    obtain ⟨ρa, e1, e⟩ := e
    rw [bd_eq] at e
    obtain ⟨⟨r, ρb⟩, e2, e⟩ := e
    rw [bd_eq] at e
    obtain ⟨⟨z, ρc⟩, e3, e⟩ := e
    simp only [Option.some.injEq, Prod.mk.injEq] at e
    obtain ⟨rfl, e4⟩ := e
    simp only [List.length_cons] at hz
    have lt : n < sizeLine := by omega
    obtain ⟨ρ2, ys, e5, r2, hl, hq⟩ := lc_draw R Q xs (n + 1) ρ1 r1 (by omega) fun y hy => H y (List.mem_cons_of_mem _ hy)
    simp only at e2 e3 e4
    refine ⟨ρ2, y :: ys, ?_, r2, by simp [hl], fun w hw => ?_⟩
    · simp only [List.map_cons, lcL, e1, Option.bind_some, sYes, e2, e3, e4, lt, if_true, e5]
    · rcases List.mem_cons.mp hw with rfl | hw
      · exact q
      · exact hq w hw
end
section
variable {g g1 : SemG} {t t1 : SemT} {it1 : SemI} {el : SemE} {vs vs1 : List Nat} {ρ : Ro} {α : Type}
def lcI (g : SemG) (it1 : SemI) (g1 : SemG) (t1 : SemT) (el : SemE) (vs vs1 : List Nat) (n : Nat) (d : D) (ρ : Ro) : Option (List D × Ro) :=
  bd (g d ρ) fun ρ1 => bd (it1 ρ1) fun x => if clearAt x.2 vs1 = true then bd (lcL g1 t1 el vs1 x.1 n x.2) fun y => some (y.1, wipeR y.2 vs) else none
@[scoped simp] theorem lcI_u (n : Nat) (d : D) : lcI g it1 g1 t1 el vs vs1 n d ρ = bd (g d ρ) fun ρ1 => bd (it1 ρ1) fun x => if clearAt x.2 vs1 = true then bd (lcL g1 t1 el vs1 x.1 n x.2) fun y => some (y.1, wipeR y.2 vs) else none := rfl
end
end Pv.Ev
end
section
set_option Elab.async false
set_option linter.all false
set_option autoImplicit false
set_option maxRecDepth 100000
set_option maxHeartbeats 2000000
namespace Pv.Pg
open PySem L2 Pv Pv.Ev
section
variable {R : List (Str × List Str)} {b : Blk} {ps : List Blk}
theorem row_first (v : VP (b :: ps)) (r : RowsOf R (b :: ps)) {p : Str × List Str} (hp : p ∈ R) (h : p.1 ∈ b.1) : p.2.length = (usedP (b :: ps)).length := by
  obtain ⟨a, e⟩ := r.vals p hp
  have nd := (List.nodup_append.mp v.nd).2.1
  refine nodup_len a.nodup nd fun x => ?_
  rw [e x]
  simp only [UB, if_pos h]
theorem row_later (v : VP (b :: ps)) (r : RowsOf R (b :: ps)) {p : Str × List Str} (hp : p ∈ R) (h : p.1 ∉ b.1) : p.2.length < (usedP (b :: ps)).length := by
  obtain ⟨a, e⟩ := r.vals p hp
  have hk : p.1 ∈ heldP (b :: ps) := (r.keys p.1).mp (List.mem_map_of_mem hp)
  have hne : ps ≠ [] := by
    rintro rfl
    simp [heldP] at hk
    exact h hk
  have l1 : p.2.length ≤ (usedP ps).length := sub_len a.nodup fun x hx => by
    have := (e x).mp hx
    simp only [UB, if_neg h] at this
    exact UB_used ps p.1 x this
  have l2 : 0 < b.2.length := List.length_pos_iff.mpr (v.used_ne hne)
  have l3 : (usedP (b :: ps)).length = b.2.length + (usedP ps).length := by simp [usedP]
  omega
theorem row_iff (v : VP (b :: ps)) (r : RowsOf R (b :: ps)) {p : Str × List Str} (hp : p ∈ R) : p.2.length = (usedP (b :: ps)).length ↔ p.1 ∈ b.1 := by
  constructor
  · intro e
    refine Classical.byContradiction fun h => ?_
    have := row_later v r hp h
    omega
  · exact row_first v r hp
theorem some_first (v : VP (b :: ps)) (r : RowsOf R (b :: ps)) : ∃ p ∈ R, p.1 ∈ b.1 := by
  obtain ⟨l, hl⟩ := List.exists_mem_of_ne_nil _ (v.ne1 b List.mem_cons_self)
  have hk : l ∈ R.map (·.1) := (r.keys l).mpr (by simp [heldP, hl])
  obtain ⟨p, hp, rfl⟩ := List.mem_map.mp hk
  exact ⟨p, hp, hl⟩
theorem first_eq (v : VP (b :: ps)) (r : RowsOf R (b :: ps)) : sortS ((R.filter fun p => decide (p.2.length = (usedP (b :: ps)).length)).map (·.1)) = b.1 := by
  have nd : ((R.filter fun p => decide (p.2.length = (usedP (b :: ps)).length)).map (·.1)).Nodup := (List.filter_sublist.map _).nodup r.nd
  rw [← uniqS_nodup nd]
  have ha := (v.asc b List.mem_cons_self).1
  rw [← ha.uniq]
  refine uniqS_ext fun x => ?_
  simp only [List.mem_map, List.mem_filter, decide_eq_true_eq]
  constructor
  · rintro ⟨p, ⟨hp, e⟩, rfl⟩
    exact (row_iff v r hp).mp e
  · intro hx
    have hk : x ∈ R.map (·.1) := (r.keys x).mpr (by simp [heldP, hx])
    obtain ⟨p, hp, rfl⟩ := List.mem_map.mp hk
    exact ⟨p, ⟨hp, (row_iff v r hp).mpr hx⟩, rfl⟩
theorem held_off (v : VP (b :: ps)) {x : Str} (h : x ∈ heldP ps) : x ∉ b.1 := fun hx => by
  have := (List.nodup_append.mp v.nd).1
  simp only [heldP, List.flatMap_cons] at this
  exact (List.nodup_append.mp this).2.2 x hx x (by simpa [heldP] using h) rfl
theorem rest_rows (v : VP (b :: ps)) (r : RowsOf R (b :: ps)) : RowsOf (R.filter fun p => !decide (p.1 ∈ b.1)) ps where
  nd := (List.filter_sublist.map _).nodup r.nd
  keys := fun l => by
    simp only [List.mem_map, List.mem_filter, Bool.not_eq_true', decide_eq_false_iff_not]
    constructor
    · rintro ⟨p, ⟨hp, hn⟩, rfl⟩
      have := (r.keys p.1).mp (List.mem_map_of_mem hp)
      simp only [heldP, List.flatMap_cons, List.mem_append] at this
      exact this.resolve_left hn
    · intro hl
      have hk : l ∈ R.map (·.1) := (r.keys l).mpr (by simp only [heldP, List.flatMap_cons, List.mem_append]; exact .inr hl)
      obtain ⟨p, hp, rfl⟩ := List.mem_map.mp hk
      exact ⟨p, ⟨hp, held_off v hl⟩, rfl⟩
  vals := fun p hp => by
    obtain ⟨h1, h2⟩ := List.mem_filter.mp hp
    have h2 : p.1 ∉ b.1 := by simpa using h2
    obtain ⟨a, e⟩ := r.vals p h1
    refine ⟨a, fun x => ?_⟩
    rw [e x]
    simp only [UB, if_neg h2]
theorem rest_mem (v : VP (b :: ps)) (r : RowsOf R (b :: ps)) (x : Str) : x ∈ ((R.filter fun p => !decide (p.1 ∈ b.1)).flatMap (·.2)) ↔ x ∈ usedP ps := by
  have rr := rest_rows v r
  constructor
  · intro hx
    obtain ⟨p, hp, h⟩ := List.mem_flatMap.mp hx
    exact UB_used ps p.1 x (((rr.vals p hp).2 x).mp h)
  · intro hx
    cases ps with
    | nil => cases hx
    | cons c qs =>
      obtain ⟨p, hp, h⟩ := some_first v.tail rr
      refine List.mem_flatMap.mpr ⟨p, hp, ((rr.vals p hp).2 x).mpr ?_⟩
      simp only [UB, if_pos h]
      exact hx
theorem used_eq (v : VP (b :: ps)) (r : RowsOf R (b :: ps)) {p : Str × List Str} (hp : p ∈ R) (h : p.1 ∈ b.1) : p.2.filter (fun x => !decide (x ∈ (R.filter fun p => !decide (p.1 ∈ b.1)).flatMap (·.2))) = b.2 := by
  obtain ⟨a, e⟩ := r.vals p hp
  have hb := (v.asc b List.mem_cons_self).2
  refine asc_unique (List.Pairwise.filter _ a) hb fun x => ?_
  simp only [List.mem_filter, Bool.not_eq_true', decide_eq_false_iff_not, rest_mem v r, e x, UB, if_pos h]
  have nd := (List.nodup_append.mp v.nd).2.1
  simp only [usedP, List.flatMap_cons] at nd ⊢
  have dis := (List.nodup_append.mp nd).2.2
  simp only [List.mem_append]
  constructor
  · rintro ⟨h1 | h1, h2⟩
    · exact h1
    · exact absurd h1 h2
  · intro hx
    exact ⟨.inl hx, fun h2 => dis x hx x h2 rfl⟩
end
def notInT (ys : List Str) : D → Bool
  | .str x => !decide (x ∈ ys)
  | _ => false
theorem without_names_D (xs ys : List Str) (h : xs.length ≤ 1000) (hx : ∀ x ∈ xs ++ ys, PyData.strOk x = true) : F_without_names [.tuple (xs.map .str), .list (ys.map .str)] = some ((.tuple ((xs.filter fun x => !decide (x ∈ ys)).map .str), false), []) := by
  have sh : SeqAt.shaped (.list (ys.map PyData.str)) = true := shaped_lst fun d hd => by
    obtain ⟨y, hy, rfl⟩ := List.mem_map.mp hd
    exact ⟨by simpa [PyData.canLay0] using hx y (List.mem_append_right _ hy), by simp [PyData.depth]⟩
  have inn : ∀ x ∈ xs, inB (.str x) (.list (ys.map .str)) = some (decide (x ∈ ys)) := fun x hm => by
    rw [inB_l _ (shaped_s x (hx x (List.mem_append_left _ hm))) sh]
    congr 1
    rw [Bool.eq_iff_iff]
    simp only [List.any_map, List.any_eq_true, Function.comp, PyData.eqv, beq_iff_eq, decide_eq_true_eq]
    constructor
    · rintro ⟨y, hy, rfl⟩; exact hy
    · intro h; exact ⟨x, h, rfl⟩
  have L := lcL_filter2 (g := gN 2) (t := (sTest (sOp notInF (sVar 2) (sVar 1)))) (el := sVar 2) (vs := [2]) (ρ := [some (.val (.tuple (xs.map .str))), some (.val (.list (ys.map .str))), none]) (h := id) (p := notInT ys) (ds := xs.map .str) (n := 0) (fun d hd => by
    obtain ⟨x, hm, rfl⟩ := List.mem_map.mp hd
    have i := inn x hm
    refine ⟨[some (.val (.tuple (xs.map .str))), some (.val (.list (ys.map .str))), some (.val (.str x))], by simp, ?_, by simp, fun _ => ⟨.val (.str x), by simp, by simp⟩⟩
    generalize ys.map PyData.str = YS at *
    simp [i, notInT]) (by rw [Nat.zero_add, List.length_map]; exact Nat.le_trans h (by decide))
  have e : ((xs.map PyData.str).filter (notInT ys)).map id = (xs.filter fun x => !decide (x ∈ ys)).map .str := by
    rw [List.map_id, List.filter_map]
    rfl
  rw [e] at L
  generalize (xs.filter fun x => !decide (x ∈ ys)).map PyData.str = ZS at *
  unfold F_without_names b_without_names
  simp [L]
abbrev body_made : SemS := (sSeq (sSet 3 (sCB maxF (pCons (sLcS (gN 5) sYes (sCB lenF (pCons (sVar 5) pNil)) [5] (iOf valsOf (sVar 2))) pNil))) (sSeq (sSet 4 (sCB tupleF2 (pCons (sCB sortedF2 (pCons (sLcS (gT 2 (gsCons (gN 7) (gsCons (gN 5) gsNil))) (sTest (sOp eqF (sCB lenF (pCons (sVar 5) pNil)) (sVar 3))) (sVar 7) [7, 5] (iOf itemsOf (sVar 2))) pNil)) pNil))) (sSeq (sSet 5 (sOp ixG (sVar 2) (sOp ixG (sVar 4) (sC (.int 0))))) (sSeq (sSet 2 (sDc (gT 2 (gsCons (gN 7) (gsCons (gN 8) gsNil))) (sTest (sOp notInF (sVar 7) (sVar 4))) (sVar 7) (sVar 8) [7, 8] (iOf itemsOf (sVar 2)))) (sSeq (sSet 6 (sLc2 (gN 8) sYes (iOf walkOf (sVar 8)) (gN 9) sYes (sVar 9) [8, 9] [9] (iOf valsOf (sVar 2)))) (sSet 1 (sOp addF (sVar 1) (sLst (sCons (sVar 4) (sCons (sCall [.v, .v] F_without_names (mV (sVar 5) (mV (sVar 6) mNil))) sNil))))))))))
def setT (z : List Str) : D := .tuple (z.map .str)
theorem vals_R (R : List (Str × List Str)) : ((R.map valT).map rowD).map (·.2) = R.map fun p => setT p.2 := by
  simp [valT, rowD, setT, Function.comp_def]
def itemT (p : Str × List Str) : D := .tuple [.str p.1, setT p.2]
theorem items_R (R : List (Str × List Str)) : ((R.map valT).map rowD).map pairD = R.map itemT := by
  simp [valT, rowD, pairD, itemT, setT, Function.comp_def]
theorem foldl_max : ∀ (ns : List Int) (x M : Int), x ≤ M → (∀ n ∈ ns, n ≤ M) → (x = M ∨ M ∈ ns) → ns.foldl max x = M
  | [], x, M, _, _, h => by simpa using h
  | n :: ns, x, M, h1, h2, h3 => by
    rw [List.foldl_cons]
    have hn := h2 n List.mem_cons_self
    refine foldl_max ns (max x n) M (by omega) (fun k hk => h2 k (List.mem_cons_of_mem _ hk)) ?_
    rcases h3 with h3 | h3
    · left; omega
    · rcases List.mem_cons.mp h3 with h3 | h3
      · left; omega
      · exact .inr h3
theorem max_of (ns : List Int) (M : Int) (h1 : ∀ n ∈ ns, n ≤ M) (h2 : M ∈ ns) : maxF [.list (ns.map PyData.int)] = some (.int M, false) := by
  cases ns with
  | nil => cases h2
  | cons n ns =>
    have e := asInts_map (fun x : Int => x) (n :: ns)
    simp only [List.map_id'] at e
    have e' : asInts ((n :: ns).map PyData.int) = some (n :: ns) := e
    have f : (n :: ns).foldl max n = M := by
      refine foldl_max (n :: ns) n M (h1 n List.mem_cons_self) h1 (.inr h2)
    show intsF (fun x ns => ns.foldl max x) (.list ((n :: ns).map PyData.int)) = _
    simp only [intsF, e', Option.bind_some, f]
def lenD : D → D
  | .tuple ds => .int ds.length
  | _ => .none
theorem len_loop (c0 c1 c2 c3 c4 c6 c7 c8 c9 : Option Cell) (R : List (Str × List Str)) (hz : R.length ≤ 1000) :
    lcL (gN 5) sYes (sCB lenF (pCons (sVar 5) pNil)) [5] (R.map fun p => setT p.2) 0 [c0, c1, c2, c3, c4, none, c6, c7, c8, c9] = some (R.map (fun p => PyData.int (p.2.length : Nat)), [c0, c1, c2, c3, c4, none, c6, c7, c8, c9]) := by
  have := lcL_map (g := gN 5) (t := sYes) (el := (sCB lenF (pCons (sVar 5) pNil))) (vs := [5]) (ρ := [c0, c1, c2, c3, c4, none, c6, c7, c8, c9]) (h := lenD) (ds := R.map fun p => setT p.2) (n := 0) (fun d hd => by
    obtain ⟨p, hp, rfl⟩ := List.mem_map.mp hd
    exact ⟨[c0, c1, c2, c3, c4, some (.val (setT p.2)), c6, c7, c8, c9], .val (.int (p.2.length : Nat)), by simp, by simp, by simp [setT], by simp [setT, lenD], by simp⟩) (by rw [Nat.zero_add, List.length_map]; exact Nat.le_trans hz (by decide))
  rw [this]
  simp [setT, lenD, Function.comp_def]
def keyT : D → D
  | .tuple [k, _] => k
  | d => d
def lenIs (M : Nat) : D → Bool
  | .tuple [_, .tuple ds] => decide (ds.length = M)
  | _ => false
theorem key_loop (c0 c1 c2 c4 c6 c8 c9 : Option Cell) (M : Nat) (R : List (Str × List Str)) (hz : R.length ≤ 1000) :
    lcL (gT 2 (gsCons (gN 7) (gsCons (gN 5) gsNil))) (sTest (sOp eqF (sCB lenF (pCons (sVar 5) pNil)) (sVar 3))) (sVar 7) [7, 5] (R.map itemT) 0 [c0, c1, c2, some (.val (.int (M : Nat))), c4, none, c6, none, c8, c9] =
      some (((R.filter fun p => decide (p.2.length = M)).map (·.1)).map PyData.str, [c0, c1, c2, some (.val (.int (M : Nat))), c4, none, c6, none, c8, c9]) := by
  have := lcL_filter2 (g := gT 2 (gsCons (gN 7) (gsCons (gN 5) gsNil))) (t := (sTest (sOp eqF (sCB lenF (pCons (sVar 5) pNil)) (sVar 3)))) (el := sVar 7) (vs := [7, 5]) (ρ := [c0, c1, c2, some (.val (.int (M : Nat))), c4, none, c6, none, c8, c9]) (h := keyT) (p := lenIs M) (ds := R.map itemT) (n := 0) (fun d hd => by
    obtain ⟨p, hp, rfl⟩ := List.mem_map.mp hd
    refine ⟨[c0, c1, c2, some (.val (.int (M : Nat))), c4, some (.val (setT p.2)), c6, some (.val (.str p.1)), c8, c9], by simp [itemT], ?_, by simp, fun _ => ⟨.val (.str p.1), by simp, by simp [itemT, keyT]⟩⟩
    simp [setT, itemT, lenIs, decInt]) (by rw [Nat.zero_add, List.length_map]; exact Nat.le_trans hz (by decide))
  rw [this]
  congr 2
  rw [List.filter_map]
  simp only [List.map_map]
  have : (lenIs M ∘ itemT) = fun p => decide (p.2.length = M) := by funext p; simp [lenIs, itemT, setT]
  rw [this]
  rfl
end Pv.Pg
end
section
set_option Elab.async false
set_option linter.all false
set_option autoImplicit false
set_option maxRecDepth 100000
set_option maxHeartbeats 2000000
namespace Pv.Pg
open PySem L2 Pv Pv.Ev
def sndT : D → D
  | .tuple [_, x] => x
  | d => d
def offT (F : List Str) : D → Bool
  | .tuple [.str k, _] => !decide (k ∈ F)
  | _ => false
theorem left_loop (c0 c1 c2 c3 c5 c6 c9 : Option Cell) (F : List Str) (R : List (Str × List Str)) (hz : R.length ≤ 1000) (nd : (R.map (·.1)).Nodup) (hk : ∀ p ∈ R, PyData.strOk p.1 = true) (hF : ∀ x ∈ F, PyData.strOk x = true) :
    dcL (gT 2 (gsCons (gN 7) (gsCons (gN 8) gsNil))) (sTest (sOp notInF (sVar 7) (sVar 4))) (sVar 7) (sVar 8) [7, 8] (R.map itemT) [] [c0, c1, c2, c3, some (.val (.tuple (F.map .str))), c5, c6, none, none, c9] =
      some (((R.filter fun p => !decide (p.1 ∈ F)).map valT).map rowD, [c0, c1, c2, c3, some (.val (.tuple (F.map .str))), c5, c6, none, none, c9]) := by
  have := dcL_filter (g := gT 2 (gsCons (gN 7) (gsCons (gN 8) gsNil))) (t := (sTest (sOp notInF (sVar 7) (sVar 4)))) (kf := sVar 7) (vf := sVar 8) (vs := [7, 8]) (ρ := [c0, c1, c2, c3, some (.val (.tuple (F.map .str))), c5, c6, none, none, c9]) (hk := fun d => keyG (keyT d)) (h := sndT) (p := offT F) (ds := R.map itemT) (es := []) (fun d hd => by
    obtain ⟨p, hp, rfl⟩ := List.mem_map.mp hd
    have i := inB_strs (hk p hp) hF
    refine ⟨[c0, c1, c2, c3, some (.val (.tuple (F.map .str))), c5, c6, some (.val (.str p.1)), some (.val (setT p.2)), c9], by simp [itemT], ?_, by simp, fun _ => ⟨.val (.str p.1), .val (setT p.2), by simp, by simp [itemT, keyT, keyG, keyD], by simp, by simp [itemT, sndT]⟩⟩
    generalize F.map PyData.str = FS at *
    simp [i, itemT, offT]) (by simp; omega)
  rw [this]
  congr 2
  rw [List.filter_map]
  have e : (offT F ∘ itemT) = fun p => !decide (p.1 ∈ F) := by funext p; simp [offT, itemT]
  rw [e, List.foldl_map]
  have q := dputs_new (fun p : Str × List Str => p.1) (fun p => setT p.2) (R.filter fun p => !decide (p.1 ∈ F)) [] (by simpa using (List.filter_sublist.map _).nodup nd)
  simp only [List.map_nil, List.nil_append] at q
  have ek : ∀ p : Str × List Str, keyG (keyT (itemT p)) = .inr p.1 := fun p => by simp [keyT, itemT, keyG]
  have es : ∀ p : Str × List Str, sndT (itemT p) = setT p.2 := fun p => rfl
  simp only [ek, es]
  rw [q]
  rfl
def memT : D → List D
  | .tuple ds => ds
  | _ => []
theorem rest_loop (c0 c1 c2 c3 c4 c5 c6 c7 : Option Cell) (R : List (Str × List Str)) (hz : (R.flatMap (·.2)).length ≤ 10000) :
    lc2L (gN 8) sYes (iOf walkOf (sVar 8)) (gN 9) sYes (sVar 9) [8, 9] [9] (R.map fun p => setT p.2) 0 [c0, c1, c2, c3, c4, c5, c6, c7, none, none] = some ((R.flatMap (·.2)).map .str, [c0, c1, c2, c3, c4, c5, c6, c7, none, none]) := by
  have e : (R.flatMap (·.2)).map PyData.str = (R.map fun p => setT p.2).flatMap memT := by
    rw [List.map_flatMap, List.flatMap_map]
    rfl
  rw [e]
  refine lc2L_map (inner := memT) (fun d hd => ?_) (by rw [← e, List.length_map, Nat.zero_add]; exact Nat.le_trans hz (by decide))
  obtain ⟨p, hp, rfl⟩ := List.mem_map.mp hd
  refine ⟨[c0, c1, c2, c3, c4, c5, c6, c7, some (.val (setT p.2)), none], p.2.map .str, [c0, c1, c2, c3, c4, c5, c6, c7, some (.val (setT p.2)), none], by simp, by simp, by simp [setT], by simp, fun m hm => ?_, by simp⟩
  have := lcL_map (g := gN 9) (t := sYes) (el := sVar 9) (vs := [9]) (ρ := [c0, c1, c2, c3, c4, c5, c6, c7, some (.val (setT p.2)), none]) (h := id) (ds := p.2.map .str) (n := m) (fun y hy => ⟨[c0, c1, c2, c3, c4, c5, c6, c7, some (.val (setT p.2)), some (.val y)], .val y, by simp, by simp, by simp, by simp, by simp⟩) hm
  have em : memT (setT p.2) = p.2.map .str := rfl
  rw [em]
  simpa using this
structure RowsZ (R : List (Str × List Str)) : Prop where
  few : R.length ≤ 100
  short : ∀ p ∈ R, p.2.length ≤ 100
  okk : ∀ p ∈ R, PyData.strOk p.1 = true ∧ ∀ x ∈ p.2, PyData.strOk x = true
theorem RowsZ.filter {R : List (Str × List Str)} (z : RowsZ R) (f : Str × List Str → Bool) : RowsZ (R.filter f) :=
  ⟨Nat.le_trans (List.length_filter_le _ _) z.few, fun p hp => z.short p (List.mem_filter.mp hp).1, fun p hp => z.okk p (List.mem_filter.mp hp).1⟩
theorem flat_small : ∀ {R : List (Str × List Str)} {k n : Nat}, R.length ≤ n → (∀ p ∈ R, p.2.length ≤ k) → (R.flatMap (·.2)).length ≤ n * k
  | [], k, n, _, _ => by simp
  | p :: R, k, n, h, hs => by
    obtain ⟨m, rfl⟩ : ∃ m, n = m + 1 := ⟨n - 1, by simp at h; omega⟩
    have h1 := hs p List.mem_cons_self
    have h2 := flat_small (R := R) (k := k) (n := m) (by simpa using h) fun q hq => hs q (List.mem_cons_of_mem _ hq)
    rw [List.flatMap_cons, List.length_append, Nat.succ_mul]
    omega
def frM (v : D) (fnd : List D) (c2 : Cell) (c3 c4 c5 c6 : Option D) : Ro := [some (.val v), some (.own (.list fnd)), some c2, c3.map .val, c4.map .val, c5.map .val, c6.map .val, none, none, none]
theorem made_step (v : D) (fnd : List D) (c2 : Cell) (c3 c4 c5 c6 : Option D) (R : List (Str × List Str)) (b : Blk) (ps : List Blk) (hc : c2 = .own (dictR R) ∨ c2 = .val (dictR R)) (V : VP (b :: ps)) (r : RowsOf R (b :: ps)) (z : RowsZ R) (hf : fnd.length ≤ 1000) :
    ∃ (c3' c4' c5' c6' : Option D), body_made (frM v fnd c2 c3 c4 c5 c6) = some (.nx (frM v (fnd ++ [setT b.1, setT b.2]) (.val (dictR (R.filter fun p => !decide (p.1 ∈ b.1)))) c3' c4' c5' c6')) := by
  obtain ⟨q, hq, hqb⟩ := some_first V r
  have hmax := max_of (R.map fun p => ((p.2.length : Nat) : Int)) ((usedP (b :: ps)).length : Nat) (fun n hn => by
    obtain ⟨p, hp, rfl⟩ := List.mem_map.mp hn
    by_cases h : p.1 ∈ b.1
    · rw [row_first V r hp h]; exact Int.le_refl _
    · have := row_later V r hp h; omega) (List.mem_map.mpr ⟨q, hq, by rw [row_first V r hq hqb]⟩)
  rw [List.map_map] at hmax
  have hfirst := first_eq V r
  have keysz : ((R.filter fun p => decide (p.2.length = (usedP (b :: ps)).length)).map (·.1)).length ≤ 1000 := by
    rw [List.length_map]; exact Nat.le_trans (Nat.le_trans (List.length_filter_le _ _) z.few) (by omega)
  have so := sorted_strs_l _ (Nat.le_trans keysz (by decide : 1000 ≤ sizeLine))
  rw [hfirst] at so
  obtain ⟨l0, fs, hb1⟩ : ∃ l0 fs, b.1 = l0 :: fs := by
    cases h : b.1 with
    | nil => exact absurd h (V.ne1 b List.mem_cons_self)
    | cons l fs => exact ⟨l, fs, rfl⟩
  obtain ⟨p0, hp0, e0⟩ : ∃ p ∈ R, p.1 = l0 := by
    have hk : l0 ∈ R.map (·.1) := (r.keys l0).mpr (by simp [heldP, hb1])
    obtain ⟨p, hp, e⟩ := List.mem_map.mp hk
    exact ⟨p, hp, e⟩
  have hp0b : p0.1 ∈ b.1 := by rw [e0, hb1]; exact List.mem_cons_self
  have dg := dget_row (ks := R.map valT) (l := l0) (z := setT p0.2) (by rw [keysT]; exact r.nd) (List.mem_map.mpr ⟨p0, hp0, by rw [← e0]; rfl⟩)
  have bok : ∀ x ∈ b.1, PyData.strOk x = true := fun x hx => by
    have hk : x ∈ R.map (·.1) := (r.keys x).mpr (by simp [heldP, hx])
    obtain ⟨p, hp, rfl⟩ := List.mem_map.mp hk
    exact (z.okk p hp).1
  have zf := z.filter fun p => !decide (p.1 ∈ b.1)
  have restz := Nat.le_trans (flat_small zf.few zf.short) (by decide : 100 * 100 ≤ 10000)
  have ue := used_eq V r hp0 hp0b
  have wn := without_names_D p0.2 ((R.filter fun p => !decide (p.1 ∈ b.1)).flatMap (·.2)) (Nat.le_trans (z.short p0 hp0) (by decide)) (fun x hx => by
    rcases List.mem_append.mp hx with hx | hx
    · exact (z.okk p0 hp0).2 x hx
    · obtain ⟨p, hp, h⟩ := List.mem_flatMap.mp hx
      exact (zf.okk p hp).2 x h)
  rw [ue] at wn
  have vR := vals_R R
  have iR := items_R R
  have vR' := vals_R (R.filter fun p => !decide (p.1 ∈ b.1))
  have hz1 : R.length ≤ 1000 := Nat.le_trans z.few (by decide)
  have zz : fnd.length + 2 ≤ sizeLine := Nat.le_trans (by omega : _ ≤ 1002) (by decide)
  refine ⟨some (.int ((usedP (b :: ps)).length : Nat)), some (setT b.1), some (setT p0.2), some (.list (((R.filter fun p => !decide (p.1 ∈ b.1)).flatMap (·.2)).map .str)), ?_⟩
  have L1 := len_loop (some (.val v)) (some (.own (.list fnd))) (some (.val (dictR R))) (c3.map .val) (c4.map .val) (c6.map .val) none none none R hz1
  have L2 := key_loop (some (.val v)) (some (.own (.list fnd))) (some (.val (dictR R))) (c4.map .val) (c6.map .val) none none (usedP (b :: ps)).length R hz1
  have L3 := left_loop (some (.val v)) (some (.own (.list fnd))) (some (.val (dictR R))) (some (.val (.int ((usedP (b :: ps)).length : Nat)))) (some (.val (setT p0.2))) (c6.map .val) none b.1 R hz1 r.nd (fun p hp => (z.okk p hp).1) bok
  have L4 := rest_loop (some (.val v)) (some (.own (.list fnd))) (some (.val (dictR (R.filter fun p => !decide (p.1 ∈ b.1))))) (some (.val (.int ((usedP (b :: ps)).length : Nat)))) (some (.val (setT b.1))) (some (.val (setT p0.2))) (c6.map .val) none (R.filter fun p => !decide (p.1 ∈ b.1)) restz
  have a0 : atI (b.1.map PyData.str) 0 = some (.str l0) := by rw [hb1]; exact at0
  unfold frM
  have em : (fun p : Str × List Str => PyData.int ((p.2.length : Nat) : Int)) = PyData.int ∘ fun p : Str × List Str => ((p.2.length : Nat) : Int) := rfl
  rw [em, ← List.map_map] at L1
  rw [List.map_map] at L1
  unfold setT dictR at *
  generalize hM : (usedP (b :: ps)).length = M at *
  generalize hQ : ((R.filter fun p => decide (p.2.length = M)).map (·.1)) = KF at *
  generalize hR' : (R.filter fun p => !decide (p.1 ∈ b.1)) = R' at *
  generalize hU : (R'.flatMap (·.2)).map PyData.str = US at *
  generalize hB1 : b.1.map PyData.str = B1 at *
  generalize hD : (R.map valT).map rowD = DR at *
  generalize hD' : (R'.map valT).map rowD = DR' at *
  rcases hc with rfl | rfl
  · simp -implicitDefEqProofs [vR, L1, hmax, iR, L2, so, a0, dg, L3, vR', L4, wn, zz]
  · simp -implicitDefEqProofs [vR, L1, hmax, iR, L2, so, a0, dg, L3, vR', L4, wn, zz]
theorem made_loop (v : D) : ∀ (ps : List Blk) (n : Nat) (fnd : List D) (c2 : Cell) (c3 c4 c5 c6 : Option D) (R : List (Str × List Str)), ps.length < n → (c2 = .own (dictR R) ∨ c2 = .val (dictR R)) → VP ps → RowsOf R ps → RowsZ R → fnd.length + 2 * ps.length ≤ 1000 →
    ∃ (c2' : Cell) (c3' c4' c5' c6' : Option D), sWhile (sTruthD (sVar 2)) body_made n (frM v fnd c2 c3 c4 c5 c6) = some (.nx (frM v (fnd ++ (flatP ps).map setT) c2' c3' c4' c5' c6'))
  | [], n, fnd, c2, c3, c4, c5, c6, R, hn, hc, V, r, z, hf => by
    obtain ⟨n, rfl⟩ : ∃ m, n = m + 1 := ⟨n - 1, by simp at hn; omega⟩
    have hR : R = [] := by
      cases R with
      | nil => rfl
      | cons p R =>
        have := (r.keys p.1).mp (by simp)
        simp [heldP] at this
    subst hR
    refine ⟨c2, c3, c4, c5, c6, ?_⟩
    have c : sTruthD (sVar 2) (frM v fnd c2 c3 c4 c5 c6) = some (false, frM v fnd c2 c3 c4 c5 c6) := by
      unfold frM
      rcases hc with rfl | rfl <;> simp [dictR]
    simp only [sWhile, c, Option.bind_some, Bool.false_eq_true, if_false, flatP, List.flatMap_nil, List.map_nil, List.append_nil]
  | b :: ps, n, fnd, c2, c3, c4, c5, c6, R, hn, hc, V, r, z, hf => by
    obtain ⟨n, rfl⟩ : ∃ m, n = m + 1 := ⟨n - 1, by simp at hn; omega⟩
    simp only [List.length_cons] at hn hf
    obtain ⟨d3, d4, d5, d6, st⟩ := made_step v fnd c2 c3 c4 c5 c6 R b ps hc V r z (by omega)
    obtain ⟨e2, e3, e4, e5, e6, ih⟩ := made_loop v ps n (fnd ++ [setT b.1, setT b.2]) (.val (dictR (R.filter fun p => !decide (p.1 ∈ b.1)))) d3 d4 d5 d6 (R.filter fun p => !decide (p.1 ∈ b.1)) (by omega) (.inr rfl) V.tail (rest_rows V r) (z.filter _) (by simp only [List.length_append, List.length_cons, List.length_nil]; omega)
    refine ⟨e2, e3, e4, e5, e6, ?_⟩
    have hne : R ≠ [] := by
      obtain ⟨p, hp, _⟩ := some_first V r
      exact List.ne_nil_of_mem hp
    have c : sTruthD (sVar 2) (frM v fnd c2 c3 c4 c5 c6) = some (true, frM v fnd c2 c3 c4 c5 c6) := by
      unfold frM
      rcases hc with rfl | rfl <;> simp [dictR, hne]
    conv => lhs; rw [sWhile]
    simp only [c, Option.bind_some, if_true, st]
    rw [ih]
    simp [flatP]
theorem made_D (ps : List Blk) (R : List (Str × List Str)) (V : VP ps) (r : RowsOf R ps) (z : RowsZ R) (hp : ps.length ≤ 100) : F_made [dictR R] = some ((setsD (flatP ps), false), []) := by
  obtain ⟨c2, c3, c4, c5, c6, L⟩ := made_loop (dictR R) ps 1000000 [] (.own (dictR R)) none none none none R (by omega) (.inl rfl) V r z (by simp; omega)
  have e0 : frM (dictR R) [] (.own (dictR R)) none none none none = [some (.val (dictR R)), some (.own (.list [])), some (.own (dictR R)), none, none, none, none, none, none, none] := rfl
  rw [e0] at L
  have e1 : frM (dictR R) ([] ++ (flatP ps).map setT) c2 c3 c4 c5 c6 = [some (.val (dictR R)), some (.own (.list ((flatP ps).map setT))), some c2, c3.map .val, c4.map .val, c5.map .val, c6.map .val, none, none, none] := by
    rw [List.nil_append]; rfl
  rw [e1] at L
  have es : setsD (flatP ps) = .tuple ((flatP ps).map setT) := rfl
  rw [es]
  generalize (flatP ps).map setT = FS at *
  unfold dictR at *
  generalize (R.map valT).map rowD = DR at *
  unfold F_made b_made
  simp -implicitDefEqProofs [↓L]
end Pv.Pg
end
section
set_option Elab.async false
set_option linter.all false
set_option autoImplicit false
set_option maxRecDepth 100000
set_option maxHeartbeats 2000000
namespace Pv.Lw
open PySem L2 Pv Pv.Pg Pv.Ev
abbrev body_put : SemS := sSub 2 (sVar 4) (sCB sortedF2 (pCons (sVar 1) pNil))
theorem inner_loop (c0 c3 : Option Cell) (V : List Str) (hV : V.length ≤ 8) : ∀ (h : List Str) (E : List (Str × D)) (c4 : Option D), (E.map (·.1) ++ h).Nodup → E.length + h.length ≤ 8 →
    ∃ c5 : Option D, forL (gN 4) body_put (h.map .str) [c0, some (.own (.list (V.map .str))), some (.own (.dict (E.map rowD))), c3, c4.map .val] =
      some (.nx [c0, some (.own (.list (V.map .str))), some (.own (.dict ((E ++ h.map fun l => (l, PyData.list ((sortS V).map .str))).map rowD))), c3, c5.map .val])
  | [], E, c4, _, _ => ⟨c4, by simp⟩
  | l :: h, E, c4, hn, hl => by
    have hx : l ∉ E.map (·.1) := fun m => (List.nodup_append.mp hn).2.2 _ m l (by simp) rfl
    have s1 := sorted_strs_l V (Nat.le_trans hV (by decide))
    have s2 := dput_new (ks := E) (l := l) (z := .list ((sortS V).map .str)) hx
    have s3 : E.length < sizeLine := Nat.lt_of_le_of_lt (by simp at hl; omega : E.length ≤ 8) (by decide)
    obtain ⟨c5, ih⟩ := inner_loop c0 c3 V hV h (E ++ [(l, PyData.list ((sortS V).map .str))]) (some (.str l)) (by simpa using hn) (by simp at hl ⊢; omega)
    refine ⟨c5, ?_⟩
    have e1 : gN 4 (.str l) [c0, some (.own (.list (V.map .str))), some (.own (.dict (E.map rowD))), c3, c4.map .val] = some [c0, some (.own (.list (V.map .str))), some (.own (.dict (E.map rowD))), c3, some (.val (.str l))] := by simp
    have e2 : body_put [c0, some (.own (.list (V.map .str))), some (.own (.dict (E.map rowD))), c3, some (.val (.str l))] = some (.nx [c0, some (.own (.list (V.map .str))), some (.own (.dict ((E ++ [(l, PyData.list ((sortS V).map .str))]).map rowD))), c3, some (.val (.str l))]) := by
      simp [s1, s2, s3]
    simp only [List.map_cons, forL, e1, e2, Option.bind_some]
    simp only [Option.map_some] at ih
    rw [ih]
    simp
abbrev body_table : SemS := (sSeq (sSet 1 (sOp addF (sVar 1) (sCB listF (pCons (sOp ixG (sVar 0) (sOp addF (sVar 3) (sC (.int 1)))) pNil)))) (sFor (iOf walkOf (sOp ixG (sVar 0) (sVar 3))) (gN 4) body_put))
theorem table_step (t : List D) (V u h : List Str) (E : List (Str × D)) (i : Int) (c4 : Option D) (a1 : atI t i = some (.tuple (h.map .str))) (a2 : atI t (i + 1) = some (.tuple (u.map .str)))
    (p1 : V.length + u.length ≤ 8) (p2 : E.length + h.length ≤ 8) (p4 : (E.map (·.1) ++ h).Nodup) :
    ∃ c5 : Option D, body_table [some (.val (.tuple t)), some (.own (.list (V.map .str))), some (.own (.dict (E.map rowD))), some (.val (.int i)), c4.map .val] =
      some (.nx [some (.val (.tuple t)), some (.own (.list ((V ++ u).map .str))), some (.own (.dict ((E ++ h.map fun l => (l, PyData.list ((sortS (V ++ u)).map .str))).map rowD))), some (.val (.int i)), c5.map .val]) := by
  obtain ⟨c5, L⟩ := inner_loop (some (.val (.tuple t))) (some (.val (.int i))) (V ++ u) (by simpa using p1) h E c4 p4 p2
  refine ⟨c5, ?_⟩
  have t5 : V.length + u.length ≤ sizeLine := Nat.le_trans p1 (by decide)
  generalize (E ++ h.map fun l => (l, PyData.list ((sortS (V ++ u)).map .str))).map rowD = E2 at *
  rw [List.map_append] at L ⊢
  simp [a1, a2, t5, L]
theorem table_D (ns : List (List Str)) (m : Nat) (G : Good ns m) : F__law_table [setsD ns] = some ((.dict (((accS ns m m).2.map valL).map rowD), true), []) := by
  have hlen := G.len
  have hfew := G.few
  have R := range_ok ns.length (by omega) (by omega)
  obtain ⟨ρ', L, hI⟩ := forL_inv (g := gN 3) (b := body_table) (fun k ρ => k ≤ m → ∃ c3 c4 : Option D, ρ = [some (.val (setsD ns)), some (.own (.list ((accS ns m k).1.map .str))), some (.own (.dict (((accS ns m k).2.map valL).map rowD))), c3.map .val, c4.map .val])
    (rng3 ((ns.length : Int) - 2) (-2) (ns.length / 2)) 0 [some (.val (setsD ns)), some (.own (.list [])), some (.own (.dict [])), none, none] (fun _ => ⟨none, none, rfl⟩) (fun k d ρ hd hI => by
      simp only [Nat.zero_add] at hI ⊢
      simp only [rng3, List.getElem?_map, Option.map_eq_some_iff, List.getElem?_range] at hd
      obtain ⟨k', hk', rfl⟩ := hd
      obtain ⟨hk1, hk2⟩ := List.getElem?_eq_some_iff.mp hk'
      simp only [List.getElem_range] at hk2
      subst hk2
      simp only [List.length_range] at hk1
      have hk : k < m := by omega
      obtain ⟨c3, c4, rfl⟩ := hI (by omega)
      obtain ⟨p1, p2, p3, p4⟩ := G.parts hk
      obtain ⟨c5, st⟩ := table_step (ns.map fun n => PyData.tuple (n.map .str)) (accS ns m k).1 (ns.getD (2 * (m - 1 - k) + 1) []) (ns.getD (2 * (m - 1 - k)) []) ((accS ns m k).2.map valL) ((ns.length : Int) - 2 + (k : Nat) * -2) c4
        (atI_nat (at_set (by omega)) (by omega)) (atI_nat (at_set (by omega)) (by omega)) p1 (by simpa using p2) (by simpa [valL, Function.comp_def] using p4)
      refine ⟨[some (.val (setsD ns)), some (.own (.list ((accS ns m k).1.map .str))), some (.own (.dict (((accS ns m k).2.map valL).map rowD))), some (.val (.int ((ns.length : Int) - 2 + (k : Nat) * -2))), c4.map .val], _, by simp, st, fun _ => ⟨some (.int ((ns.length : Int) - 2 + (k : Nat) * -2)), c5, ?_⟩⟩
      simp only [accS, List.map_append, List.map_map]
      rfl)
  obtain ⟨c3, c4, rfl⟩ := hI (by simp [rng3]; omega)
  have e : 0 + (rng3 ((ns.length : Int) - 2) (-2) (ns.length / 2)).length = m := by simp [rng3]; omega
  rw [e] at L
  unfold F__law_table b__law_table
  generalize (((accS ns m m).2.map valL).map rowD) = E at *
  unfold setsD at L ⊢
  simp [R, L]
abbrev tupD (n : List Str) : D := .tuple (n.map .str)
theorem tup_ok {n : List Str} (h : ∀ l ∈ n, l ∈ W) (hl : n.length ≤ 2) : OkV (tupD n) ∧ (tupD n).depth ≤ 1 ∧ (tupD n).weight ≤ 18 := by
  have hm : ∀ d ∈ n.map PyData.str, OkV d ∧ d.depth ≤ 0 ∧ d.weight ≤ 8 := fun d hd => by
    obtain ⟨l, hm, rfl⟩ := List.mem_map.mp hd
    obtain ⟨a, _, c⟩ := W_ok l (h l hm)
    exact ⟨.ofB a, by simp [PyData.depth], of_decide_eq_true c⟩
  refine ⟨OkV.mk_ (k := 8) (fun d hd => ⟨(hm d hd).1, Nat.le_trans (hm d hd).2.1 (by decide), (hm d hd).2.2⟩) (by rw [List.length_map]; omega), ?_, ?_⟩
  · have := depthAll_iff.mpr fun d hd => (hm d hd).2.1
    simp only [PyData.depth]; omega
  · have := weightAll_le fun d hd => (hm d hd).2.2
    rw [List.length_map] at this
    simp only [PyData.weight]; omega
theorem isE_tup (n : List Str) : isE (tupD n) = n.isEmpty := by
  cases n <;> rfl
theorem strs_back : ∀ n : List Str, (n.map PyData.str).filterMap strOf = n
  | [] => rfl
  | x :: n => by simp [strOf, strs_back n]
theorem names_sets : ∀ ns : List (List Str), allNames (ns.map tupD) = ns.flatten
  | [] => rfl
  | n :: ns => by
    have := names_sets ns
    simp only [allNames, tupD] at this ⊢
    simp only [List.map_cons, List.flatMap_cons, List.flatten_cons, this, namesL, strs_back]
theorem prof_of {ns : List (List Str)} (h1 : ns.length % 2 = 0) (h2 : ∀ n ∈ ns, Asc n ∧ ∀ l ∈ n, nameB l = true) (h3 : ∀ n ∈ ns.dropLast, n ≠ []) (h4 : ns.flatten.length ≤ 8) (h5 : ns.flatten.Nodup) : profB (setsD ns) = true := by
  have e : setsD ns = .tuple (ns.map tupD) := rfl
  rw [e]
  simp only [profB, Bool.and_eq_true, decide_eq_true_eq, Bool.not_eq_true', List.length_map, names_sets]
  refine ⟨h1, ?_, ?_, h4, dedupS_len_iff.mpr h5⟩
  · simp only [List.all_eq_true, List.mem_map, forall_exists_index, and_imp, forall_apply_eq_imp_iff₂]
    intro n hn
    obtain ⟨a, b⟩ := h2 n hn
    simp only [setB, Bool.and_eq_true, List.all_eq_true, List.mem_map, forall_exists_index, and_imp, forall_apply_eq_imp_iff₂]
    exact ⟨fun l hl => b l hl, rises_iff.mpr a⟩
  · rw [← List.map_dropLast]
    apply Bool.eq_false_iff.mpr
    intro h
    simp only [List.any_map, List.any_eq_true, Function.comp, isE_tup] at h
    obtain ⟨n, hn, e⟩ := h
    exact h3 n hn (List.isEmpty_iff.mp e)
theorem shapedL {ns : List (List Str)} (h : ∀ n ∈ ns, (∀ l ∈ n, l ∈ W) ∧ n.length ≤ 2) : SeqAt.shaped (.list (ns.map tupD)) = true := shaped_lst fun d hd => by
  obtain ⟨n, hm, rfl⟩ := List.mem_map.mp hd
  obtain ⟨a, b, _⟩ := tup_ok (h n hm).1 (h n hm).2
  exact ⟨a.lay, Nat.le_trans b (by decide)⟩
abbrev if_one : SemS := (sIfS (sTest (sOp inF (sTup sNil) (sVar 3))) (sSet 3 (sSl slF (sVar 3) oNone (oSome (sMeth "list" indexL (sVar 3) (sCons (sTup sNil) sNil))))) sNx)
theorem one_D (c0 c1 c2 c4 c5 c6 c7 : Option Cell) (ns : List (List Str)) (h : ∀ n ∈ ns, (∀ l ∈ n, l ∈ W) ∧ n.length ≤ 2) : ∃ i, if_one [c0, c1, c2, some (.own (.list (ns.map tupD))), c4, c5, c6, c7] = some (.nx [c0, c1, c2, some (.own (.list ((ns.take i).map tupD))), c4, c5, c6, c7]) ∧ ∀ n ∈ ns.take i, n ≠ [] := by
  have i1 : inB (.tuple []) (.list (ns.map tupD)) = some ((ns.map tupD).any isE) := inB_l _ rfl (shapedL h)
  by_cases ha : (ns.map tupD).any isE = true
  · have f1 : ((ns.map tupD).findIdx? isE).isSome = true := by rw [List.findIdx?_isSome]; exact ha
    obtain ⟨i, hi⟩ := Option.isSome_iff_exists.mp f1
    have ix : indexL (.list (ns.map tupD)) [.tuple []] = some (.int i, false) := by
      have s : (SeqAt.shaped (.list (ns.map tupD)) && SeqAt.shaped (.tuple [])) = true := by rw [shapedL h]; rfl
      show (if (SeqAt.shaped (.list (ns.map tupD)) && SeqAt.shaped (.tuple [])) = true then ((ns.map tupD).findIdx? fun z => PyData.eqv z (.tuple [])).map fun j => (PyData.int (j : Nat), false) else none) = _
      rw [if_pos s]
      have : ((ns.map tupD).findIdx? fun z => PyData.eqv z (.tuple [])) = some i := hi
      rw [this]; rfl
    refine ⟨i, ?_, ?_⟩
    · have ct := cutD_take (ns.map tupD) i
      rw [← List.map_take] at ct
      generalize ns.map tupD = ds at *
      simp [i1, ha, ix, ct]
    · obtain ⟨_, _, h3⟩ := List.findIdx?_eq_some_iff_getElem.mp hi
      intro n hn e
      subst e
      obtain ⟨j, hj, hg⟩ := List.mem_iff_getElem.mp hn
      simp only [List.length_take] at hj
      have := h3 j (by omega)
      simp only [List.getElem_map, List.getElem_take] at this hg
      rw [hg] at this
      exact this rfl
  · refine ⟨ns.length, ?_, ?_⟩
    · simp [i1, ha]
    · rw [List.take_of_length_le (Nat.le_refl _)]
      intro n hn e
      subst e
      exact ha (List.any_eq_true.mpr ⟨tupD [], List.mem_map_of_mem hn, rfl⟩)
end Pv.Lw
end
section
set_option Elab.async false
set_option linter.all false
set_option autoImplicit false
set_option maxRecDepth 100000
set_option maxHeartbeats 2000000
namespace Pv.Pg
open PySem L2 Pv Pv.Ev Pv.Lw
def Nm (x : Str) : Prop := nameB x = true ∧ OkV (.str x) ∧ (PyData.str x).weight ≤ 8
theorem Nm.ok {x : Str} (h : Nm x) : PyData.strOk x = true := by simpa [PyData.canLay0] using h.2.1.lay
theorem Nm.ofB {x : Str} (h : (nameB x && (okVB (.str x) && decide ((PyData.str x).weight ≤ 8))) = true) : Nm x := by
  simp only [Bool.and_eq_true, decide_eq_true_eq] at h
  exact ⟨h.1, .ofB h.2.1, h.2.2⟩
structure PG (ps : List Blk) : Prop where
  vp : VP ps
  nm : ∀ x ∈ heldP ps ++ usedP ps, Nm x
  few : (heldP ps ++ usedP ps).length ≤ 8
theorem heldP_c (b : Blk) (ps : List Blk) : heldP (b :: ps) = b.1 ++ heldP ps := rfl
theorem usedP_c (b : Blk) (ps : List Blk) : usedP (b :: ps) = b.2 ++ usedP ps := rfl
theorem flatP_c (b : Blk) (ps : List Blk) : flatP (b :: ps) = b.1 :: b.2 :: flatP ps := rfl
theorem flat_perm : ∀ ps : List Blk, (flatP ps).flatten.Perm (heldP ps ++ usedP ps)
  | [] => .nil
  | b :: ps => by
    rw [flatP_c, List.flatten_cons, List.flatten_cons, heldP_c, usedP_c]
    refine List.Perm.trans (((flat_perm ps).append_left b.2).append_left b.1) ?_
    refine List.perm_iff_count.mpr fun a => ?_
    simp only [List.count_append]
    omega
theorem flat_len : ∀ ps : List Blk, (flatP ps).length = 2 * ps.length
  | [] => rfl
  | b :: ps => by rw [flatP_c, List.length_cons, List.length_cons, flat_len ps, List.length_cons]; omega
theorem flat_mem {ps : List Blk} {n : List Str} (h : n ∈ flatP ps) : ∃ b ∈ ps, n = b.1 ∨ n = b.2 := by
  obtain ⟨b, hb, h⟩ := List.mem_flatMap.mp h
  refine ⟨b, hb, ?_⟩
  simpa using h
theorem flat_last : ∀ {ps : List Blk}, VP ps → ∀ n ∈ (flatP ps).dropLast, n ≠ []
  | [], _, n, h => by simp [flatP] at h
  | [b], v, n, h => by
    have : (flatP [b]).dropLast = [b.1] := rfl
    rw [this, List.mem_singleton] at h
    subst h
    exact v.ne1 b List.mem_cons_self
  | b :: c :: r, v, n, h => by
    have e : (flatP (b :: c :: r)).dropLast = b.1 :: b.2 :: (flatP (c :: r)).dropLast := by
      rw [flatP_c]
      rfl
    rw [e] at h
    rcases List.mem_cons.mp h with rfl | h
    · exact v.ne1 b List.mem_cons_self
    · rcases List.mem_cons.mp h with rfl | h
      · exact v.used_ne (by simp)
      · exact flat_last v.tail n h
theorem held_mem {ps : List Blk} {b : Blk} (hb : b ∈ ps) {x : Str} (h : x ∈ b.1) : x ∈ heldP ps := List.mem_flatMap.mpr ⟨b, hb, h⟩
theorem used_mem {ps : List Blk} {b : Blk} (hb : b ∈ ps) {x : Str} (h : x ∈ b.2) : x ∈ usedP ps := List.mem_flatMap.mpr ⟨b, hb, h⟩
theorem PG.in {ps : List Blk} (g : PG ps) {n : List Str} (hn : n ∈ flatP ps) : Asc n ∧ (∀ x ∈ n, Nm x) ∧ n.length ≤ 8 := by
  obtain ⟨b, hb, h⟩ := flat_mem hn
  have hs : ∀ x ∈ n, x ∈ heldP ps ++ usedP ps := fun x hx => by
    rw [List.mem_append]
    rcases h with rfl | rfl
    · exact .inl (held_mem hb hx)
    · exact .inr (used_mem hb hx)
  have ha : Asc n := by
    rcases h with rfl | rfl
    · exact (g.vp.asc b hb).1
    · exact (g.vp.asc b hb).2
  exact ⟨ha, fun x hx => g.nm x (hs x hx), Nat.le_trans (sub_len ha.nodup hs) g.few⟩
theorem PG.blocks {ps : List Blk} (g : PG ps) : ps.length ≤ 8 := by
  have h : ∀ {ps : List Blk}, VP ps → ps.length ≤ (heldP ps).length := by
    intro ps
    induction ps with
    | nil => intro _; exact Nat.zero_le _
    | cons b ps ih =>
      intro v
      have h1 := ih v.tail
      have h2 : 1 ≤ b.1.length := List.length_pos_iff.mpr (v.ne1 b List.mem_cons_self)
      rw [heldP_c, List.length_append, List.length_cons]
      omega
  have h1 := h g.vp
  have h2 := g.few
  rw [List.length_append] at h2
  omega
theorem PG.good {ps : List Blk} (g : PG ps) : Good (flatP ps) ps.length where
  len := flat_len ps
  few := g.blocks
  nd := (flat_perm ps).nodup_iff.mpr g.vp.nd
  small := by rw [(flat_perm ps).length_eq]; exact g.few
theorem names_ok {n : List Str} (h : ∀ x ∈ n, Nm x) (hl : n.length ≤ 8) : OkV (tupD n) ∧ (tupD n).depth ≤ 1 ∧ (tupD n).weight ≤ 72 := by
  have hm : ∀ d ∈ n.map PyData.str, OkV d ∧ d.depth ≤ 0 ∧ d.weight ≤ 8 := fun d hd => by
    obtain ⟨l, hm, rfl⟩ := List.mem_map.mp hd
    obtain ⟨_, a, c⟩ := h l hm
    exact ⟨a, by simp [PyData.depth], c⟩
  refine ⟨OkV.mk_ (k := 8) (fun d hd => ⟨(hm d hd).1, Nat.le_trans (hm d hd).2.1 (by decide), (hm d hd).2.2⟩) (by rw [List.length_map]; omega), ?_, ?_⟩
  · have := depthAll_iff.mpr fun d hd => (hm d hd).2.1
    simp only [PyData.depth]; omega
  · have := weightAll_le fun d hd => (hm d hd).2.2
    rw [List.length_map] at this
    simp only [PyData.weight]; omega
theorem PG.okv {ps : List Blk} (g : PG ps) : OkV (setsD (flatP ps)) := by
  refine OkV.mk_ (k := 72) (fun d hd => ?_) (by rw [List.length_map, flat_len]; have := g.blocks; omega)
  obtain ⟨n, hm, rfl⟩ := List.mem_map.mp hd
  obtain ⟨_, a, b⟩ := g.in hm
  obtain ⟨a, b, c⟩ := names_ok a b
  exact ⟨a, Nat.le_trans b (by decide), c⟩
theorem PG.prof {ps : List Blk} (g : PG ps) : profB (setsD (flatP ps)) = true :=
  prof_of (by rw [flat_len]; omega) (fun n hn => ⟨(g.in hn).1, fun l hl => ((g.in hn).2.1 l hl).1⟩) (flat_last g.vp) g.good.small g.good.nd
theorem PG.check {ps : List Blk} (g : PG ps) : F_check_profile [setsD (flatP ps)] = some ((.none, false), []) := check_D g.okv g.prof
theorem PG.shape {ps : List Blk} (g : PG ps) : SeqAt.shaped (setsD (flatP ps)) = true := g.okv.shaped
def accP (ps : List Blk) : List Str × List (Str × List Str) := accS (flatP ps) ps.length ps.length
theorem acc_shift (b : Blk) (ps : List Blk) (m : Nat) : ∀ k, k ≤ m → accS (flatP (b :: ps)) (m + 1) k = accS (flatP ps) m k
  | 0, _ => rfl
  | k + 1, h => by
    have ih := acc_shift b ps m k (by omega)
    have e : 2 * (m + 1 - 1 - k) = 2 * (m - 1 - k) + 2 := by omega
    simp only [accS, ih, e]
    simp only [flatP_c, List.getD_cons_succ]
theorem accP_c (b : Blk) (ps : List Blk) : accP (b :: ps) = ((accP ps).1 ++ b.2, (accP ps).2 ++ b.1.map fun l => (l, sortS ((accP ps).1 ++ b.2))) := by
  unfold accP
  rw [List.length_cons]
  simp only [accS, acc_shift b ps ps.length ps.length (Nat.le_refl _), Nat.add_sub_cancel, Nat.sub_self, Nat.mul_zero, Nat.zero_add]
  simp only [flatP_c, List.getD_cons_succ, List.getD_cons_zero]
theorem acc_used : ∀ ps : List Blk, (accP ps).1.Perm (usedP ps)
  | [] => .nil
  | b :: ps => by
    rw [accP_c, usedP_c]
    exact ((acc_used ps).append_right _).trans List.perm_append_comm
theorem acc_keys : ∀ ps : List Blk, ((accP ps).2.map (·.1)).Perm (heldP ps)
  | [] => .nil
  | b :: ps => by
    rw [accP_c, heldP_c]
    simp only [List.map_append, List.map_map, Function.comp_def, List.map_id']
    exact ((acc_keys ps).append_right _).trans List.perm_append_comm
theorem VP.used_nd {ps : List Blk} (v : VP ps) : (usedP ps).Nodup := (List.nodup_append.mp v.nd).2.1
theorem VP.held_nd {ps : List Blk} (v : VP ps) : (heldP ps).Nodup := (List.nodup_append.mp v.nd).1
theorem VP.apart {ps : List Blk} (v : VP ps) {x : Str} (h : x ∈ heldP ps) : x ∉ usedP ps := fun k => (List.nodup_append.mp v.nd).2.2 x h x k rfl
theorem sortS_asc {xs : List Str} (h : xs.Nodup) : Asc (sortS xs) := uniqS_nodup h ▸ uniqS_asc xs
theorem rowsP : ∀ {ps : List Blk}, VP ps → RowsOf (accP ps).2 ps
  | [], _ => ⟨List.nodup_nil, fun l => by simp [accP, accS, heldP], fun p hp => by simp [accP, accS] at hp⟩
  | b :: ps, v => by
    have ih := rowsP v.tail
    refine ⟨(acc_keys (b :: ps)).nodup_iff.mpr v.held_nd, fun l => (acc_keys (b :: ps)).mem_iff, fun p hp => ?_⟩
    rw [accP_c, List.mem_append] at hp
    rcases hp with hp | hp
    · obtain ⟨h1, h2⟩ := ih.vals p hp
      have hk : p.1 ∈ heldP ps := (ih.keys p.1).mp (List.mem_map_of_mem hp)
      have hn := held_off v hk
      refine ⟨h1, fun x => ?_⟩
      rw [h2 x]
      simp only [UB, if_neg hn]
    · obtain ⟨l, hl, rfl⟩ := List.mem_map.mp hp
      have pu : ((accP ps).1 ++ b.2).Perm (usedP (b :: ps)) := by
        have := acc_used (b :: ps)
        rwa [accP_c] at this
      refine ⟨sortS_asc (pu.nodup_iff.mpr v.used_nd), fun x => ?_⟩
      simp only [UB, if_pos hl]
      rw [mem_sortS]
      exact pu.mem_iff
theorem rows_in {R : List (Str × List Str)} {ps : List Blk} (r : RowsOf R ps) {p : Str × List Str} (hp : p ∈ R) : p.1 ∈ heldP ps ∧ ∀ x ∈ p.2, x ∈ usedP ps :=
  ⟨(r.keys p.1).mp (List.mem_map_of_mem hp), fun x hx => UB_used ps p.1 x (((r.vals p hp).2 x).mp hx)⟩
theorem rows_z {R : List (Str × List Str)} {ps : List Blk} (g : PG ps) (r : RowsOf R ps) : RowsZ R where
  few := by
    have h1 : (R.map (·.1)).length ≤ (heldP ps).length := sub_len r.nd fun l hl => (r.keys l).mp hl
    have h2 := g.few
    rw [List.length_append] at h2
    rw [List.length_map] at h1
    omega
  short := fun p hp => by
    have h1 : p.2.length ≤ (usedP ps).length := sub_len (r.vals p hp).1.nodup (rows_in r hp).2
    have h2 := g.few
    rw [List.length_append] at h2
    omega
  okk := fun p hp => ⟨(g.nm _ (List.mem_append_left _ (rows_in r hp).1)).ok, fun x hx => (g.nm _ (List.mem_append_right _ ((rows_in r hp).2 x hx))).ok⟩
theorem rows_P {ps : List Blk} (g : PG ps) : F_rows_of [setsD (flatP ps)] = some ((dictR (accP ps).2, true), []) := rows_of_D (flatP ps) ps.length g.good
def dictL (R : List (Str × List Str)) : D := .dict ((R.map valL).map rowD)
theorem table_P {ps : List Blk} (g : PG ps) : F__law_table [setsD (flatP ps)] = some ((dictL (accP ps).2, true), []) := table_D (flatP ps) ps.length g.good
theorem made_P {R : List (Str × List Str)} {ps : List Blk} (g : PG ps) (r : RowsOf R ps) : F_made [dictR R] = some ((setsD (flatP ps), false), []) := made_D ps R g.vp r (rows_z g r) (Nat.le_trans g.blocks (by decide))
end Pv.Pg
end
section
set_option Elab.async false
set_option linter.all false
set_option autoImplicit false
set_option maxRecDepth 100000
set_option maxHeartbeats 2000000
namespace Pv.Pg
open PySem L2 Pv Pv.Ev Pv.Lw
structure LK (L : List Str) : Prop where
  asc : Asc L
  nm : ∀ x ∈ L, Nm x
  few : L.length ≤ 5
section
variable {L : List Str} {ps qs : List Blk}
def FitP (ps qs : List Blk) : Prop := (∀ l ∈ heldP ps, l ∉ heldP qs) ∧ ∀ l ∈ heldP ps, ∀ n ∈ UB ps l, n ∈ heldP qs → l ∉ UB qs n
def BelowP (ps qs : List Blk) : Prop := ∀ l ∈ heldP ps, l ∈ heldP qs ∧ ∀ n ∈ UB ps l, n ∈ heldP qs ∨ n ∈ UB qs l
variable (l : LK L) (hp : ∀ x ∈ heldP ps ++ usedP ps, x ∈ L) (hq : ∀ x ∈ heldP qs ++ usedP qs, x ∈ L) (gp : PG ps) (gq : PG qs)
include l hp hq gp gq
end
end Pv.Pg
end
section
set_option Elab.async false
set_option linter.all false
set_option autoImplicit false
set_option maxRecDepth 100000
set_option maxHeartbeats 2000000
namespace Pv.Pg
open PySem L2 Pv Pv.Ev Pv.Lw
abbrev entR (R : List (Str × List Str)) : List (D × D) := (R.map valT).map rowD
theorem row_get {R : List (Str × List Str)} {ps : List Blk} (r : RowsOf R ps) (l : Str) : (l ∈ heldP ps ∧ ∃ u, dget (entR R) (.inr l) = some (.tuple (u.map .str)) ∧ (∀ x, x ∈ u ↔ x ∈ UB ps l) ∧ (l, u) ∈ R) ∨ (l ∉ heldP ps ∧ dget (entR R) (.inr l) = none) := by
  by_cases h : l ∈ heldP ps
  · obtain ⟨p, hp, rfl⟩ := List.mem_map.mp ((r.keys l).mpr h)
    exact .inl ⟨h, p.2, dget_row (by rw [keysT]; exact r.nd) (List.mem_map.mpr ⟨p, hp, rfl⟩), (r.vals p hp).2, hp⟩
  · exact .inr ⟨h, dget_none (by rw [keysT]; exact fun k => h ((r.keys l).mp k))⟩
theorem row_some {R : List (Str × List Str)} {ps : List Blk} (r : RowsOf R ps) (l : Str) : (dget (entR R) (.inr l)).isSome = decide (l ∈ heldP ps) := by
  rcases row_get r l with ⟨h, u, e, _⟩ | ⟨h, e⟩
  · rw [e, decide_eq_true h]; rfl
  · rw [e, decide_eq_false h]; rfl
def strD : D → Str
  | .str x => x
  | _ => ""
@[simp] theorem strD_s (x : Str) : strD (.str x) = x := rfl
theorem keys_entR (R : List (Str × List Str)) : (entR R).map (·.1) = (R.map (·.1)).map PyData.str := by rw [entR, keys_rows, keysT]
def pairsR (R : List (Str × List Str)) : List (Str × Str) := R.flatMap fun p => p.2.map fun x => (p.1, x)
theorem mem_pairsR {R : List (Str × List Str)} {ps : List Blk} (r : RowsOf R ps) {l x : Str} : (l, x) ∈ pairsR R ↔ l ∈ heldP ps ∧ x ∈ UB ps l := by
  simp only [pairsR, List.mem_flatMap, List.mem_map, Prod.mk.injEq]
  constructor
  · rintro ⟨p, hp, y, hy, rfl, rfl⟩
    exact ⟨(rows_in r hp).1, ((r.vals p hp).2 y).mp hy⟩
  · rintro ⟨h1, h2⟩
    obtain ⟨p, hp, rfl⟩ := List.mem_map.mp ((r.keys l).mpr h1)
    exact ⟨p, hp, x, ((r.vals p hp).2 x).mpr h2, rfl, rfl⟩
theorem pairs_len {R : List (Str × List Str)} (z : RowsZ R) : (pairsR R).length ≤ 10000 := by
  have : (pairsR R).length = (R.flatMap (·.2)).length := by simp [pairsR, List.length_flatMap]
  rw [this]
  exact Nat.le_trans (flat_small z.few z.short) (by decide)
instance (ps qs : List Blk) : Decidable (FitP ps qs) := by unfold FitP; infer_instance
instance (ps qs : List Blk) : Decidable (BelowP ps qs) := by unfold BelowP; infer_instance
theorem lcL_filter3 {g : SemG} {t : SemT} {el : SemE} {vs : List Nat} {ρ : Ro} {h : D → D} {p : D → Bool} : ∀ {ds : List D} {n : Nat}, (∀ d ∈ ds, ∃ ρ1, g d ρ = some ρ1 ∧ t ρ1 = some (p d, ρ1) ∧ wipeR ρ1 vs = ρ ∧ (p d = true → ∃ r, el ρ1 = some (r, ρ1) ∧ frz ρ1 r = some (h d, ρ1))) → n + (ds.filter p).length ≤ sizeLine →
    lcL g t el vs ds n ρ = some ((ds.filter p).map h, ρ)
  | [], _, _, _ => rfl
  | d :: ds, n, k, hz => by
    obtain ⟨ρ1, e1, e2, e5, e6⟩ := k d List.mem_cons_self
    have kr : ∀ x ∈ ds, _ := fun x hx => k x (List.mem_cons_of_mem _ hx)
    cases hp : p d with
    | true =>
      obtain ⟨r, e3, e4⟩ := e6 hp
      rw [List.filter_cons_of_pos hp] at hz ⊢
      rw [List.length_cons] at hz
      have lt : n < sizeLine := by omega
      simp only [lcL, e1, e2, hp, e3, e4, e5, Option.bind_some, if_pos, lt]
      rw [lcL_filter3 kr (by omega)]
      rfl
    | false =>
      rw [List.filter_cons_of_neg (by rw [hp]; exact Bool.false_ne_true)] at hz ⊢
      simp only [lcL, e1, e2, hp, e5, Option.bind_some, Bool.false_eq_true, if_false]
      rw [lcL_filter3 kr hz]
section
variable {R S : List (Str × List Str)} {ps qs : List Blk} (rp : RowsOf R ps) (rq : RowsOf S qs) (zp : RowsZ R) (zq : RowsZ S)
include rp rq zp zq
theorem in_loop (c2 : Option Cell) : lcL (gN 2) sYes (sOp inF (sVar 2) (sVar 1)) [2] ((R.map (·.1)).map .str) 0 [some (.val (dictR R)), some (.val (dictR S)), none, none, none] =
    some ((R.map (·.1)).map fun l => .bool (decide (l ∈ heldP qs)), [some (.val (dictR R)), some (.val (dictR S)), none, none, none]) := by
  have := lcL_map (g := gN 2) (t := sYes) (el := sOp inF (sVar 2) (sVar 1)) (vs := [2]) (ρ := [some (.val (dictR R)), some (.val (dictR S)), none, none, none]) (h := fun d => .bool (decide (strD d ∈ heldP qs))) (ds := (R.map (·.1)).map .str) (n := 0) (fun d hd => by
    obtain ⟨l, hl, rfl⟩ := List.mem_map.mp hd
    have k := row_some rq l
    refine ⟨[some (.val (dictR R)), some (.val (dictR S)), some (.val (.str l)), none, none], .val (.bool (decide (l ∈ heldP qs))), by simp, by simp, ?_, by simp <;> rfl, by simp⟩
    unfold dictR entR at *
    generalize (S.map valT).map rowD = ES at *
    generalize (R.map valT).map rowD = ER at *
    simp [k]) (by simp; exact Nat.le_trans zp.few (by decide))
  rw [this, List.map_map]
  rfl
abbrev el_below : SemE := (sOrV (sOp inF (sVar 4) (sVar 1)) (sOp inF (sVar 4) (sOp ixG (sVar 1) (sVar 2))))
def innerB (qs : List Blk) : D → List D
  | .tuple [.str l, .tuple xs] => xs.map fun x => .bool (decide (strD x ∈ heldP qs) || decide (strD x ∈ UB qs l))
  | _ => []
theorem below_loop (hs : ∀ l ∈ heldP ps, l ∈ heldP qs) : lc2L (gT 2 (gsCons (gN 2) (gsCons (gN 3) gsNil))) sYes (iOf walkOf (sVar 3)) (gN 4) sYes el_below [2, 3, 4] [4] (R.map itemT) 0 [some (.val (dictR R)), some (.val (dictR S)), none, none, none] =
    some ((pairsR R).map fun q => .bool (decide (q.2 ∈ heldP qs) || decide (q.2 ∈ UB qs q.1)), [some (.val (dictR R)), some (.val (dictR S)), none, none, none]) := by
  have e : (pairsR R).map (fun q => PyData.bool (decide (q.2 ∈ heldP qs) || decide (q.2 ∈ UB qs q.1))) = (R.map itemT).flatMap (innerB qs) := by
    simp [pairsR, List.map_flatMap, List.flatMap_map, Function.comp_def, itemT, setT, innerB] <;> rfl
  rw [e]
  refine lc2L_map (inner := innerB qs) (fun d hd => ?_) (by rw [← e, List.length_map, Nat.zero_add]; exact Nat.le_trans (pairs_len zp) (by decide))
  obtain ⟨p, hp, rfl⟩ := List.mem_map.mp hd
  have hl := (rows_in rp hp).1
  refine ⟨[some (.val (dictR R)), some (.val (dictR S)), some (.val (.str p.1)), some (.val (setT p.2)), none], p.2.map .str, [some (.val (dictR R)), some (.val (dictR S)), some (.val (.str p.1)), some (.val (setT p.2)), none], by simp [itemT], by simp, by simp [setT], by simp, fun m hm => ?_, by simp⟩
  have := lcL_map (g := gN 4) (t := sYes) (el := el_below) (vs := [4]) (ρ := [some (.val (dictR R)), some (.val (dictR S)), some (.val (.str p.1)), some (.val (setT p.2)), none]) (h := fun x => .bool (decide (strD x ∈ heldP qs) || decide (strD x ∈ UB qs p.1))) (ds := p.2.map .str) (n := m) (fun y hy => by
    obtain ⟨x, hx, rfl⟩ := List.mem_map.mp hy
    have k := row_some rq x
    rcases row_get rq p.1 with ⟨_, u, e1, e2, e3⟩ | ⟨h1, _⟩
    · have i := inB_strs ((zp.okk p hp).2 x hx) (zq.okk _ e3).2
      have e4 : decide (x ∈ u) = decide (x ∈ UB qs p.1) := decide_eq_decide.mpr (e2 x)
      rw [e4] at i
      refine ⟨[some (.val (dictR R)), some (.val (dictR S)), some (.val (.str p.1)), some (.val (setT p.2)), some (.val (.str x))], .val (.bool (decide (x ∈ heldP qs) || decide (x ∈ UB qs p.1))), by simp, by simp, ?_, by simp <;> rfl, by simp⟩
      unfold dictR entR at *
      generalize (S.map valT).map rowD = ES at *
      generalize (R.map valT).map rowD = ER at *
      generalize u.map PyData.str = US at *
      by_cases hx2 : x ∈ heldP qs
      · simp [k, hx2]
      · simp [k, hx2, e1, i]
    · exact absurd (hs p.1 hl) h1) (by simpa [itemT, setT, innerB] using hm)
  rw [this]
  simp [itemT, setT, innerB]
theorem is_below_R : F_is_below [dictR R, dictR S] = some ((.bool (decide (BelowP ps qs)), false), []) := by
  have L1 := in_loop rp rq zp zq none
  have kR := keys_entR R
  have iR := items_R R
  have hall : (R.map (·.1)).all (fun l => decide (l ∈ heldP qs)) = decide (∀ l ∈ heldP ps, l ∈ heldP qs) := by
    rw [Bool.eq_iff_iff, List.all_eq_true, decide_eq_true_iff]
    constructor
    · intro h l hl; exact of_decide_eq_true (h l ((rp.keys l).mpr hl))
    · intro h l hl; exact decide_eq_true (h l ((rp.keys l).mp hl))
  unfold F_is_below b_is_below
  by_cases hs : ∀ l ∈ heldP ps, l ∈ heldP qs
  · have L2 := below_loop rp rq zp zq hs
    have hv : (pairsR R).all (fun q => decide (q.2 ∈ heldP qs) || decide (q.2 ∈ UB qs q.1)) = decide (BelowP ps qs) := by
      rw [Bool.eq_iff_iff, List.all_eq_true, decide_eq_true_iff]
      constructor
      · intro h l hl
        refine ⟨hs l hl, fun n hn => ?_⟩
        have := h (l, n) ((mem_pairsR rp).mpr ⟨hl, hn⟩)
        simpa using this
      · rintro h ⟨l, n⟩ hq
        obtain ⟨a, b⟩ := (mem_pairsR rp).mp hq
        simpa using (h l a).2 n b
    rw [decide_eq_true hs] at hall
    generalize R.map (·.1) = KR at *
    generalize pairsR R = PR at *
    unfold dictR entR at *
    generalize R.map itemT = IR at *
    generalize (S.map valT).map rowD = ES at *
    generalize (R.map valT).map rowD = ER at *
    simp -implicitDefEqProofs [kR, iR, L1, L2, hall, hv, Function.comp_def]
  · have hb : ¬ BelowP ps qs := fun k => hs fun l hl => (k l hl).1
    rw [decide_eq_false hs] at hall
    generalize R.map (·.1) = KR at *
    unfold dictR entR at *
    generalize (S.map valT).map rowD = ES at *
    generalize (R.map valT).map rowD = ER at *
    simp -implicitDefEqProofs [kR, L1, hall, hb, Function.comp_def]
def innerF (qs : List Blk) : D → List D
  | .tuple [.str l, .tuple xs] => (xs.filter fun x => decide (strD x ∈ heldP qs)).map fun x => .bool (decide (l ∈ UB qs (strD x)))
  | _ => []
theorem fit_loop : lc2L (gT 2 (gsCons (gN 2) (gsCons (gN 3) gsNil))) sYes (iOf walkOf (sVar 3)) (gN 4) (sTest (sOp inF (sVar 4) (sVar 1))) (sOp inF (sVar 2) (sOp ixG (sVar 1) (sVar 4))) [2, 3, 4] [4] (R.map itemT) 0 [some (.val (dictR R)), some (.val (dictR S)), none, none, none] =
    some (((pairsR R).filter fun q => decide (q.2 ∈ heldP qs)).map fun q => .bool (decide (q.1 ∈ UB qs q.2)), [some (.val (dictR R)), some (.val (dictR S)), none, none, none]) := by
  have e : ((pairsR R).filter fun q => decide (q.2 ∈ heldP qs)).map (fun q => PyData.bool (decide (q.1 ∈ UB qs q.2))) = (R.map itemT).flatMap (innerF qs) := by
    simp [pairsR, List.map_flatMap, List.flatMap_map, Function.comp_def, itemT, setT, innerF, List.filter_flatMap, List.filter_map] <;> rfl
  rw [e]
  refine lc2L_map (inner := innerF qs) (fun d hd => ?_) (by
    rw [← e, List.length_map, Nat.zero_add]; exact Nat.le_trans (Nat.le_trans (List.length_filter_le _ _) (pairs_len zp)) (by decide))
  obtain ⟨p, hp, rfl⟩ := List.mem_map.mp hd
  refine ⟨[some (.val (dictR R)), some (.val (dictR S)), some (.val (.str p.1)), some (.val (setT p.2)), none], p.2.map .str, [some (.val (dictR R)), some (.val (dictR S)), some (.val (.str p.1)), some (.val (setT p.2)), none], by simp [itemT], by simp, by simp [setT], by simp, fun m hm => ?_, by simp⟩
  have := lcL_filter3 (g := gN 4) (t := (sTest (sOp inF (sVar 4) (sVar 1)))) (el := sOp inF (sVar 2) (sOp ixG (sVar 1) (sVar 4))) (vs := [4]) (ρ := [some (.val (dictR R)), some (.val (dictR S)), some (.val (.str p.1)), some (.val (setT p.2)), none]) (h := fun x => .bool (decide (p.1 ∈ UB qs (strD x)))) (p := fun x => decide (strD x ∈ heldP qs)) (ds := p.2.map .str) (n := m) (fun y hy => by
    obtain ⟨x, hx, rfl⟩ := List.mem_map.mp hy
    have k := row_some rq x
    refine ⟨[some (.val (dictR R)), some (.val (dictR S)), some (.val (.str p.1)), some (.val (setT p.2)), some (.val (.str x))], by simp, ?_, by simp, fun hx2 => ?_⟩
    · unfold dictR entR at *
      generalize (S.map valT).map rowD = ES at *
      generalize (R.map valT).map rowD = ER at *
      simp [k] <;> rfl
    · rcases row_get rq x with ⟨_, u, e1, e2, e3⟩ | ⟨h1, _⟩
      · have i := inB_strs ((zp.okk p hp).1) (zq.okk _ e3).2
        have e4 : decide (p.1 ∈ u) = decide (p.1 ∈ UB qs x) := decide_eq_decide.mpr (e2 p.1)
        rw [e4] at i
        refine ⟨.val (.bool (decide (p.1 ∈ UB qs x))), ?_, by simp <;> rfl⟩
        unfold dictR entR at *
        generalize (S.map valT).map rowD = ES at *
        generalize (R.map valT).map rowD = ER at *
        generalize u.map PyData.str = US at *
        simp [e1, i]
      · exact absurd (of_decide_eq_true hx2) h1) (by simpa [itemT, setT, innerF] using hm)
  rw [this]
  simp [itemT, setT, innerF]
theorem do_fit_R : F_do_fit [dictR R, dictR S] = some ((.bool (decide (FitP ps qs)), false), []) := by
  have L1 := in_loop rp rq zp zq none
  have kR := keys_entR R
  have iR := items_R R
  have hany : (R.map (·.1)).any (fun l => decide (l ∈ heldP qs)) = !decide (∀ l ∈ heldP ps, l ∉ heldP qs) := by
    rw [Bool.eq_iff_iff, List.any_eq_true, Bool.not_eq_true', decide_eq_false_iff_not]
    constructor
    · rintro ⟨l, hl, h⟩ k; exact k l ((rp.keys l).mp hl) (of_decide_eq_true h)
    · intro h
      refine Classical.byContradiction fun k => h fun l hl hl2 => k ⟨l, (rp.keys l).mpr hl, decide_eq_true hl2⟩
  unfold F_do_fit b_do_fit
  by_cases hs : ∀ l ∈ heldP ps, l ∉ heldP qs
  · have L2 := fit_loop rp rq zp zq
    have hv : ((pairsR R).filter fun q => decide (q.2 ∈ heldP qs)).any (fun q => decide (q.1 ∈ UB qs q.2)) = !decide (FitP ps qs) := by
      rw [Bool.eq_iff_iff, List.any_eq_true, Bool.not_eq_true', decide_eq_false_iff_not]
      constructor
      · rintro ⟨⟨l, n⟩, hq, h⟩ k
        obtain ⟨h1, h2⟩ := List.mem_filter.mp hq
        obtain ⟨a, b⟩ := (mem_pairsR rp).mp h1
        exact k.2 l a n b (of_decide_eq_true h2) (of_decide_eq_true h)
      · intro h
        refine Classical.byContradiction fun k => h ⟨hs, fun l hl n hn hn2 e => k ⟨(l, n), List.mem_filter.mpr ⟨(mem_pairsR rp).mpr ⟨hl, hn⟩, decide_eq_true hn2⟩, decide_eq_true e⟩⟩
    rw [decide_eq_true hs] at hany
    generalize R.map (·.1) = KR at *
    generalize ((pairsR R).filter fun q => decide (q.2 ∈ heldP qs)) = PR at *
    unfold dictR entR at *
    generalize R.map itemT = IR at *
    generalize (S.map valT).map rowD = ES at *
    generalize (R.map valT).map rowD = ER at *
    simp -implicitDefEqProofs [kR, iR, L1, L2, hany, hv, Function.comp_def]
  · have hb : ¬ FitP ps qs := fun k => hs k.1
    rw [decide_eq_false hs] at hany
    generalize R.map (·.1) = KR at *
    unfold dictR entR at *
    generalize (S.map valT).map rowD = ES at *
    generalize (R.map valT).map rowD = ER at *
    simp -implicitDefEqProofs [kR, L1, hany, hb, Function.comp_def]
end
end Pv.Pg
end
section
set_option Elab.async false
set_option linter.all false
set_option autoImplicit false
set_option maxRecDepth 100000
set_option maxHeartbeats 2000000
namespace Pv.Pg
open PySem L2 Pv Pv.Ev Pv.Lw
theorem names_in_P {ps : List Blk} (g : PG ps) : F_names_in [setsD (flatP ps)] = some ((.list ((flatP ps).flatten.map .str), true), []) := by
  have L := lc2L_map (g := gN 1) (t := sYes) (it1 := iOf walkOf (sVar 1)) (g1 := gN 2) (t1 := sYes) (el := sVar 2) (vs := [1, 2]) (vs1 := [2]) (ρ := [some (.val (setsD (flatP ps))), none, none]) (inner := memT) (ds := (flatP ps).map tupD) (n := 0) (fun d hd => by
    obtain ⟨n, hn, rfl⟩ := List.mem_map.mp hd
    refine ⟨[some (.val (setsD (flatP ps))), some (.val (tupD n)), none], n.map .str, [some (.val (setsD (flatP ps))), some (.val (tupD n)), none], by simp, by simp, by simp [tupD], by simp, fun m hm => ?_, by simp⟩
    have := lcL_map (g := gN 2) (t := sYes) (el := sVar 2) (vs := [2]) (ρ := [some (.val (setsD (flatP ps))), some (.val (tupD n)), none]) (h := id) (ds := n.map PyData.str) (n := m) (fun y hy => ⟨[some (.val (setsD (flatP ps))), some (.val (tupD n)), some (.val y)], .val y, by simp, by simp, by simp, by simp, by simp⟩) (by simpa [memT, tupD] using hm)
    simpa [memT, tupD] using this) (by
      have h := g.good.small
      have e : (((flatP ps).map tupD).flatMap memT).length = (flatP ps).flatten.length := by simp [List.length_flatMap, memT, tupD, List.length_flatten, Function.comp_def]
      rw [e, Nat.zero_add]
      exact Nat.le_trans h (by decide))
  have e : ((flatP ps).map tupD).flatMap memT = (flatP ps).flatten.map .str := by
    simp [List.flatMap_map, memT, tupD, List.map_flatten, Function.comp_def, List.flatMap_def]
  rw [e] at L
  generalize (flatP ps).flatten.map PyData.str = NS at *
  unfold F_names_in b_names_in setsD tupD at *
  generalize (flatP ps).map (fun n => PyData.tuple (n.map .str)) = FP at *
  simp -implicitDefEqProofs [L]

section
variable {L : List Str} {ps : List Blk}
theorem LK.ok (l : LK L) : ∀ x ∈ L, PyData.strOk x = true := fun x hx => (l.nm x hx).ok
theorem LK.okv (l : LK L) : OkV (setT L) := (names_ok l.nm (Nat.le_trans l.few (by decide))).1
theorem LK.set (l : LK L) : setB (setT L) = true := by
  simp only [setT, setB, Bool.and_eq_true, List.all_eq_true, List.mem_map, forall_exists_index, and_imp, forall_apply_eq_imp_iff₂]
  exact ⟨fun x hx => (l.nm x hx).1, rises_iff.mpr l.asc⟩
theorem is_set_L (l : LK L) : F_is_set [setT L] = some ((.bool true, false), []) := by
  have := is_set_D (setT L) (fun ds e => by
    cases e
    refine ⟨fun x hx => l.okv.shortP x hx, ?_⟩
    rw [List.length_map]
    exact Nat.le_trans l.few (by decide))
  rw [this, l.set]
end
end Pv.Pg
end
section
set_option Elab.async false
set_option linter.all false
set_option autoImplicit false
namespace Pv
section
variable {α : Type} (le : α → α → Bool)
def addLeast (f : List α) (x : α) : List α := if (f.any fun y => le y x) = true then f else (f.filter fun y => !le x y) ++ [x]
def leastL (c : List α) : List α := c.foldl (addLeast le) []
structure Leasts (c f : List α) : Prop where
  sub : ∀ y ∈ f, y ∈ c
  cov : ∀ x ∈ c, ∃ y ∈ f, le y x = true
  off : f.Pairwise fun y z => le y z = false ∧ le z y = false
variable {le} (refl : ∀ x, le x x = true) (trans : ∀ x y z, le x y = true → le y z = true → le x z = true)
include refl trans
theorem leasts_add {c f : List α} (h : Leasts le c f) (x : α) : Leasts le (c ++ [x]) (addLeast le f x) := by
  unfold addLeast
  split
  · next q =>
    obtain ⟨y, hy, e⟩ := List.any_eq_true.mp q
    refine ⟨fun z hz => List.mem_append_left _ (h.sub z hz), fun z hz => ?_, h.off⟩
    rcases List.mem_append.mp hz with k | k
    · exact h.cov z k
    · rw [List.mem_singleton.mp k]; exact ⟨y, hy, e⟩
  · next q =>
    have no : ∀ y ∈ f, le y x = false := fun y hy => by
      cases e : le y x with
      | false => rfl
      | true => exact absurd (List.any_eq_true.mpr ⟨y, hy, e⟩) q
    refine ⟨fun z hz => ?_, fun z hz => ?_, ?_⟩
    · rcases List.mem_append.mp hz with k | k
      · exact List.mem_append_left _ (h.sub z (List.mem_filter.mp k).1)
      · exact List.mem_append_right _ k
    · rcases List.mem_append.mp hz with k | k
      · obtain ⟨y, hy, e⟩ := h.cov z k
        cases r : le x y with
        | true => exact ⟨x, List.mem_append_right _ (List.mem_singleton.mpr rfl), trans _ _ _ r e⟩
        | false => exact ⟨y, List.mem_append_left _ (List.mem_filter.mpr ⟨hy, by rw [r]; rfl⟩), e⟩
      · rw [List.mem_singleton.mp k]
        exact ⟨x, List.mem_append_right _ (List.mem_singleton.mpr rfl), refl x⟩
    · rw [List.pairwise_append]
      refine ⟨h.off.sublist List.filter_sublist, List.pairwise_singleton _ _, fun a ha b hb => ?_⟩
      rw [List.mem_singleton.mp hb]
      obtain ⟨k1, k2⟩ := List.mem_filter.mp ha
      exact ⟨no a k1, by simpa using k2⟩
theorem leasts_fold : ∀ (c d f : List α), Leasts le d f → Leasts le (d ++ c) (c.foldl (addLeast le) f)
  | [], d, f, h => by rw [List.append_nil]; exact h
  | x :: c, d, f, h => by
    have := leasts_fold c (d ++ [x]) _ (leasts_add refl trans h x)
    rwa [List.append_assoc] at this
theorem leasts_of (c : List α) : Leasts le c (leastL le c) := by
  have := leasts_fold refl trans c [] [] ⟨fun y h => absurd h List.not_mem_nil, fun y h => absurd h List.not_mem_nil, .nil⟩
  exact this
theorem mem_least (anti : ∀ x y, le x y = true → le y x = true → x = y) {c : List α} {x : α} : x ∈ leastL le c ↔ x ∈ c ∧ ∀ y ∈ c, le y x = true → y = x := by
  have h := leasts_of refl trans c
  have one : ∀ y ∈ leastL le c, ∀ z ∈ leastL le c, le y z = true → y = z := by
    intro y hy z hz e
    refine Classical.byContradiction fun ne => ?_
    have key : ∀ l : List α, l.Pairwise (fun y z => le y z = false ∧ le z y = false) → y ∈ l → z ∈ l → False := by
      intro l
      induction l with
      | nil => intro _ hy _; cases hy
      | cons a l ih =>
        intro p hy hz
        obtain ⟨p1, p2⟩ := List.pairwise_cons.mp p
        rcases List.mem_cons.mp hy with e1 | hy1
        · rcases List.mem_cons.mp hz with e2 | hz1
          · exact ne (e1.trans e2.symm)
          · have := (p1 z hz1).1; rw [← e1, e] at this; cases this
        · rcases List.mem_cons.mp hz with e2 | hz1
          · have := (p1 y hy1).2; rw [← e2, e] at this; cases this
          · exact ih p2 hy1 hz1
    exact key _ h.off hy hz
  constructor
  · intro hx
    refine ⟨h.sub x hx, fun y hy e => ?_⟩
    obtain ⟨z, hz, e2⟩ := h.cov y hy
    have e3 := one z hz x hx (trans _ _ _ e2 e)
    subst e3
    exact anti _ _ e e2
  · rintro ⟨hx, hm⟩
    obtain ⟨y, hy, e⟩ := h.cov x hx
    have := hm y (h.sub y hy) e
    subst this
    exact hy
theorem nodup_least {c : List α} : (leastL le c).Nodup := by
  refine (leasts_of refl trans c).off.imp fun {a b} h e => ?_
  subst e
  rw [refl a] at h
  cases h.1
end
end Pv
end
section
set_option Elab.async false
set_option linter.all false
set_option autoImplicit false
set_option maxRecDepth 100000
set_option maxHeartbeats 2000000
namespace Pv.Pg
open PySem L2 Pv Pv.Ev Pv.Lw
theorem below_refl (ps : List Blk) : BelowP ps ps := fun l hl => ⟨hl, fun n hn => .inr hn⟩
theorem below_trans {ps qs rs : List Blk} (h : BelowP ps qs) (k : BelowP qs rs) : BelowP ps rs := fun l hl => by
  obtain ⟨h1, h2⟩ := h l hl
  obtain ⟨k1, k2⟩ := k l h1
  refine ⟨k1, fun n hn => ?_⟩
  rcases h2 n hn with y | y
  · exact .inl (k n y).1
  · exact k2 n y
theorem same_rows {ps qs : List Blk} (gp : PG ps) (gq : PG qs) (h1 : ∀ l, l ∈ heldP ps ↔ l ∈ heldP qs) (h2 : ∀ l ∈ heldP ps, ∀ n, n ∈ UB ps l ↔ n ∈ UB qs l) : setsD (flatP ps) = setsD (flatP qs) := by
  have r := rowsP gp.vp
  have r2 : RowsOf (accP ps).2 qs := ⟨r.nd, fun l => (r.keys l).trans (h1 l), fun p hp => ⟨(r.vals p hp).1, fun x => ((r.vals p hp).2 x).trans (h2 p.1 (rows_in r hp).1 x)⟩⟩
  have a := made_P gp r
  rw [made_P gq r2] at a
  simp only [Option.some.injEq, Prod.mk.injEq] at a
  exact a.1.1.symm
theorem below_anti {ps qs : List Blk} (gp : PG ps) (gq : PG qs) (h : BelowP ps qs) (k : BelowP qs ps) : setsD (flatP ps) = setsD (flatP qs) := by
  have h1 : ∀ l, l ∈ heldP ps ↔ l ∈ heldP qs := fun l => ⟨fun x => (h l x).1, fun x => (k l x).1⟩
  refine same_rows gp gq h1 fun l hl n => ⟨fun x => ?_, fun x => ?_⟩
  · rcases (h l hl).2 n x with y | y
    · exact absurd (UB_used ps l n x) (gp.vp.apart ((h1 n).mpr y))
    · exact y
  · rcases (k l ((h1 l).mp hl)).2 n x with y | y
    · exact absurd (UB_used qs l n x) (gq.vp.apart ((h1 n).mp y))
    · exact y
end Pv.Pg
end
section
set_option Elab.async false
set_option linter.all false
set_option autoImplicit false
set_option maxRecDepth 100000
set_option maxHeartbeats 2000000
namespace Pv.Pg
open PySem L2 PySem.W Pv Pv.Ev Pv.Lw
abbrev prD (ps : List Blk) : D := setsD (flatP ps)
theorem flat_inj : ∀ {ps qs : List Blk}, flatP ps = flatP qs → ps = qs
  | [], [], _ => rfl
  | [], _ :: _, h => by cases h
  | _ :: _, [], h => by cases h
  | b :: ps, c :: qs, h => by
    rw [flatP_c, flatP_c] at h
    simp only [List.cons.injEq] at h
    obtain ⟨h1, h2, h3⟩ := h
    rw [flat_inj h3, Prod.ext h1 h2]
theorem strs_inj {a b : List Str} (h : a.map PyData.str = b.map PyData.str) : a = b := by
  rw [← strs_back a, ← strs_back b, h]
theorem tup_inj {a b : List Str} (h : tupD a = tupD b) : a = b := by
  simp only [tupD, PyData.tuple.injEq] at h
  exact strs_inj h
theorem sets_inj {a b : List (List Str)} (h : setsD a = setsD b) : a = b := by
  simp only [setsD, PyData.tuple.injEq] at h
  exact (List.map_inj_right fun _ _ => tup_inj).mp h
theorem pr_inj {ps qs : List Blk} (h : prD ps = prD qs) : ps = qs := flat_inj (sets_inj h)
theorem alike_strs : ∀ a b : List Str, PySem.W.alikeAll (a.map PyData.str) (b.map PyData.str) = true
  | [], [] => rfl
  | [], _ :: _ => rfl
  | _ :: _, [] => rfl
  | x :: xs, y :: ys => by
    have := alike_strs xs ys
    simp only [List.map_cons, PySem.W.alikeAll, PySem.W.alike, this, Bool.and_self]
theorem alike_tup (a b : List Str) : PySem.W.alike (tupD a) (tupD b) = true := by
  have := alike_strs a b
  simpa [tupD, PySem.W.alike] using this
theorem alike_sets : ∀ a b : List (List Str), PySem.W.alikeAll (a.map tupD) (b.map tupD) = true
  | [], [] => rfl
  | [], _ :: _ => rfl
  | _ :: _, [] => rfl
  | x :: xs, y :: ys => by
    have := alike_sets xs ys
    simp only [List.map_cons, PySem.W.alikeAll, alike_tup, this, Bool.and_self]
theorem alike_pr (a b : List (List Str)) : PySem.W.alike (setsD a) (setsD b) = true := by
  have := alike_sets a b
  simpa [setsD, PySem.W.alike] using this
theorem key_strs : ∀ a : List Str, (keyNs (a.map PyData.str)).isSome = true
  | [] => rfl
  | x :: xs => by
    have := key_strs xs
    obtain ⟨k, e⟩ := Option.isSome_iff_exists.mp this
    simp [keyNs, keyN, e]
theorem key_tup (a : List Str) : (keyN (tupD a)).isSome = true := by
  have := key_strs a
  simpa [tupD, keyN] using this
theorem key_sets : ∀ a : List (List Str), (keyNs (a.map tupD)).isSome = true
  | [] => rfl
  | x :: xs => by
    have := key_sets xs
    obtain ⟨k, e⟩ := Option.isSome_iff_exists.mp this
    obtain ⟨j, e2⟩ := Option.isSome_iff_exists.mp (key_tup x)
    simp [keyNs, e, e2]
theorem key_pr (a : List (List Str)) : (keyN (setsD a)).isSome = true := by
  have := key_sets a
  simpa [setsD, keyN] using this
theorem depth_tup (a : List Str) : (tupD a).depth ≤ 1 := by
  have := depthAll_iff (k := 0) (ds := a.map PyData.str) |>.mpr fun d hd => by
    obtain ⟨x, _, rfl⟩ := List.mem_map.mp hd
    simp [PyData.depth]
  rw [tupD, PyData.depth]
  exact Nat.succ_le_succ this
theorem depth_pr (a : List (List Str)) : (setsD a).depth ≤ 2 := by
  have := depthAll_iff (k := 1) (ds := a.map tupD) |>.mpr fun d hd => by
    obtain ⟨x, _, rfl⟩ := List.mem_map.mp hd
    exact depth_tup x
  rw [setsD, PyData.depth]
  exact Nat.succ_le_succ this
section
variable (PS : List (List Blk))
theorem sets_of {d : D} (h : d ∈ PS.map prD) : ∃ ns, d = setsD ns := by
  obtain ⟨p, _, rfl⟩ := List.mem_map.mp h
  exact ⟨_, rfl⟩
theorem al_pr : AllAlike (PS.map prD) := fun d hd e he => by
  obtain ⟨a, rfl⟩ := sets_of PS hd
  obtain ⟨b, rfl⟩ := sets_of PS he
  exact alike_pr a b
theorem keyed_pr : keyed (PS.map prD) = true := List.all_eq_true.mpr fun d hd => by
  obtain ⟨a, rfl⟩ := sets_of PS hd
  exact key_pr a
theorem sortOk_pr (h : PS.length ≤ 100000) : sortOk (PS.map prD) = true := by
  unfold sortOk
  simp only [Bool.and_eq_true, decide_eq_true_eq, List.all_eq_true]
  refine ⟨⟨⟨?_, ?_⟩, ?_⟩, fun d hd => ?_⟩
  · unfold alikeB
    simp only [List.all_eq_true]
    exact fun d hd e he => al_pr PS d hd e he
  · unfold sortB
    rw [Bool.or_eq_true]
    refine .inl (List.all_eq_true.mpr fun d hd => ?_)
    obtain ⟨a, rfl⟩ := sets_of PS hd
    rfl
  · rw [List.length_map]; exact Nat.le_trans h (by decide)
  · obtain ⟨a, rfl⟩ := sets_of PS hd
    exact Nat.le_trans (depth_pr a) (by decide)
theorem setOk_pr (h : PS.length < 300) : setOk (PS.map prD) = true := by
  unfold setOk
  simp only [Bool.and_eq_true, decide_eq_true_eq, List.all_eq_true]
  refine ⟨keyed_pr PS, by rw [List.length_map]; exact h, sortOk_pr PS (by omega), fun d hd => ?_⟩
  obtain ⟨a, rfl⟩ := sets_of PS hd
  have := depth_pr a
  simp only [setsD] at this ⊢
  exact decide_eq_true (by omega)
theorem sorted_pr (h : PS.length ≤ 100000) : sortedF2 [.list (PS.map prD)] = some (.list (sortD (PS.map prD)), true) := by
  have := sortOk_pr PS h
  simp only [sortedF2, sortedF, this, if_true]
end
end Pv.Pg
end
section
set_option Elab.async false
set_option linter.all false
set_option autoImplicit false
set_option maxRecDepth 100000
set_option maxHeartbeats 2000000
namespace Pv.Pg
open PySem L2 Pv Pv.Ev Pv.Lw
abbrev entL (R : List (Str × List Str)) : List (D × D) := (R.map valL).map rowD
theorem keys_entL (R : List (Str × List Str)) : (entL R).map (·.1) = (R.map (·.1)).map PyData.str := by rw [entL, keys_rows, keysL]
theorem shaped_lstS {n : List Str} (h : ∀ l ∈ n, PyData.strOk l = true) : SeqAt.shaped (.list (n.map .str)) = true := shaped_lst fun d hd => by
  obtain ⟨y, hy, rfl⟩ := List.mem_map.mp hd
  exact ⟨by simpa [PyData.canLay0] using h y hy, by simp [PyData.depth]⟩
theorem inB_strsL {k : Str} {xs : List Str} (hk : PyData.strOk k = true) (hx : ∀ x ∈ xs, PyData.strOk x = true) : inB (.str k) (.list (xs.map .str)) = some (decide (k ∈ xs)) := by
  rw [inB_l _ (shaped_s k hk) (shaped_lstS hx)]
  congr 1
  rw [Bool.eq_iff_iff]
  simp only [List.any_map, List.any_eq_true, Function.comp, PyData.eqv, beq_iff_eq, decide_eq_true_eq]
  constructor
  · rintro ⟨y, hy, rfl⟩; exact hy
  · intro h; exact ⟨k, h, rfl⟩
theorem eqv_sets : ∀ (a b : List (List Str)), PyData.eqvAll (a.map tupD) (b.map tupD) = decide (a = b)
  | [], [] => by simp [PyData.eqvAll]
  | x :: xs, [] => by simp [PyData.eqvAll]
  | [], y :: ys => by simp [PyData.eqvAll]
  | x :: xs, y :: ys => by
    have := eqv_sets xs ys
    simp only [List.map_cons, PyData.eqvAll, PyData.eqv, eqvAll_str, List.cons.injEq, this]
    by_cases h : x = y
    · by_cases k : xs = ys
      · simp [h, k]
      · simp [h, k]
    · simp [h]
end Pv.Pg
end
section
set_option Elab.async false
set_option linter.all false
set_option maxRecDepth 100000
set_option maxHeartbeats 2000000
namespace Pv.Lw
open PySem Pv
def b__law_below : SemS := (sSeq (sIfS (sNot (sTruth (sCB allF (pCons (sLcS (gN 2) sYes (sOp inF (sVar 2) (sVar 1)) [2] (iOf walkOf (sVar 0))) pNil)))) (sRet (sC (.bool false))) sNx) (sSeq (sFor (iOf walkOf (sVar 0)) (gN 2) (sIfS (sNot (sTruth (sCB allF (pCons (sLc (gN 3) sYes (sOrV (sOp inF (sVar 3) (sVar 1)) (sOp inF (sVar 3) (sOp ixG (sVar 1) (sVar 2)))) [3] (iOf walkOf (sOp ixG (sVar 0) (sVar 2)))) pNil)))) (sRet (sC (.bool false))) sNx)) (sRet (sC (.bool true)))))
def F__law_below : Fn := fnOf 4 [.v, .v] b__law_below
end Pv.Lw
end
section
set_option Elab.async false
set_option linter.all false
set_option autoImplicit false
set_option maxRecDepth 100000
set_option maxHeartbeats 2000000
namespace Pv.Pg
open PySem L2 PySem.W Pv Pv.Ev Pv.Lw
structure Pf where
  ps : List Blk
  g : PG ps
theorem Pf.ext_ : ∀ {p q : Pf}, p.1 = q.1 → p = q
  | ⟨_, _⟩, ⟨_, _⟩, rfl => rfl
instance : DecidableEq Pf := fun p q => decidable_of_iff (p.1 = q.1) ⟨Pf.ext_, fun h => h ▸ rfl⟩
namespace Pf
def d (p : Pf) : D := setsD (flatP p.1)
def R (p : Pf) : List (Str × List Str) := (accP p.1).2
def r (p : Pf) : D := dictR p.R
def t (p : Pf) : D := dictL p.R
def le (p q : Pf) : Bool := decide (BelowP p.1 q.1)
def held (p : Pf) : List Str := p.R.map (·.1)
def ub (p : Pf) (l : Str) : List Str := ((p.R.find? fun x => decide (x.1 = l)).map (·.2)).getD []
variable (p q : Pf)
theorem rows : RowsOf p.R p.1 := rowsP p.2.vp
theorem rz : RowsZ p.R := rows_z p.2 p.rows
theorem mem_held {l : Str} : l ∈ p.held ↔ l ∈ heldP p.1 := p.rows.keys l
theorem ub_row {l : Str} (h : l ∈ p.held) : (l, p.ub l) ∈ p.R := by
  obtain ⟨x, hx, rfl⟩ := List.mem_map.mp h
  unfold ub
  cases e : p.R.find? fun y => decide (y.1 = x.1) with
  | none => exact absurd (List.find?_eq_none.mp e x hx) (by simp)
  | some y =>
    have h1 := List.find?_some e
    have h2 := List.mem_of_find?_eq_some e
    simp only [decide_eq_true_eq] at h1
    simp only [Option.map_some, Option.getD_some]
    rw [← h1]
    exact h2
theorem mem_ub {l x : Str} (h : l ∈ p.held) : x ∈ p.ub l ↔ x ∈ UB p.1 l := (p.rows.vals _ (p.ub_row h)).2 x
theorem held_ok {l : Str} (h : l ∈ p.held) : PyData.strOk l = true := (p.rz.okk _ (p.ub_row h)).1
theorem ub_ok {l : Str} (h : l ∈ p.held) : ∀ x ∈ p.ub l, PyData.strOk x = true := (p.rz.okk _ (p.ub_row h)).2
theorem walk_t : walkOf p.t = some (p.held.map .str) := by
  have := keys_entL p.R
  simp only [entL] at this
  simp only [t, dictL, walkOf, held, this]
theorem dget_t {l : Str} (h : l ∈ p.held) : dget (entL p.R) (.inr l) = some (.list ((p.ub l).map .str)) :=
  dget_row (by rw [keysL]; exact p.rows.nd) (List.mem_map.mpr ⟨(l, p.ub l), p.ub_row h, rfl⟩)
theorem ix_t {l : Str} (h : l ∈ p.held) : ixG p.t (.str l) = some (.list ((p.ub l).map .str), false) := by
  have := p.dget_t h
  have e : ixG p.t (.str l) = (dget (entL p.R) (.inr l)).map fun z => (z, false) := rfl
  rw [e, this]
  rfl
theorem le_refl : p.le p = true := decide_eq_true (below_refl _)
theorem le_trans (r : Pf) (h : p.le q = true) (k : q.le r = true) : p.le r = true := decide_eq_true (below_trans (of_decide_eq_true h) (of_decide_eq_true k))
theorem d_inj {p q : Pf} (h : p.d = q.d) : p = q := ext_ (pr_inj h)
theorem le_anti (h : p.le q = true) (k : q.le p = true) : p = q := d_inj (below_anti p.2 q.2 (of_decide_eq_true h) (of_decide_eq_true k))
theorem check : F_check_profile [p.d] = some ((.none, false), []) := p.2.check
theorem isprof : F_is_profile [p.d] = some ((.bool true, false), []) := by
  have := F_is_profile_D p.d p.2.okv
  rw [this]
  have h := p.2.prof
  simp only [d, h]
theorem rows_of : F_rows_of [p.d] = some ((p.r, true), []) := rows_P p.2
theorem made : F_made [p.r] = some ((p.d, false), []) := made_P p.2 p.rows
theorem table : F__law_table [p.d] = some ((p.t, true), []) := table_P p.2
theorem isbelow : F_is_below [p.r, q.r] = some ((.bool (p.le q), false), []) := is_below_R p.rows q.rows p.rz q.rz
theorem below : F_below [p.d, q.d] = some ((.bool (p.le q), false), []) := by
  unfold F_below b_below
  simp -implicitDefEqProofs [check, rows_of, isbelow]
theorem shaped : SeqAt.shaped p.d = true := p.2.shape
theorem ne : neF p.d q.d = some (.bool (decide (p ≠ q)), false) := by
  rw [neF_of p.shaped q.shaped]
  have e : PyData.eqv p.d q.d = decide (p = q) := by
    have := eqv_sets (flatP p.1) (flatP q.1)
    have e2 : PyData.eqv p.d q.d = PyData.eqvAll ((flatP p.1).map tupD) ((flatP q.1).map tupD) := by simp [d, setsD, PyData.eqv]
    rw [e2, this]
    exact decide_eq_decide.mpr ⟨fun h => ext_ (flat_inj h), fun h => by rw [h]⟩
  rw [e]
  simp
theorem eq : eqF p.d q.d = some (.bool (decide (p = q)), false) := by
  have h := p.ne q
  rw [neF_of p.shaped q.shaped] at h
  rw [eqF_of p.shaped q.shaped]
  simp only [Option.some.injEq, Prod.mk.injEq, PyData.bool.injEq, and_true] at h
  have : PyData.eqv p.d q.d = !decide (p ≠ q) := by rw [← h, Bool.not_not]
  rw [this]
  simp
end Pf
end Pv.Pg
end
section
set_option Elab.async false
set_option linter.all false
set_option autoImplicit false
set_option maxRecDepth 100000
set_option maxHeartbeats 2000000
namespace Pv.Pg
open PySem L2 PySem.W Pv Pv.Ev Pv.Lw
namespace Pf
abbrev least (c : List Pf) : List Pf := leastL Pf.le c
theorem mem_lst {c : List Pf} {x : Pf} : x ∈ least c ↔ x ∈ c ∧ ∀ y ∈ c, y.le x = true → y = x := mem_least Pf.le_refl Pf.le_trans Pf.le_anti
theorem nd_lst {c : List Pf} : (least c).Nodup := nodup_least Pf.le_refl Pf.le_trans
theorem add_len (f : List Pf) (x : Pf) : (addLeast Pf.le f x).length ≤ f.length + 1 := by
  unfold addLeast
  split
  · omega
  · rw [List.length_append, List.length_singleton]
    exact Nat.succ_le_succ (List.length_filter_le _ _)
theorem fold_len : ∀ (c f : List Pf), (c.foldl (addLeast Pf.le) f).length ≤ f.length + c.length
  | [], f => Nat.le_refl _
  | x :: c, f => by
    have := fold_len c (addLeast Pf.le f x)
    have h := add_len f x
    simp only [List.foldl_cons, List.length_cons]
    omega
theorem lst_len (c : List Pf) : (least c).length ≤ c.length := by
  have := fold_len c []
  simpa [least, leastL] using this
abbrev body_lr : SemS := (sIfS (sNot (sTruth (sCB anyF (pCons (sLc (gN 3) sYes (sCall [.v, .v] F_is_below (mV (sVar 3) (mV (sVar 2) mNil))) [3] (iOf walkOf (sVar 1))) pNil)))) (sSet 1 (sOp addF (sLc (gN 3) (sNot (sTruth (sCall [.v, .v] F_is_below (mV (sVar 2) (mV (sVar 3) mNil))))) (sVar 3) [3] (iOf walkOf (sVar 1))) (sLst (sCons (sVar 2) sNil)))) sNx)
theorem least_rows (c : List Pf) (hc : c.length ≤ 900) : ∃ b, F_least_rows [.list (c.map r)] = some ((.list ((least c).map r), b), []) := by
  obtain ⟨ρ', L, c1, c2, hc1, rfl⟩ := for_pre (g := gN 2) (b := body_lr) (k := r) (fun pre ρ => ∃ c1 : Cell, ∃ c2 : Option D, (c1 = .own (.list ((least pre).map r)) ∨ c1 = .val (.list ((least pre).map r))) ∧ ρ = [some (.val (.list (c.map r))), some c1, c2.map .val, none])
    c [some (.val (.list (c.map r))), some (.own (.list [])), none, none] ⟨_, none, .inl rfl, rfl⟩ (fun pre x post e ρ hI => by
      obtain ⟨c1, c2, h3, rfl⟩ := hI
      have hl : (least pre).length ≤ 900 := Nat.le_trans (lst_len pre) (by rw [e] at hc; simp at hc; omega)
      have e1 : least (pre ++ [x]) = addLeast Pf.le (least pre) x := by simp [leastL]
      rw [e1]
      generalize least pre = f at *
      have hl2 : f.length ≤ 1000 := by omega
      have hf : (f.filter fun y => !x.le y).length ≤ 1000 := Nat.le_trans (List.length_filter_le _ _) hl2
      unfold addLeast
      by_cases hk : (f.any fun y => y.le x) = true
      · refine ⟨[some (.val (.list (c.map r))), some (.val (.list (f.map r))), some (.val x.r), none], ?_, _, some x.r, .inr (by rw [if_pos hk]), rfl⟩
        rcases h3 with rfl | rfl
        · simp -implicitDefEqProofs [lc_q, isbelow, hl2, hk]
        · simp -implicitDefEqProofs [lc_q, isbelow, hl2, hk]
      · refine ⟨[some (.val (.list (c.map r))), some (.own (.list (((f.filter fun y => !x.le y) ++ [x]).map r))), some (.val x.r), none], ?_, _, some x.r, .inl (by rw [if_neg hk]), rfl⟩
        rcases h3 with rfl | rfl
        · simp -implicitDefEqProofs [lc_q, lc_p, isbelow, hl2, hk, hf]
        · simp -implicitDefEqProofs [lc_q, lc_p, isbelow, hl2, hk, hf])
  unfold F_least_rows b_least_rows
  rcases hc1 with rfl | rfl
  · refine ⟨true, ?_⟩
    simp -implicitDefEqProofs [L]
  · refine ⟨false, ?_⟩
    simp -implicitDefEqProofs [L]
end Pf
end Pv.Pg
end
section
set_option Elab.async false
set_option linter.all false
set_option autoImplicit false
set_option maxRecDepth 100000
set_option maxHeartbeats 2000000
namespace Pv.K11
open PySem L2 PySem.W Pv Pv.Pg Pv.Lw Pv.Ev

def qR : List Blk → List (Str × List Str)
  | [] => []
  | b :: ps => (b.1.map fun l => (l, usedP (b :: ps))) ++ qR ps
def qPre (ps : List Blk) (i : Nat) : List (Str × List Str) := (List.range i).flatMap fun j => (ps.getD j ([], [])).1.map fun l => (l, usedP (ps.drop j))
theorem qPre_all : ∀ ps : List Blk, qPre ps ps.length = qR ps
  | [] => rfl
  | b :: ps => by
    have ih := qPre_all ps
    unfold qPre at ih ⊢
    rw [List.length_cons, List.range_succ_eq_map, List.flatMap_cons, List.flatMap_map]
    simp only [List.getD_cons_succ, List.getD_cons_zero, List.drop_succ_cons, List.drop_zero]
    rw [ih]
    rfl
theorem qPre_succ (ps : List Blk) (i : Nat) : qPre ps (i + 1) = qPre ps i ++ (ps.getD i ([], [])).1.map fun l => (l, usedP (ps.drop i)) := by
  unfold qPre
  rw [List.range_succ, List.flatMap_append]
  simp
theorem keys_q : ∀ ps : List Blk, (qR ps).map (·.1) = heldP ps
  | [] => rfl
  | b :: ps => by
    rw [qR, List.map_append, keys_q ps, heldP_c, List.map_map]
    congr 1
    conv => rhs; rw [← List.map_id b.1]
    rfl
theorem keys_pre (ps : List Blk) : ∀ i, (qPre ps i).map (·.1) = heldP (ps.take i)
  | 0 => by simp [qPre, heldP]
  | i + 1 => by
    rw [qPre_succ, List.map_append, keys_pre ps i, List.map_map]
    by_cases h : i < ps.length
    · rw [List.take_succ_eq_append_getElem h, List.getD_eq_getElem?_getD, List.getElem?_eq_getElem h]
      unfold heldP
      rw [List.flatMap_append]
      simp [Function.comp_def]
    · rw [List.getD_eq_getElem?_getD, List.getElem?_eq_none (by omega), List.take_of_length_le (by omega), List.take_of_length_le (by omega)]
      simp
theorem later_loop (us : List (List Str)) (hu : us.flatten.length ≤ 100) (c0 c1 c2 : Option Cell) (c5 : Option Cell) (c4 : Option D) :
    ∃ c4' : Option D, forL (gN 4) L1__law_rows (us.map tupD) [c0, c1, c2, some (.own (.list [])), c4.map .val, c5] = some (.nx [c0, c1, c2, some (.own (.list (us.flatten.map .str))), c4'.map .val, c5]) := by
  obtain ⟨ρ', L, c4', rfl⟩ := for_pre (g := gN 4) (b := L1__law_rows) (k := tupD) (fun pre ρ => ∃ c4 : Option D, ρ = [c0, c1, c2, some (.own (.list (pre.flatten.map .str))), c4.map .val, c5]) us
    [c0, c1, c2, some (.own (.list [])), c4.map .val, c5] ⟨c4, rfl⟩ (fun pre x post e ρ hI => by
      obtain ⟨c4, rfl⟩ := hI
      have hz : pre.flatten.length + x.length ≤ 100 := by
        rw [e, List.flatten_append, List.flatten_cons] at hu
        simp only [List.length_append] at hu
        omega
      have h1 : pre.flatten.length ≤ 1000 := by omega
      have h2 : x.length ≤ 1000 := by omega
      refine ⟨[c0, c1, c2, some (.own (.list ((pre ++ [x]).flatten.map .str))), some (.val (tupD x)), c5], ?_, some (tupD x), rfl⟩
      rw [List.flatten_append, List.map_append]
      generalize pre.flatten = P at *
      simp -implicitDefEqProofs [tupD, h1, h2])
  exact ⟨c4', L⟩
theorem lock_loop (later h : List Str) (E : List (Str × List Str)) (c0 c2 c4 : Option Cell) (c5 : Option D) (nd : (E.map (·.1) ++ h).Nodup) (hz : E.length + h.length ≤ 100) :
    ∃ (c3' : Cell) (c5' : Option D), forL (gN 5) L2__law_rows (h.map .str) [c0, some (.own (dictL E)), c2, some (.own (.list (later.map .str))), c4, c5.map .val] =
      some (.nx [c0, some (.own (dictL (E ++ h.map fun l => (l, later)))), c2, some c3', c4, c5'.map .val]) ∧ (c3' = .own (.list (later.map .str)) ∨ c3' = .val (.list (later.map .str))) := by
  obtain ⟨ρ', L, c3', c5', h3, rfl⟩ := for_pre (g := gN 5) (b := L2__law_rows) (k := PyData.str) (fun pre ρ => ∃ (c3 : Cell) (c5 : Option D), (c3 = .own (.list (later.map .str)) ∨ c3 = .val (.list (later.map .str))) ∧
      ρ = [c0, some (.own (dictL (E ++ pre.map fun l => (l, later)))), c2, some c3, c4, c5.map .val]) h
    [c0, some (.own (dictL E)), c2, some (.own (.list (later.map .str))), c4, c5.map .val] ⟨_, c5, .inl rfl, by simp⟩ (fun pre x post e ρ hI => by
      obtain ⟨c3, c5, h3, rfl⟩ := hI
      have len : (E ++ pre.map fun l => (l, later)).length ≤ 1000 := by
        rw [e] at hz
        simp only [List.length_append, List.length_cons, List.length_map] at hz ⊢
        omega
      have nx : x ∉ (E ++ pre.map fun l => (l, later)).map (·.1) := fun m => by
        have h1 : (E.map (·.1) ++ pre) ++ x :: post = E.map (·.1) ++ h := by rw [e, List.append_assoc]
        rw [← h1] at nd
        have h2 : (E ++ pre.map fun l => (l, later)).map (·.1) = E.map (·.1) ++ pre := by simp [Function.comp_def]
        rw [h2] at m
        exact (List.nodup_append.mp nd).2.2 _ m x List.mem_cons_self rfl
      have e2 : E ++ (pre ++ [x]).map (fun l => (l, later)) = (E ++ pre.map fun l => (l, later)) ++ [(x, later)] := by simp
      rw [e2]
      generalize (E ++ pre.map fun l => (l, later)) = E1 at *
      have s2 := dput_new (ks := E1.map valL) (l := x) (z := .list (later.map .str)) (by rw [keysL]; exact nx)
      refine ⟨[c0, some (.own (dictL (E1 ++ [(x, later)]))), c2, some (.val (.list (later.map .str))), c4, some (.val (.str x))], ?_, _, some (.str x), .inr rfl, rfl⟩
      rcases h3 with rfl | rfl
      · simp -implicitDefEqProofs [-List.map_map, dictL, s2, len, valL]
      · simp -implicitDefEqProofs [-List.map_map, dictL, s2, len, valL])
  exact ⟨c3', c5', L, h3⟩
theorem rows_UB : ∀ {ps : List Blk}, (heldP ps).Nodup → ∀ p ∈ qR ps, p.2 = Pg.UB ps p.1
  | [], _, p, h => by cases h
  | b :: ps, nd, p, h => by
    rw [heldP_c] at nd
    obtain ⟨n1, n2, n3⟩ := List.nodup_append.mp nd
    rw [qR] at h
    rcases List.mem_append.mp h with h | h
    · obtain ⟨l, hl, rfl⟩ := List.mem_map.mp h
      simp only [Pg.UB, if_pos hl]
    · have hk : p.1 ∈ heldP ps := by rw [← keys_q]; exact List.mem_map_of_mem h
      have : p.1 ∉ b.1 := fun z => n3 _ z _ hk rfl
      simp only [Pg.UB, if_neg this]
      exact rows_UB n2 p h
theorem range_pick {α β : Type} (g : α → β) : ∀ l : List α, (List.range l.length).filterMap (fun k => (l[k]?).map g) = l.map g
  | [] => rfl
  | a :: l => by
    rw [List.length_cons, List.range_succ_eq_map, List.filterMap_cons]
    simp only [List.getElem?_cons_zero, Option.map_some, List.map_cons]
    rw [List.filterMap_map]
    congr 1
    have := range_pick g l
    simpa [Function.comp_def] using this
theorem flat_odd : ∀ (ps : List Blk) (k : Nat), (flatP ps)[2 * k + 1]? = (ps[k]?).map (·.2)
  | [], k => by simp [flatP]
  | b :: ps, 0 => rfl
  | b :: ps, k + 1 => by
    rw [flatP_c, show 2 * (k + 1) + 1 = 2 * k + 1 + 1 + 1 by omega, List.getElem?_cons_succ, List.getElem?_cons_succ, flat_odd ps k, List.getElem?_cons_succ]
theorem flat_even : ∀ (ps : List Blk) (k : Nat), (flatP ps)[2 * k]? = (ps[k]?).map (·.1)
  | [], k => by simp [flatP]
  | b :: ps, 0 => rfl
  | b :: ps, k + 1 => by
    rw [flatP_c, show 2 * (k + 1) = 2 * k + 1 + 1 by omega, List.getElem?_cons_succ, List.getElem?_cons_succ, flat_even ps k, List.getElem?_cons_succ]
theorem step_flat (ps : List Blk) (n : Nat) (h : n ≤ ps.length) : stepL ((flatP ps).map tupD) (2 * n + 1) = (ps.drop n).map fun b => tupD b.2 := by
  unfold stepL
  have e : (((flatP ps).map tupD).length + 1 - (2 * n + 1)) / 2 = (ps.drop n).length := by
    rw [List.length_map, Pg.flat_len, List.length_drop]
    omega
  rw [e, ← range_pick (fun b : Blk => tupD b.2) (ps.drop n)]
  congr 1
  funext k
  rw [show 2 * n + 1 + 2 * k = 2 * (n + k) + 1 by omega, List.getElem?_map, flat_odd, List.getElem?_drop, Option.map_map]
  rfl
theorem range2_ok : ∀ m : Nat, m < 9 → (Builtin.Range.small 0 (2 * ((m : Nat) : Int)) 2 = true ∧ 0 ≤ Builtin.Range.rangeSize 0 (2 * ((m : Nat) : Int)) 2 ∧ (Builtin.Range.rangeSize 0 (2 * ((m : Nat) : Int)) 2).toNat = m) := by decide +kernel
theorem used_join (ps : List Blk) : (ps.map (·.2)).flatten = usedP ps := by
  unfold usedP
  rw [List.flatMap]
theorem rows_step (p : Pf) (i : Nat) (hi : i < p.1.length) (c3 c4 c5 : Option D) (c3c : Option Cell) (h3 : c3c = none ∨ c3c = c3.map .own ∨ c3c = c3.map .val) : ∃ (c3' : Cell) (c4' c5' u : Option D),
    L3__law_rows [some (.val p.d), some (.own (dictL (qPre p.1 i))), some (.val (.int ((i : Nat) * 2 : Int))), c3c, c4.map .val, c5.map .val] =
      some (.nx [some (.val p.d), some (.own (dictL (qPre p.1 (i + 1)))), some (.val (.int ((i : Nat) * 2 : Int))), some c3', c4'.map .val, c5'.map .val]) ∧ (some c3' = u.map .own ∨ some c3' = u.map .val) := by
  have few := p.2.few
  have dr : p.1.drop i = p.1[i] :: p.1.drop (i + 1) := List.drop_eq_getElem_cons hi
  obtain ⟨b, hb⟩ : ∃ b, b = p.1[i] := ⟨_, rfl⟩
  rw [← hb] at dr
  have gd : (p.1.getD i ([], [])).1 = b.1 := by rw [List.getD_eq_getElem?_getD, List.getElem?_eq_getElem hi, hb]; rfl
  have ul : (usedP (p.1.drop i)).length ≤ 8 := by
    have h1 : (usedP (p.1.drop i)).length ≤ (usedP p.1).length := by
      have : usedP p.1 = usedP (p.1.take i) ++ usedP (p.1.drop i) := by
        unfold usedP
        rw [← List.flatMap_append, List.take_append_drop]
      rw [this, List.length_append]
      omega
    rw [List.length_append] at few
    omega
  have hh : heldP p.1 = heldP (p.1.take i) ++ (b.1 ++ heldP (p.1.drop (i + 1))) := by
    rw [← heldP_c, ← dr]
    unfold heldP
    rw [← List.flatMap_append, List.take_append_drop]
  have hn := p.2.vp.held_nd
  have hz : (qPre p.1 i).length + b.1.length ≤ 100 := by
    have h1 : (qPre p.1 i).length = (heldP (p.1.take i)).length := by rw [← keys_pre, List.length_map]
    rw [List.length_append, hh] at few
    simp only [List.length_append] at few
    omega
  have nd : ((qPre p.1 i).map (·.1) ++ b.1).Nodup := by
    rw [keys_pre]
    rw [hh, ← List.append_assoc] at hn
    exact (List.nodup_append.mp hn).1
  have uj := used_join (p.1.drop i)
  obtain ⟨d4, L1⟩ := later_loop ((p.1.drop i).map (·.2)) (by rw [uj]; omega) (some (.val p.d)) (some (.own (dictL (qPre p.1 i)))) (some (.val (.int ((i : Nat) * 2 : Int)))) (c5.map .val) c4
  obtain ⟨c3', d5, L2, h3'⟩ := lock_loop (usedP (p.1.drop i)) b.1 (qPre p.1 i) (some (.val p.d)) (some (.val (.int ((i : Nat) * 2 : Int)))) (d4.map .val) c5 nd hz
  rw [uj] at L1
  have sf := step_flat p.1 i (Nat.le_of_lt hi)
  have st2 : step2 p.d (.int ((i : Nat) * 2 + 1 : Int)) = some (.tuple (((p.1.drop i).map (·.2)).map tupD)) := by
    have := step2_t ((flatP p.1).map tupD) (2 * i + 1)
    rw [sf] at this
    rw [show ((i : Nat) : Int) * 2 + 1 = ((2 * i + 1 : Nat) : Int) by omega, List.map_map]
    exact this
  have ix : ixG p.d (.int ((i : Nat) * 2 : Int)) = some (.tuple (b.1.map .str), false) := by
    have : ((flatP p.1).map tupD)[2 * i]? = some (.tuple (b.1.map .str)) := by
      rw [List.getElem?_map, flat_even, List.getElem?_eq_getElem hi, hb]
      rfl
    show (atI _ _).map _ = _
    rw [atI_nat this (by omega)]
    rfl
  have q : qPre p.1 (i + 1) = qPre p.1 i ++ b.1.map fun l => (l, usedP (p.1.drop i)) := by rw [qPre_succ, gd]
  refine ⟨c3', d4, d5, some (.list ((usedP (p.1.drop i)).map .str)), ?_, by rcases h3' with rfl | rfl; exact .inl rfl; exact .inr rfl⟩
  rw [q]
  generalize (qPre p.1 i ++ b.1.map fun l => (l, usedP (p.1.drop i))) = E2 at *
  generalize qPre p.1 i = E1 at *
  generalize dictL E2 = D2 at *
  generalize dictL E1 = D1 at *
  generalize usedP (p.1.drop i) = U at *
  generalize ((p.1.drop i).map (·.2)).map tupD = B2 at *
  generalize b.1.map PyData.str = B1 at *
  generalize U.map PyData.str = UD at *
  generalize p.d = V at *
  generalize d4.map Cell.val = k4 at *
  generalize d5.map Cell.val = k5 at *
  rcases h3 with rfl | rfl | rfl
  · simp -implicitDefEqProofs [st2, ix, ↓L1, ↓L2]
  · cases c3 <;> simp -implicitDefEqProofs [st2, ix, ↓L1, ↓L2]
  · cases c3 <;> simp -implicitDefEqProofs [st2, ix, ↓L1, ↓L2]
theorem rows_D (p : Pf) : F__law_rows [p.d] = some ((dictL (qR p.1), true), []) := by
  have hm := p.2.blocks
  obtain ⟨r1, r2, r3⟩ := range2_ok p.1.length (by omega)
  have ln : lenF [p.d] = some (.int (2 * ((p.1.length : Nat) : Int)), false) := by
    have : ((flatP p.1).map tupD).length = 2 * p.1.length := by rw [List.length_map, Pg.flat_len]
    rw [show 2 * ((p.1.length : Nat) : Int) = ((2 * p.1.length : Nat) : Int) by omega, ← this]
    rfl
  obtain ⟨ρ', L, hI⟩ := forL_inv (g := gN 2) (b := L3__law_rows) (fun k ρ => k ≤ p.1.length → ∃ (c2 c3 c4 c5 : Option D) (c3c : Option Cell), (c3c = none ∨ c3c = c3.map .own ∨ c3c = c3.map .val) ∧ ρ = [some (.val p.d), some (.own (dictL (qPre p.1 k))), c2.map .val, c3c, c4.map .val, c5.map .val])
    (rng3 0 2 p.1.length) 0 [some (.val p.d), some (.own (.dict [])), none, none, none, none] (fun _ => ⟨none, none, none, none, none, .inl rfl, rfl⟩) (fun k d ρ hd hI => by
      simp only [Nat.zero_add] at hI ⊢
      simp only [rng3, List.getElem?_map, Option.map_eq_some_iff] at hd
      obtain ⟨k', hk', rfl⟩ := hd
      obtain ⟨hk1, hk2⟩ := List.getElem?_eq_some_iff.mp hk'
      simp only [List.getElem_range] at hk2
      subst hk2
      simp only [List.length_range] at hk1
      obtain ⟨c2, c3, c4, c5, c3c, h3, rfl⟩ := hI (by omega)
      obtain ⟨c3', c4', c5', u, st, h3'⟩ := rows_step p k hk1 c3 c4 c5 c3c h3
      refine ⟨[some (.val p.d), some (.own (dictL (qPre p.1 k))), some (.val (.int ((k : Nat) * 2 : Int))), c3c, c4.map .val, c5.map .val], _, by simp, st, fun _ => ⟨some (.int ((k : Nat) * 2 : Int)), u, c4', c5', some c3', .inr h3', rfl⟩⟩)
  obtain ⟨c2, c3, c4, c5, c3c, _, rfl⟩ := hI (by simp [rng3])
  have e : 0 + (rng3 0 2 p.1.length).length = p.1.length := by simp [rng3]
  rw [e, qPre_all] at L
  generalize dictL (qR p.1) = E at *
  generalize p.d = V at *
  unfold F__law_rows b__law_rows
  simp -implicitDefEqProofs [ln, r1, r2, r3, ↓L]
end Pv.K11
end
section
set_option Elab.async false
set_option linter.all false
set_option autoImplicit false
set_option maxRecDepth 100000
set_option maxHeartbeats 2000000
namespace Pv.K11
open PySem L2 PySem.W Pv Pv.Pg Pv.Lw Pv.Ev
def q (p : Pf) : D := dictL (qR p.1)
theorem qr (p : Pf) : F__law_rows [p.d] = some ((q p, true), []) := rows_D p
variable (p q' : Pf)
theorem walk_q : walkOf (q p) = some ((heldP p.1).map .str) := by
  have := keys_entL (qR p.1)
  simp only [entL] at this
  simp only [q, dictL, walkOf, this, keys_q]
theorem q_nd : ((qR p.1).map (·.1)).Nodup := by rw [keys_q]; exact p.2.vp.held_nd
theorem q_row {l : Str} (h : l ∈ heldP p.1) : (l, UB p.1 l) ∈ qR p.1 := by
  rw [← keys_q] at h
  obtain ⟨x, hx, rfl⟩ := List.mem_map.mp h
  have := rows_UB p.2.vp.held_nd x hx
  rw [← this]
  exact hx
theorem dget_q {l : Str} (h : l ∈ heldP p.1) : dget (entL (qR p.1)) (.inr l) = some (.list ((UB p.1 l).map .str)) :=
  dget_row (by rw [keysL]; exact q_nd p) (List.mem_map.mpr ⟨(l, UB p.1 l), q_row p h, rfl⟩)
theorem ix_q {l : Str} (h : l ∈ heldP p.1) : ixG (q p) (.str l) = some (.list ((UB p.1 l).map .str), false) := by
  have := dget_q p h
  have e : ixG (q p) (.str l) = (dget (entL (qR p.1)) (.inr l)).map fun z => (z, false) := rfl
  rw [e, this]
  rfl
theorem in_q (l : Str) : inB (.str l) (q p) = some (decide (l ∈ heldP p.1)) := by
  have e : (dget (entL (qR p.1)) (.inr l)).isSome = decide (l ∈ heldP p.1) := by
    by_cases h : l ∈ heldP p.1
    · rw [dget_q p h]; simp [h]
    · have n : dget (entL (qR p.1)) (.inr l) = none := dget_none (by rw [keysL, keys_q]; exact h)
      rw [n]; simp [h]
  simp only [q, dictL, inB_d, key_s, Option.map_some, entL] at e ⊢
  rw [e]
theorem hok {l : Str} (h : l ∈ heldP p.1) : PyData.strOk l = true := p.held_ok (p.mem_held.mpr h)
theorem uok {l : Str} (h : l ∈ heldP p.1) : ∀ x ∈ UB p.1 l, PyData.strOk x = true := fun x hx => p.ub_ok (p.mem_held.mpr h) x ((p.mem_ub (p.mem_held.mpr h)).mpr hx)
theorem ulen {l : Str} (h : l ∈ heldP p.1) : (UB p.1 l).length ≤ 1000 := by
  have few := p.2.few
  have sub : (UB p.1 l).length ≤ (usedP p.1).length := by
    have : ∀ ps : List Blk, (UB ps l).length ≤ (usedP ps).length := by
      intro ps
      induction ps with
      | nil => exact Nat.le_refl _
      | cons b ps ih =>
        unfold Pg.UB
        split
        · exact Nat.le_refl _
        · rw [usedP_c, List.length_append]; omega
    exact this p.1
  rw [List.length_append] at few
  omega
theorem hlen : (heldP p.1).length ≤ 1000 := by
  have few := p.2.few
  rw [List.length_append] at few
  omega
theorem in_u {l x : Str} (h : l ∈ heldP p.1) (hx : PyData.strOk x = true) : inB (.str x) (.list ((UB p.1 l).map .str)) = some (decide (x ∈ UB p.1 l)) := inB_strsL hx (uok p h)
theorem law_below_D : F__law_below [q p, q q'] = some ((.bool (p.le q'), false), []) := by
  have w1 := walk_q p
  have i4 := in_q q'
  have L := for_try (g := gN 2) (b := L1__law_below) (k := PyData.str)
    (fun ρ => ∃ c2 : Option D, ρ = [some (.val (q p)), some (.val (q q')), c2.map .val, none]) (fun ρ => ∃ c2 c3 : Option Cell, ρ = [some (.val (q p)), some (.val (q q')), c2, c3]) (fun l => decide (l ∈ heldP q'.1) && (UB p.1 l).all (fun n => decide (n ∈ heldP q'.1) || decide (n ∈ UB q'.1 l))) (.val (.bool false)) (heldP p.1) [some (.val (q p)), some (.val (q q')), none, none] ⟨none, rfl⟩ (fun l hl ρ hρ => by
      obtain ⟨c2, rfl⟩ := hρ
      have i1 := ix_q p hl
      have i5 := ulen p hl
      by_cases hq : l ∈ heldP q'.1
      · have i2 := ix_q q' hq
        have i3 := fun x hx => in_u q' (x := x) hq (uok p hl x hx)
        refine ⟨fun h => ⟨[some (.val (q p)), some (.val (q q')), some (.val (.str l)), none], ?_, some (.str l), rfl⟩, fun h => ⟨[some (.val (q p)), some (.val (q q')), some (.val (.str l)), none], ?_, _, _, rfl⟩⟩
        · simp only [hq, decide_true, Bool.true_and] at h
          simp -implicitDefEqProofs +contextual [lc_q, i1, i2, i3, i4, i5, h, hq]
        · simp only [hq, decide_true, Bool.true_and] at h
          simp -implicitDefEqProofs +contextual [lc_q, i1, i2, i3, i4, i5, h, hq]
      · refine ⟨fun h => by simp [hq] at h, fun h => ⟨[some (.val (q p)), some (.val (q q')), some (.val (.str l)), none], ?_, _, _, rfl⟩⟩
        simp -implicitDefEqProofs +contextual [i4, hq])
  have a2 : (heldP p.1).all (fun l => decide (l ∈ heldP q'.1) && (UB p.1 l).all (fun n => decide (n ∈ heldP q'.1) || decide (n ∈ UB q'.1 l))) = p.le q' := by
    rw [Bool.eq_iff_iff, show (p.le q' = true) ↔ BelowP p.1 q'.1 from decide_eq_true_iff]
    unfold BelowP
    simp only [List.all_eq_true, Bool.or_eq_true, Bool.and_eq_true, decide_eq_true_eq]
  rw [a2] at L
  unfold F__law_below b__law_below
  cases hk : p.le q' with
  | true =>
    obtain ⟨ρ', L, c2, rfl⟩ := L.1 hk
    simp -implicitDefEqProofs +contextual [w1, L]
  | false =>
    obtain ⟨ρ', L, c2, c3, rfl⟩ := L.2 hk
    simp -implicitDefEqProofs +contextual [w1, L]
def fitB (p q' : Pf) : Bool := decide (FitP p.1 q'.1)
theorem do_fit_D : F_do_fit [p.r, q'.r] = some ((.bool (fitB p q'), false), []) := do_fit_R p.rows q'.rows p.rz q'.rz
theorem law_fit_D : F__law_fit [q p, q q'] = some ((.bool (fitB p q'), false), []) := by
  have w1 := walk_q p
  have i4 := in_q q'
  have hz := hlen p
  by_cases h0 : (heldP p.1).any (fun l => decide (l ∈ heldP q'.1)) = true
  · have hv : fitB p q' = false := by
      refine decide_eq_false fun h => ?_
      obtain ⟨l, hl, e⟩ := List.any_eq_true.mp h0
      exact h.1 l hl (of_decide_eq_true e)
    unfold F__law_fit b__law_fit
    simp -implicitDefEqProofs +contextual [lc_q, w1, i4, hz, h0, hv]
  have h0' : (heldP p.1).any (fun l => decide (l ∈ heldP q'.1)) = false := by simpa using h0
  have L := for_try (g := gN 2) (b := L1__law_fit) (k := PyData.str)
    (fun ρ => ∃ c2 : Option D, ρ = [some (.val (q p)), some (.val (q q')), c2.map .val, none]) (fun ρ => ∃ c2 c3 : Option Cell, ρ = [some (.val (q p)), some (.val (q q')), c2, c3]) (fun l => !(UB p.1 l).any (fun n => decide (n ∈ heldP q'.1) && decide (l ∈ UB q'.1 n))) (.val (.bool false)) (heldP p.1) [some (.val (q p)), some (.val (q q')), none, none] ⟨none, rfl⟩ (fun l hl ρ hρ => by
      obtain ⟨c2, rfl⟩ := hρ
      have i1 := ix_q p hl
      have i5 := ulen p hl
      have lok := hok p hl
      have row : ∀ x ∈ UB p.1 l, lcQ (gN 3) (sAndV (sOp inF (sVar 3) (sVar 1)) (sOp inF (sVar 2) (sOp ixG (sVar 1) (sVar 3)))) [3] (.str x) [some (.val (q p)), some (.val (q q')), some (.val (.str l)), none] =
          some (.bool (decide (x ∈ heldP q'.1) && decide (l ∈ UB q'.1 x)), [some (.val (q p)), some (.val (q q')), some (.val (.str l)), none]) := fun x hx => by
        by_cases hq : x ∈ heldP q'.1
        · have i2 := ix_q q' hq
          have i3 := in_u q' hq lok
          simp -implicitDefEqProofs [i2, i3, i4, hq]
        · simp -implicitDefEqProofs [i4, hq]
      have C := lc_q (g := gN 3) (n := 0) (k := PyData.str) row (by simp; exact Nat.le_trans i5 (by decide))
      generalize hU : UB p.1 l = U at *
      refine ⟨fun h => ⟨[some (.val (q p)), some (.val (q q')), some (.val (.str l)), none], ?_, some (.str l), rfl⟩, fun h => ⟨[some (.val (q p)), some (.val (q q')), some (.val (.str l)), none], ?_, _, _, rfl⟩⟩
      · have h' : (U.any fun n => decide (n ∈ heldP q'.1) && decide (l ∈ UB q'.1 n)) = false := by simpa using h
        simp -implicitDefEqProofs [C, i1, h']
      · have h' : (U.any fun n => decide (n ∈ heldP q'.1) && decide (l ∈ UB q'.1 n)) = true := by simpa using h
        simp -implicitDefEqProofs [C, i1, h'])
  have a2 : (heldP p.1).all (fun l => !(UB p.1 l).any (fun n => decide (n ∈ heldP q'.1) && decide (l ∈ UB q'.1 n))) = fitB p q' := by
    rw [Bool.eq_iff_iff, show (fitB p q' = true) ↔ FitP p.1 q'.1 from decide_eq_true_iff]
    unfold FitP
    simp only [List.all_eq_true, Bool.not_eq_true', List.any_eq_false, Bool.and_eq_true, decide_eq_true_eq, not_and]
    exact ⟨fun h => ⟨fun l hl hq => by
      have := List.any_eq_false.mp h0' l hl
      exact this (decide_eq_true hq), h⟩, fun h => h.2⟩
  rw [a2] at L
  unfold F__law_fit b__law_fit
  cases hk : fitB p q' with
  | true =>
    obtain ⟨ρ', L, c2, rfl⟩ := L.1 hk
    simp -implicitDefEqProofs +contextual [lc_q, w1, i4, hz, h0', L]
  | false =>
    obtain ⟨ρ', L, c2, c3, rfl⟩ := L.2 hk
    simp -implicitDefEqProofs +contextual [lc_q, w1, i4, hz, h0', L]
end Pv.K11
end
section
set_option Elab.async false
set_option linter.all false
set_option autoImplicit false
set_option maxRecDepth 100000
set_option maxHeartbeats 2000000
namespace Pv.K11
open PySem L2 PySem.W Pv Pv.Pg Pv.Lw Pv.Ev
abbrev pr (p : Pf) : D := .tuple [p.d, q p]
theorem sorted_least (c : List Pf) (hc : c.length ≤ 900) : sortedF2 [.list ((Pf.least c).map Pf.d)] = some (.list (sortD ((Pf.least c).map Pf.d)), true) := by
  have so := sorted_pr ((Pf.least c).map (·.1)) (by rw [List.length_map]; exact Nat.le_trans (Pf.lst_len c) (by omega))
  have ed : ((Pf.least c).map (·.1)).map Pg.prD = (Pf.least c).map Pf.d := by simp [Pf.d, Function.comp_def]
  rw [ed] at so
  exact so
theorem law_least_D (c : List Pf) (hc : c.length ≤ 900) : F__law_least [.list (c.map pr)] = some ((.tuple (sortD ((Pf.least c).map Pf.d)), false), []) := by
  obtain ⟨ρ', L, c1, c2, c3, hc1, rfl⟩ := for_pre (g := gT 2 (gsCons (gN 2) (gsCons (gN 3) gsNil))) (b := L1__law_least) (k := pr) (fun pre ρ => ∃ c1 : Cell, ∃ c2 c3 : Option D, (c1 = .own (.list ((Pf.least pre).map pr)) ∨ c1 = .val (.list ((Pf.least pre).map pr))) ∧ ρ = [some (.val (.list (c.map pr))), some c1, c2.map .val, c3.map .val, none, none])
    c [some (.val (.list (c.map pr))), some (.own (.list [])), none, none, none, none] ⟨_, none, none, .inl rfl, rfl⟩ (fun pre x post e ρ hI => by
      obtain ⟨c1, c2, c3, h3, rfl⟩ := hI
      have hl : (Pf.least pre).length ≤ 900 := Nat.le_trans (Pf.lst_len pre) (by rw [e] at hc; simp at hc; omega)
      have e1 : Pf.least (pre ++ [x]) = addLeast Pf.le (Pf.least pre) x := by simp [leastL]
      rw [e1]
      generalize Pf.least pre = f at *
      have hl2 : f.length ≤ 1000 := by omega
      have hf : (f.filter fun y => !x.le y).length ≤ 1000 := Nat.le_trans (List.length_filter_le _ _) hl2
      unfold addLeast
      by_cases hk : (f.any fun y => y.le x) = true
      · refine ⟨[some (.val (.list (c.map pr))), some (.val (.list (f.map pr))), some (.val x.d), some (.val (q x)), none, none], ?_, _, some x.d, some (q x), .inr (by rw [if_pos hk]), rfl⟩
        rcases h3 with rfl | rfl
        · simp -implicitDefEqProofs [lc_q, law_below_D, hl2, hk]
        · simp -implicitDefEqProofs [lc_q, law_below_D, hl2, hk]
      · refine ⟨[some (.val (.list (c.map pr))), some (.own (.list (((f.filter fun y => !x.le y) ++ [x]).map pr))), some (.val x.d), some (.val (q x)), none, none], ?_, _, some x.d, some (q x), .inl (by rw [if_neg hk]), rfl⟩
        rcases h3 with rfl | rfl
        · simp -implicitDefEqProofs [lc_q, lc_p, law_below_D, hl2, hk, hf]
        · simp -implicitDefEqProofs [lc_q, lc_p, law_below_D, hl2, hk, hf])
  have so := sorted_least c hc
  have hl : (Pf.least c).length ≤ 1000 := Nat.le_trans (Pf.lst_len c) (by omega)
  generalize c.map pr = C at *
  generalize Pf.least c = f at *
  unfold F__law_least b__law_least
  rcases hc1 with rfl | rfl
  · simp -implicitDefEqProofs [lc_q, L, so, hl]
  · simp -implicitDefEqProofs [lc_q, L, so, hl]
end Pv.K11
end
section
set_option Elab.async false
set_option linter.all false
set_option autoImplicit false
set_option maxRecDepth 100000
set_option maxHeartbeats 2000000
namespace Pv.Pg
open PySem Pv
def subsA (L : List Str) : List (List Str) := L.foldl (fun F n => F ++ F.map (· ++ [n])) [[]]
theorem subsA_snoc (L : List Str) (n : Str) : subsA (L ++ [n]) = subsA L ++ (subsA L).map (· ++ [n]) := by
  unfold subsA
  rw [List.foldl_append]
  rfl
theorem mem_subsA : ∀ (R : List Str) (X : List Str), X ∈ subsA R.reverse ↔ X.Sublist R.reverse := by
  intro R
  induction R with
  | nil => intro X; simp [subsA]
  | cons n R ih =>
    intro X
    rw [List.reverse_cons, subsA_snoc, List.mem_append, List.mem_map, ih]
    constructor
    · rintro (h | ⟨Y, hY, rfl⟩)
      · exact h.trans (List.sublist_append_left _ _)
      · exact List.Sublist.append ((ih Y).mp hY) (List.Sublist.refl _)
    · intro h
      obtain ⟨Y, Z, rfl, h1, h2⟩ := List.sublist_append_iff.mp h
      cases Z with
      | nil => rw [List.append_nil]; exact .inl h1
      | cons z Z =>
        have l := h2.length_le
        simp only [List.length_cons, List.length_nil] at l
        have : Z = [] := List.length_eq_zero_iff.mp (by omega)
        subst this
        have := h2.subset (List.mem_singleton.mpr rfl)
        rw [List.mem_singleton] at this
        subst this
        exact .inr ⟨Y, (ih Y).mpr h1, rfl⟩
theorem mem_subsA' (L X : List Str) : X ∈ subsA L ↔ X.Sublist L := by
  have := mem_subsA L.reverse X
  rwa [List.reverse_reverse] at this
theorem subsA_split (R : List Str) : ∃ Y, subsA R.reverse = [] :: Y ∧ ∀ X ∈ Y, X ≠ [] := by
  induction R with
  | nil => exact ⟨[], rfl, fun X h => by cases h⟩
  | cons n R ih =>
    obtain ⟨Y, e, h⟩ := ih
    refine ⟨Y ++ (subsA R.reverse).map (· ++ [n]), by rw [List.reverse_cons, subsA_snoc, e]; rfl, fun X hX => ?_⟩
    rcases List.mem_append.mp hX with hX | hX
    · exact h X hX
    · obtain ⟨Z, _, rfl⟩ := List.mem_map.mp hX
      simp
def subs (L : List Str) : List (List Str) := (subsA L).drop 1
theorem subsA_cons (L : List Str) : subsA L = [] :: subs L := by
  obtain ⟨Y, e, _⟩ := subsA_split L.reverse
  rw [List.reverse_reverse] at e
  unfold subs
  rw [e]
  rfl
theorem mem_subs (L X : List Str) : X ∈ subs L ↔ X ≠ [] ∧ X.Sublist L := by
  obtain ⟨Y, e, h⟩ := subsA_split L.reverse
  rw [List.reverse_reverse] at e
  have m := mem_subsA' L X
  have es : subs L = Y := by unfold subs; rw [e]; rfl
  rw [es]
  rw [e, List.mem_cons] at m
  constructor
  · exact fun hX => ⟨h X hX, m.mp (.inr hX)⟩
  · rintro ⟨h1, h2⟩
    exact (m.mpr h2).resolve_left h1
theorem subsA_len (R : List Str) : (subsA R.reverse).length = 2 ^ R.length := by
  induction R with
  | nil => rfl
  | cons n R ih => rw [List.reverse_cons, subsA_snoc, List.length_append, List.length_map, ih, List.length_cons, Nat.pow_succ]; omega
theorem subs_len (L : List Str) : (subs L).length + 1 = 2 ^ L.length := by
  have h := subsA_len L.reverse
  rw [List.reverse_reverse, List.length_reverse, subsA_cons, List.length_cons] at h
  exact h
theorem sub_asc {L X : List Str} (hL : Asc L) : X.Sublist L ↔ Asc X ∧ ∀ x ∈ X, x ∈ L := by
  constructor
  · exact fun h => ⟨hL.sublist h, fun x hx => h.subset hx⟩
  · rintro ⟨hX, h⟩
    have e : X = L.filter fun x => decide (x ∈ X) := asc_unique hX (hL.sublist List.filter_sublist) fun x => by
      rw [List.mem_filter, decide_eq_true_iff]
      exact ⟨fun z => ⟨h x z, z⟩, (·.2)⟩
    rw [e]
    exact List.filter_sublist
def offS (L A : List Str) : List Str := L.filter fun x => !decide (x ∈ A)
theorem mem_offS {L A : List Str} {x : Str} : x ∈ offS L A ↔ x ∈ L ∧ x ∉ A := by
  unfold offS
  rw [List.mem_filter, Bool.not_eq_true', decide_eq_false_iff_not]
theorem asc_offS {L A : List Str} (h : Asc L) : Asc (offS L A) := h.sublist List.filter_sublist
def profs : Nat → List Str → List (List Blk)
  | 0, _ => [[]]
  | n + 1, L => [] :: (subs L).flatMap fun A => [(A, [])] :: (subs (offS L A)).flatMap fun U => (profs n (offS (offS L A) U)).map fun t => (A, U) :: t
theorem VP.nil : VP [] := ⟨fun b h => (by cases h), fun b h => (by cases h), fun b h => (by cases h), List.nodup_nil⟩
theorem four_perm (A H U W : List Str) : ((A ++ H) ++ (U ++ W)).Perm (A ++ (U ++ (H ++ W))) := by
  refine List.perm_iff_count.mpr fun a => ?_
  simp only [List.count_append]
  omega
theorem offS_len {L A : List Str} (hA : A ≠ []) (h : ∀ x ∈ A, x ∈ L) : (offS L A).length < L.length := by
  obtain ⟨x, hx⟩ := List.exists_mem_of_ne_nil _ hA
  unfold offS
  refine Nat.lt_of_le_of_ne (List.length_filter_le _ _) fun e => ?_
  have := List.length_filter_eq_length_iff.mp e x (h x hx)
  simp [hx] at this
theorem mem_profs : ∀ (n : Nat) (L : List Str), Asc L → L.length ≤ n → ∀ ps : List Blk, ps ∈ profs n L ↔ VP ps ∧ ∀ x ∈ heldP ps ++ usedP ps, x ∈ L := by
  intro n
  induction n with
  | zero =>
    intro L hL hl ps
    have : L = [] := List.length_eq_zero_iff.mp (by omega)
    subst this
    simp only [profs, List.mem_singleton]
    constructor
    · rintro rfl
      exact ⟨VP.nil, fun x h => by simp [heldP, usedP] at h⟩
    · rintro ⟨v, h⟩
      cases ps with
      | nil => rfl
      | cons b ps =>
        obtain ⟨x, hx⟩ := List.exists_mem_of_ne_nil _ (v.ne1 b List.mem_cons_self)
        have := h x (List.mem_append_left _ (by rw [heldP_c]; exact List.mem_append_left _ hx))
        cases this
  | succ n ih =>
    intro L hL hl ps
    rw [profs, List.mem_cons, List.mem_flatMap]
    constructor
    · rintro (rfl | ⟨A, hA, h⟩)
      · exact ⟨VP.nil, fun x h => by simp [heldP, usedP] at h⟩
      · obtain ⟨a0, aL⟩ := (mem_subs _ _).mp hA
        obtain ⟨aA, aM⟩ := (sub_asc hL).mp aL
        rw [List.mem_cons, List.mem_flatMap] at h
        rcases h with rfl | ⟨U, hU, h⟩
        · refine ⟨⟨fun b hb => ?_, fun b hb => ?_, fun b hb => (by cases hb), ?_⟩, fun x hx => ?_⟩
          · rw [List.mem_singleton.mp hb]; exact ⟨aA, List.Pairwise.nil⟩
          · rw [List.mem_singleton.mp hb]; exact a0
          · rw [heldP_c, usedP_c]
            simpa [heldP, usedP] using aA.nodup
          · rw [heldP_c, usedP_c] at hx
            simp only [heldP, usedP, List.flatMap_nil, List.append_nil] at hx
            exact aM x (by simpa using hx)
        · obtain ⟨t, ht, rfl⟩ := List.mem_map.mp h
          obtain ⟨u0, uL⟩ := (mem_subs _ _).mp hU
          obtain ⟨uA, uM⟩ := (sub_asc (asc_offS hL)).mp uL
          have l1 := offS_len a0 aM
          have l2 := offS_len u0 uM
          obtain ⟨v, m⟩ := (ih _ (asc_offS (asc_offS hL)) (by omega) t).mp ht
          have mt : ∀ x ∈ heldP t ++ usedP t, x ∈ L ∧ x ∉ A ∧ x ∉ U := fun x hx => by
            have := mem_offS.mp (m x hx)
            have h2 := mem_offS.mp this.1
            exact ⟨h2.1, h2.2, this.2⟩
          have mU : ∀ x ∈ U, x ∈ L ∧ x ∉ A := fun x hx => mem_offS.mp (uM x hx)
          refine ⟨⟨fun b hb => ?_, fun b hb => ?_, fun b hb => ?_, ?_⟩, fun x hx => ?_⟩
          · rcases List.mem_cons.mp hb with rfl | hb
            · exact ⟨aA, uA⟩
            · exact v.asc b hb
          · rcases List.mem_cons.mp hb with rfl | hb
            · exact a0
            · exact v.ne1 b hb
          · cases t with
            | nil => cases hb
            | cons c r =>
              rcases List.mem_cons.mp hb with rfl | hb
              · exact u0
              · exact v.ne2 b hb
          · rw [heldP_c, usedP_c]
            refine (four_perm _ _ _ _).nodup_iff.mpr (List.nodup_append.mpr ⟨aA.nodup, List.nodup_append.mpr ⟨uA.nodup, v.nd, fun x hx y hy e => ?_⟩, fun x hx y hy e => ?_⟩)
            · exact (mt y hy).2.2 (e ▸ hx)
            · rcases List.mem_append.mp hy with hy | hy
              · exact (mU y hy).2 (e ▸ hx)
              · exact (mt y hy).2.1 (e ▸ hx)
          · rw [heldP_c, usedP_c] at hx
            have := (four_perm _ _ _ _).mem_iff.mp hx
            rcases List.mem_append.mp this with h | h
            · exact aM x h
            · rcases List.mem_append.mp h with h | h
              · exact (mU x h).1
              · exact (mt x h).1
    · rintro ⟨v, m⟩
      cases ps with
      | nil => exact .inl rfl
      | cons b t =>
        obtain ⟨A, U⟩ := b
        obtain ⟨aA, uA⟩ := v.asc (A, U) List.mem_cons_self
        have a0 := v.ne1 (A, U) List.mem_cons_self
        have nd := v.nd
        rw [heldP_c, usedP_c] at nd m
        have nd := (four_perm _ _ _ _).nodup_iff.mp nd
        have m : ∀ x ∈ A ++ (U ++ (heldP t ++ usedP t)), x ∈ L := fun x hx => m x ((four_perm _ _ _ _).mem_iff.mpr hx)
        obtain ⟨_, nd2, d1⟩ := List.nodup_append.mp nd
        obtain ⟨_, nd3, d2⟩ := List.nodup_append.mp nd2
        have aM : ∀ x ∈ A, x ∈ L := fun x hx => m x (List.mem_append_left _ hx)
        refine .inr ⟨A, (mem_subs _ _).mpr ⟨a0, (sub_asc hL).mpr ⟨aA, aM⟩⟩, ?_⟩
        rw [List.mem_cons, List.mem_flatMap]
        by_cases u0 : U = []
        · subst u0
          cases t with
          | nil => exact .inl rfl
          | cons c r => exact absurd rfl (v.ne2 (A, []) List.mem_cons_self)
        · have uM : ∀ x ∈ U, x ∈ offS L A := fun x hx => mem_offS.mpr ⟨m x (List.mem_append_right _ (List.mem_append_left _ hx)), fun z => d1 x z x (List.mem_append_left _ hx) rfl⟩
          have l1 : (offS L A).length < L.length := offS_len a0 aM
          have l2 := offS_len u0 uM
          refine .inr ⟨U, (mem_subs _ _).mpr ⟨u0, (sub_asc (asc_offS hL)).mpr ⟨uA, uM⟩⟩, List.mem_map.mpr ⟨t, (ih _ (asc_offS (asc_offS hL)) (by omega) t).mpr ⟨v.tail, fun x hx => ?_⟩, rfl⟩⟩
          exact mem_offS.mpr ⟨mem_offS.mpr ⟨m x (List.mem_append_right _ (List.mem_append_right _ hx)), fun z => d1 x z x (List.mem_append_right _ hx) rfl⟩, fun z => d2 x z x hx rfl⟩
theorem flatMap_len {α β : Type} (f : α → List β) (n : Nat) : ∀ xs : List α, (∀ x ∈ xs, (f x).length ≤ n) → (xs.flatMap f).length ≤ xs.length * n
  | [], _ => Nat.zero_le _
  | x :: xs, h => by
    have h1 := h x List.mem_cons_self
    have h2 := flatMap_len f n xs fun y hy => h y (List.mem_cons_of_mem _ hy)
    rw [List.flatMap_cons, List.length_append, List.length_cons, Nat.succ_mul]
    omega
theorem subs_few {L : List Str} (h : L.length ≤ 4) : (subs L).length ≤ 15 := by
  have := subs_len L
  have : 2 ^ L.length ≤ 2 ^ 4 := Nat.pow_le_pow_right (by omega) h
  omega
theorem profs_few : ∀ (n : Nat) (L : List Str), L.length ≤ 4 → (profs n L).length ≤ 60000 := by
  have len0 : ∀ L : List Str, L.length = 0 → ∀ n, (profs n L).length = 1 := fun L h n => by
    have : L = [] := List.length_eq_zero_iff.mp h
    subst this
    cases n with
    | zero => rfl
    | succ n => rfl
  have step : ∀ (n : Nat) (L : List Str) (m : Nat), L.length ≤ 4 → (∀ A ∈ subs L, ∀ U ∈ subs (offS L A), (profs n (offS (offS L A) U)).length ≤ m) → (profs (n + 1) L).length ≤ 1 + 15 * (1 + 15 * m) := fun n L m hl h => by
    rw [profs, List.length_cons]
    refine Nat.le_trans (Nat.succ_le_succ (flatMap_len _ (1 + 15 * m) _ fun A hA => ?_)) (by have := Nat.mul_le_mul_right (1 + 15 * m) (subs_few hl); omega)
    rw [List.length_cons]
    have l1 : (offS L A).length ≤ 4 := Nat.le_trans (List.length_filter_le _ _) hl
    refine Nat.le_trans (Nat.succ_le_succ (flatMap_len _ m _ fun U hU => ?_)) (by have := Nat.mul_le_mul_right m (subs_few l1); omega)
    rw [List.length_map]
    exact h A hA U hU
  have dec : ∀ (L : List Str), ∀ A ∈ subs L, ∀ U ∈ subs (offS L A), (offS (offS L A) U).length + 2 ≤ L.length := fun L A hA U hU => by
    obtain ⟨a0, aL⟩ := (mem_subs _ _).mp hA
    obtain ⟨u0, uL⟩ := (mem_subs _ _).mp hU
    have l1 := offS_len a0 fun x hx => aL.subset hx
    have l2 := offS_len u0 fun x hx => uL.subset hx
    omega
  have two : ∀ (n : Nat) (L : List Str), L.length ≤ 2 → (profs n L).length ≤ 241 := fun n L hl => by
    cases n with
    | zero => rw [profs]; exact Nat.le_trans (Nat.le_refl 1) (by omega)
    | succ n =>
      refine Nat.le_trans (step n L 1 (by omega) fun A hA U hU => ?_) (by omega)
      rw [len0 _ (by have := dec L A hA U hU; omega)]
      exact Nat.le_refl 1
  intro n L hl
  cases n with
  | zero => rw [profs]; exact Nat.le_trans (Nat.le_refl 1) (by omega)
  | succ n =>
    refine Nat.le_trans (step n L 241 hl fun A hA U hU => ?_) (by omega)
    exact two _ _ (by have := dec L A hA U hU; omega)
end Pv.Pg
end
section
set_option Elab.async false
set_option linter.all false
set_option autoImplicit false
set_option maxRecDepth 100000
set_option maxHeartbeats 2000000
namespace Pv.Pg
open PySem L2 Pv Pv.Ev
def tD (n : List Str) : D := .tuple (n.map .str)
theorem adds_sub (pre : List Str) (n : Str) (hn : (subsA pre).length ≤ 100) (c0 c2 : Option Cell) (hX : ∀ X ∈ subsA pre, X.length ≤ 100) :
    lcL (gN 3) sYes (sOp addF (sVar 3) (sTup (sCons (sVar 2) sNil))) [3] ((subsA pre).map tD) 0 [c0, some (.val (.list ((subsA pre).map tD))), some (.val (.str n)), none] = some (((subsA pre).map (· ++ [n])).map tD, [c0, some (.val (.list ((subsA pre).map tD))), some (.val (.str n)), none]) := by
  have L := lc_p (g := gN 3) (t := sYes) (el := sOp addF (sVar 3) (sTup (sCons (sVar 2) sNil))) (vs := [3]) (ρ := [c0, some (.val (.list ((subsA pre).map tD))), some (.val (.str n)), none]) (k := tD) (o := fun X => some (tD (X ++ [n]))) (xs := subsA pre) (n := 0) (fun X hXm => by
    have z : X.length + 1 ≤ sizeLine := Nat.le_trans (by have := hX X hXm; omega : _ ≤ 101) (by decide)
    have z1 : (1 : Nat) ≤ sizeLine := by decide
    have e : tD (X ++ [n]) = .tuple (X.map .str ++ [.str n]) := by simp [tD]
    have z2 : (X.map PyData.str).length + 1 ≤ sizeLine := by rw [List.length_map]; exact z
    generalize (subsA pre).map tD = FS at *
    rw [e]
    have e2 : tD X = .tuple (X.map .str) := rfl
    rw [e2]
    generalize X.map PyData.str = XS at *
    simp -implicitDefEqProofs [z1, z2]) (by rw [Nat.zero_add]; exact Nat.le_trans hn (by decide))
  rw [L, List.filterMap_eq_map', List.map_map]
  rfl
theorem subsets_D (L : List Str) (hl : L.length ≤ 5) : F_subsets [tD L] = some ((.list ((subs L).map tD), true), []) := by
  have sl : ∀ pre : List Str, pre.length ≤ 5 → (subsA pre).length ≤ 32 := fun pre h => by
    have e := subsA_len pre.reverse
    rw [List.reverse_reverse, List.length_reverse] at e
    rw [e]
    exact Nat.pow_le_pow_right (by omega) h
  have sx : ∀ pre : List Str, pre.length ≤ 5 → ∀ X ∈ subsA pre, X.length ≤ 5 := fun pre h X hX => Nat.le_trans ((mem_subsA' _ _).mp hX).length_le h
  obtain ⟨ρ', LL, c2, rfl⟩ := for_pre (g := gN 2) (b := L1_subsets) (k := PyData.str) (fun (pre : List Str) ρ => ∃ c2 : Option D, ρ = [some (.val (tD L)), some (.own (.list ((subsA pre).map tD))), c2.map .val, none])
    L [some (.val (tD L)), some (.own (.list ((subsA []).map tD))), none, none] ⟨none, rfl⟩ (fun pre n post he ρ hρ => by
      obtain ⟨c2, rfl⟩ := hρ
      have lp : pre.length ≤ 4 := by
        have : L.length = pre.length + (post.length + 1) := by rw [he]; simp
        omega
      have s2 : slotC (some (c2.map Cell.val)) = true := by cases c2 <;> rfl
      have l32 := sl pre (by omega)
      have A := adds_sub pre n (by omega) (some (.val (tD L))) none (fun X hX => by have := sx pre (by omega) X hX; omega)
      refine ⟨[some (.val (tD L)), some (.own (.list ((subsA (pre ++ [n])).map tD))), some (.val (.str n)), none], ?_, some (.str n), rfl⟩
      have z : ((subsA pre).map tD).length + (((subsA pre).map (· ++ [n])).map tD).length ≤ sizeLine := by
        simp only [List.length_map]
        exact Nat.le_trans (by omega : _ ≤ 64) (by decide)
      rw [subsA_snoc, List.map_append]
      generalize ((subsA pre).map (· ++ [n])).map tD = GS at *
      generalize (subsA pre).map tD = FS at *
      generalize tD L = TL at *
      simp -implicitDefEqProofs [A, z, s2])
  have z1 : (1 : Nat) ≤ sizeLine := by decide
  have z0 : (0 : Nat) ≤ sizeLine := by decide
  have e0 : (subsA []).map tD = [.tuple []] := rfl
  have cut : cutD ((subsA L).map tD) (some 1) none = (subs L).map tD := by
    rw [subsA_cons, List.map_cons]
    exact cut1 _ _
  rw [e0] at LL
  have eL : tD L = .tuple (L.map .str) := rfl
  rw [eL] at LL ⊢
  generalize (subsA L).map tD = FS at *
  generalize (subs L).map tD = GS at *
  generalize L.map PyData.str = LS at *
  unfold F_subsets b_subsets
  simp -implicitDefEqProofs [LL, z0, z1, cut]
end Pv.Pg
end
section
set_option Elab.async false
set_option linter.all false
set_option autoImplicit false
set_option maxRecDepth 100000
set_option maxHeartbeats 2000000
namespace Pv.Pg
open PySem L2 Pv Pv.Ev
def pD (ps : List Blk) : D := setsD (flatP ps)
theorem pD_c (A U : List Str) (t : List Blk) : pD ((A, U) :: t) = .tuple (tD A :: tD U :: (flatP t).map tD) := rfl
theorem VP.len : ∀ {t : List Blk}, VP t → t.length ≤ (heldP t).length
  | [], _ => Nat.zero_le _
  | b :: t, v => by
    have := VP.len v.tail
    have h := List.length_pos_iff.mpr (v.ne1 b List.mem_cons_self)
    rw [heldP_c, List.length_append, List.length_cons]
    omega
theorem flatP_len : ∀ t : List Blk, (flatP t).length = 2 * t.length
  | [] => rfl
  | b :: t => by rw [flatP_c, List.length_cons, List.length_cons, flatP_len t, List.length_cons]; omega
theorem off_lc1 (L A : List Str) (hL : ∀ x ∈ L, PyData.strOk x = true) (hA : ∀ x ∈ A, PyData.strOk x = true) (hz : L.length ≤ 100) (c0 c1 c3 c4 c5 c7 : Option Cell) :
    lcL (gN 6) (sTest (sOp notInF (sVar 6) (sVar 2))) (sVar 6) [6] (L.map .str) 0 [c0, c1, some (.val (tD A)), c3, c4, c5, none, c7] = some ((offS L A).map .str, [c0, c1, some (.val (tD A)), c3, c4, c5, none, c7]) := by
  have LL := lc_p (g := gN 6) (t := sTest (sOp notInF (sVar 6) (sVar 2))) (el := sVar 6) (vs := [6]) (ρ := [c0, c1, some (.val (tD A)), c3, c4, c5, none, c7]) (k := PyData.str) (o := fun x => if x ∈ A then none else some (PyData.str x)) (xs := L) (n := 0) (fun x hx => by
    have i := inB_strs (hL x hx) hA
    have e : tD A = .tuple (A.map .str) := rfl
    rw [e]
    generalize A.map PyData.str = AS at *
    by_cases h : x ∈ A
    · rw [decide_eq_true h] at i
      simp -implicitDefEqProofs [i, h]
    · rw [decide_eq_false h] at i
      simp -implicitDefEqProofs [i, h]) (by rw [Nat.zero_add]; exact Nat.le_trans hz (by decide))
  rw [LL]
  congr 2
  unfold offS
  clear LL hL hz
  induction L with
  | nil => rfl
  | cons x L ih =>
    by_cases h : x ∈ A
    · rw [List.filterMap_cons_none (by simp [h]), ih, List.filter_cons_of_neg (by simp [h])]
    · rw [List.filterMap_cons_some (b := PyData.str x) (by simp [h]), ih, List.filter_cons_of_pos (by simp [h])]
      rfl
theorem off_lc2 (L A : List Str) (hL : ∀ x ∈ L, PyData.strOk x = true) (hA : ∀ x ∈ A, PyData.strOk x = true) (hz : L.length ≤ 100) (c0 c1 c2 c3 c5 c7 : Option Cell) :
    lcL (gN 6) (sTest (sOp notInF (sVar 6) (sVar 4))) (sVar 6) [6] (L.map .str) 0 [c0, c1, c2, c3, some (.val (tD A)), c5, none, c7] = some ((offS L A).map .str, [c0, c1, c2, c3, some (.val (tD A)), c5, none, c7]) := by
  have LL := lc_p (g := gN 6) (t := sTest (sOp notInF (sVar 6) (sVar 4))) (el := sVar 6) (vs := [6]) (ρ := [c0, c1, c2, c3, some (.val (tD A)), c5, none, c7]) (k := PyData.str) (o := fun x => if x ∈ A then none else some (PyData.str x)) (xs := L) (n := 0) (fun x hx => by
    have i := inB_strs (hL x hx) hA
    have e : tD A = .tuple (A.map .str) := rfl
    rw [e]
    generalize A.map PyData.str = AS at *
    by_cases h : x ∈ A
    · rw [decide_eq_true h] at i
      simp -implicitDefEqProofs [i, h]
    · rw [decide_eq_false h] at i
      simp -implicitDefEqProofs [i, h]) (by rw [Nat.zero_add]; exact Nat.le_trans hz (by decide))
  rw [LL]
  congr 2
  unfold offS
  clear LL hL hz
  induction L with
  | nil => rfl
  | cons x L ih =>
    by_cases h : x ∈ A
    · rw [List.filterMap_cons_none (by simp [h]), ih, List.filter_cons_of_neg (by simp [h])]
    · rw [List.filterMap_cons_some (b := PyData.str x) (by simp [h]), ih, List.filter_cons_of_pos (by simp [h])]
      rfl
theorem tails_lc (A U : List Str) (ts : List (List Blk)) (hz : ts.length ≤ 100000) (hs : ∀ t ∈ ts, t.length ≤ 100) (c0 c1 c3 c5 : Option Cell) :
    lcL (gN 7) sYes (sOp addF (sTup (sCons (sVar 2) (sCons (sVar 4) sNil))) (sVar 7)) [7] (ts.map pD) 0 [c0, c1, some (.val (tD A)), c3, some (.val (tD U)), c5, none, none] = some ((ts.map fun t => (A, U) :: t).map pD, [c0, c1, some (.val (tD A)), c3, some (.val (tD U)), c5, none, none]) := by
  have L := lc_p (g := gN 7) (t := sYes) (el := sOp addF (sTup (sCons (sVar 2) (sCons (sVar 4) sNil))) (sVar 7)) (vs := [7]) (ρ := [c0, c1, some (.val (tD A)), c3, some (.val (tD U)), c5, none, none]) (k := pD) (o := fun t => some (pD ((A, U) :: t))) (xs := ts) (n := 0) (fun t ht => by
    have z2 : (2 : Nat) ≤ sizeLine := by decide
    have z : 2 + ((flatP t).map tD).length ≤ sizeLine := by
      rw [List.length_map, flatP_len]
      exact Nat.le_trans (by have := hs t ht; omega : _ ≤ 1000) (by decide)
    have e : pD t = .tuple ((flatP t).map tD) := rfl
    rw [e, pD_c]
    generalize (flatP t).map tD = TS at *
    generalize tD A = TA at *
    generalize tD U = TU at *
    simp -implicitDefEqProofs [z, z2]) (by rw [Nat.zero_add]; exact Nat.le_trans hz (by decide))
  rw [L, List.filterMap_eq_map', List.map_map]
  rfl
end Pv.Pg
end
section
set_option Elab.async false
set_option linter.all false
set_option autoImplicit false
set_option maxRecDepth 100000
set_option maxHeartbeats 2000000
namespace Pv.Pg
open PySem L2 Pv Pv.Ev
def pfS (L : List Str) (F : List (List Blk)) (c2 c3 c4 c5 : Option D) : Ro := [some (.val (tD L)), some (.own (.list (F.map pD))), c2.map .val, c3.map .val, c4.map .val, c5.map .val, none, none]
def inn (n : Nat) (L A : List Str) (us : List (List Str)) : List (List Blk) := us.flatMap fun U => (profs n (offS (offS L A) U)).map fun t => (A, U) :: t
theorem inn_app (n : Nat) (L A : List Str) (x y : List (List Str)) : inn n L A (x ++ y) = inn n L A x ++ inn n L A y := List.flatMap_append
theorem sub_names {L X : List Str} (h : X ∈ subs L) : ∀ x ∈ X, x ∈ L := fun x hx => ((mem_subs _ _).mp h).2.subset hx
theorem pf_inner {n : Nat} {L A : List Str} (hL : Asc L) (ok : ∀ x ∈ L, PyData.strOk x = true) (hl : L.length ≤ 4) (hn : L.length ≤ n + 1) (hA : A ∈ subs L) {self_ : Fn}
    (ih : ∀ M : List Str, Asc M → (∀ x ∈ M, x ∈ L) → M.length ≤ n → self_ [tD M] = some ((.list ((profs n M).map pD), true), []))
    (F : List (List Blk)) (hF : (F ++ inn n L A (subs (offS L A))).length ≤ 100000) (c4 c5 : Option D) :
    ∃ d4 d5 : Option D, forL (gN 4) (L1_profiles_from self_) ((subs (offS L A)).map tD) (pfS L F (some (tD A)) (some (tD (offS L A))) c4 c5) =
      some (.nx (pfS L (F ++ inn n L A (subs (offS L A))) (some (tD A)) (some (tD (offS L A))) d4 d5)) := by
  have hM := asc_offS (A := A) hL
  have a0 := ((mem_subs _ _).mp hA).1
  have okM : ∀ x ∈ offS L A, PyData.strOk x = true := fun x hx => ok x (mem_offS.mp hx).1
  obtain ⟨ρ', LL, d4, d5, rfl⟩ := for_pre (g := gN 4) (b := L1_profiles_from self_) (k := tD) (fun (pre : List (List Str)) ρ => ∃ d4 d5 : Option D, ρ = pfS L (F ++ inn n L A pre) (some (tD A)) (some (tD (offS L A))) d4 d5)
    (subs (offS L A)) (pfS L F (some (tD A)) (some (tD (offS L A))) c4 c5) ⟨c4, c5, by simp [inn]⟩ (fun pre U post he ρ hρ => by
      obtain ⟨d4, d5, rfl⟩ := hρ
      have hU : U ∈ subs (offS L A) := by rw [he]; simp
      obtain ⟨u0, uL⟩ := (mem_subs _ _).mp hU
      have l1 := offS_len a0 (sub_names hA)
      have l2 := offS_len u0 fun x hx => uL.subset hx
      have okU : ∀ x ∈ U, PyData.strOk x = true := fun x hx => okM x (uL.subset hx)
      have s4 : slotC (some (d4.map Cell.val)) = true := by cases d4 <;> rfl
      have s5 : slotC (some (d5.map Cell.val)) = true := by cases d5 <;> rfl
      have e := ih (offS (offS L A) U) (asc_offS hM) (fun x hx => (mem_offS.mp (mem_offS.mp hx).1).1) (by omega)
      have few := profs_few n (offS (offS L A) U) (by omega)
      have tl : ∀ t ∈ profs n (offS (offS L A) U), t.length ≤ 100 := fun t ht => by
        obtain ⟨v, m⟩ := (mem_profs n _ (asc_offS hM) (by omega) t).mp ht
        have h1 := v.len
        have h2 : (heldP t).length ≤ (offS (offS L A) U).length := sub_len (List.nodup_append.mp v.nd).1 fun x hx => m x (List.mem_append_left _ hx)
        omega
      have O := off_lc2 (offS L A) U okM okU (by omega) (some (.val (tD L))) (some (.own (.list ((F ++ inn n L A pre).map pD)))) (some (.val (tD A))) (some (.val (tD (offS L A)))) (d5.map .val) none
      have TT := tails_lc A U (profs n (offS (offS L A) U)) (by omega) tl (some (.val (tD L))) (some (.own (.list ((F ++ inn n L A pre).map pD)))) (some (.val (tD (offS L A)))) (some (.val (tD (offS (offS L A) U))))
      have e1 : F ++ inn n L A (pre ++ [U]) = (F ++ inn n L A pre) ++ (profs n (offS (offS L A) U)).map fun t => (A, U) :: t := by
        rw [inn_app, ← List.append_assoc]
        congr 1
        simp [inn]
      have zz : ((F ++ inn n L A pre).map pD).length + (((profs n (offS (offS L A) U)).map fun t => (A, U) :: t).map pD).length ≤ sizeLine := by
        rw [he, show pre ++ U :: post = (pre ++ [U]) ++ post by simp, inn_app, ← List.append_assoc, e1] at hF
        simp only [List.length_append, List.length_map] at hF ⊢
        exact Nat.le_trans (by omega : _ ≤ 100000) (by decide)
      refine ⟨pfS L (F ++ inn n L A (pre ++ [U])) (some (tD A)) (some (tD (offS L A))) (some (tD U)) (some (tD (offS (offS L A) U))), ?_, _, _, rfl⟩
      rw [e1]
      generalize F ++ inn n L A pre = FF at *
      unfold pfS
      rw [List.map_append]
      have eM : tD (offS L A) = .tuple ((offS L A).map .str) := rfl
      have eR : tD (offS (offS L A) U) = .tuple ((offS (offS L A) U).map .str) := rfl
      rw [eR] at e TT ⊢
      rw [eM] at O TT ⊢
      generalize ((profs n (offS (offS L A) U)).map fun t => (A, U) :: t).map pD = NX at *
      generalize (profs n (offS (offS L A) U)).map pD = PS at *
      generalize FF.map pD = FS at *
      generalize (offS (offS L A) U).map PyData.str = RS at *
      generalize (offS L A).map PyData.str = MS at *
      generalize tD L = TL at *
      generalize tD A = TA at *
      generalize tD U = TU at *
      simp -implicitDefEqProofs [O, e, TT, zz, s4, s5])
  exact ⟨d4, d5, LL⟩
def out (n : Nat) (L : List Str) (as : List (List Str)) : List (List Blk) := [] :: as.flatMap fun A => [(A, [])] :: inn n L A (subs (offS L A))
theorem out_snoc (n : Nat) (L : List Str) (as : List (List Str)) (A : List Str) : out n L (as ++ [A]) = (out n L as ++ [[(A, [])]]) ++ inn n L A (subs (offS L A)) := by
  unfold out
  rw [List.flatMap_append]
  simp
theorem out_profs (n : Nat) (L : List Str) : out n L (subs L) = profs (n + 1) L := rfl
theorem out_le (n : Nat) (L : List Str) (x y : List (List Str)) : (out n L x).length ≤ (out n L (x ++ y)).length := by
  unfold out
  rw [List.flatMap_append, List.length_cons, List.length_cons, List.length_append]
  omega
theorem profiles_D : ∀ (n f : Nat), n < f → ∀ L : List Str, Asc L → (∀ x ∈ L, PyData.strOk x = true) → L.length ≤ 4 → L.length ≤ n → F_profiles_from f [tD L] = some ((.list ((profs n L).map pD), true), []) := by
  intro n
  induction n with
  | zero =>
    intro f hf L hL ok hl hn
    have : L = [] := List.length_eq_zero_iff.mp (by omega)
    subst this
    obtain ⟨f, rfl⟩ : ∃ g, f = g + 1 := ⟨f - 1, by omega⟩
    have sd := subsets_D [] (by decide)
    have e1 : (subs []).map tD = [] := rfl
    have e2 : tD [] = .tuple [] := rfl
    have e3 : (profs 0 []).map pD = [.tuple []] := rfl
    have z1 : (1 : Nat) ≤ sizeLine := by decide
    rw [e1, e2] at sd
    rw [e2, e3]
    show fnOf 8 [.v] (b_profiles_from (F_profiles_from f)) _ = _
    unfold b_profiles_from
    simp -implicitDefEqProofs [sd, z1]
  | succ n ih =>
    intro f hf L hL ok hl hn
    obtain ⟨f, rfl⟩ : ∃ g, f = g + 1 := ⟨f - 1, by omega⟩
    have sd := subsets_D L (by omega)
    have total := profs_few (n + 1) L hl
    obtain ⟨ρ', LL, d2, d3, d4, d5, rfl⟩ := for_pre (g := gN 2) (b := L2_profiles_from (F_profiles_from f)) (k := tD) (fun (pre : List (List Str)) ρ => ∃ d2 d3 d4 d5 : Option D, ρ = pfS L (out n L pre) d2 d3 d4 d5)
      (subs L) (pfS L (out n L []) none none none none) ⟨none, none, none, none, rfl⟩ (fun pre A post he ρ hρ => by
        obtain ⟨d2, d3, d4, d5, rfl⟩ := hρ
        have hA : A ∈ subs L := by rw [he]; simp
        have okA : ∀ x ∈ A, PyData.strOk x = true := fun x hx => ok x (sub_names hA x hx)
        have s2 : slotC (some (d2.map Cell.val)) = true := by cases d2 <;> rfl
        have s3 : slotC (some (d3.map Cell.val)) = true := by cases d3 <;> rfl
        have bound : (out n L (pre ++ [A])).length ≤ 60000 := by
          refine Nat.le_trans ?_ total
          rw [← out_profs, he, show pre ++ A :: post = (pre ++ [A]) ++ post by simp]
          exact out_le _ _ _ _
        rw [out_snoc] at bound
        have b1 : (out n L pre).length < sizeLine := by
          simp only [List.length_append, List.length_singleton] at bound
          exact Nat.lt_of_le_of_lt (by omega : _ ≤ 60000) (by decide)
        have O := off_lc1 L A ok okA (by omega) (some (.val (tD L))) (some (.own (.list ((out n L pre).map pD)))) (d3.map .val) (d4.map .val) (d5.map .val) none
        have lM : (offS L A).length ≤ 5 := Nat.le_trans (List.length_filter_le _ _) (by omega)
        have sd2 := subsets_D (offS L A) lM
        obtain ⟨e4, e5, I⟩ := pf_inner (n := n) hL ok hl hn hA (self_ := F_profiles_from f) (fun M hM hs hlen => ih f (by omega) M hM (fun x hx => ok x (hs x hx)) (by
          have h1 : M.length ≤ L.length := sub_len hM.nodup hs
          omega) hlen) (out n L pre ++ [[(A, [])]]) (Nat.le_trans bound (by omega)) d4 d5
        refine ⟨pfS L (out n L (pre ++ [A])) (some (tD A)) (some (tD (offS L A))) e4 e5, ?_, _, _, _, _, rfl⟩
        rw [out_snoc]
        have ep : (out n L pre ++ [[(A, [])]]).map pD = (out n L pre).map pD ++ [.tuple [tD A, .tuple []]] := by rw [List.map_append]; rfl
        have b2 : ((out n L pre).map pD).length < sizeLine := by rw [List.length_map]; exact b1
        generalize out n L pre ++ [[(A, [])]] ++ inn n L A (subs (offS L A)) = OUT at *
        unfold pfS at I ⊢
        rw [ep] at I
        have eM : tD (offS L A) = .tuple ((offS L A).map .str) := rfl
        have eL : tD L = .tuple (L.map .str) := rfl
        rw [eM, eL] at I
        rw [eM] at sd2
        rw [eL] at O
        rw [eM, eL]
        generalize OUT.map pD = OS at *
        generalize (subs (offS L A)).map tD = US at *
        generalize (out n L pre).map pD = FS at *
        generalize (offS L A).map PyData.str = MS at *
        generalize L.map PyData.str = LS at *
        generalize tD A = TA at *
        simp only [Option.map_some] at I ⊢
        simp -implicitDefEqProofs [O, sd2, I, b2, s2, s3])
    have z1 : (1 : Nat) ≤ sizeLine := by decide
    have e0 : (out n L []).map pD = [.tuple []] := rfl
    unfold pfS at LL
    rw [e0, out_profs] at LL
    simp only [Option.map_none] at LL
    generalize (profs (n + 1) L).map pD = OS at *
    generalize (subs L).map tD = SS at *
    generalize tD L = TL at *
    show fnOf 8 [.v] (b_profiles_from (F_profiles_from f)) _ = _
    unfold b_profiles_from
    simp -implicitDefEqProofs [sd, LL, z1]
end Pv.Pg
end
section
set_option Elab.async false
set_option linter.all false
set_option autoImplicit false
set_option maxRecDepth 100000
set_option maxHeartbeats 2000000
namespace Pv.K11
open PySem L2 PySem.W Pv Pv.Pg Pv.Lw Pv.Ev
theorem check_views (PS : List Pf) (h : PS.length ≤ 100) : F_check_profiles [.tuple (PS.map Pf.d)] = some ((.none, false), []) := by
  have h2 : PS.length ≤ 1000 := by omega
  have h3 : ¬ (150 : Int) < PS.length := by omega
  have h4 : ∀ p : Pf, F_is_profile [p.d] = some ((.bool true, false), []) := fun p => p.isprof
  have h5 : isiD "tuple" (.tuple (PS.map Pf.d)) = true := rfl
  unfold F_check_profiles b_check_profiles
  simp -implicitDefEqProofs [h2, h3, h4, h5, lc_q]
theorem check_locks_N {L : List Str} (l : LK L) (h4 : L.length ≤ 4) (N : List Str) (hm : ∀ x ∈ N, x ∈ L) (hN : N.length ≤ 1000) : F_check_locks [setT L, .int 4, .list (N.map .str)] = some ((.none, false), []) := by
  have LL := lcL_map (g := gN 3) (t := sYes) (el := sOp inF (sVar 3) (sVar 0)) (vs := [3]) (ρ := [some (.val (setT L)), some (.val (.int 4)), some (.val (.list (N.map .str))), none]) (h := fun _ => .bool true) (ds := N.map .str) (n := 0) (fun d hd => by
    obtain ⟨x, hx, rfl⟩ := List.mem_map.mp hd
    have i := inB_strs (l.ok x (hm x hx)) l.ok
    rw [decide_eq_true (hm x hx)] at i
    refine ⟨[some (.val (setT L)), some (.val (.int 4)), some (.val (.list (N.map .str))), some (.val (.str x))], .val (.bool true), by simp, by simp, ?_, by simp, by simp⟩
    unfold setT
    generalize L.map PyData.str = LS at *
    generalize N.map PyData.str = NS at *
    simp [i]) (by rw [List.length_map, Nat.zero_add]; exact Nat.le_trans hN (by decide))
  have e : (N.map PyData.str).map (fun _ => PyData.bool true) = N.map (fun _ => PyData.bool true) := by simp [Function.comp_def]
  rw [e] at LL
  have k := is_set_L l
  have h5 : ¬ (4 : Int) < ((L.map PyData.str).length : Nat) := by rw [List.length_map]; omega
  have ab := asBls_m (fun _ => true) N
  have al : (N.map fun _ => true).all id = true := by simp
  generalize (N.map fun _ => true) = TS at *
  generalize (N.map fun _ => PyData.bool true) = TD at *
  generalize N.map PyData.str = NS at *
  unfold setT at *
  generalize L.map PyData.str = LS at *
  unfold F_check_locks b_check_locks
  simp -implicitDefEqProofs [k, h5, LL, ab, al]
def namesG (G : List Pf) : List Str := G.flatMap fun p => (flatP p.1).flatten
theorem names_len (p : Pf) : (flatP p.1).flatten.length ≤ 8 := by
  rw [(flat_perm p.1).length_eq]
  exact p.2.few
theorem namesG_len (G : List Pf) (h : G.length ≤ 100) : (namesG G).length ≤ 800 := by
  have : ∀ G : List Pf, (namesG G).length ≤ G.length * 8 := by
    intro G
    induction G with
    | nil => exact Nat.le_refl _
    | cons p G ih =>
      unfold namesG at *
      rw [List.flatMap_cons, List.length_append, List.length_cons]
      have := names_len p
      omega
  have := this G
  omega
def itemsT : D → List D
  | .tuple ys => ys
  | _ => []
def innD : D → List D
  | .tuple xs => xs.flatMap itemsT
  | _ => []
theorem inn_d (p : Pf) : innD p.d = (flatP p.1).flatten.map PyData.str := by
  unfold Pf.d setsD innD
  simp only [List.flatMap_map, List.map_flatten]
  rw [List.flatMap]
  rfl
theorem names_lc (G : List Pf) (h : G.length ≤ 100) (c0 c1 c2 c3 c5 c7 : Option Cell) :
    lc2L (gN 4) sYes (iOf walkOf (sCall [.v] F_names_in (mV (sVar 4) mNil))) (gN 6) sYes (sVar 6) [4, 6] [6] (G.map Pf.d) 0 [c0, c1, c2, c3, none, c5, none, c7] =
      some ((namesG G).map .str, [c0, c1, c2, c3, none, c5, none, c7]) := by
  have e : (namesG G).map PyData.str = (G.map Pf.d).flatMap innD := by
    unfold namesG
    rw [List.map_flatMap, List.flatMap_map]
    simp only [inn_d]
  have ln := namesG_len G h
  rw [e]
  refine lc2L_map (inner := innD) (fun d hd => ?_) (by rw [← e, List.length_map, Nat.zero_add]; exact Nat.le_trans ln (by decide))
  obtain ⟨p, hp, rfl⟩ := List.mem_map.mp hd
  have nm : F_names_in [p.d] = some ((.list ((flatP p.1).flatten.map .str), true), []) := names_in_P p.2
  rw [inn_d]
  have nl := names_len p
  generalize (flatP p.1).flatten = N at *
  refine ⟨[c0, c1, c2, c3, some (.val p.d), c5, none, c7], N.map .str, [c0, c1, c2, c3, some (.val p.d), c5, none, c7], by simp, by simp, ?_, by simp, fun m hm => ?_, by simp⟩
  · generalize N.map PyData.str = PS at *
    simp -implicitDefEqProofs [nm]
  · exact lc_q (g := gN 6) (el := sVar 6) (vs := [6]) (ρ := [c0, c1, c2, c3, some (.val p.d), c5, none, c7]) (k := PyData.str) (h := PyData.str) (xs := N) (n := m) (fun x hx => by simp) (by rwa [List.length_map] at hm)
def noFit (G P : List Pf) : List Pf := P.filter fun p => !G.any fun g => fitB p g
theorem blockers_D (G : List Pf) (hG : G.length ≤ 10) {L : List Str} (l : LK L) (h4 : L.length ≤ 4) (hL : ∀ p ∈ G, ∀ x ∈ heldP p.1 ++ usedP p.1, x ∈ L) (P : List Pf) (hP : P.map Pf.d = (profs 4 L).map pD) (hz : P.length ≤ 900) :
    F_blockers [.tuple (G.map Pf.d), setT L] = some ((.tuple (sortD ((Pf.least (noFit G P)).map Pf.d)), false), []) := by
  have c1 := check_views G (by omega)
  have c2 := check_locks_N l h4 (namesG G) (fun x hx => by
    obtain ⟨p, hp, hx⟩ := List.mem_flatMap.mp hx
    exact hL p hp x ((flat_perm p.1).mem_iff.mp hx)) (by have := namesG_len G (by omega); omega)
  have pf := profiles_D 4 45 (by decide) L l.asc l.ok h4 h4
  rw [← hP] at pf
  have hz1 : P.length ≤ 1000 := by omega
  have hg1 : G.length ≤ 1000 := by omega
  have ln : (noFit G P).length ≤ 900 := Nat.le_trans (List.length_filter_le _ _) hz
  obtain ⟨b, lr⟩ := Pf.least_rows (noFit G P) ln
  have so := sorted_least (noFit G P) ln
  have ll : (Pf.least (noFit G P)).length ≤ 1000 := Nat.le_trans (Pf.lst_len _) (by omega)
  have C := fun c0 c1 c2 c3 c5 c7 => names_lc G (by omega) c0 c1 c2 c3 c5 c7
  have ro := Pf.rows_of
  have fl : ∀ c0 c1 c3 c4 c6, lcL (gN 5) (sNot (sTruth (sCB anyF (pCons (sLc (gN 7) sYes (sCall [.v, .v] F_do_fit (mV (sVar 5) (mV (sVar 7) mNil))) [7] (iOf walkOf (sVar 2))) pNil)))) (sVar 5) [5] (P.map Pf.r) 0 [c0, c1, some (.val (.list (G.map Pf.r))), c3, c4, none, c6, none] =
      some ((noFit G P).map Pf.r, [c0, c1, some (.val (.list (G.map Pf.r))), c3, c4, none, c6, none]) := fun c0 c1 c3 c4 c6 => by
    have := lc_p (g := gN 5) (t := sNot (sTruth (sCB anyF (pCons (sLc (gN 7) sYes (sCall [.v, .v] F_do_fit (mV (sVar 5) (mV (sVar 7) mNil))) [7] (iOf walkOf (sVar 2))) pNil)))) (el := sVar 5) (vs := [5]) (ρ := [c0, c1, some (.val (.list (G.map Pf.r))), c3, c4, none, c6, none]) (k := Pf.r)
      (o := fun p => if (!G.any fun g => fitB p g) = true then some p.r else none) (xs := P) (n := 0) (fun p hp => by
        generalize P.map Pf.r = PR at *
        by_cases hk : (G.any fun g => fitB p g) = true
        · simp -implicitDefEqProofs [lc_q, do_fit_D, hg1, hk]
        · simp only [Bool.not_eq_true] at hk
          simp -implicitDefEqProofs [lc_q, do_fit_D, hg1, hk]) (by rw [Nat.zero_add]; exact Nat.le_trans hz (by decide))
    rw [this]
    congr 2
    unfold noFit
    rw [← List.filterMap_eq_map, List.filterMap_filter]
    rfl
  have ma := Pf.made
  unfold F_blockers b_blockers
  unfold setT at c2 ⊢
  have ed : (setT L) = .tuple (L.map .str) := rfl
  have pf' : F_profiles_from 45 [.tuple (L.map .str)] = some ((.list (P.map Pf.d), true), []) := pf
  generalize (.tuple (L.map .str) : D) = LD at *
  generalize (namesG G).map PyData.str = NG at *
  generalize noFit G P = NF at *
  cases b <;> simp -implicitDefEqProofs [lc_q, c1, ↓C, c2, pf', ro, hz1, hg1, ↓fl, lr, ma, ll, so]
end Pv.K11
end
section
set_option Elab.async false
set_option linter.all false
set_option autoImplicit false
set_option maxRecDepth 100000
set_option maxHeartbeats 2000000
namespace Pv
open PySem
end Pv
end
section
set_option Elab.async false
set_option linter.all false
set_option autoImplicit false
set_option maxRecDepth 100000
set_option maxHeartbeats 2000000
namespace Pv.Pg
open PySem L2 Pv Pv.Lw Pv.Ev
def readSet : D → Option (List Str)
  | .tuple ds => asStrs ds
  | _ => none
theorem readSet_eq {d : D} {n : List Str} (h : readSet d = some n) : d = tupD n := by
  unfold readSet at h
  split at h
  · rw [asStrs_eq h]
  · cases h
def readAll : List D → Option (List (List Str))
  | [] => some []
  | d :: ds => (readSet d).bind fun n => (readAll ds).map fun r => n :: r
theorem readAll_eq : ∀ {ds : List D} {ns : List (List Str)}, readAll ds = some ns → ds = ns.map tupD
  | [], _, h => by cases h; rfl
  | d :: ds, ns, h => by
    simp only [readAll, Option.bind_eq_some_iff, Option.map_eq_some_iff] at h
    obtain ⟨n, e1, r, e2, rfl⟩ := h
    rw [readSet_eq e1, readAll_eq e2]
    rfl
def readSets : D → Option (List (List Str))
  | .tuple ds => readAll ds
  | _ => none
theorem readSets_eq {d : D} {ns : List (List Str)} (h : readSets d = some ns) : d = setsD ns := by
  unfold readSets at h
  split at h
  · rw [readAll_eq h]; rfl
  · cases h
def nmB (x : Str) : Bool := nameB x && (okVB (.str x) && decide ((PyData.str x).weight ≤ 8))
end Pv.Pg
end
section
set_option Elab.async false
set_option linter.all false
set_option autoImplicit false
set_option maxRecDepth 100000
set_option maxHeartbeats 4000000
namespace Pv.K11
open PySem L2 PySem.W Pv Pv.Pg Pv.Lw Pv.Ev
def eqN (a b : Str) : Bool := decide (a.cps.toList = b.cps.toList)
theorem eqN_iff {a b : Str} (h : eqN a b = true) : a = b := by
  obtain ⟨a⟩ := a
  obtain ⟨b⟩ := b
  have : a.toList = b.toList := of_decide_eq_true h
  exact congrArg Str.mk (Array.ext' this)
def eqLS : List Str → List Str → Bool
  | [], [] => true
  | a :: x, b :: y => eqN a b && eqLS x y
  | _, _ => false
theorem eqLS_iff : ∀ {x y : List Str}, eqLS x y = true → x = y
  | [], [], _ => rfl
  | [], _ :: _, h => by cases h
  | _ :: _, [], h => by cases h
  | a :: x, b :: y, h => by
    rw [eqLS, Bool.and_eq_true] at h
    rw [eqN_iff h.1, eqLS_iff h.2]
def eqLL : List (List Str) → List (List Str) → Bool
  | [], [] => true
  | a :: x, b :: y => eqLS a b && eqLL x y
  | _, _ => false
theorem eqLL_iff : ∀ {x y : List (List Str)}, eqLL x y = true → x = y
  | [], [], _ => rfl
  | [], _ :: _, h => by cases h
  | _ :: _, [], h => by cases h
  | a :: x, b :: y, h => by
    rw [eqLL, Bool.and_eq_true] at h
    rw [eqLS_iff h.1, eqLL_iff h.2]
def rdAll : List D → Option (List (List (List Str)))
  | [] => some []
  | d :: ds => (readSets d).bind fun x => (rdAll ds).map fun y => x :: y
def within (x y : List (List (List Str))) : Bool := x.all fun a => y.any fun b => eqLL a b
theorem within_iff {x y : List (List (List Str))} (h : within x y = true) : ∀ a ∈ x, a ∈ y := fun a ha => by
  obtain ⟨b, hb, e⟩ := List.any_eq_true.mp (List.all_eq_true.mp h a ha)
  rw [eqLL_iff e]
  exact hb
theorem rd_eq : ∀ {ds : List D} {T : List (List (List Str))}, rdAll ds = some T → ds = T.map setsD
  | [], T, h => by cases h; rfl
  | d :: ds, T, h => by
    unfold rdAll at h
    simp only [Option.bind_eq_some_iff, Option.map_eq_some_iff] at h
    obtain ⟨x, e1, y, e2, rfl⟩ := h
    rw [List.map_cons, ← rd_eq e2, ← readSets_eq e1]
def evB (d : D) (L : List Str) : Bool := match F__law_every [d] with
  | some ((.list es, true), []) => (match rdAll es with
    | some T => within T ((profs 4 L).map flatP) && within ((profs 4 L).map flatP) T && (decide ((profs 4 L).length ≤ 200) && decide (T.length ≤ 200))
    | none => false)
  | _ => false
def lkB (L : List Str) : Bool := risesB (L.map .str) && (L.all nmB && decide (L.length ≤ 4))
theorem lk_of {L : List Str} (h : lkB L = true) : LK L ∧ L.length ≤ 4 := by
  simp only [lkB, Bool.and_eq_true, decide_eq_true_eq, List.all_eq_true] at h
  exact ⟨⟨rises_iff.mp h.1, fun x hx => Nm.ofB (h.2.1 x hx), by omega⟩, h.2.2⟩
theorem pg_prof {L : List Str} (l : LK L) (h4 : L.length ≤ 4) {ps : List Blk} (h : ps ∈ profs 4 L) : PG ps := by
  obtain ⟨v, n⟩ := (mem_profs 4 L l.asc h4 ps).mp h
  exact ⟨v, fun x hx => l.nm x (n x hx), by have := sub_len v.nd n; omega⟩
theorem pf_all : ∀ xs : List (List Blk), (∀ x ∈ xs, PG x) → ∃ P : List Pf, P.map (·.1) = xs
  | [], _ => ⟨[], rfl⟩
  | x :: xs, h => by
    obtain ⟨P, e⟩ := pf_all xs fun y hy => h y (List.mem_cons_of_mem _ hy)
    exact ⟨⟨x, h x List.mem_cons_self⟩ :: P, by rw [List.map_cons, e]⟩
theorem pf_from {P : List Pf} : ∀ T : List (List (List Str)), (∀ a ∈ T, a ∈ P.map fun p => flatP p.1) → ∃ PS : List Pf, PS.map Pf.d = T.map setsD ∧ (∀ p ∈ PS, p ∈ P) ∧ PS.map (fun p => flatP p.1) = T
  | [], _ => ⟨[], rfl, fun _ h => (by cases h), rfl⟩
  | a :: T, h => by
    obtain ⟨PS, e1, e2, e3⟩ := pf_from T fun y hy => h y (List.mem_cons_of_mem _ hy)
    obtain ⟨p, hp, ep⟩ := List.mem_map.mp (h a List.mem_cons_self)
    refine ⟨p :: PS, by rw [List.map_cons, List.map_cons, e1, ← ep]; rfl, fun x hx => ?_, by rw [List.map_cons, e3, ep]⟩
    rcases List.mem_cons.mp hx with rfl | hx
    · exact hp
    · exact e2 x hx
structure Ev (L : List Str) (P PS : List Pf) : Prop where
  lk : LK L
  h4 : L.length ≤ 4
  pd : P.map Pf.d = (profs 4 L).map pD
  pz : P.length ≤ 200
  same : ∀ p, p ∈ PS ↔ p ∈ P
  sz : PS.length ≤ 200
  nms : ∀ p ∈ PS, ∀ x ∈ heldP p.1 ++ usedP p.1, x ∈ L
theorem every_D {d : D} {L : List Str} (h : evB d L = true) (hl : lkB L = true) : ∃ P PS : List Pf, F__law_every [d] = some ((.list (PS.map Pf.d), true), []) ∧ Ev L P PS := by
  obtain ⟨l, h4⟩ := lk_of hl
  unfold evB at h
  split at h
  case h_2 => cases h
  rename_i es e
  split at h
  case h_2 => cases h
  rename_i T eT
  simp only [Bool.and_eq_true, decide_eq_true_eq] at h
  obtain ⟨⟨w1, w2⟩, z1, z2⟩ := h
  obtain ⟨P, eP⟩ := pf_all (profs 4 L) fun x hx => pg_prof l h4 hx
  have eF : (profs 4 L).map flatP = P.map fun p => flatP p.1 := by rw [← eP, List.map_map]; rfl
  rw [eF] at w1 w2
  obtain ⟨PS, a1, a2, a3⟩ := pf_from T (within_iff w1)
  have nm : ∀ p ∈ P, ∀ x ∈ heldP p.1 ++ usedP p.1, x ∈ L := fun p hp => by
    have : p.1 ∈ profs 4 L := by rw [← eP]; exact List.mem_map_of_mem hp
    exact ((mem_profs 4 L l.asc h4 p.1).mp this).2
  refine ⟨P, PS, by rw [e, rd_eq eT, a1], l, h4, by rw [← eP, List.map_map]; rfl, by have := congrArg List.length eP; rw [List.length_map] at this; omega, fun p => ⟨a2 p, fun hp => ?_⟩, by have := congrArg List.length a3; rw [List.length_map] at this; omega, fun p hp => nm p (a2 p hp)⟩
  have := within_iff w2 _ (List.mem_map_of_mem hp)
  rw [← a3] at this
  obtain ⟨p', hp', e'⟩ := List.mem_map.mp this
  have : p' = p := Pf.ext_ (flat_inj e')
  rw [← this]
  exact hp'
def NAMES6 : List Str := ["a", "ab", "b", "here", "longlock", "z"]
def seg (a m : Nat) : List Str := (NAMES6.drop a ++ NAMES6.take a).take m
def lockL (a m : Nat) : List Str := sortS (seg a m)
def okL (a m : Nat) : Bool := lkB (lockL a m) && evB (setT (lockL a m)) (lockL a m)
theorem ok1 : ((List.range 6).all fun a => okL a 1) = true := by decide +kernel
theorem ok2 : ((List.range 6).all fun a => okL a 2) = true := by decide +kernel
theorem ok3 : ((List.range 6).all fun a => okL a 3) = true := by decide +kernel
theorem ok40 : okL 0 4 = true := by decide +kernel
theorem ok41 : okL 1 4 = true := by decide +kernel
theorem ok42 : okL 2 4 = true := by decide +kernel
theorem ok43 : okL 3 4 = true := by decide +kernel
theorem ok44 : okL 4 4 = true := by decide +kernel
theorem ok45 : okL 5 4 = true := by decide +kernel
theorem ok_all {a m : Nat} (ha : a < 6) (h1 : 1 ≤ m) (h4 : m ≤ 4) : okL a m = true := by
  have e : m = 1 ∨ m = 2 ∨ m = 3 ∨ m = 4 := by omega
  rcases e with rfl | rfl | rfl | rfl
  · exact List.all_eq_true.mp ok1 a (List.mem_range.mpr ha)
  · exact List.all_eq_true.mp ok2 a (List.mem_range.mpr ha)
  · exact List.all_eq_true.mp ok3 a (List.mem_range.mpr ha)
  · match a, ha with
    | 0, _ => exact ok40
    | 1, _ => exact ok41
    | 2, _ => exact ok42
    | 3, _ => exact ok43
    | 4, _ => exact ok44
    | 5, _ => exact ok45
theorem abcOk : (lkB ["a", "b", "c"] && evB (.list [.str "a", .str "b", .str "c"]) ["a", "b", "c"]) = true := by decide +kernel
theorem locks_ev {a m : Nat} (ha : a < 6) (h1 : 1 ≤ m) (h4 : m ≤ 4) : ∃ P PS : List Pf, F__law_every [setT (lockL a m)] = some ((.list (PS.map Pf.d), true), []) ∧ Ev (lockL a m) P PS := by
  have := ok_all ha h1 h4
  unfold okL at this
  rw [Bool.and_eq_true] at this
  exact every_D this.2 this.1
theorem abc_ev : ∃ P PS : List Pf, F__law_every [.list [.str "a", .str "b", .str "c"]] = some ((.list (PS.map Pf.d), true), []) ∧ Ev ["a", "b", "c"] P PS := by
  have := abcOk
  rw [Bool.and_eq_true] at this
  exact every_D this.2 this.1
end Pv.K11
end
section
set_option Elab.async false
set_option linter.all false
set_option autoImplicit false
set_option maxRecDepth 100000
set_option maxHeartbeats 4000000
namespace Pv.K11
open PySem L2 PySem.W Pv Pv.Pg Pv.Lw Pv.Ev
theorem eq_self {d : D} (l : d.canLay0 = true) (p : d.depth ≤ 64) : eqF d d = some (.bool true, false) := by
  have h : SeqAt.shaped d = true := by simp only [SeqAt.shaped, l, p, decide_true, Bool.and_self]
  rw [eqF_of h h, PySem.SeqAt.eqv_refl d l]
theorem pf_ok (p : Pf) : p.d.canLay0 = true ∧ p.d.depth ≤ 63 := ⟨p.2.okv.lay, Nat.le_trans (depth_pr _) (by decide)⟩
theorem eq_pfs {ds : List D} (h : ∀ d ∈ ds, ∃ p : Pf, d = p.d) : eqF (.tuple ds) (.tuple ds) = some (.bool true, false) := by
  refine eq_self ?_ ?_
  · simp only [PyData.canLay0]
    exact canLayAll_iff.mpr fun d hd => by obtain ⟨p, rfl⟩ := h d hd; exact (pf_ok p).1
  · simp only [PyData.depth]
    have := depthAll_iff.mpr fun d hd => by obtain ⟨p, rfl⟩ := h d hd; exact (pf_ok p).2
    exact Nat.succ_le_succ this
theorem pf_light {L : List Str} {p : Pf} (h4 : L.length ≤ 4) (h : ∀ x ∈ heldP p.1 ++ usedP p.1, x ∈ L) : p.d.weight ≤ 584 := by
  have hb : p.1.length ≤ 4 := by
    have h1 := VP.len p.2.vp
    have h2 := sub_len p.2.vp.held_nd fun x hx => h x (List.mem_append_left _ hx)
    omega
  unfold Pf.d setsD
  simp only [PyData.weight]
  refine Nat.le_trans (weightAll_le (k := 72) fun d hd => ?_) ?_
  · obtain ⟨n, hm, rfl⟩ := List.mem_map.mp hd
    obtain ⟨_, a, b⟩ := p.2.in hm
    exact (names_ok a b).2.2
  · rw [List.length_map, flatP_len]
    omega
theorem show_args {L : List Str} {P PS : List Pf} (E : Ev L P PS) (G : List Pf) (hG : G.length ≤ 4) (hs : ∀ p ∈ G, p ∈ PS) : ∃ S : Str, strF [.list [.tuple (G.map Pf.d), setT L]] = some (.str S, false) := by
  have t : OkV (.tuple (G.map Pf.d)) := OkV.mk_ (k := 584) (fun d hd => by
    obtain ⟨p, hp, rfl⟩ := List.mem_map.mp hd
    exact ⟨p.2.okv, (pf_ok p).2, pf_light E.h4 (E.nms p (hs p hp))⟩) (by rw [List.length_map]; omega)
  have td : (PyData.tuple (G.map Pf.d)).depth ≤ 3 := by
    simp only [PyData.depth]
    have := depthAll_iff.mpr fun d (hd : d ∈ G.map Pf.d) => by
      obtain ⟨p, hp, rfl⟩ := List.mem_map.mp hd
      exact (depth_pr (flatP p.1) : p.d.depth ≤ 2)
    omega
  have sd : (setT L).depth ≤ 1 := depth_tup L
  have s := E.lk.okv
  generalize PyData.tuple (G.map Pf.d) = T at *
  generalize setT L = U at *
  have lay : (PyData.list [T, U]).canLay0 = true := by
    simp only [PyData.canLay0]
    exact canLayAll_iff.mpr fun d hd => by
      rcases List.mem_cons.mp hd with rfl | hd
      · exact t.lay
      · rw [List.mem_singleton.mp hd]; exact s.lay
  have dep : (PyData.list [T, U]).depth ≤ 64 := by
    simp only [PyData.depth, PyData.depthAll]
    omega
  have wt : (PyData.list [T, U]).weight ≤ 2 ^ 20 := by
    have h1 := t.wt
    have h2 := s.wt
    simp only [PyData.weight, PyData.weightAll]
    omega
  have ish : (PyData.list [T, U]).intsShort 13 = true := by simp [PyData.intsShort, PyData.intsShortAll, t.ish, s.ish]
  have shw : (PyData.list [T, U]).showable = true := by simp [PyData.showable, PyData.showableAll, t.shw, s.shw]
  have pl : plain (PyData.list [T, U]) = true := by simp [plain, plainA, t.pl, s.pl]
  have e : (PyData.list [T, U]).shown.length ≤ 15728653 := PyProof.Rows.shown_le13 (by simp only [PyData.layable0, lay, dep, wt, decide_true, Bool.true_and]) ish
  have e2 : (PyData.list [T, U]).shown.length ≤ sizeLine := Nat.le_trans e (by decide)
  have ok : showOk (.list [T, U]) = true := by simp only [showOk, pl, shw, e2, dep, decide_true, Bool.true_or, Bool.and_self]
  exact ⟨strVal (.list [T, U]), by simp only [strF, if_pos ok]⟩
theorem least_same {A B : List Pf} (h : ∀ p, p ∈ A ↔ p ∈ B) : sortD ((Pf.least A).map Pf.d) = sortD ((Pf.least B).map Pf.d) := by
  have pm : (Pf.least A).Perm (Pf.least B) := by
    refine (List.perm_ext_iff_of_nodup Pf.nd_lst Pf.nd_lst).mpr fun x => ?_
    rw [Pf.mem_lst, Pf.mem_lst, h x]
    exact and_congr_right fun _ => ⟨fun g y hy => g y ((h y).mpr hy), fun g y hy => g y ((h y).mp hy)⟩
  have ed : ∀ c : List Pf, c.map Pf.d = (c.map (·.1)).map Pg.prD := fun c => by rw [List.map_map]; rfl
  refine sortD_one (pm.map Pf.d) ?_ ?_
  · rw [ed]; exact al_pr _
  · rw [ed]; exact keyed_pr _
theorem least_pfs (c : List Pf) : ∀ d ∈ sortD ((Pf.least c).map Pf.d), ∃ p : Pf, d = p.d := fun d hd => by
  obtain ⟨p, _, rfl⟩ := List.mem_map.mp ((sortD_perm _).mem_iff.mp hd)
  exact ⟨p, rfl⟩
theorem noFit_mem (G A : List Pf) {p : Pf} : p ∈ noFit G A ↔ p ∈ A ∧ (G.any fun g => fitB p g) = false := by
  unfold noFit
  rw [List.mem_filter, Bool.not_eq_true']
theorem good_D {L : List Str} {P PS : List Pf} (E : Ev L P PS) (G : List Pf) (hG : G.length ≤ 4) (hs : ∀ p ∈ G, p ∈ PS) :
    F__law_good [.tuple (G.map Pf.d), setT L, .list (PS.map Pf.d)] = some ((.bool true, false), []) := by
  obtain ⟨S, st⟩ := show_args E G hG hs
  have bl := blockers_D G (by omega) E.lk E.h4 (fun p hp => E.nms p (hs p hp)) P E.pd (by have := E.pz; omega)
  have z1 : PS.length ≤ 1000 := by have := E.sz; omega
  have z2 : G.length ≤ 1000 := by omega
  have r1 := qr
  have ln : (noFit G PS).length ≤ 900 := Nat.le_trans (List.length_filter_le _ _) (by have := E.sz; omega)
  have le := law_least_D (noFit G PS) ln
  have sm : sortD ((Pf.least (noFit G PS)).map Pf.d) = sortD ((Pf.least (noFit G P)).map Pf.d) := least_same fun p => by rw [noFit_mem, noFit_mem, E.same p]
  rw [sm] at le
  have eq := eq_pfs (least_pfs (noFit G P))
  have eS : eqF (.str S) (.str S) = some (.bool true, false) := by simp
  have fl : ∀ c0 c1 c2 c3 c4 c6, lcL (gT 2 (gsCons (gN 7) (gsCons (gN 8) gsNil))) (sNot (sTruth (sCB anyF (pCons (sLc (gN 9) sYes (sCall [.v, .v] F__law_fit (mV (sVar 8) (mV (sVar 9) mNil))) [9] (iOf walkOf (sVar 5))) pNil)))) (sTup (sCons (sVar 7) (sCons (sVar 8) sNil))) [7, 8] (PS.map pr) 0
      [c0, c1, c2, c3, c4, some (.val (.list (G.map q))), c6, none, none, none] = some ((noFit G PS).map pr, [c0, c1, c2, c3, c4, some (.val (.list (G.map q))), c6, none, none, none]) := fun c0 c1 c2 c3 c4 c6 => by
    have := lc_p (g := gT 2 (gsCons (gN 7) (gsCons (gN 8) gsNil))) (t := sNot (sTruth (sCB anyF (pCons (sLc (gN 9) sYes (sCall [.v, .v] F__law_fit (mV (sVar 8) (mV (sVar 9) mNil))) [9] (iOf walkOf (sVar 5))) pNil)))) (el := sTup (sCons (sVar 7) (sCons (sVar 8) sNil))) (vs := [7, 8])
      (ρ := [c0, c1, c2, c3, c4, some (.val (.list (G.map q))), c6, none, none, none]) (k := pr) (o := fun p => if (!G.any fun g => fitB p g) = true then some (pr p) else none) (xs := PS) (n := 0) (fun p hp => by
        by_cases hk : (G.any fun g => fitB p g) = true
        · simp -implicitDefEqProofs [lc_q, law_fit_D, z2, hk]
        · simp only [Bool.not_eq_true] at hk
          simp -implicitDefEqProofs [lc_q, law_fit_D, z2, hk]) (by rw [Nat.zero_add]; exact Nat.le_trans E.sz (by decide))
    rw [this]
    congr 2
    unfold noFit
    rw [← List.filterMap_eq_map, List.filterMap_filter]
    rfl
  have rw_ : ∀ c0 c1 c2 c3 c4 c5 c6 c8 c9, lcL (gN 7) sYes (sTup (sCons (sVar 7) (sCons (sCall [.v] F__law_rows (mV (sVar 7) mNil)) sNil))) [7] (PS.map Pf.d) 0 [c0, c1, c2, c3, c4, c5, c6, none, c8, c9] = some (PS.map pr, [c0, c1, c2, c3, c4, c5, c6, none, c8, c9]) := fun c0 c1 c2 c3 c4 c5 c6 c8 c9 =>
    lc_q (fun p hp => by simp -implicitDefEqProofs [r1]) (by rw [Nat.zero_add]; exact Nat.le_trans E.sz (by decide))
  have w : walkOf (.tuple (G.map Pf.d)) = some (G.map Pf.d) := rfl
  unfold F__law_good b__law_good
  generalize noFit G PS = N1 at *
  generalize noFit G P = N2 at *
  generalize sortD ((Pf.least N2).map Pf.d) = R at *
  generalize PyData.tuple (G.map Pf.d) = T at *
  generalize setT L = U at *
  simp -implicitDefEqProofs [lc_q, st, ↓rw_, r1, z1, z2, ↓fl, bl, le, eq, eS, w]
end Pv.K11
end
section
set_option Elab.async false
set_option linter.all false
set_option autoImplicit false
set_option maxRecDepth 100000
set_option maxHeartbeats 4000000
namespace Pv.K11
open PySem L2 PySem.W Pv Pv.Pg Pv.Lw Pv.Ev
theorem cut_from (ds : List D) (n : Nat) (h : n ≤ ds.length) : cutD ds (some (n : Int)) none = ds.drop n := by
  unfold cutD
  rw [HT.sIx_nat, Nat.min_eq_left h]
  refine List.take_of_length_le ?_
  rw [List.length_drop]
  exact Nat.le_refl _
theorem some_D (x : Int) (m : Nat) (hm : m ≤ 4) : ∃ a : Nat, a < 6 ∧ F__law_some [.list [.int x], .list (NAMES6.map .str), .int (m : Nat)] = some ((.list ((seg a m).map .str), true), [.list [.int (x / 6)]]) := by
  have tk := take_D x 6 (by decide) (by decide)
  have r0 := Int.emod_nonneg x (show (6 : Int) ≠ 0 by decide)
  have r1 := Int.emod_lt_of_pos x (show (0 : Int) < 6 by decide)
  obtain ⟨j, hj⟩ : ∃ j : Nat, x % 6 = (j : Int) := ⟨_, (Int.toNat_of_nonneg r0).symm⟩
  rw [hj] at tk r1
  have ln : (NAMES6.map PyData.str).length = 6 := rfl
  have c1 := cut_from (NAMES6.map .str) j (by rw [ln]; omega)
  have c2 := cutD_take (NAMES6.map .str) j
  have c3 := cutD_take ((NAMES6.map PyData.str).drop j ++ (NAMES6.map PyData.str).take j) m
  rw [← List.map_drop, ← List.map_take, ← List.map_append, ← List.map_take] at c3
  rw [← List.map_drop] at c1
  rw [← List.map_take] at c2
  have sz : (NAMES6.drop j).length + (NAMES6.take j).length ≤ sizeLine := by
    rw [List.length_drop, List.length_take]
    have : NAMES6.length = 6 := rfl
    exact Nat.le_trans (by omega : _ ≤ 1000) (by decide)
  refine ⟨j, by omega, ?_⟩
  have lF : lenF [.list (NAMES6.map .str)] = some (.int 6, false) := rfl
  unfold F__law_some b__law_some
  unfold seg
  rw [List.map_append] at c3
  have sz2 : ((NAMES6.drop j).map PyData.str).length + ((NAMES6.take j).map PyData.str).length ≤ sizeLine := by rw [List.length_map, List.length_map]; exact sz
  generalize ((NAMES6.drop j ++ NAMES6.take j).take m).map PyData.str = R at *
  generalize (NAMES6.drop j).map PyData.str = A at *
  generalize (NAMES6.take j).map PyData.str = B at *
  generalize NAMES6.map PyData.str = N at *
  simp -implicitDefEqProofs [↓lF, ↓tk, c1, c2, c3, sz2]
theorem one_D (x : Int) (PS : List Pf) (h : PS ≠ []) (hz : PS.length ≤ 200) : ∃ p ∈ PS, F__law_one_of [.list [.int x], .list (PS.map Pf.d)] = some ((p.d, false), [.list [.int (x / (PS.length : Nat))]]) := by
  have pos : 0 < PS.length := List.length_pos_iff.mpr h
  have tk := take_D x (PS.length : Nat) (by omega) (by omega)
  have r0 := Int.emod_nonneg x (show ((PS.length : Nat) : Int) ≠ 0 by omega)
  have r1 := Int.emod_lt_of_pos x (show (0 : Int) < (PS.length : Nat) by omega)
  obtain ⟨j, hj⟩ : ∃ j : Nat, x % (PS.length : Nat) = (j : Int) := ⟨_, (Int.toNat_of_nonneg r0).symm⟩
  rw [hj] at tk r1
  have hjl : j < PS.length := by omega
  have ln : lenF [.list (PS.map Pf.d)] = some (.int (PS.length : Nat), false) := by simp
  have ix : ixG (.list (PS.map Pf.d)) (.int (j : Nat)) = some (PS[j].d, false) := by
    have : (PS.map Pf.d)[j]? = some PS[j].d := by rw [List.getElem?_map, List.getElem?_eq_getElem hjl]; rfl
    show (atI _ _).map _ = _
    rw [atI_nat this rfl]
    rfl
  refine ⟨PS[j], List.getElem_mem hjl, ?_⟩
  unfold F__law_one_of b__law_one_of
  generalize PS[j].d = PD at *
  generalize PS.map Pf.d = N at *
  simp -implicitDefEqProofs [↓ln, ↓tk, ix]
theorem pick_back {G : List Pf} : ∀ ds : List D, (∀ d ∈ ds, d ∈ G.map Pf.d) → ∃ G' : List Pf, G'.map Pf.d = ds ∧ ∀ p ∈ G', p ∈ G
  | [], _ => ⟨[], rfl, fun _ h => (by cases h)⟩
  | d :: ds, h => by
    obtain ⟨G', e1, e2⟩ := pick_back ds fun y hy => h y (List.mem_cons_of_mem _ hy)
    obtain ⟨p, hp, rfl⟩ := List.mem_map.mp (h d List.mem_cons_self)
    refine ⟨p :: G', by rw [List.map_cons, e1], fun x hx => ?_⟩
    rcases List.mem_cons.mp hx with rfl | hx
    · exact hp
    · exact e2 x hx
theorem uniq_D (G : List Pf) : ∃ G' : List Pf, G'.map Pf.d = uniqD (G.map Pf.d) ∧ (∀ p ∈ G', p ∈ G) ∧ G'.length ≤ G.length := by
  have kd : keyed (G.map Pf.d) = true := by
    have := keyed_pr (G.map (·.1))
    rw [List.map_map] at this
    exact this
  obtain ⟨G', e1, e2⟩ := pick_back (G := G) (uniqD (G.map Pf.d)) fun d hd => (mem_dedupD kd).mp ((sortD_perm _).mem_iff.mp hd)
  refine ⟨G', e1, e2, ?_⟩
  have h1 := congrArg List.length e1
  have h2 : (uniqD (G.map Pf.d)).length = (dedupD (G.map Pf.d)).length := (sortD_perm _).length_eq
  have h3 := dedup_len (G.map Pf.d)
  rw [List.length_map] at h1 h3
  omega
theorem set_ok (G : List Pf) (h : G.length ≤ 4) : setOk (G.map Pf.d) = true := by
  have := setOk_pr (G.map (·.1)) (by rw [List.length_map]; omega)
  rw [List.map_map] at this
  exact this
end Pv.K11
end
section
set_option Elab.async false
set_option linter.all false
set_option autoImplicit false
set_option maxRecDepth 100000
set_option maxHeartbeats 4000000
namespace Pv.K11
open PySem L2 PySem.W Pv Pv.Pg Pv.Lw Pv.Ev
theorem sSortSetD_u (f : SemE) (ρ : Ro) : sSortSetD f ρ = bd (f ρ) fun x => bd (look x.2 (settle x.1)) fun d => bd (itemsD d) fun ds => if setOk ds = true then some (.fr (.list (uniqD ds)), x.2) else none := rfl
theorem turn_one {L : List Str} {P PS : List Pf} (E : Ev L P PS) (ne : PS ≠ []) (x : Int) (c5c : Cell) (h5 : c5c = .own (.list (PS.map Pf.d)) ∨ c5c = .val (.list (PS.map Pf.d))) (c7 : Option D) (c0 c1 c3 c6 c8 c10 : Option Cell) :
    ∃ (x' : Int) (c7' : Option D), L1_law [c0, c1, some (.own (.list [.int x])), c3, some (.val (setT L)), some c5c, c6, c7.map .own, c8, none, c10] =
      some (.nx [c0, c1, some (.own (.list [.int x'])), c3, some (.val (setT L)), some (.val (.list (PS.map Pf.d))), c6, c7'.map .own, c8, none, c10]) := by
  have tk := take_D x 5 (by decide) (by decide)
  have r0 := Int.emod_nonneg x (show (5 : Int) ≠ 0 by decide)
  have r1 := Int.emod_lt_of_pos x (show (0 : Int) < 5 by decide)
  obtain ⟨j, hj⟩ : ∃ j : Nat, x % 5 = (j : Int) := ⟨_, (Int.toNat_of_nonneg r0).symm⟩
  rw [hj] at tk r1
  have hj5 : j < 5 := by omega
  have sm : small62 (j : Int) = true := by simp [small62]; omega
  have tn : ((j : Nat) : Int).toNat = j := Int.toNat_natCast j
  have DR := lc_draw (g := gN 9) (el := sCall [.r, .v] F__law_one_of (mR (sVar 2) (mV (sVar 5) mNil))) (vs := [9]) (k := fun i : Nat => PyData.int (0 + (i : Int))) (f := Pf.d)
    (fun ρ => ∃ y : Int, ρ = [c0, c1, some (.own (.list [.int y])), c3, some (.val (setT L)), some (.val (.list (PS.map Pf.d))), c6, c7.map .own, c8, none, c10]) (fun p => p ∈ PS) (List.range j) 0
    [c0, c1, some (.own (.list [.int (x / 5)])), c3, some (.val (setT L)), some (.val (.list (PS.map Pf.d))), c6, c7.map .own, c8, none, c10] ⟨_, rfl⟩ (by rw [List.length_range, Nat.zero_add]; exact Nat.le_trans (Nat.le_of_lt hj5) (by decide)) (fun i hi ρ hρ => by
      obtain ⟨y, rfl⟩ := hρ
      obtain ⟨p, hp, one⟩ := one_D y PS ne E.sz
      refine ⟨[c0, c1, some (.own (.list [.int (y / (PS.length : Nat))])), c3, some (.val (setT L)), some (.val (.list (PS.map Pf.d))), c6, c7.map .own, c8, none, c10], p, ?_, ⟨_, rfl⟩, hp⟩
      generalize PS.map Pf.d = N at *
      generalize setT L = U at *
      simp -implicitDefEqProofs [↓one])
  obtain ⟨ρ', G, LC, ⟨y, rfl⟩, len, mem⟩ := DR
  rw [List.length_range] at len
  obtain ⟨G', u1, u2, u3⟩ := uniq_D G
  have g1 := good_D E G (by omega) mem
  have g2 := good_D E G' (by omega) fun p hp => mem p (u2 p hp)
  have so := set_ok G (by omega)
  rw [u1] at g2
  have rg : rng 0 j = (List.range j).map fun i : Nat => PyData.int (0 + (i : Int)) := rfl
  rw [← rg] at LC
  refine ⟨y, some (.list (G.map Pf.d)), ?_⟩
  generalize PS.map Pf.d = N at *
  generalize setT L = U at *
  have e2 : uniqD (G.map Pf.d) = uniqD (G.map Pf.d) := rfl
  generalize G.map Pf.d = GD at *
  have it : itemsD (.list GD) = some GD := rfl
  rcases h5 with rfl | rfl
  · cases c7 <;> (simp only [Option.map_none, Option.map_some] at LC ⊢; simp -implicitDefEqProofs [↓tk, sm, tn, ↓LC, g1, so, g2, sSortSetD_u, it])
  · cases c7 <;> (simp only [Option.map_none, Option.map_some] at LC ⊢; simp -implicitDefEqProofs [↓tk, sm, tn, ↓LC, g1, so, g2, sSortSetD_u, it])
end Pv.K11
end
section
set_option Elab.async false
set_option linter.all false
set_option autoImplicit false
set_option maxRecDepth 100000
set_option maxHeartbeats 4000000
namespace Pv.K11
open PySem L2 PySem.W Pv Pv.Pg Pv.Lw Pv.Ev
theorem Ev.ne {L : List Str} {P PS : List Pf} (E : Ev L P PS) : PS ≠ [] := by
  intro e
  have h := E.pd
  cases hP : P with
  | nil => rw [hP] at h; cases h
  | cons p P' =>
    have : p ∈ PS := (E.same p).mpr (by rw [hP]; exact List.mem_cons_self)
    rw [e] at this
    cases this
def fr11 (NS : List D) (k c2 c3 c4 c5 c6 c7 : Option D) : Ro := [some (.scr NS), k.map .val, c2.map .own, c3.map .val, c4.map .val, c5.map .val, c6.map .val, c7.map .own, none, none, none]
theorem out_step (ns : List Int) (k : Nat) (hk : k < 1000) (c2 c3 c4 c5 c6 c7 : Option D) :
    ∃ d2 d3 d4 d5 d6 d7 : Option D, L2_law (fr11 (ns.map .int) (some (.int k)) c2 c3 c4 c5 c6 c7) = some (.nx (fr11 (ns.map .int) (some (.int k)) d2 d3 d4 d5 d6 d7)) := by
  obtain ⟨x, hx⟩ := cell_D ns k hk
  have tk := take_D x 4 (by decide) (by decide)
  have r0 := Int.emod_nonneg x (show (4 : Int) ≠ 0 by decide)
  have r1 := Int.emod_lt_of_pos x (show (0 : Int) < 4 by decide)
  obtain ⟨j, hj⟩ : ∃ j : Nat, x % 4 = (j : Int) := ⟨_, (Int.toNat_of_nonneg r0).symm⟩
  rw [hj] at tk r1
  obtain ⟨a, ha, so⟩ := some_D (x / 4) (j + 1) (by omega)
  have e1 : (1 : Int) + (j : Nat) = ((j + 1 : Nat) : Int) := by omega
  have e0 : NAMES6.map PyData.str = [.str "a", .str "ab", .str "b", .str "here", .str "longlock", .str "z"] := rfl
  rw [e0] at so
  have sl : (seg a (j + 1)).length ≤ sizeLine := by
    unfold seg
    rw [List.length_take]
    exact Nat.le_trans (Nat.min_le_left _ _) (Nat.le_trans (by omega : _ ≤ 4) (by decide))
  have st := sorted_strs_l (seg a (j + 1)) sl
  obtain ⟨P, PS, ev, E⟩ := locks_ev ha (show 1 ≤ j + 1 by omega) (show j + 1 ≤ 4 by omega)
  have tp : tupleF2 [.list ((sortS (seg a (j + 1))).map .str)] = some (setT (lockL a (j + 1)), false) := by
    unfold lockL setT
    simp
  obtain ⟨ρ', LL, c6', c7', y, c5c, h5, rfl⟩ := forL_inv (g := gN 6) (b := L1_law) (fun i ρ => ∃ (c6 c7 : Option D) (y : Int) (c5c : Cell), ((c5c = .own (.list (PS.map Pf.d)) ∨ c5c = .val (.list (PS.map Pf.d))) ∧ (0 < i → c5c = .val (.list (PS.map Pf.d)))) ∧ ρ = [some (.scr (ns.map .int)), some (.val (.int k)), some (.own (.list [.int y])), some (.val (.int ((j + 1 : Nat) : Int))), some (.val (setT (lockL a (j + 1)))), some c5c, c6.map .val, c7.map .own, none, none, none])
    (rng 0 4) 0 [some (.scr (ns.map .int)), some (.val (.int k)), some (.own (.list [.int (x / 4 / 6)])), some (.val (.int ((j + 1 : Nat) : Int))), some (.val (setT (lockL a (j + 1)))), some (.own (.list (PS.map Pf.d))), c6.map .val, c7.map .own, none, none, none] ⟨c6, c7, _, _, ⟨.inl rfl, fun h => absurd h (by decide)⟩, rfl⟩ (fun i d ρ hd hI => by
      obtain ⟨c6, c7, y, c5c, ⟨h5, _⟩, rfl⟩ := hI
      obtain ⟨x', c7', t⟩ := turn_one E E.ne y c5c h5 c7 (some (.scr (ns.map .int))) (some (.val (.int k))) (some (.val (.int ((j + 1 : Nat) : Int)))) (some (.val d)) none none
      exact ⟨_, _, by cases c6 <;> simp, t, some d, c7', x', _, ⟨.inr rfl, fun _ => rfl⟩, rfl⟩)
  have h5' : c5c = .val (.list (PS.map Pf.d)) := h5.2 (by decide)
  subst h5'
  refine ⟨some (.list [.int y]), some (.int ((j + 1 : Nat) : Int)), some (setT (lockL a (j + 1))), some (.list (PS.map Pf.d)), c6', c7', ?_⟩
  have s4 : small62 4 = true := by decide +kernel
  unfold fr11
  rw [← e1] at so LL ⊢
  generalize setT (lockL a (j + 1)) = LD at *
  generalize (sortS (seg a (j + 1))).map PyData.str = SD at *
  generalize (seg a (j + 1)).map PyData.str = SG at *
  generalize PS.map Pf.d = N at *
  generalize ns.map PyData.int = NS at *
  simp only [Option.map_some]
  cases c2 <;> cases c3 <;> cases c4 <;> cases c5 <;> simp -implicitDefEqProofs [hx, ↓tk, ↓so, st, tp, ev, s4, ↓LL]
end Pv.K11
end
section
set_option Elab.async false
set_option linter.all false
set_option autoImplicit false
set_option maxRecDepth 100000
set_option maxHeartbeats 4000000
namespace Pv.K11
open PySem L2 PySem.W Pv Pv.Pg Pv.Lw Pv.Ev
def eqT : List (List (List Str)) → List (List (List Str)) → Bool
  | [], [] => true
  | a :: x, b :: y => eqLL a b && eqT x y
  | _, _ => false
theorem eqT_iff : ∀ {x y : List (List (List Str))}, eqT x y = true → x = y
  | [], [], _ => rfl
  | [], _ :: _, h => by cases h
  | _ :: _, [], h => by cases h
  | a :: x, b :: y, h => by
    rw [eqT, Bool.and_eq_true] at h
    rw [eqLL_iff h.1, eqT_iff h.2]
def blB (a : List D) (T : List (List (List Str))) : Bool := match F_blockers a with
  | some ((.tuple ds, false), []) => (match rdAll ds with
    | some T' => eqT T' T
    | none => false)
  | _ => false
theorem bl_of {a : List D} {T : List (List (List Str))} (h : blB a T = true) : F_blockers a = some ((.tuple (T.map setsD), false), []) := by
  unfold blB at h
  split at h
  case h_2 => cases h
  rename_i ds e
  split at h
  case h_2 => cases h
  rename_i T' eT
  rw [e, rd_eq eT, eqT_iff h]
theorem ne_self {d : D} (l : d.canLay0 = true) (p : d.depth ≤ 64) : neF d d = some (.bool false, false) := by
  have h : SeqAt.shaped d = true := by simp only [SeqAt.shaped, l, p, decide_true, Bool.and_self]
  rw [neF_of h h, PySem.SeqAt.eqv_refl d l]
  rfl
abbrev S0 : D := .tuple []
abbrev Sa : D := .tuple [.str "a"]
abbrev Sab : D := .tuple [.str "a", .str "b"]
abbrev Pa : D := .tuple [.tuple [.str "a"], .tuple []]
abbrev Pb : D := .tuple [.tuple [.str "b"], .tuple []]
abbrev Pab : D := .tuple [.tuple [.str "a", .str "b"], .tuple []]
theorem b1 : F_blockers [S0, Sa] = some ((.tuple [S0], false), []) := bl_of (T := [[]]) (by decide +kernel)
theorem b2 : F_blockers [.tuple [S0], Sab] = some ((S0, false), []) := bl_of (T := []) (by decide +kernel)
theorem b3 : F_blockers [S0, S0] = some ((.tuple [S0], false), []) := bl_of (T := [[]]) (by decide +kernel)
theorem b4 : F_blockers [.tuple [S0], S0] = some ((S0, false), []) := bl_of (T := []) (by decide +kernel)
theorem b5 : F_blockers [.tuple [S0, S0], S0] = some ((S0, false), []) := bl_of (T := []) (by decide +kernel)
theorem b6 : F_blockers [.tuple [Pa, Pb], Sab] = some ((.tuple [Pab], false), []) := bl_of (T := [[["a", "b"], []]]) (by decide +kernel)
theorem b7 : F_blockers [.tuple [Pab], Sab] = some ((.tuple [Pa, Pb], false), []) := bl_of (T := [[["a"], []], [["b"], []]]) (by decide +kernel)
theorem b8 : F_blockers [.tuple [Pa], Sa] = some ((.tuple [Pa], false), []) := bl_of (T := [[["a"], []]]) (by decide +kernel)
theorem b9 : F_blockers [S0, Sab] = some ((.tuple [S0], false), []) := bl_of (T := [[]]) (by decide +kernel)
theorem n0 : neF S0 S0 = some (.bool false, false) := ne_self (by decide +kernel) (by decide +kernel)
theorem n1 : neF (.tuple [S0]) (.tuple [S0]) = some (.bool false, false) := ne_self (by decide +kernel) (by decide +kernel)
theorem n2 : neF (.tuple [Pab]) (.tuple [Pab]) = some (.bool false, false) := ne_self (by decide +kernel) (by decide +kernel)
theorem n3 : neF (.tuple [Pa, Pb]) (.tuple [Pa, Pb]) = some (.bool false, false) := ne_self (by decide +kernel) (by decide +kernel)
theorem q1 : eqF (.tuple [Pa]) (.tuple [Pa]) = some (.bool true, false) := eq_self (by decide +kernel) (by decide +kernel)
theorem q2 : eqF (.tuple [S0]) (.tuple [S0]) = some (.bool true, false) := eq_self (by decide +kernel) (by decide +kernel)
theorem turns (ns : List Int) : ∃ N : Nat, (if (1 : Int) > (if (5 : Int) < ns.length then 5 else (ns.length : Int)) then 1 else (if (5 : Int) < ns.length then 5 else (ns.length : Int))) = N ∧ N ≤ 5 := by
  by_cases h1 : (5 : Int) < ns.length
  · exact ⟨5, by simp [h1], by omega⟩
  · by_cases h2 : (1 : Int) > ns.length
    · exact ⟨1, by simp [h1, h2], by omega⟩
    · exact ⟨ns.length, by simp only [h1, if_false, h2], by omega⟩
theorem plain_law : ∀ ns : List Int, ns.length ≤ 63 → (∀ z ∈ ns, Builtin.Int.intBits z ≤ 1048576) → F_law [.list (ns.map PyData.int)] = some ((.bool true, false), []) := by
  intro ns hns _
  obtain ⟨N, eN, hN⟩ := turns ns
  have sN : small62 (N : Int) = true := by simp [small62]; omega
  obtain ⟨ρ', L, c1, c2, c3, c4, c5, c6, c7, rfl⟩ := forL_inv (g := gN 1) (b := L2_law) (fun _ ρ => ∃ c1 c2 c3 c4 c5 c6 c7 : Option D, ρ = fr11 (ns.map .int) c1 c2 c3 c4 c5 c6 c7)
    (rng 0 N) 0 (fr11 (ns.map .int) none none none none none none none) ⟨none, none, none, none, none, none, none, rfl⟩ (fun j d ρ hd hI => by
      simp only [rng, List.getElem?_map, Option.map_eq_some_iff] at hd
      obtain ⟨j', hj', rfl⟩ := hd
      obtain ⟨c1, c2, c3, c4, c5, c6, c7, rfl⟩ := hI
      have hj2 : j' < N := by
        obtain ⟨h1, h2⟩ := List.getElem?_eq_some_iff.mp hj'
        simp only [List.length_range] at h1
        simp only [List.getElem_range] at h2
        omega
      obtain ⟨e2, e3, e4, e5, e6, e7, st⟩ := out_step ns j' (by omega) c2 c3 c4 c5 c6 c7
      refine ⟨fr11 (ns.map .int) (some (.int (0 + (j' : Int)))) c2 c3 c4 c5 c6 c7, _, ?_, ?_, some (.int (j' : Int)), e2, e3, e4, e5, e6, e7, rfl⟩
      · unfold fr11; cases c1 <;> simp
      · rw [Int.zero_add]; exact st)
  have tn : ((N : Nat) : Int).toNat = N := Int.toNat_natCast N
  obtain ⟨P, PS, ev, E⟩ := abc_ev
  have z := E.sz
  have ge : ∀ p ∈ PS, F__law_good [.tuple [p.d], .tuple [.str "a", .str "b", .str "c"], .list (PS.map Pf.d)] = some ((.bool true, false), []) := fun p hp =>
    good_D E [p] (by simp) (fun x hx => by rw [List.mem_singleton.mp hx]; exact hp)
  have C : ∀ c0 c1 c2 c3 c4 c6 c7 c8 c9, lcL (gN 10) sYes (sCall [.v, .v, .v] F__law_good (mV (sTup (sCons (sVar 10) sNil)) (mV (sTup (sCons (sC (.str "a")) (sCons (sC (.str "b")) (sCons (sC (.str "c")) sNil)))) (mV (sVar 5) mNil)))) [10] (PS.map Pf.d) 0 [c0, c1, c2, c3, c4, some (.val (.list (PS.map Pf.d))), c6, c7, c8, c9, none] =
      some (PS.map fun _ => .bool true, [c0, c1, c2, c3, c4, some (.val (.list (PS.map Pf.d))), c6, c7, c8, c9, none]) := fun c0 c1 c2 c3 c4 c6 c7 c8 c9 => by
    refine lc_q (fun p hp => ?_) (by rw [Nat.zero_add]; exact Nat.le_trans z (by decide))
    have g := ge p hp
    generalize PS.map Pf.d = X at *
    have o1 : (1 : Nat) ≤ sizeLine := by decide
    have o3 : (3 : Nat) ≤ sizeLine := by decide
    simp -implicitDefEqProofs [g]
  have ab := asBls_m (fun _ => true) PS
  have al : (PS.map fun _ => true).all id = true := by simp
  generalize (PS.map fun _ => true) = TS at *
  generalize (PS.map fun _ => PyData.bool true) = TD at *
  generalize PS.map Pf.d = X at *
  unfold fr11 at L
  simp only [Option.map_none] at L
  unfold F_law b_law
  simp -implicitDefEqProofs [eN, sN, tn, ↓L, ev, ↓C, ab, al, b1, b2, b3, b4, b5, b6, b7, b8, b9, n0, n1, n2, n3, q1, q2]
end Pv.K11
end
section
set_option Elab.async false
set_option linter.all false
set_option maxRecDepth 100000
namespace Pv.K11
open PySem PySem.Spec PyProof.Rows L2 PySem.W Pv Pv.Pg Pv.Lw
theorem tops {K : Fr'} {h : Heap} {mg : Str → Option Value} (X : K.In h) (G : h.Ns mainGlobals mg)
    {f1 : Addr} {od1 an1 : Option Addr} {sl1 : Array (Option Value)} {oc1 kV1 dc1 pm1 cd1 ct1 : Value} (a1 : PySem.W.nsIn K mainGlobals "is_name" = some (some (.ref f1)))
    (l1 : K.lookup f1 = some ⟨oc1, od1, .func (PySem.W.fnOf "is_name" "is_name" (defArgs (top 7)) (defBody (top 7)) (defScope (top 7)) .none kV1 dc1 pm1 an1 cd1 ct1), sl1⟩) (c1 : PySem.W.codeIn K cd1 "is_name" = true) (k1 : PySem.W.keepIn K (.ref f1) = true)
    {f2 : Addr} {od2 an2 : Option Addr} {sl2 : Array (Option Value)} {oc2 kV2 dc2 pm2 cd2 ct2 : Value} (a2 : PySem.W.nsIn K mainGlobals "is_set" = some (some (.ref f2)))
    (l2 : K.lookup f2 = some ⟨oc2, od2, .func (PySem.W.fnOf "is_set" "is_set" (defArgs (top 11)) (defBody (top 11)) (defScope (top 11)) .none kV2 dc2 pm2 an2 cd2 ct2), sl2⟩) (c2 : PySem.W.codeIn K cd2 "is_set" = true) (k2 : PySem.W.keepIn K (.ref f2) = true)
    {f3 : Addr} {od3 an3 : Option Addr} {sl3 : Array (Option Value)} {oc3 kV3 dc3 pm3 cd3 ct3 : Value} (a3 : PySem.W.nsIn K mainGlobals "is_profile" = some (some (.ref f3)))
    (l3 : K.lookup f3 = some ⟨oc3, od3, .func (PySem.W.fnOf "is_profile" "is_profile" (defArgs (top 12)) (defBody (top 12)) (defScope (top 12)) .none kV3 dc3 pm3 an3 cd3 ct3), sl3⟩) (c3 : PySem.W.codeIn K cd3 "is_profile" = true) (k3 : PySem.W.keepIn K (.ref f3) = true)
    {f4 : Addr} {od4 an4 : Option Addr} {sl4 : Array (Option Value)} {oc4 kV4 dc4 pm4 cd4 ct4 : Value} (a4 : PySem.W.nsIn K mainGlobals "check_profiles" = some (some (.ref f4)))
    (l4 : K.lookup f4 = some ⟨oc4, od4, .func (PySem.W.fnOf "check_profiles" "check_profiles" (defArgs (top 13)) (defBody (top 13)) (defScope (top 13)) .none kV4 dc4 pm4 an4 cd4 ct4), sl4⟩) (c4 : PySem.W.codeIn K cd4 "check_profiles" = true) (k4 : PySem.W.keepIn K (.ref f4) = true)
    {f5 : Addr} {od5 an5 : Option Addr} {sl5 : Array (Option Value)} {oc5 kV5 dc5 pm5 cd5 ct5 : Value} (a5 : PySem.W.nsIn K mainGlobals "check_locks" = some (some (.ref f5)))
    (l5 : K.lookup f5 = some ⟨oc5, od5, .func (PySem.W.fnOf "check_locks" "check_locks" (defArgs (top 14)) (defBody (top 14)) (defScope (top 14)) .none kV5 dc5 pm5 an5 cd5 ct5), sl5⟩) (c5 : PySem.W.codeIn K cd5 "check_locks" = true) (k5 : PySem.W.keepIn K (.ref f5) = true)
    {f6 : Addr} {od6 an6 : Option Addr} {sl6 : Array (Option Value)} {oc6 kV6 dc6 pm6 cd6 ct6 : Value} (a6 : PySem.W.nsIn K mainGlobals "together" = some (some (.ref f6)))
    (l6 : K.lookup f6 = some ⟨oc6, od6, .func (PySem.W.fnOf "together" "together" (defArgs (top 15)) (defBody (top 15)) (defScope (top 15)) .none kV6 dc6 pm6 an6 cd6 ct6), sl6⟩) (c6 : PySem.W.codeIn K cd6 "together" = true) (k6 : PySem.W.keepIn K (.ref f6) = true)
    {f7 : Addr} {od7 an7 : Option Addr} {sl7 : Array (Option Value)} {oc7 kV7 dc7 pm7 cd7 ct7 : Value} (a7 : PySem.W.nsIn K mainGlobals "without_names" = some (some (.ref f7)))
    (l7 : K.lookup f7 = some ⟨oc7, od7, .func (PySem.W.fnOf "without_names" "without_names" (defArgs (top 16)) (defBody (top 16)) (defScope (top 16)) .none kV7 dc7 pm7 an7 cd7 ct7), sl7⟩) (c7 : PySem.W.codeIn K cd7 "without_names" = true) (k7 : PySem.W.keepIn K (.ref f7) = true)
    {f8 : Addr} {od8 an8 : Option Addr} {sl8 : Array (Option Value)} {oc8 kV8 dc8 pm8 cd8 ct8 : Value} (a8 : PySem.W.nsIn K mainGlobals "rows_of" = some (some (.ref f8)))
    (l8 : K.lookup f8 = some ⟨oc8, od8, .func (PySem.W.fnOf "rows_of" "rows_of" (defArgs (top 17)) (defBody (top 17)) (defScope (top 17)) .none kV8 dc8 pm8 an8 cd8 ct8), sl8⟩) (c8 : PySem.W.codeIn K cd8 "rows_of" = true) (k8 : PySem.W.keepIn K (.ref f8) = true)
    {f9 : Addr} {od9 an9 : Option Addr} {sl9 : Array (Option Value)} {oc9 kV9 dc9 pm9 cd9 ct9 : Value} (a9 : PySem.W.nsIn K mainGlobals "made" = some (some (.ref f9)))
    (l9 : K.lookup f9 = some ⟨oc9, od9, .func (PySem.W.fnOf "made" "made" (defArgs (top 18)) (defBody (top 18)) (defScope (top 18)) .none kV9 dc9 pm9 an9 cd9 ct9), sl9⟩) (c9 : PySem.W.codeIn K cd9 "made" = true) (k9 : PySem.W.keepIn K (.ref f9) = true)
    {f10 : Addr} {od10 an10 : Option Addr} {sl10 : Array (Option Value)} {oc10 kV10 dc10 pm10 cd10 ct10 : Value} (a10 : PySem.W.nsIn K mainGlobals "is_below" = some (some (.ref f10)))
    (l10 : K.lookup f10 = some ⟨oc10, od10, .func (PySem.W.fnOf "is_below" "is_below" (defArgs (top 19)) (defBody (top 19)) (defScope (top 19)) .none kV10 dc10 pm10 an10 cd10 ct10), sl10⟩) (c10 : PySem.W.codeIn K cd10 "is_below" = true) (k10 : PySem.W.keepIn K (.ref f10) = true)
    {f11 : Addr} {od11 an11 : Option Addr} {sl11 : Array (Option Value)} {oc11 kV11 dc11 pm11 cd11 ct11 : Value} (a11 : PySem.W.nsIn K mainGlobals "least_rows" = some (some (.ref f11)))
    (l11 : K.lookup f11 = some ⟨oc11, od11, .func (PySem.W.fnOf "least_rows" "least_rows" (defArgs (top 20)) (defBody (top 20)) (defScope (top 20)) .none kV11 dc11 pm11 an11 cd11 ct11), sl11⟩) (c11 : PySem.W.codeIn K cd11 "least_rows" = true) (k11 : PySem.W.keepIn K (.ref f11) = true)
    {f12 : Addr} {od12 an12 : Option Addr} {sl12 : Array (Option Value)} {oc12 kV12 dc12 pm12 cd12 ct12 : Value} (a12 : PySem.W.nsIn K mainGlobals "names_in" = some (some (.ref f12)))
    (l12 : K.lookup f12 = some ⟨oc12, od12, .func (PySem.W.fnOf "names_in" "names_in" (defArgs (top 21)) (defBody (top 21)) (defScope (top 21)) .none kV12 dc12 pm12 an12 cd12 ct12), sl12⟩) (c12 : PySem.W.codeIn K cd12 "names_in" = true) (k12 : PySem.W.keepIn K (.ref f12) = true)
    {f13 : Addr} {od13 an13 : Option Addr} {sl13 : Array (Option Value)} {oc13 kV13 dc13 pm13 cd13 ct13 : Value} (a13 : PySem.W.nsIn K mainGlobals "do_fit" = some (some (.ref f13)))
    (l13 : K.lookup f13 = some ⟨oc13, od13, .func (PySem.W.fnOf "do_fit" "do_fit" (defArgs (top 22)) (defBody (top 22)) (defScope (top 22)) .none kV13 dc13 pm13 an13 cd13 ct13), sl13⟩) (c13 : PySem.W.codeIn K cd13 "do_fit" = true) (k13 : PySem.W.keepIn K (.ref f13) = true)
    {f14 : Addr} {od14 an14 : Option Addr} {sl14 : Array (Option Value)} {oc14 kV14 dc14 pm14 cd14 ct14 : Value} (a14 : PySem.W.nsIn K mainGlobals "subsets" = some (some (.ref f14)))
    (l14 : K.lookup f14 = some ⟨oc14, od14, .func (PySem.W.fnOf "subsets" "subsets" (defArgs (top 23)) (defBody (top 23)) (defScope (top 23)) .none kV14 dc14 pm14 an14 cd14 ct14), sl14⟩) (c14 : PySem.W.codeIn K cd14 "subsets" = true) (k14 : PySem.W.keepIn K (.ref f14) = true)
    {f15 : Addr} {od15 an15 : Option Addr} {sl15 : Array (Option Value)} {oc15 kV15 dc15 pm15 cd15 ct15 : Value} (a15 : PySem.W.nsIn K mainGlobals "profiles_from" = some (some (.ref f15)))
    (l15 : K.lookup f15 = some ⟨oc15, od15, .func (PySem.W.fnOf "profiles_from" "profiles_from" (defArgs (top 24)) (defBody (top 24)) (defScope (top 24)) .none kV15 dc15 pm15 an15 cd15 ct15), sl15⟩) (c15 : PySem.W.codeIn K cd15 "profiles_from" = true) (k15 : PySem.W.keepIn K (.ref f15) = true)
    {f16 : Addr} {od16 an16 : Option Addr} {sl16 : Array (Option Value)} {oc16 kV16 dc16 pm16 cd16 ct16 : Value} (a16 : PySem.W.nsIn K mainGlobals "blockers" = some (some (.ref f16)))
    (l16 : K.lookup f16 = some ⟨oc16, od16, .func (PySem.W.fnOf "blockers" "blockers" (defArgs (top 27)) (defBody (top 27)) (defScope (top 27)) .none kV16 dc16 pm16 an16 cd16 ct16), sl16⟩) (c16 : PySem.W.codeIn K cd16 "blockers" = true) (k16 : PySem.W.keepIn K (.ref f16) = true)
    {f17 : Addr} {od17 an17 : Option Addr} {sl17 : Array (Option Value)} {oc17 kV17 dc17 pm17 cd17 ct17 : Value} (a17 : PySem.W.nsIn K mainGlobals "_law_mixed" = some (some (.ref f17)))
    (l17 : K.lookup f17 = some ⟨oc17, od17, .func (PySem.W.fnOf "_law_mixed" "_law_mixed" (defArgs (top 29)) (defBody (top 29)) (defScope (top 29)) .none kV17 dc17 pm17 an17 cd17 ct17), sl17⟩) (c17 : PySem.W.codeIn K cd17 "_law_mixed" = true) (k17 : PySem.W.keepIn K (.ref f17) = true)
    {f18 : Addr} {od18 an18 : Option Addr} {sl18 : Array (Option Value)} {oc18 kV18 dc18 pm18 cd18 ct18 : Value} (a18 : PySem.W.nsIn K mainGlobals "_law_cell" = some (some (.ref f18)))
    (l18 : K.lookup f18 = some ⟨oc18, od18, .func (PySem.W.fnOf "_law_cell" "_law_cell" (defArgs (top 30)) (defBody (top 30)) (defScope (top 30)) .none kV18 dc18 pm18 an18 cd18 ct18), sl18⟩) (c18 : PySem.W.codeIn K cd18 "_law_cell" = true) (k18 : PySem.W.keepIn K (.ref f18) = true)
    {f19 : Addr} {od19 an19 : Option Addr} {sl19 : Array (Option Value)} {oc19 kV19 dc19 pm19 cd19 ct19 : Value} (a19 : PySem.W.nsIn K mainGlobals "_law_take" = some (some (.ref f19)))
    (l19 : K.lookup f19 = some ⟨oc19, od19, .func (PySem.W.fnOf "_law_take" "_law_take" (defArgs (top 31)) (defBody (top 31)) (defScope (top 31)) .none kV19 dc19 pm19 an19 cd19 ct19), sl19⟩) (c19 : PySem.W.codeIn K cd19 "_law_take" = true) (k19 : PySem.W.keepIn K (.ref f19) = true)
    {f20 : Addr} {od20 an20 : Option Addr} {sl20 : Array (Option Value)} {oc20 kV20 dc20 pm20 cd20 ct20 : Value} (a20 : PySem.W.nsIn K mainGlobals "_law_some" = some (some (.ref f20)))
    (l20 : K.lookup f20 = some ⟨oc20, od20, .func (PySem.W.fnOf "_law_some" "_law_some" (defArgs (top 32)) (defBody (top 32)) (defScope (top 32)) .none kV20 dc20 pm20 an20 cd20 ct20), sl20⟩) (c20 : PySem.W.codeIn K cd20 "_law_some" = true) (k20 : PySem.W.keepIn K (.ref f20) = true)
    {f21 : Addr} {od21 an21 : Option Addr} {sl21 : Array (Option Value)} {oc21 kV21 dc21 pm21 cd21 ct21 : Value} (a21 : PySem.W.nsIn K mainGlobals "_law_parts" = some (some (.ref f21)))
    (l21 : K.lookup f21 = some ⟨oc21, od21, .func (PySem.W.fnOf "_law_parts" "_law_parts" (defArgs (top 33)) (defBody (top 33)) (defScope (top 33)) .none kV21 dc21 pm21 an21 cd21 ct21), sl21⟩) (c21 : PySem.W.codeIn K cd21 "_law_parts" = true) (k21 : PySem.W.keepIn K (.ref f21) = true)
    {f22 : Addr} {od22 an22 : Option Addr} {sl22 : Array (Option Value)} {oc22 kV22 dc22 pm22 cd22 ct22 : Value} (a22 : PySem.W.nsIn K mainGlobals "_law_every" = some (some (.ref f22)))
    (l22 : K.lookup f22 = some ⟨oc22, od22, .func (PySem.W.fnOf "_law_every" "_law_every" (defArgs (top 34)) (defBody (top 34)) (defScope (top 34)) .none kV22 dc22 pm22 an22 cd22 ct22), sl22⟩) (c22 : PySem.W.codeIn K cd22 "_law_every" = true) (k22 : PySem.W.keepIn K (.ref f22) = true)
    {f23 : Addr} {od23 an23 : Option Addr} {sl23 : Array (Option Value)} {oc23 kV23 dc23 pm23 cd23 ct23 : Value} (a23 : PySem.W.nsIn K mainGlobals "_law_rows" = some (some (.ref f23)))
    (l23 : K.lookup f23 = some ⟨oc23, od23, .func (PySem.W.fnOf "_law_rows" "_law_rows" (defArgs (top 35)) (defBody (top 35)) (defScope (top 35)) .none kV23 dc23 pm23 an23 cd23 ct23), sl23⟩) (c23 : PySem.W.codeIn K cd23 "_law_rows" = true) (k23 : PySem.W.keepIn K (.ref f23) = true)
    {f24 : Addr} {od24 an24 : Option Addr} {sl24 : Array (Option Value)} {oc24 kV24 dc24 pm24 cd24 ct24 : Value} (a24 : PySem.W.nsIn K mainGlobals "_law_fit" = some (some (.ref f24)))
    (l24 : K.lookup f24 = some ⟨oc24, od24, .func (PySem.W.fnOf "_law_fit" "_law_fit" (defArgs (top 36)) (defBody (top 36)) (defScope (top 36)) .none kV24 dc24 pm24 an24 cd24 ct24), sl24⟩) (c24 : PySem.W.codeIn K cd24 "_law_fit" = true) (k24 : PySem.W.keepIn K (.ref f24) = true)
    {f25 : Addr} {od25 an25 : Option Addr} {sl25 : Array (Option Value)} {oc25 kV25 dc25 pm25 cd25 ct25 : Value} (a25 : PySem.W.nsIn K mainGlobals "_law_below" = some (some (.ref f25)))
    (l25 : K.lookup f25 = some ⟨oc25, od25, .func (PySem.W.fnOf "_law_below" "_law_below" (defArgs (top 37)) (defBody (top 37)) (defScope (top 37)) .none kV25 dc25 pm25 an25 cd25 ct25), sl25⟩) (c25 : PySem.W.codeIn K cd25 "_law_below" = true) (k25 : PySem.W.keepIn K (.ref f25) = true)
    {f26 : Addr} {od26 an26 : Option Addr} {sl26 : Array (Option Value)} {oc26 kV26 dc26 pm26 cd26 ct26 : Value} (a26 : PySem.W.nsIn K mainGlobals "_law_one_of" = some (some (.ref f26)))
    (l26 : K.lookup f26 = some ⟨oc26, od26, .func (PySem.W.fnOf "_law_one_of" "_law_one_of" (defArgs (top 38)) (defBody (top 38)) (defScope (top 38)) .none kV26 dc26 pm26 an26 cd26 ct26), sl26⟩) (c26 : PySem.W.codeIn K cd26 "_law_one_of" = true) (k26 : PySem.W.keepIn K (.ref f26) = true)
    {f27 : Addr} {od27 an27 : Option Addr} {sl27 : Array (Option Value)} {oc27 kV27 dc27 pm27 cd27 ct27 : Value} (a27 : PySem.W.nsIn K mainGlobals "_law_least" = some (some (.ref f27)))
    (l27 : K.lookup f27 = some ⟨oc27, od27, .func (PySem.W.fnOf "_law_least" "_law_least" (defArgs (top 39)) (defBody (top 39)) (defScope (top 39)) .none kV27 dc27 pm27 an27 cd27 ct27), sl27⟩) (c27 : PySem.W.codeIn K cd27 "_law_least" = true) (k27 : PySem.W.keepIn K (.ref f27) = true)
    {f28 : Addr} {od28 an28 : Option Addr} {sl28 : Array (Option Value)} {oc28 kV28 dc28 pm28 cd28 ct28 : Value} (a28 : PySem.W.nsIn K mainGlobals "_law_good" = some (some (.ref f28)))
    (l28 : K.lookup f28 = some ⟨oc28, od28, .func (PySem.W.fnOf "_law_good" "_law_good" (defArgs (top 40)) (defBody (top 40)) (defScope (top 40)) .none kV28 dc28 pm28 an28 cd28 ct28), sl28⟩) (c28 : PySem.W.codeIn K cd28 "_law_good" = true) (k28 : PySem.W.keepIn K (.ref f28) = true)
    {f29 : Addr} {od29 an29 : Option Addr} {sl29 : Array (Option Value)} {oc29 kV29 dc29 pm29 cd29 ct29 : Value} (a29 : PySem.W.nsIn K mainGlobals "law" = some (some (.ref f29)))
    (l29 : K.lookup f29 = some ⟨oc29, od29, .func (PySem.W.fnOf "law" "law" (defArgs (top 41)) (defBody (top 41)) (defScope (top 41)) .none kV29 dc29 pm29 an29 cd29 ct29), sl29⟩) (c29 : PySem.W.codeIn K cd29 "law" = true) (k29 : PySem.W.keepIn K (.ref f29) = true)
    (z_all : PySem.W.nsIn K mainGlobals "all" = some none)
    (z_any : PySem.W.nsIn K mainGlobals "any" = some none)
    (z_dict : PySem.W.nsIn K mainGlobals "dict" = some none)
    (z_int : PySem.W.nsIn K mainGlobals "int" = some none)
    (z_isinstance : PySem.W.nsIn K mainGlobals "isinstance" = some none)
    (z_len : PySem.W.nsIn K mainGlobals "len" = some none)
    (z_list : PySem.W.nsIn K mainGlobals "list" = some none)
    (z_max : PySem.W.nsIn K mainGlobals "max" = some none)
    (z_min : PySem.W.nsIn K mainGlobals "min" = some none)
    (z_range : PySem.W.nsIn K mainGlobals "range" = some none)
    (z_set : PySem.W.nsIn K mainGlobals "set" = some none)
    (z_sorted : PySem.W.nsIn K mainGlobals "sorted" = some none)
    (z_str : PySem.W.nsIn K mainGlobals "str" = some none)
    (z_tuple : PySem.W.nsIn K mainGlobals "tuple" = some none)
    (z_zip : PySem.W.nsIn K mainGlobals "zip" = some none)
    {t_LETTERS : Tok} (g_LETTERS : PySem.W.nsIn K mainGlobals "LETTERS" = some (some (.str "abcdefghijklmnopqrstuvwxyz" t_LETTERS)))
    {t_LONGEST : Tok} (g_LONGEST : PySem.W.nsIn K mainGlobals "LONGEST" = some (some (.int 8 t_LONGEST)))
    {t_MOST_LOCKS : Tok} (g_MOST_LOCKS : PySem.W.nsIn K mainGlobals "MOST_LOCKS" = some (some (.int 4 t_MOST_LOCKS)))
    {t_MOST_NAMES : Tok} (g_MOST_NAMES : PySem.W.nsIn K mainGlobals "MOST_NAMES" = some (some (.int 8 t_MOST_NAMES)))
    {t_MOST_PROFILES : Tok} (g_MOST_PROFILES : PySem.W.nsIn K mainGlobals "MOST_PROFILES" = some (some (.int 150 t_MOST_PROFILES))) : Tops K mg :=
  ⟨Here.mk_ X G a1 l1 c1 k1, Here.mk_ X G a2 l2 c2 k2, Here.mk_ X G a3 l3 c3 k3, Here.mk_ X G a4 l4 c4 k4, Here.mk_ X G a5 l5 c5 k5, Here.mk_ X G a6 l6 c6 k6, Here.mk_ X G a7 l7 c7 k7, Here.mk_ X G a8 l8 c8 k8, Here.mk_ X G a9 l9 c9 k9, Here.mk_ X G a10 l10 c10 k10, Here.mk_ X G a11 l11 c11 k11, Here.mk_ X G a12 l12 c12 k12, Here.mk_ X G a13 l13 c13 k13, Here.mk_ X G a14 l14 c14 k14, Here.mk_ X G a15 l15 c15 k15, Here.mk_ X G a16 l16 c16 k16, Here.mk_ X G a17 l17 c17 k17, Here.mk_ X G a18 l18 c18 k18, Here.mk_ X G a19 l19 c19 k19, Here.mk_ X G a20 l20 c20 k20, Here.mk_ X G a21 l21 c21 k21, Here.mk_ X G a22 l22 c22 k22, Here.mk_ X G a23 l23 c23 k23, Here.mk_ X G a24 l24 c24 k24, Here.mk_ X G a25 l25 c25 k25, Here.mk_ X G a26 l26 c26 k26, Here.mk_ X G a27 l27 c27 k27, Here.mk_ X G a28 l28 c28 k28, Here.mk_ X G a29 l29 c29 k29, PySem.W.mg_none_of X G z_all, PySem.W.mg_none_of X G z_any, PySem.W.mg_none_of X G z_dict, PySem.W.mg_none_of X G z_int, PySem.W.mg_none_of X G z_isinstance, PySem.W.mg_none_of X G z_len, PySem.W.mg_none_of X G z_list, PySem.W.mg_none_of X G z_max, PySem.W.mg_none_of X G z_min, PySem.W.mg_none_of X G z_range, PySem.W.mg_none_of X G z_set, PySem.W.mg_none_of X G z_sorted, PySem.W.mg_none_of X G z_str, PySem.W.mg_none_of X G z_tuple, PySem.W.mg_none_of X G z_zip, ⟨_, PySem.W.mg_of X G g_LETTERS⟩, ⟨_, PySem.W.mg_of X G g_LONGEST⟩, ⟨_, PySem.W.mg_of X G g_MOST_LOCKS⟩, ⟨_, PySem.W.mg_of X G g_MOST_NAMES⟩, ⟨_, PySem.W.mg_of X G g_MOST_PROFILES⟩⟩
theorem walk_law {l : PySem.W.OpenLaw} {q : Program} {loose : List Str} {XP : (Str → Option Value) → Heap → Prop} {YP : World → Heap → Prop} {d : DefRec} {K : Params → PySem.W.Frag} (hn : l.most = some 63) (hdf : d.params.defaults = []) (hd : d.name = "law") (hY : ∀ (w : World) (h : Heap), YP w h → (K w.params).In h)
    (F : ∀ (w : World) (mg : Str → Option Value) (h : Heap), (K w.params).In h → h.Ns mainGlobals mg → Tops (K w.params) mg)
    (hfn : ∀ ns : List Int, ns.length ≤ 63 → (∀ z ∈ ns, Builtin.Int.intBits z ≤ 1048576) → F_law [.list (ns.map PyData.int)] = some ((.bool true, false), [])) : PySem.W.WalkO q loose XP YP l.row.toRowW d [] (fun f vs => PySem.call f vs) :=
  walk_ofG (n := 63) (k := 49) (x := "_law_script") hn (by decide) hdf ⟨rfl, by decide, by decide⟩ hY (fun w mg h KX G base _ _ => by rw [hd]; exact c_law (F w mg h KX G)) hfn
end Pv.K11
open PySem PySem.W PyProof.Rows
set_option maxRecDepth 100000 in
set_option maxHeartbeats 0 in
theorem PySem.Challenge.cw_nestedholds_k11_blockers_holds : PySem.Challenge.rw_nestedholds_k11_blockers.Holds := by
  w_on; o_law; k_head; (case hw => w_witness2)
  k_fill
  refine Pv.K11.walk_law (l := PySem.Challenge.rw_nestedholds_k11_blockers) rfl rfl rfl (fun w h Y => PySem.W.kIn_of Y) ?F Pv.K11.plain_law
  case F =>
    intro w mg h KX G
    refine' Pv.K11.tops KX G ?a1 ?l1 ?c1 ?k1 ?a2 ?l2 ?c2 ?k2 ?a3 ?l3 ?c3 ?k3 ?a4 ?l4 ?c4 ?k4 ?a5 ?l5 ?c5 ?k5 ?a6 ?l6 ?c6 ?k6 ?a7 ?l7 ?c7 ?k7 ?a8 ?l8 ?c8 ?k8 ?a9 ?l9 ?c9 ?k9 ?a10 ?l10 ?c10 ?k10 ?a11 ?l11 ?c11 ?k11 ?a12 ?l12 ?c12 ?k12 ?a13 ?l13 ?c13 ?k13 ?a14 ?l14 ?c14 ?k14 ?a15 ?l15 ?c15 ?k15 ?a16 ?l16 ?c16 ?k16 ?a17 ?l17 ?c17 ?k17 ?a18 ?l18 ?c18 ?k18 ?a19 ?l19 ?c19 ?k19 ?a20 ?l20 ?c20 ?k20 ?a21 ?l21 ?c21 ?k21 ?a22 ?l22 ?c22 ?k22 ?a23 ?l23 ?c23 ?k23 ?a24 ?l24 ?c24 ?k24 ?a25 ?l25 ?c25 ?k25 ?a26 ?l26 ?c26 ?k26 ?a27 ?l27 ?c27 ?k27 ?a28 ?l28 ?c28 ?k28 ?a29 ?l29 ?c29 ?k29 ?z_all ?z_any ?z_dict ?z_int ?z_isinstance ?z_len ?z_list ?z_max ?z_min ?z_range ?z_set ?z_sorted ?z_str ?z_tuple ?z_zip ?g_LETTERS ?g_LONGEST ?g_MOST_LOCKS ?g_MOST_NAMES ?g_MOST_PROFILES
    (case a1 => k_is)
    (case l1 => k_is)
    (case c1 => k_is)
    (case k1 => k_is)
    (case a2 => k_is)
    (case l2 => k_is)
    (case c2 => k_is)
    (case k2 => k_is)
    (case a3 => k_is)
    (case l3 => k_is)
    (case c3 => k_is)
    (case k3 => k_is)
    (case a4 => k_is)
    (case l4 => k_is)
    (case c4 => k_is)
    (case k4 => k_is)
    (case a5 => k_is)
    (case l5 => k_is)
    (case c5 => k_is)
    (case k5 => k_is)
    (case a6 => k_is)
    (case l6 => k_is)
    (case c6 => k_is)
    (case k6 => k_is)
    (case a7 => k_is)
    (case l7 => k_is)
    (case c7 => k_is)
    (case k7 => k_is)
    (case a8 => k_is)
    (case l8 => k_is)
    (case c8 => k_is)
    (case k8 => k_is)
    (case a9 => k_is)
    (case l9 => k_is)
    (case c9 => k_is)
    (case k9 => k_is)
    (case a10 => k_is)
    (case l10 => k_is)
    (case c10 => k_is)
    (case k10 => k_is)
    (case a11 => k_is)
    (case l11 => k_is)
    (case c11 => k_is)
    (case k11 => k_is)
    (case a12 => k_is)
    (case l12 => k_is)
    (case c12 => k_is)
    (case k12 => k_is)
    (case a13 => k_is)
    (case l13 => k_is)
    (case c13 => k_is)
    (case k13 => k_is)
    (case a14 => k_is)
    (case l14 => k_is)
    (case c14 => k_is)
    (case k14 => k_is)
    (case a15 => k_is)
    (case l15 => k_is)
    (case c15 => k_is)
    (case k15 => k_is)
    (case a16 => k_is)
    (case l16 => k_is)
    (case c16 => k_is)
    (case k16 => k_is)
    (case a17 => k_is)
    (case l17 => k_is)
    (case c17 => k_is)
    (case k17 => k_is)
    (case a18 => k_is)
    (case l18 => k_is)
    (case c18 => k_is)
    (case k18 => k_is)
    (case a19 => k_is)
    (case l19 => k_is)
    (case c19 => k_is)
    (case k19 => k_is)
    (case a20 => k_is)
    (case l20 => k_is)
    (case c20 => k_is)
    (case k20 => k_is)
    (case a21 => k_is)
    (case l21 => k_is)
    (case c21 => k_is)
    (case k21 => k_is)
    (case a22 => k_is)
    (case l22 => k_is)
    (case c22 => k_is)
    (case k22 => k_is)
    (case a23 => k_is)
    (case l23 => k_is)
    (case c23 => k_is)
    (case k23 => k_is)
    (case a24 => k_is)
    (case l24 => k_is)
    (case c24 => k_is)
    (case k24 => k_is)
    (case a25 => k_is)
    (case l25 => k_is)
    (case c25 => k_is)
    (case k25 => k_is)
    (case a26 => k_is)
    (case l26 => k_is)
    (case c26 => k_is)
    (case k26 => k_is)
    (case a27 => k_is)
    (case l27 => k_is)
    (case c27 => k_is)
    (case k27 => k_is)
    (case a28 => k_is)
    (case l28 => k_is)
    (case c28 => k_is)
    (case k28 => k_is)
    (case a29 => k_is)
    (case l29 => k_is)
    (case c29 => k_is)
    (case k29 => k_is)
    (case z_all => k_is)
    (case z_any => k_is)
    (case z_dict => k_is)
    (case z_int => k_is)
    (case z_isinstance => k_is)
    (case z_len => k_is)
    (case z_list => k_is)
    (case z_max => k_is)
    (case z_min => k_is)
    (case z_range => k_is)
    (case z_set => k_is)
    (case z_sorted => k_is)
    (case z_str => k_is)
    (case z_tuple => k_is)
    (case z_zip => k_is)
    (case g_LETTERS => k_is)
    (case g_LONGEST => k_is)
    (case g_MOST_LOCKS => k_is)
    (case g_MOST_NAMES => k_is)
    (case g_MOST_PROFILES => k_is)
end
