import PyProof.Rows.All
import Wide.All
import OpenK.AllK
import Wide.FinOn
import HandS.ForMost
import HandS.Deep
import HandS.IsInst
import HandS.DictComp
import HandS.Zip
import HandS.TupAny
import HandS.Wide
import HandS.Rev
import HandS.Flow
import HandS.Style
import HandS.Walk
import KE.LtData
import HandS.TupMul
import HandS.DictEq
import PyProof.StrOps2
import KE.OsSortAny
import KE.SortData
import KE.LtSeq
import HandS.Call
import HandS.List
import HandS.Set
import HandS.SetFor
import HandS.Strs
import HandS.ExcValue
import PyProof.TupleOfSeq
import HandS.More
import HandS.WordsDict
import PyProof.ReprRoads
import PyProof.Rows.StrMeet
import HandS.RaiseMore
import HandS.Small
import HandS.Iter
import KE.GoesMore
import KE.GoesEnum
import PyProof.DictUpdate
import HandS.Words
import HandS.Ends
import HandS.EndBits
import KE.KRevSl
import PyProof.TupleOfStr
import HandS.Records
import HandS.NoneIn
import PyProof.Rows.RegFStrParts
import HandS.Conv
import PyProof.StrWalks
import HandS.Exc
import HandS.ExcOwn
import HandS.TryOnly
import KE.DataFind
import PyProof.NeKinds
import PySem.Challenge.RW_nestedholds_k62_frames_are_recognized
set_option Elab.async false
section
set_option Elab.async false
set_option linter.all false
set_option maxRecDepth 100000
set_option maxHeartbeats 1000000
/-! PvA: plain data (PyData) held by V in a heap; frames of cells; what an expression gives. -/
namespace Pv
open PySem PySem.Spec PyProof.Rows L2

abbrev D := PyData
abbrev St := L2.St
abbrev Fr' := PySem.W.Frag

/-! ### data held -/
/-- F lies in H; a thing that may be written may stand locked in H -/
def isDct : HO → Prop
  | .dK _ => True
  | .dT _ => True
  | _ => False
def Le (F H : Hp) : Prop := ∀ b o, F b = some o → H b = some o ∨ (isDct o ∧ ∃ od, H b = some (.frz od o))
theorem Le.refl (F : Hp) : Le F F := fun _ _ h => .inl h
theorem Le.of {F H : Hp} (h : Same F H) : Le F H := fun b o e => .inl (h b o e)
theorem Le.pre {F G H : Hp} (h : Same F G) (k : Le G H) : Le F H := fun b o e => k b o (h b o e)
theorem Le.post {F G H : Hp} (h : Le F G) (k : Same G H) : Le F H := fun b o e => by
  rcases h b o e with e | ⟨m, od, e⟩
  · exact .inl (k _ _ e)
  · exact .inr ⟨m, od, k _ _ e⟩
theorem Le.rd {F H : Hp} (h : Le F H) {a : Addr} {u : HO} (r : Rd F a u) : Rd H a u := by
  rcases r with r | ⟨od, r⟩
  · rcases h a u r with e | ⟨_, od, e⟩
    · exact .inl e
    · exact .inr ⟨od, e⟩
  · rcases h a _ r with e | ⟨m, _⟩
    · exact .inr ⟨od, e⟩
    · exact m.elim
theorem Le.sql {K : Fr'} {F H : Hp} (h : Le F H) {a : Addr} {xs : List V} (r : SqL K F a xs) : SqL K H a xs := by
  rcases r with r | r
  · exact .inl (h.rd r)
  · exact .inr r
theorem Le.sqt {K : Fr'} {F H : Hp} (h : Le F H) {a : Addr} {xs : List V} (r : SqT K F a xs) : SqT K H a xs := by
  rcases r with r | r
  · exact .inl (h.rd r)
  · exact .inr r
theorem Le.lst {F H : Hp} (h : Le F H) {a : Addr} {xs : List V} (r : F a = some (.lst xs)) : H a = some (.lst xs) := by
  rcases h a _ r with e | ⟨m, _⟩
  · exact e
  · exact m.elim
theorem Le.none {F H : Hp} (h : Le F H) {a : Addr} (e : H a = none) : F a = none := by
  cases q : F a with
  | none => rfl
  | some o =>
    rcases h a o q with z | ⟨_, od, z⟩ <;> (rw [e] at z; cases z)

def keyD : Key → D
  | .inl i => .int i
  | .inr x => .str x

mutual
inductive Rp (K : Fr') (F : Hp) : V → D → Prop
  | non : Rp K F .non .none
  | bl (b : Bool) : Rp K F (.bl b) (.bool b)
  | int (i : Int) : Rp K F (.int i) (.int i)
  | str (x : Str) : Rp K F (.str x) (.str x)
  | lst {a : Addr} {xs : List V} {ds : List D} : F a = some (.lst xs) → RpA K F xs ds → Rp K F (.ref a) (.list ds)
  | tup {a : Addr} {xs : List V} {ds : List D} : SqT K F a xs → RpA K F xs ds → Rp K F (.ref a) (.tuple ds)
  | dic {a : Addr} {kvs : List (Key × V)} {es : List (D × D)} : Rd F a (.dK kvs) → RpD K F kvs es → Rp K F (.ref a) (.dict es)
inductive RpA (K : Fr') (F : Hp) : List V → List D → Prop
  | nil : RpA K F [] []
  | cons {v : V} {vs : List V} {d : D} {ds : List D} : Rp K F v d → RpA K F vs ds → RpA K F (v :: vs) (d :: ds)
inductive RpD (K : Fr') (F : Hp) : List (Key × V) → List (D × D) → Prop
  | nil : RpD K F [] []
  | cons {k : Key} {v : V} {kvs : List (Key × V)} {d : D} {es : List (D × D)} : Rp K F v d → RpD K F kvs es → RpD K F ((k, v) :: kvs) ((keyD k, d) :: es)
end

mutual
theorem Rp.mono {K : Fr'} {F H : Hp} (h : Le F H) : ∀ {v : V} {d : D}, Rp K F v d → Rp K H v d
  | _, _, .non => .non
  | _, _, .bl b => .bl b
  | _, _, .int i => .int i
  | _, _, .str x => .str x
  | _, _, .lst s r => .lst (h.lst s) (RpA.mono h r)
  | _, _, .tup s r => .tup (h.sqt s) (RpA.mono h r)
  | _, _, .dic s r => .dic (h.rd s) (RpD.mono h r)
theorem RpA.mono {K : Fr'} {F H : Hp} (h : Le F H) : ∀ {vs : List V} {ds : List D}, RpA K F vs ds → RpA K H vs ds
  | _, _, .nil => .nil
  | _, _, .cons r t => .cons (Rp.mono h r) (RpA.mono h t)
theorem RpD.mono {K : Fr'} {F H : Hp} (h : Le F H) : ∀ {vs : List (Key × V)} {ds : List (D × D)}, RpD K F vs ds → RpD K H vs ds
  | _, _, .nil => .nil
  | _, _, .cons r t => .cons (Rp.mono h r) (RpD.mono h t)
end
theorem RpA.length {K : Fr'} {F : Hp} : ∀ {vs : List V} {ds : List D}, RpA K F vs ds → vs.length = ds.length
  | _, _, .nil => rfl
  | _, _, .cons _ t => congrArg (· + 1) (RpA.length t)
theorem RpA.get {K : Fr'} {F : Hp} : ∀ {vs : List V} {ds : List D}, RpA K F vs ds → ∀ (i : Nat) (d : D), ds[i]? = some d → ∃ v, vs[i]? = some v ∧ Rp K F v d
  | _, _, .nil, i, d, e => by simp at e
  | _, _, .cons r t, 0, d, e => by simp at e; subst e; exact ⟨_, rfl, r⟩
  | _, _, .cons r t, i + 1, d, e => by
    obtain ⟨v, h1, h2⟩ := RpA.get t i d (by simpa using e)
    exact ⟨v, by simpa using h1, h2⟩
theorem RpA.get' {K : Fr'} {F : Hp} : ∀ {vs : List V} {ds : List D}, RpA K F vs ds → ∀ (i : Nat) (v : V), vs[i]? = some v → ∃ d, ds[i]? = some d ∧ Rp K F v d
  | _, _, .nil, i, d, e => by simp at e
  | _, _, .cons r t, 0, d, e => by simp at e; subst e; exact ⟨_, rfl, r⟩
  | _, _, .cons r t, i + 1, d, e => by
    obtain ⟨v, h1, h2⟩ := RpA.get' t i d (by simpa using e)
    exact ⟨v, by simpa using h1, h2⟩
theorem RpA.append {K : Fr'} {F : Hp} : ∀ {vs us : List V} {ds es : List D}, RpA K F vs ds → RpA K F us es → RpA K F (vs ++ us) (ds ++ es)
  | _, _, _, _, .nil, r => r
  | _, _, _, _, .cons r t, q => .cons r (RpA.append t q)
theorem RpA.drop {K : Fr'} {F : Hp} : ∀ {vs : List V} {ds : List D} (n : Nat), RpA K F vs ds → RpA K F (vs.drop n) (ds.drop n)
  | _, _, 0, r => r
  | _, _, _ + 1, .nil => .nil
  | _, _, n + 1, .cons _ t => RpA.drop n t
theorem RpA.take {K : Fr'} {F : Hp} : ∀ {vs : List V} {ds : List D} (n : Nat), RpA K F vs ds → RpA K F (vs.take n) (ds.take n)
  | _, _, 0, r => by simp; exact .nil
  | _, _, _ + 1, .nil => .nil
  | _, _, n + 1, .cons r t => .cons r (RpA.take n t)
theorem RpA.set {K : Fr'} {F : Hp} {v : V} {d : D} (q : Rp K F v d) : ∀ {vs : List V} {ds : List D} (i : Nat), RpA K F vs ds → RpA K F (vs.set i v) (ds.set i d)
  | _, _, _, .nil => .nil
  | _, _, 0, .cons _ t => .cons q t
  | _, _, i + 1, .cons r t => .cons r (RpA.set q i t)
theorem RpA.reverse {K : Fr'} {F : Hp} : ∀ {vs : List V} {ds : List D}, RpA K F vs ds → RpA K F vs.reverse ds.reverse
  | _, _, .nil => .nil
  | _, _, .cons r t => by rw [List.reverse_cons, List.reverse_cons]; exact RpA.append (RpA.reverse t) (.cons r .nil)
theorem RpD.length {K : Fr'} {F : Hp} : ∀ {vs : List (Key × V)} {ds : List (D × D)}, RpD K F vs ds → vs.length = ds.length
  | _, _, .nil => rfl
  | _, _, .cons _ t => congrArg (· + 1) (RpD.length t)

/-! no dict within: HandS's Dp -/
mutual
def plain : D → Bool
  | .list ds => plainA ds
  | .tuple ds => plainA ds
  | .dict _ => false
  | _ => true
def plainA : List D → Bool
  | [] => true
  | d :: ds => plain d && plainA ds
end
mutual
theorem Rp.dp {K : Fr'} {F : Hp} : ∀ {v : V} {d : D}, Rp K F v d → plain d = true → Dp K F v d
  | _, _, .non, _ => .non
  | _, _, .bl b, _ => .bl b
  | _, _, .int i, _ => .int i
  | _, _, .str x, _ => .str x
  | _, _, .lst s r, h => .lst (.inl (.inl s)) (RpA.dp r (by simpa [plain] using h))
  | _, _, .tup s r, h => .tup s (RpA.dp r (by simpa [plain] using h))
  | _, _, .dic s r, h => by simp [plain] at h
theorem RpA.dp {K : Fr'} {F : Hp} : ∀ {vs : List V} {ds : List D}, RpA K F vs ds → plainA ds = true → DpAll K F vs ds
  | _, _, .nil, _ => .nil
  | _, _, .cons r t, h => by
    simp only [plainA, Bool.and_eq_true] at h
    exact .cons (Rp.dp r h.1) (RpA.dp t h.2)
end

/-! ### frames -/
inductive Cell
  | val (d : D)
  | own (d : D)
  | byr (d : D)
  | scr (ds : List D)
def Cell.d : Cell → D
  | .val d => d
  | .own d => d
  | .byr d => d
  | .scr ds => .list ds
def Cell.owned : Cell → Bool
  | .val _ => false
  | .own _ => true
  | .byr _ => true
  | .scr _ => false
abbrev Ro := List (Option Cell)

/-- what stands at an address that is one's own -/
def OwnO (K : Fr') (F : Hp) : Option HO → D → Prop
  | some (.lst xs), .list ds => RpA K F xs ds
  | some (.dK kvs), .dict es => RpD K F kvs es
  | _, _ => False
theorem OwnO.mono {K : Fr'} {F G : Hp} (h : Le F G) {o : Option HO} {d : D} (q : OwnO K F o d) : OwnO K G o d := by
  unfold OwnO at q ⊢
  split at q
  · exact q.mono h
  · exact q.mono h
  · exact q.elim
theorem OwnO.mut {K : Fr'} {F : Hp} {o : Option HO} {d : D} (q : OwnO K F o d) : Mut o ∧ ∃ u, o = some u := by
  unfold OwnO at q
  split at q
  · exact ⟨trivial, _, rfl⟩
  · exact ⟨trivial, _, rfl⟩
  · exact q.elim
def OwnV (K : Fr') (W F H : Hp) (v : V) (d : D) : Prop := ∃ a, v = .ref a ∧ W a = none ∧ F a = none ∧ OwnO K F (H a) d
def CellOk (K : Fr') (W F H : Hp) : Cell → V → Prop
  | .val d, v => Rp K F v d
  | .own d, v => OwnV K W F H v d
  | .byr d, v => OwnV K W F H v d
  | .scr ds, v => ∃ a xs, v = .ref a ∧ SqL K F a xs ∧ RpA K F xs ds

/-- what is kept for others is not frozen, or it is a dict that is being walked -/
def Dis (W F : Hp) : Prop := ∀ b, W b ≠ Option.none → F b = Option.none ∨ ∃ o u, W b = some (.frz o u)
structure Rel (K : Fr') (P : List (Nat × Addr)) (W F H : Hp) (σ : St) (ρ : Ro) : Prop where
  fh : Le F H
  wh : Same W H
  len : σ.length = ρ.length
  cell : ∀ (i : Nat) (c : Cell), ρ[i]? = some (some c) → ∃ v, σ[i]? = some (some v) ∧ CellOk K W F H c v
  inj : ∀ (i j : Nat) (c e : Cell) (a : Addr), i ≠ j → ρ[i]? = some (some c) → ρ[j]? = some (some e) → c.owned = true → e.owned = true → σ[i]? = some (some (.ref a)) → σ[j]? = some (some (.ref a)) → False
  pin : ∀ p ∈ P, σ[p.1]? = some (some (.ref p.2)) ∧ ∃ d, ρ[p.1]? = some (some (.byr d))
  dis : Dis W F

/-- the frozen part grows, by what is not kept for others -/
structure Ext (W F F' : Hp) : Prop where
  same : Same F F'
  off : ∀ b, W b ≠ none → F' b = F b
theorem Ext.refl (W F : Hp) : Ext W F F := ⟨Same.refl F, fun _ _ => rfl⟩
theorem Ext.trans {W F F1 F2 : Hp} (h : Ext W F F1) (k : Ext W F1 F2) : Ext W F F2 := ⟨h.same.trans k.same, fun b e => (k.off b e).trans (h.off b e)⟩

/-- what an expression gives -/
inductive Rv
  | val (d : D)
  | fr (d : D)
  | at (i : Nat)
def RvOk (K : Fr') (W F H : Hp) (σ : St) (ρ : Ro) : Rv → V → Prop
  | .val d, v => Rp K F v d
  | .fr d, v => OwnV K W F H v d ∧ ∀ (i : Nat) (c : Cell), ρ[i]? = some (some c) → c.owned = true → σ[i]? ≠ some (some v)
  | .at i, v => σ[i]? = some (some v)
def look (ρ : Ro) : Rv → Option D
  | .val d => some d
  | .fr d => some d
  | .at i => match ρ[i]? with
    | some (some (.val d)) => some d
    | some (some (.own d)) => some d
    | some (some (.byr d)) => some d
    | _ => none
def settle : Rv → Rv
  | .fr d => .val d
  | r => r
def frz (ρ : Ro) : Rv → Option (D × Ro)
  | .val d => some (d, ρ)
  | .fr d => some (d, ρ)
  | .at i => match ρ[i]? with
    | some (some (.val d)) => some (d, ρ)
    | some (some (.own d)) => some (d, ρ.set i (some (.val d)))
    | _ => none

/-- a thing looked at: frozen, or one's own -/
def Lk (K : Fr') (F H : Hp) (v : V) (d : D) : Prop := Rp K F v d ∨ ∃ a, v = .ref a ∧ OwnO K F (H a) d

section
variable {K : Fr'} {P : List (Nat × Addr)} {W F H F' H' : Hp} {σ : St} {ρ ρ' : Ro} {v : V} {d : D} {r : Rv} {c : Cell}

theorem CellOk.lkv (h : CellOk K W F H (.val d) v) : Lk K F H v d := .inl h
theorem CellOk.lko (h : CellOk K W F H (.own d) v) : Lk K F H v d := by
  obtain ⟨a, e, _, _, q⟩ := h; exact .inr ⟨a, e, q⟩
theorem CellOk.lkb (h : CellOk K W F H (.byr d) v) : Lk K F H v d := by
  obtain ⟨a, e, _, _, q⟩ := h; exact .inr ⟨a, e, q⟩
theorem Rel.lk (R : Rel K P W F H σ ρ) (h : RvOk K W F H σ ρ r v) (e : look ρ r = some d) : Lk K F H v d := by
  cases r with
  | val z => cases e; exact .inl h
  | fr z => cases e; obtain ⟨⟨a, ea, _, _, q⟩, _⟩ := h; exact .inr ⟨a, ea, q⟩
  | «at» i =>
    unfold look at e
    simp only at e
    have this : σ[i]? = some (some v) := h
    split at e
    · rename_i c hc
      cases e
      obtain ⟨u, hu, hk⟩ := R.cell i _ hc
      rw [this] at hu; cases hu
      exact hk.lkv
    · rename_i c hc
      cases e
      obtain ⟨u, hu, hk⟩ := R.cell i _ hc
      rw [this] at hu; cases hu
      exact hk.lko
    · rename_i c hc
      cases e
      obtain ⟨u, hu, hk⟩ := R.cell i _ hc
      rw [this] at hu; cases hu
      exact hk.lkb
    · cases e
theorem Lk.rp (h : Le F H) (l : Lk K F H v d) : Rp K H v d := by
  rcases l with l | ⟨a, rfl, q⟩
  · exact l.mono h
  · unfold OwnO at q
    split at q
    · rename_i xs ds e
      exact .lst e (q.mono h)
    · rename_i kvs es e
      exact .dic (.inl e) (q.mono h)
    · exact q.elim
theorem Lk.list {ds : List D} (h : Le F H) (l : Lk K F H v (.list ds)) : ∃ a xs, v = .ref a ∧ H a = some (.lst xs) ∧ RpA K F xs ds := by
  rcases l with l | ⟨a, rfl, q⟩
  · cases l with
    | lst s r => exact ⟨_, _, rfl, h.lst s, r⟩
  · unfold OwnO at q
    split at q
    · rename_i xs ds e hq
      cases hq
      exact ⟨a, xs, rfl, e, q⟩
    · rename_i hq; cases hq
    · exact q.elim
theorem Lk.tuple {ds : List D} (h : Le F H) (l : Lk K F H v (.tuple ds)) : ∃ a xs, v = .ref a ∧ SqT K H a xs ∧ RpA K F xs ds ∧ Rp K F v (.tuple ds) := by
  rcases l with l | ⟨a, rfl, q⟩
  · cases l with
    | tup s r => exact ⟨_, _, rfl, h.sqt s, r, .tup s r⟩
  · unfold OwnO at q
    split at q
    · rename_i hq; cases hq
    · rename_i hq; cases hq
    · exact q.elim
theorem Lk.dict {es : List (D × D)} (h : Le F H) (l : Lk K F H v (.dict es)) : ∃ a kvs, v = .ref a ∧ Rd H a (.dK kvs) ∧ RpD K F kvs es := by
  rcases l with l | ⟨a, rfl, q⟩
  · cases l with
    | dic s r => exact ⟨_, _, rfl, h.rd s, r⟩
  · unfold OwnO at q
    split at q
    · rename_i hq; cases hq
    · rename_i kvs es e hq
      cases hq
      exact ⟨a, kvs, rfl, .inl e, q⟩
    · exact q.elim
theorem Lk.int {i : Int} (l : Lk K F H v (.int i)) : v = .int i := by
  rcases l with l | ⟨a, rfl, q⟩
  · cases l; rfl
  · unfold OwnO at q; split at q <;> first | (rename_i hq; cases hq) | exact q.elim
theorem Lk.str {i : Str} (l : Lk K F H v (.str i)) : v = .str i := by
  rcases l with l | ⟨a, rfl, q⟩
  · cases l; rfl
  · unfold OwnO at q; split at q <;> first | (rename_i hq; cases hq) | exact q.elim
theorem Lk.bool {i : Bool} (l : Lk K F H v (.bool i)) : v = .bl i := by
  rcases l with l | ⟨a, rfl, q⟩
  · cases l; rfl
  · unfold OwnO at q; split at q <;> first | (rename_i hq; cases hq) | exact q.elim
theorem Lk.none (l : Lk K F H v .none) : v = .non := by
  rcases l with l | ⟨a, rfl, q⟩
  · cases l; rfl
  · unfold OwnO at q; split at q <;> first | (rename_i hq; cases hq) | exact q.elim

/-- the frozen part grows by new places; nothing that stood is changed -/
structure Grow (F H F' H' : Hp) : Prop where
  hs : Same H H'
  fs : Same F F'
  off : ∀ b, H b ≠ none → F' b = F b
  le : Le F' H'
theorem Grow.refl (h : Le F H) : Grow F H F H := ⟨Same.refl H, Same.refl F, fun _ _ => rfl, h⟩
theorem Same.ne {H H' : Hp} (h : Same H H') {b : Addr} (e : H b ≠ Option.none) : H' b ≠ Option.none := by
  cases q : H b with
  | none => exact absurd q e
  | some o => rw [h b o q]; exact fun z => nomatch z
theorem Grow.ext (g : Grow F H F' H') (w : Same W H) : Ext W F F' := ⟨g.fs, fun b e => g.off b (Same.ne w e)⟩
theorem Rel.grow (R : Rel K P W F H σ ρ) (g : Grow F H F' H') : Rel K P W F' H' σ ρ where
  fh := g.le
  wh := R.wh.trans g.hs
  len := R.len
  cell := fun i c e => by
    obtain ⟨v, hv, hc⟩ := R.cell i c e
    refine ⟨v, hv, ?_⟩
    cases c with
    | val d => exact Rp.mono (Le.of g.fs) hc
    | own d =>
      obtain ⟨a, ea, hw, hf, q⟩ := hc
      obtain ⟨_, u, hu⟩ := q.mut
      exact ⟨a, ea, hw, by rw [g.off a (by rw [hu]; exact fun z => nomatch z)]; exact hf, by rw [g.hs a u hu, ← hu]; exact q.mono (Le.of g.fs)⟩
    | byr d =>
      obtain ⟨a, ea, hw, hf, q⟩ := hc
      obtain ⟨_, u, hu⟩ := q.mut
      exact ⟨a, ea, hw, by rw [g.off a (by rw [hu]; exact fun z => nomatch z)]; exact hf, by rw [g.hs a u hu, ← hu]; exact q.mono (Le.of g.fs)⟩
    | scr ds => obtain ⟨a, xs, ea, s, r⟩ := hc; exact ⟨a, xs, ea, (Le.of g.fs).sql s, r.mono (Le.of g.fs)⟩
  inj := R.inj
  pin := R.pin
  dis := fun b e => (R.dis b e).imp (fun z => (g.off b (Same.ne R.wh e)).trans z) id

/-- less is kept for others -/
theorem Rel.lessW {W' : Hp} (h : Same W W') (R : Rel K P W' F H σ ρ) : Rel K P W F H σ ρ where
  fh := R.fh
  wh := h.trans R.wh
  len := R.len
  cell := fun i c e => by
    have k : ∀ a, W' a = Option.none → W a = Option.none := fun a e => by
      cases q : W a with
      | none => rfl
      | some u => rw [h a u q] at e; cases e
    obtain ⟨v, hv, hc⟩ := R.cell i c e
    refine ⟨v, hv, ?_⟩
    cases c with
    | val d => exact hc
    | own d => obtain ⟨b, eb, hw, q⟩ := hc; exact ⟨b, eb, k b hw, q⟩
    | byr d => obtain ⟨b, eb, hw, q⟩ := hc; exact ⟨b, eb, k b hw, q⟩
    | scr ds => exact hc
  inj := R.inj
  pin := R.pin
  dis := fun b e => by
    obtain ⟨u, hu⟩ := Option.ne_none_iff_exists'.mp e
    have := h b u hu
    rcases R.dis b (by rw [this]; exact fun z => nomatch z) with q | ⟨o, u', q⟩
    · exact .inl q
    · right; rw [this] at q; cases q; exact ⟨o, u', hu⟩
theorem Ext.less {W W' F F' : Hp} (h : Same W W') (x : Ext W' F F') : Ext W F F' := ⟨x.same, fun b e => x.off b (Same.ne h e)⟩
/-- one's own thing is frozen -/
def frzAt (F H : Hp) (a : Addr) : Hp := fun b => if b = a then H a else F b
theorem frzAt_same {a : Addr} : frzAt F H a a = H a := if_pos rfl
theorem frzAt_ne {a b : Addr} (h : b ≠ a) : frzAt F H a b = F b := if_neg h
theorem frzAt_ext {a : Addr} (hw : W a = none) (hf : F a = none) : Ext W F (frzAt F H a) where
  same := fun b o e => by
    rw [frzAt_ne (ne_of_none e hf)]; exact e
  off := fun b e => by
    refine frzAt_ne fun z => ?_
    subst z; exact e hw
theorem frzAt_le {a : Addr} (h : Le F H) : Le (frzAt F H a) H := fun b o e => by
  by_cases hb : b = a
  · subst hb; rw [frzAt_same] at e; exact .inl e
  · rw [frzAt_ne hb] at e; exact h b o e
theorem OwnO.rp {a : Addr} (q : OwnO K F (H a) d) (h : Same F (frzAt F H a)) : Rp K (frzAt F H a) (.ref a) d := by
  unfold OwnO at q
  split at q
  · rename_i xs ds e
    exact .lst (by rw [frzAt_same]; exact e) (q.mono (Le.of h))
  · rename_i kvs es e
    exact .dic (.inl (by rw [frzAt_same]; exact e)) (q.mono (Le.of h))
  · exact q.elim
/-- freezing a thing that no other cell holds -/
theorem Rel.frzAt (R : Rel K P W F H σ ρ) {a : Addr} (hw : W a = Option.none) (hf : F a = Option.none)
    (hn : ∀ (i : Nat) (c : Cell), ρ[i]? = some (some c) → c.owned = true → σ[i]? ≠ some (some (.ref a))) : Rel K P W (frzAt F H a) H σ ρ where
  fh := frzAt_le R.fh
  wh := R.wh
  len := R.len
  cell := fun i c e => by
    obtain ⟨v, hv, hc⟩ := R.cell i c e
    refine ⟨v, hv, ?_⟩
    have sm := (frzAt_ext (H := H) hw hf).same
    cases c with
    | val d => exact Rp.mono (Le.of sm) hc
    | own d =>
      obtain ⟨b, eb, hwb, hfb, q⟩ := hc
      have hne : b ≠ a := fun z => hn i _ e rfl (by rw [hv, eb, z])
      exact ⟨b, eb, hwb, by rw [frzAt_ne hne]; exact hfb, q.mono (Le.of sm)⟩
    | byr d =>
      obtain ⟨b, eb, hwb, hfb, q⟩ := hc
      have hne : b ≠ a := fun z => hn i _ e rfl (by rw [hv, eb, z])
      exact ⟨b, eb, hwb, by rw [frzAt_ne hne]; exact hfb, q.mono (Le.of sm)⟩
    | scr ds => obtain ⟨a, xs, ea, s, r⟩ := hc; exact ⟨a, xs, ea, (Le.of sm).sql s, r.mono (Le.of sm)⟩
  inj := R.inj
  pin := R.pin
  dis := fun b e => (R.dis b e).imp (fun z => (frzAt_ne (fun z => e (by rw [z]; exact hw))).trans z) id
theorem set_get {i j : Nat} {c : Option Cell} {e : Cell} (h : (ρ.set i c)[j]? = some (some e)) : (j = i ∧ c = some e) ∨ (j ≠ i ∧ ρ[j]? = some (some e)) := by
  by_cases hj : j = i
  · subst hj
    left
    refine ⟨rfl, ?_⟩
    rw [List.getElem?_set_self'] at h
    cases q : ρ[j]? with
    | none => rw [q] at h; cases h
    | some z => rw [q] at h; simpa using h
  · right
    refine ⟨hj, ?_⟩
    rw [List.getElem?_set_ne (fun z => hj z.symm)] at h
    exact h
theorem Rel.settle (R : Rel K P W F H σ ρ) (h : RvOk K W F H σ ρ r v) : ∃ F', Ext W F F' ∧ Rel K P W F' H σ ρ ∧ RvOk K W F' H σ ρ (settle r) v := by
  cases r with
  | val d => exact ⟨F, Ext.refl _ _, R, h⟩
  | «at» i => exact ⟨F, Ext.refl _ _, R, h⟩
  | fr d =>
    obtain ⟨⟨a, ea, hw, hf, q⟩, hn⟩ := h
    subst ea
    exact ⟨_, frzAt_ext hw hf, R.frzAt hw hf hn, q.rp (frzAt_ext hw hf).same⟩
/-- one's own cell becomes a value -/
theorem Rel.cellFrz (R : Rel K P W F H σ ρ) {i : Nat} (hc : ρ[i]? = some (some (.own d))) (hv : σ[i]? = some (some v)) :
    ∃ F', Ext W F F' ∧ Rel K P W F' H σ (ρ.set i (some (.val d))) ∧ Rp K F' v d := by
  obtain ⟨u, hu, a, ea, hw, hf, q⟩ := R.cell i _ hc
  rw [hv] at hu; cases hu
  subst ea
  have sm := (frzAt_ext (H := H) hw hf).same
  have rp : Rp K (Pv.frzAt F H a) (.ref a) d := q.rp sm
  refine ⟨Pv.frzAt F H a, frzAt_ext hw hf, ?_, rp⟩
  constructor
  · exact frzAt_le R.fh
  · exact R.wh
  · rw [List.length_set]; exact R.len
  · intro j c e
    rcases set_get e with ⟨rfl, z⟩ | ⟨hj, z⟩
    · cases z; exact ⟨_, hv, rp⟩
    · obtain ⟨w, hw', hk⟩ := R.cell j c z
      refine ⟨w, hw', ?_⟩
      cases c with
      | val d => exact Rp.mono (Le.of sm) hk
      | own d =>
        obtain ⟨b, eb, hwb, hfb, qb⟩ := hk
        have hne : b ≠ a := fun y => R.inj i j _ _ a (fun y => hj y.symm) hc z rfl rfl hv (by rw [hw', eb, y])
        exact ⟨b, eb, hwb, by rw [frzAt_ne hne]; exact hfb, qb.mono (Le.of sm)⟩
      | byr d =>
        obtain ⟨b, eb, hwb, hfb, qb⟩ := hk
        have hne : b ≠ a := fun y => R.inj i j _ _ a (fun y => hj y.symm) hc z rfl rfl hv (by rw [hw', eb, y])
        exact ⟨b, eb, hwb, by rw [frzAt_ne hne]; exact hfb, qb.mono (Le.of sm)⟩
      | scr ds => obtain ⟨b, xs, eb, s, r⟩ := hk; exact ⟨b, xs, eb, (Le.of sm).sql s, r.mono (Le.of sm)⟩
  · intro j k c e b hjk h1 h2 o1 o2 s1 s2
    rcases set_get h1 with ⟨rfl, z⟩ | ⟨hj, z⟩
    · cases z; cases o1
    · rcases set_get h2 with ⟨rfl, z2⟩ | ⟨hk, z2⟩
      · cases z2; cases o2
      · exact R.inj j k c e b hjk z z2 o1 o2 s1 s2
  · intro p hp
    obtain ⟨h1, d', h2⟩ := R.pin p hp
    refine ⟨h1, d', ?_⟩
    have : p.1 ≠ i := fun z => by rw [z, hc] at h2; cases h2
    rw [List.getElem?_set_ne (fun z => this z.symm)]; exact h2
  · exact fun b e => (R.dis b e).imp (fun z => (frzAt_ne (fun z => e (by rw [z]; exact hw))).trans z) id
theorem Rel.frz (R : Rel K P W F H σ ρ) (h : RvOk K W F H σ ρ r v) (e : frz ρ r = some (d, ρ')) : ∃ F', Ext W F F' ∧ Rel K P W F' H σ ρ' ∧ Rp K F' v d := by
  cases r with
  | val z => cases e; exact ⟨F, Ext.refl _ _, R, h⟩
  | fr z =>
    cases e
    obtain ⟨⟨a, ea, hw, hf, q⟩, hn⟩ := h
    subst ea
    exact ⟨_, frzAt_ext hw hf, R.frzAt hw hf hn, q.rp (frzAt_ext hw hf).same⟩
  | «at» i =>
    unfold Pv.frz at e
    simp only at e
    split at e
    · rename_i z hc
      cases e
      obtain ⟨u, hu, hk⟩ := R.cell i _ hc
      have : σ[i]? = some (some v) := h
      rw [this] at hu; cases hu
      exact ⟨F, Ext.refl _ _, R, hk⟩
    · rename_i z hc
      cases e
      exact R.cellFrz hc h
    · cases e
end
end Pv
end
section
set_option Elab.async false
set_option linter.all false
set_option maxRecDepth 100000
set_option maxHeartbeats 1000000
/-! PvB: expressions over plain data: judgements and their combinators. -/
namespace Pv
open PySem PySem.Spec PyProof.Rows L2

/-! ### what an operation hands back -/
def Post (K : Fr') (F H : Hp) (Q : VK) : D × Bool → Prop
  | (z, false) => ∀ v F' H', Grow F H F' H' → Rp K F' v z → Q v H'
  | (z, true) => ∀ p F' H', Grow F H F' H' → H p = none → F' p = none → OwnO K F' (H' p) z → Q (.ref p) H'
def mkR : D × Bool → Rv
  | (z, false) => .val z
  | (z, true) => .fr z
section
variable {K : Fr'} {P : List (Nat × Addr)} {W F H F' H' : Hp} {σ : St} {ρ ρ' : Ro} {v : V} {d : D} {r : Rv} {c : Cell} {Q : VK} {zb : D × Bool}
theorem post_of (R : Rel K P W F H σ ρ) (q : ∀ v H' F', Ext W F F' → Rel K P W F' H' σ ρ → RvOk K W F' H' σ ρ (mkR zb) v → Q v H') : Post K F H Q zb := by
  obtain ⟨z, b⟩ := zb
  cases b with
  | false => exact fun v F' H' g rp => q v H' F' (g.ext R.wh) (R.grow g) rp
  | true =>
    intro p F' H' g hp hf o
    refine q _ H' F' (g.ext R.wh) (R.grow g) ⟨⟨p, rfl, ?_, hf, o⟩, fun i c e ow es => ?_⟩
    · cases e : W p with
      | none => rfl
      | some u => have := R.wh p u e; rw [hp] at this; cases this
    · obtain ⟨v', hv, hk⟩ := R.cell i c e
      rw [es] at hv
      cases hv
      have : ∃ a, V.ref p = .ref a ∧ ∃ u, H a = some u := by
        cases c with
        | val d => cases ow
        | own d => obtain ⟨a, ea, _, _, o⟩ := hk; exact ⟨a, ea, o.mut.2⟩
        | byr d => obtain ⟨a, ea, _, _, o⟩ := hk; exact ⟨a, ea, o.mut.2⟩
        | scr ds => cases ow
      obtain ⟨a, ea, u, hu⟩ := this
      cases ea
      rw [hp] at hu; cases hu
theorem Post.old (h : Le F H) (rp : Rp K F v d) (q : Post K F H Q (d, false)) : Q v H := q v F H (Grow.refl h) rp
theorem Post.lk (h : Le F H) (hd : Mut (H' 0) → True) (rp : Rp K F v d) (q : Post K F H Q (d, false)) : Q v H := q.old h rp
theorem Grow.both (h : Le F H) {p : Addr} (hp : H p = none) (o : HO) : Grow F H (upd F p o) (upd H p o) where
  hs := fun b u e => by rw [upd_ne (ne_of_none e hp)]; exact e
  fs := fun b u e => by rw [upd_ne (ne_of_none e (h.none hp))]; exact e
  off := fun b e => upd_ne fun z => e (by rw [z]; exact hp)
  le := fun b u e => by
    by_cases hb : b = p
    · subst hb; rw [upd_same] at e ⊢; exact .inl e
    · rw [upd_ne hb] at e ⊢; exact h b u e
theorem Grow.heap (h : Le F H) {p : Addr} (hp : H p = none) (o : HO) : Grow F H F (upd H p o) where
  hs := fun b u e => by rw [upd_ne (ne_of_none e hp)]; exact e
  fs := Same.refl F
  off := fun b e => rfl
  le := h.post fun b u e => by rw [upd_ne (ne_of_none e hp)]; exact e
theorem Post.tup {xs : List V} {ds : List D} (h : Le F H) (r : RpA K F xs ds) (q : Post K F H Q (.tuple ds, false)) : ∀ p, H p = none → Q (.ref p) (upd H p (.tup xs)) := fun p hp =>
  q _ _ _ (Grow.both h hp _) (.tup (.inl (.inl upd_same)) (r.mono (Le.of (Grow.both h hp _).fs)))
theorem Post.lst {xs : List V} {ds : List D} (h : Le F H) (r : RpA K F xs ds) (q : Post K F H Q (.list ds, true)) : ∀ p, H p = none → Q (.ref p) (upd H p (.lst xs)) := fun p hp =>
  q _ _ _ (Grow.heap h hp _) hp (h.none hp) (by rw [upd_same]; exact r)
theorem Post.dct {xs : List (Key × V)} {es : List (D × D)} (h : Le F H) (r : RpD K F xs es) (q : Post K F H Q (.dict es, true)) : ∀ p, H p = none → Q (.ref p) (upd H p (.dK xs)) := fun p hp =>
  q _ _ _ (Grow.heap h hp _) hp (h.none hp) (by rw [upd_same]; exact r)
end

/-! ### judgements -/
abbrev SemE := Ro → Option (Rv × Ro)
abbrev SemC := Ro → Option (D × Ro)
abbrev SemT := Ro → Option (Bool × Ro)
abbrev SemA := Ro → Option (List D × Ro)
abbrev SemP := Ro → Option (List Rv × Ro)
def RvsOk (K : Fr') (W F H : Hp) (σ : St) (ρ : Ro) : List Rv → List V → Prop := Paired (fun r v => RvOk K W F H σ ρ r v)

def tD (K : Fr') (f : SemE) : TE := fun σ H Q => ∃ P W F ρ r ρ', Rel K P W F H σ ρ ∧ f ρ = some (r, ρ') ∧ ∀ v H' F', Ext W F F' → Rel K P W F' H' σ ρ' → RvOk K W F' H' σ ρ' r v → Q v H'
def tDT (K : Fr') (f : SemT) : TT := fun σ H Q => ∃ P W F ρ b ρ', Rel K P W F H σ ρ ∧ f ρ = some (b, ρ') ∧ ∀ H' F', Ext W F F' → Rel K P W F' H' σ ρ' → Q b H'
/-- arguments, all frozen -/
def tDA (K : Fr') (f : SemA) : TA := fun σ H Q => ∃ P W F ρ ds ρ', Rel K P W F H σ ρ ∧ f ρ = some (ds, ρ') ∧ ∀ vs H' F', Ext W F F' → Rel K P W F' H' σ ρ' → RpA K F' vs ds → Q vs H'
/-- arguments, looked at -/
def tDP (K : Fr') (f : SemP) : TA := fun σ H Q => ∃ P W F ρ rs ρ', Rel K P W F H σ ρ ∧ f ρ = some (rs, ρ') ∧ ∀ vs H' F', Ext W F F' → Rel K P W F' H' σ ρ' → Paired (fun v r => ∀ d, look ρ' r = some d → Lk K F' H' v d) vs rs → Q vs H'

structure DE (X : Cx) (e : Expr) (f : SemE) : Prop where
  pe : PE X e (tD X.K f)
structure DT (X : Cx) (e : Expr) (f : SemT) : Prop where
  pt : PT X e (tDT X.K f)
structure DA (X : Cx) (es : List Expr) (f : SemA) : Prop where
  pa : PA X es (tDA X.K f)
structure DP (X : Cx) (es : List Expr) (f : SemP) : Prop where
  pa : PA X es (tDP X.K f)
theorem _root_.L2.PE.pvi {X : Cx} {e : Expr} {t t' : TE} (h : PE X e t) (i : ∀ σ H Q, t' σ H Q → t σ H Q) : PE X e t' := ⟨fun pins s σ H Q I q => h.run pins s σ H Q I (i σ H Q q)⟩
theorem _root_.L2.PT.pvi {X : Cx} {e : Expr} {t t' : TT} (h : PT X e t) (i : ∀ σ H Q, t' σ H Q → t σ H Q) : PT X e t' := ⟨fun pins s σ H Q I q => h.run pins s σ H Q I (i σ H Q q)⟩
theorem _root_.L2.PA.pvi {X : Cx} {e : List Expr} {t t' : TA} (h : PA X e t) (i : ∀ σ H Q, t' σ H Q → t σ H Q) : PA X e t' := ⟨fun pos pins s σ H Q I q => h.run pos pins s σ H Q I (i σ H Q q)⟩
theorem _root_.L2.PW.pvi {X : Cx} {e : Expr} {t t' : TT} (h : PW X e t) (i : ∀ σ H Q, t' σ H Q → t σ H Q) : PW X e t' := ⟨fun whole pins s σ H Q I q => h.run whole pins s σ H Q I (i σ H Q q)⟩

/-! ### names, constants -/
def sVar (i : Nat) : SemE := fun ρ => match ρ[i]? with
  | some (some (.val d)) => some (.val d, ρ)
  | some (some (.own _)) => some (.at i, ρ)
  | some (some (.byr _)) => some (.at i, ρ)
  | _ => none
def sC (d : D) : SemE := fun ρ => some (.val d, ρ)
section
variable {X : Cx}
theorem de_var {i : Nat} {x : Str} {pos : Pos} (h : PE X (.Name x pos) (tVar i)) : DE X (.Name x pos) (sVar i) := by
  refine ⟨h.pvi fun σ H Q q => ?_⟩
  obtain ⟨P, W, F, ρ, r, ρ', R, e, q⟩ := q
  unfold sVar at e
  split at e
  · rename_i d hc
    cases e
    obtain ⟨v, hv, hk⟩ := R.cell i _ hc
    exact ⟨v, hv, q v H F (Ext.refl _ _) R hk⟩
  · rename_i c hc
    cases e
    obtain ⟨v, hv, hk⟩ := R.cell i _ hc
    exact ⟨v, hv, q v H F (Ext.refl _ _) R hv⟩
  · rename_i c hc
    cases e
    obtain ⟨v, hv, hk⟩ := R.cell i _ hc
    exact ⟨v, hv, q v H F (Ext.refl _ _) R hv⟩
  · cases e
/-- a constant, v of the datum d everywhere -/
theorem de_c {e : Expr} {v : V} {d : D} (h : PE X e (tC v)) (k : ∀ F : Hp, Rp X.K F v d) : DE X e (sC d) := by
  refine ⟨h.pvi fun σ H Q q => ?_⟩
  obtain ⟨P, W, F, ρ, r, ρ', R, e, q⟩ := q
  cases e
  exact q v H F (Ext.refl _ _) R (k F)
theorem de_int {i : Int} {j pos} : DE X (.Constant (.int i) j pos) (sC (.int i)) := de_c pe_int fun _ => .int i
theorem de_str {i : Str} {j pos} : DE X (.Constant (.str i) j pos) (sC (.str i)) := de_c pe_str fun _ => .str i
theorem de_bool {i : Bool} {j pos} : DE X (.Constant (.bool i) j pos) (sC (.bool i)) := de_c pe_bl fun _ => .bl i
theorem de_none {j pos} : DE X (.Constant .none j pos) (sC .none) := de_c pe_non fun _ => .non

/-! ### arguments -/
def sNil : SemA := fun ρ => some ([], ρ)
def sCons (f : SemE) (g : SemA) : SemA := fun ρ => (f ρ).bind fun (r, ρ1) => (frz ρ1 r).bind fun (d, ρ2) => (g ρ2).bind fun (ds, ρ3) => some (d :: ds, ρ3)
theorem da_nil : DA X [] sNil := by
  refine ⟨pa_nil.pvi fun σ H Q q => ?_⟩
  obtain ⟨P, W, F, ρ, r, ρ', R, e, q⟩ := q
  cases e
  exact q [] H F (Ext.refl _ _) R .nil
theorem da_cons {e : Expr} {es : List Expr} {f : SemE} {g : SemA} (a : DE X e f) (b : DA X es g) (hs : starEach (e :: es) X.env = (false, eval e X.env) :: starEach es X.env := by rfl) : DA X (e :: es) (sCons f g) := by
  refine ⟨(pa_cons a.pe b.pa hs).pvi fun σ H Q q => ?_⟩
  obtain ⟨P, W, F, ρ, ds, ρ', R, e, q⟩ := q
  simp only [sCons, Option.bind_eq_some_iff, Prod.exists] at e
  obtain ⟨r, ρ1, e1, d, ρ2, e2, ds', ρ3, e3, e4⟩ := e
  cases e4
  refine ⟨P, W, F, ρ, r, ρ1, R, e1, fun v H1 F1 x1 R1 o1 => ?_⟩
  obtain ⟨F2, x2, R2, rp⟩ := R1.frz o1 e2
  refine ⟨P, W, F2, ρ2, ds', ρ', R2, e3, fun vs H3 F3 x3 R3 rs => ?_⟩
  exact q _ H3 F3 ((x1.trans x2).trans x3) R3 (.cons (rp.mono (Le.of x3.same)) rs)
def pNil : SemP := fun ρ => some ([], ρ)
def pCons (f : SemE) (g : SemP) : SemP := fun ρ => (f ρ).bind fun (r, ρ1) => (g ρ1).bind fun (ds, ρ3) => some (settle r :: ds, ρ3)
theorem dp_nil : DP X [] pNil := by
  refine ⟨pa_nil.pvi fun σ H Q q => ?_⟩
  obtain ⟨P, W, F, ρ, r, ρ', R, e, q⟩ := q
  cases e
  exact q [] H F (Ext.refl _ _) R .nil
theorem lk_later {K : Fr'} {P : List (Nat × Addr)} {W F H F' H' : Hp} {σ : St} {ρ ρ' : Ro} {v : V} {r : Rv} (h : RvOk K W F H σ ρ (settle r) v) (x : Same F F') (R : Rel K P W F' H' σ ρ') : ∀ d, look ρ' (settle r) = some d → Lk K F' H' v d := by
  intro d e
  refine R.lk ?_ e
  cases r with
  | val z => exact Rp.mono (Le.of x) h
  | fr z => exact Rp.mono (Le.of x) h
  | «at» i => exact h
theorem dp_cons {e : Expr} {es : List Expr} {f : SemE} {g : SemP} (a : DE X e f) (b : DP X es g) (hs : starEach (e :: es) X.env = (false, eval e X.env) :: starEach es X.env := by rfl) : DP X (e :: es) (pCons f g) := by
  refine ⟨(pa_cons a.pe b.pa hs).pvi fun σ H Q q => ?_⟩
  obtain ⟨P, W, F, ρ, ds, ρ', R, e, q⟩ := q
  simp only [pCons, Option.bind_eq_some_iff, Prod.exists] at e
  obtain ⟨r, ρ1, e1, ds', ρ3, e3, e4⟩ := e
  cases e4
  refine ⟨P, W, F, ρ, r, ρ1, R, e1, fun v H1 F1 x1 R1 o1 => ?_⟩
  obtain ⟨F2, x2, R2, o2⟩ := R1.settle o1
  refine ⟨P, W, F2, ρ1, ds', ρ', R2, e3, fun vs H3 F3 x3 R3 rs => ?_⟩
  exact q _ H3 F3 ((x1.trans x2).trans x3) R3 (.cons (lk_later o2 x3.same R3) rs)

/-! ### tuples and lists written -/
def sTup (f : SemA) : SemE := fun ρ => (f ρ).bind fun (ds, ρ1) => if ds.length ≤ sizeLine then some (.val (.tuple ds), ρ1) else none
def sLst (f : SemA) : SemE := fun ρ => (f ρ).bind fun (ds, ρ1) => if ds.length ≤ sizeLine then some (.fr (.list ds), ρ1) else none
theorem de_tup {es : List Expr} {f : SemA} {x1 pos} (a : DA X es f) : DE X (.Tuple es x1 pos) (sTup f) := by
  refine ⟨(pe_tup a.pa).pvi fun σ H Q q => ?_⟩
  obtain ⟨P, W, F, ρ, r, ρ', R, e, q⟩ := q
  simp only [sTup, Option.bind_eq_some_iff, Prod.exists] at e
  obtain ⟨ds, ρ1, e1, e2⟩ := e
  split at e2
  · cases e2
    refine ⟨P, W, F, ρ, ds, ρ', R, e1, fun vs H1 F1 x1 R1 rs => ⟨by rw [rs.length]; assumption, ?_⟩⟩
    exact Post.tup R1.fh rs (post_of R1 fun v H' F' x2 R2 o => q v H' F' (x1.trans x2) R2 o)
  · cases e2
theorem de_lst {es : List Expr} {f : SemA} {pos} (a : DA X es f) : DE X (.List es pos) (sLst f) := by
  refine ⟨(pe_lst a.pa).pvi fun σ H Q q => ?_⟩
  obtain ⟨P, W, F, ρ, r, ρ', R, e, q⟩ := q
  simp only [sLst, Option.bind_eq_some_iff, Prod.exists] at e
  obtain ⟨ds, ρ1, e1, e2⟩ := e
  split at e2
  · cases e2
    refine ⟨P, W, F, ρ, ds, ρ', R, e1, fun vs H1 F1 x1 R1 rs => ⟨by rw [rs.length]; assumption, ?_⟩⟩
    exact Post.lst R1.fh rs (post_of (zb := (.list ds, true)) R1 fun v H' F' x2 R2 o => q v H' F' (x1.trans x2) R2 o)
  · cases e2

/-! ### operations by values -/
abbrev Op2 := D → D → Option (D × Bool)
abbrev OpN := List D → Option (D × Bool)
def rS (K : Fr') (f : Op2) : R2 := fun x y H Q => ∃ F d e zb, Le F H ∧ Lk K F H x d ∧ Lk K F H y e ∧ f d e = some zb ∧ Post K F H Q zb
def rCS (K : Fr') (f : OpN) : List V → Hp → VK → Prop := fun xs H Q => ∃ F ds zb, Le F H ∧ Paired (Lk K F H) xs ds ∧ f ds = some zb ∧ Post K F H Q zb
def sOp (op : Op2) (f g : SemE) : SemE := fun ρ => (f ρ).bind fun (r1, ρ1) => (g ρ1).bind fun (r2, ρ2) => (look ρ2 (settle r1)).bind fun d => (look ρ2 (settle r2)).bind fun e => (op d e).bind fun zb => some (mkR zb, ρ2)
theorem sOp_ok {K : Fr'} {op : Op2} {f g : SemE} {σ : St} {H : Hp} {Q : VK} (q : tD K (sOp op f g) σ H Q) : tOp (rS K op) (tD K f) (tD K g) σ H Q := by
  obtain ⟨P, W, F, ρ, r, ρ', R, e, q⟩ := q
  simp only [sOp, Option.bind_eq_some_iff, Prod.exists] at e
  obtain ⟨r1, ρ1, e1, r2, ρ2, e2, d, e3, e', e4, z, b, e5, e6⟩ := e
  cases e6
  refine ⟨P, W, F, ρ, r1, ρ1, R, e1, fun v H1 F1 x1 R1 o1 => ?_⟩
  obtain ⟨F2, x2, R2, o2⟩ := R1.settle o1
  refine ⟨P, W, F2, ρ1, r2, ρ', R2, e2, fun u H3 F3 x3 R3 o3 => ?_⟩
  obtain ⟨F4, x4, R4, o4⟩ := R3.settle o3
  refine ⟨F4, d, e', (z, b), R4.fh, lk_later o2 (x3.trans x4).same R4 d e3, R4.lk o4 e4, e5, ?_⟩
  exact post_of R4 fun v H' F' x5 R5 o => q v H' F' ((((x1.trans x2).trans x3).trans x4).trans x5) R5 o
theorem de_op {op : Operator} {o : Op2} {a b : Expr} {f g : SemE} {pos : Pos} (ho : OpR X (binaryOp op) (rS X.K o)) (ha : DE X a f) (hb : DE X b g) : DE X (.BinOp a op b pos) (sOp o f g) :=
  ⟨(pe_op ho ha.pe hb.pe).pvi fun _ _ _ => sOp_ok⟩
theorem de_cmp {op : CmpOp} {o : Op2} {a b : Expr} {f g : SemE} {pos : Pos} (ho : OpR X (compareOp op) (rS X.K o)) (ha : DE X a f) (hb : DE X b g) (hm : behindInMarks op b = false) : DE X (.Compare a [op] [b] pos) (sOp o f g) :=
  ⟨(pe_cmpR ho ha.pe hb.pe hm).pvi fun _ _ _ => sOp_ok⟩
def asB : D → Option Bool
  | .bool b => some b
  | _ => none
def sTest (f : SemE) : SemT := fun ρ => (f ρ).bind fun (r, ρ1) => (look ρ1 r).bind fun d => (asB d).bind fun b => some (b, ρ1)
theorem asB_eq {d : D} {b : Bool} (h : asB d = some b) : d = .bool b := by
  unfold asB at h
  split at h
  · cases h; rfl
  · cases h
theorem sTest_ok {K : Fr'} {f : SemE} {σ : St} {H : Hp} {Q : Bool → Hp → Prop} (q : tDT K (sTest f) σ H Q) : tD K f σ H fun x H' => ∃ k, x = .bl k ∧ Q k H' := by
  obtain ⟨P, W, F, ρ, b, ρ', R, e, q⟩ := q
  simp only [sTest, Option.bind_eq_some_iff, Prod.exists] at e
  obtain ⟨r, ρ1, e1, d, e2, k, e3, e4⟩ := e
  cases e4
  refine ⟨P, W, F, ρ, r, _, R, e1, fun v H1 F1 x1 R1 o1 => ⟨b, ?_, q H1 F1 x1 R1⟩⟩
  have l := R1.lk o1 e2
  rw [asB_eq e3] at l
  exact l.bool
theorem dt_cmp {op : CmpOp} {o : Op2} {a b : Expr} {f g : SemE} {pos : Pos} (ho : OpR X (compareOp op) (rS X.K o)) (ha : DE X a f) (hb : DE X b g) (hm : behindInMarks op b = false) : DT X (.Compare a [op] [b] pos) (sTest (sOp o f g)) := by
  refine ⟨(pt_cmpR ho ha.pe hb.pe hm).pvi fun σ H Q q => ?_⟩
  exact sOp_ok (sTest_ok q)
/-- a chain of two comparisons -/
def sChain (op op' : Op2) (f g h : SemE) : SemE := fun ρ => (f ρ).bind fun (r1, ρ1) => (g ρ1).bind fun (r2, ρ2) => (look ρ2 (settle r1)).bind fun d => (look ρ2 (settle r2)).bind fun e => (op d e).bind fun zb => (asB zb.1).bind fun k => if zb.2 = true then none else if k = true then (h ρ2).bind fun (r3, ρ3) => (look ρ3 (settle r2)).bind fun e' => (look ρ3 (settle r3)).bind fun w => (op' e' w).bind fun zb' => some (mkR zb', ρ3) else some (.val (.bool false), ρ2)
theorem sChain_ok {K : Fr'} {op op' : Op2} {f g h : SemE} {σ : St} {H : Hp} {Q : VK} (q : tD K (sChain op op' f g h) σ H Q) : tChain (rS K op) (rS K op') (tD K f) (tD K g) (tD K h) σ H Q := by
  obtain ⟨P, W, F, ρ, r, ρ', R, e, q⟩ := q
  simp only [sChain, Option.bind_eq_some_iff, Prod.exists] at e
  obtain ⟨r1, ρ1, e1, r2, ρ2, e2, d, e3, e', e4, z, b, e5, k, e6, e7⟩ := e
  cases b with
  | true => simp at e7
  | false =>
    simp only [Bool.false_eq_true, if_false] at e7
    have ez := asB_eq e6
    subst ez
    refine ⟨P, W, F, ρ, r1, ρ1, R, e1, fun v H1 F1 x1 R1 o1 => ?_⟩
    obtain ⟨F2, x2, R2, o2⟩ := R1.settle o1
    refine ⟨P, W, F2, ρ1, r2, ρ2, R2, e2, fun u H3 F3 x3 R3 o3 => ?_⟩
    obtain ⟨F4, x4, R4, o4⟩ := R3.settle o3
    refine ⟨F4, d, e', _, R4.fh, lk_later o2 (x3.trans x4).same R4 d e3, R4.lk o4 e4, e5, ?_⟩
    intro w F5 H5 g5 rp
    have R5 := R4.grow g5
    have x5 := g5.ext R4.wh
    cases rp
    refine ⟨k, rfl, ?_⟩
    have o5 : RvOk K W F5 H5 σ ρ2 (settle r2) u := by
      cases r2 with
      | val z => exact Rp.mono (Le.of x5.same) o4
      | fr z => exact Rp.mono (Le.of x5.same) o4
      | «at» i => exact o4
    cases k with
    | true =>
      simp only [if_true, Option.bind_eq_some_iff, Prod.exists] at e7 ⊢
      obtain ⟨r3, ρ3, e8, e'', e9, w', e10, z2, b2, e11, e12⟩ := e7
      cases e12
      refine ⟨P, W, F5, ρ2, r3, ρ', R5, e8, fun t H6 F6 x6 R6 o6 => ?_⟩
      obtain ⟨F7, x7, R7, o7⟩ := R6.settle o6
      refine ⟨F7, e'', w', (z2, b2), R7.fh, lk_later o5 (x6.trans x7).same R7 e'' e9, R7.lk o7 e10, e11, ?_⟩
      exact post_of R7 fun v H' F' x8 R8 o => q v H' F' (((((((x1.trans x2).trans x3).trans x4).trans x5).trans x6).trans x7).trans x8) R8 o
    | false =>
      simp only [Bool.false_eq_true, if_false] at e7 ⊢
      cases e7
      exact q _ H5 F5 ((((x1.trans x2).trans x3).trans x4).trans x5) R5 (.bl false)
theorem de_chain {op op' : CmpOp} {o o' : Op2} {a b c : Expr} {f g h : SemE} {pos : Pos} (ho : OpR X (compareOp op) (rS X.K o)) (ho' : OpR X (compareOp op') (rS X.K o')) (ha : DE X a f) (hb : DE X b g) (hc : DE X c h)
    (hm : lastMarks [op, op'] [b, c] = false := by with_unfolding_all rfl) : DE X (.Compare a [op, op'] [b, c] pos) (sChain o o' f g h) :=
  ⟨(pe_chain ho ho' ha.pe hb.pe hc.pe hm).pvi fun _ _ _ => sChain_ok⟩
theorem dt_chain {op op' : CmpOp} {o o' : Op2} {a b c : Expr} {f g h : SemE} {pos : Pos} (ho : OpR X (compareOp op) (rS X.K o)) (ho' : OpR X (compareOp op') (rS X.K o')) (ha : DE X a f) (hb : DE X b g) (hc : DE X c h)
    (hm : lastMarks [op, op'] [b, c] = false := by with_unfolding_all rfl) : DT X (.Compare a [op, op'] [b, c] pos) (sTest (sChain o o' f g h)) :=
  ⟨(pt_chain ho ho' ha.pe hb.pe hc.pe hm).pvi fun _ _ _ q => sChain_ok (sTest_ok q)⟩

/-! ### truth, and, or, not, if .. else -/
def truth : D → Option Bool
  | .none => some false
  | .bool b => some b
  | .int i => some (i != 0)
  | .str x => if x.length ≤ sizeLine then some ((x.length : Int) != 0) else none
  | .list ds => some (!ds.isEmpty)
  | .tuple ds => some (!ds.isEmpty)
  | .dict _ => none
def sTruth (f : SemE) : SemT := fun ρ => (f ρ).bind fun (r, ρ1) => (look ρ1 r).bind fun d => (truth d).bind fun b => some (b, ρ1)
theorem RpA.isEmpty {K : Fr'} {F : Hp} {vs : List V} {ds : List D} (r : RpA K F vs ds) : vs.isEmpty = ds.isEmpty := by cases r <;> rfl
theorem tru_lk {K : Fr'} {F H : Hp} {v : V} {d : D} {k : Bool} (h : Le F H) (l : Lk K F H v d) (e : truth d = some k) : TruV K v H k := by
  cases d with
  | none => rw [l.none]; cases e; exact rfl
  | bool b => rw [l.bool]; cases e; exact rfl
  | int i => rw [l.int]; cases e; exact rfl
  | str x =>
    rw [l.str]
    unfold truth at e
    simp only at e
    split at e
    · cases e; exact ⟨by assumption, rfl⟩
    · cases e
  | list ds =>
    obtain ⟨a, xs, rfl, s, r⟩ := l.list h
    cases e
    exact .inl ⟨xs, .inl (.inl s), by rw [r.isEmpty]⟩
  | tuple ds =>
    obtain ⟨a, xs, rfl, s, r, _⟩ := l.tuple h
    cases e
    exact .inr (.inl ⟨xs, s, by rw [r.isEmpty]⟩)
  | dict es => cases e
theorem dt_truth {a : Expr} {f : SemE} (ha : DE X a f) (he : ∀ whole, isTrue a X.env whole = (do let v ← whole; standAt a.pos; holding [v] (truthy v)) := by intro _; rfl) : DT X a (sTruth f) := by
  refine ⟨(pt_truth ha.pe he).pvi fun σ H Q q => ?_⟩
  obtain ⟨P, W, F, ρ, b, ρ', R, e, q⟩ := q
  simp only [sTruth, Option.bind_eq_some_iff, Prod.exists] at e
  obtain ⟨r, ρ1, e1, d, e2, k, e3, e4⟩ := e
  cases e4
  exact ⟨P, W, F, ρ, r, _, R, e1, fun v H1 F1 x1 R1 o1 => ⟨b, tru_lk R1.fh (R1.lk o1 e2) e3, q H1 F1 x1 R1⟩⟩
structure DW (X : Cx) (e : Expr) (f : SemT) : Prop where
  pw : PW X e (tDT X.K f)
def sAnd (f g : SemT) : SemT := fun ρ => (f ρ).bind fun (b, ρ1) => if b = true then g ρ1 else some (false, ρ1)
def sOr (f g : SemT) : SemT := fun ρ => (f ρ).bind fun (b, ρ1) => if b = true then some (true, ρ1) else g ρ1
def sNot (f : SemT) : SemT := fun ρ => (f ρ).bind fun (b, ρ1) => some (!b, ρ1)
theorem dw_and1 {a : Expr} {f : SemT} {pos : Pos} (h : DT X a f) : DW X (.BoolOp .And [a] pos) f := ⟨pw_and1 h.pt⟩
theorem dw_or1 {a : Expr} {f : SemT} {pos : Pos} (h : DT X a f) : DW X (.BoolOp .Or [a] pos) f := ⟨pw_or1 h.pt⟩
theorem dw_and {a b : Expr} {rest : List Expr} {f g : SemT} {pos : Pos} (h : DT X a f) (k : DW X (.BoolOp .And (b :: rest) pos) g) : DW X (.BoolOp .And (a :: b :: rest) pos) (sAnd f g) := by
  refine ⟨(pw_and h.pt k.pw).pvi fun σ H Q q => ?_⟩
  obtain ⟨P, W, F, ρ, b, ρ', R, e, q⟩ := q
  simp only [sAnd, Option.bind_eq_some_iff, Prod.exists] at e
  obtain ⟨c, ρ1, e1, e2⟩ := e
  refine ⟨P, W, F, ρ, c, ρ1, R, e1, fun H1 F1 x1 R1 => ?_⟩
  cases c with
  | true =>
    simp only [if_true] at e2 ⊢
    exact ⟨P, W, F1, ρ1, b, ρ', R1, e2, fun H2 F2 x2 R2 => q H2 F2 (x1.trans x2) R2⟩
  | false =>
    simp only [Bool.false_eq_true, if_false] at e2 ⊢
    cases e2
    exact q H1 F1 x1 R1
theorem dw_or {a b : Expr} {rest : List Expr} {f g : SemT} {pos : Pos} (h : DT X a f) (k : DW X (.BoolOp .Or (b :: rest) pos) g) : DW X (.BoolOp .Or (a :: b :: rest) pos) (sOr f g) := by
  refine ⟨(pw_or h.pt k.pw).pvi fun σ H Q q => ?_⟩
  obtain ⟨P, W, F, ρ, b, ρ', R, e, q⟩ := q
  simp only [sOr, Option.bind_eq_some_iff, Prod.exists] at e
  obtain ⟨c, ρ1, e1, e2⟩ := e
  refine ⟨P, W, F, ρ, c, ρ1, R, e1, fun H1 F1 x1 R1 => ?_⟩
  cases c with
  | true =>
    simp only [if_true] at e2 ⊢
    cases e2
    exact q H1 F1 x1 R1
  | false =>
    simp only [Bool.false_eq_true, if_false] at e2 ⊢
    exact ⟨P, W, F1, ρ1, b, ρ', R1, e2, fun H2 F2 x2 R2 => q H2 F2 (x1.trans x2) R2⟩
theorem DW.dt {e : Expr} {f : SemT} (h : DW X e f) : DT X e f := ⟨h.pw.pt⟩
theorem dt_not {a : Expr} {f : SemT} {pos : Pos} (h : DT X a f) : DT X (.UnaryOp .Not a pos) (sNot f) := by
  refine ⟨(pt_not h.pt).pvi fun σ H Q q => ?_⟩
  obtain ⟨P, W, F, ρ, b, ρ', R, e, q⟩ := q
  simp only [sNot, Option.bind_eq_some_iff, Prod.exists] at e
  obtain ⟨c, ρ1, e1, e2⟩ := e
  cases e2
  exact ⟨P, W, F, ρ, c, _, R, e1, q⟩
def sIf (c : SemT) (f g : SemE) : SemE := fun ρ => (c ρ).bind fun (b, ρ1) => if b = true then f ρ1 else g ρ1
theorem de_if {c a b : Expr} {h : SemT} {f g : SemE} {pos : Pos} (hc : DT X c h) (ha : DE X a f) (hb : DE X b g) : DE X (.IfExp c a b pos) (sIf h f g) := by
  refine ⟨(pe_ifExp hc.pt ha.pe hb.pe).pvi fun σ H Q q => ?_⟩
  obtain ⟨P, W, F, ρ, r, ρ', R, e, q⟩ := q
  simp only [sIf, Option.bind_eq_some_iff, Prod.exists] at e
  obtain ⟨b, ρ1, e1, e2⟩ := e
  refine ⟨P, W, F, ρ, b, ρ1, R, e1, fun H1 F1 x1 R1 => ?_⟩
  cases b with
  | true =>
    simp only [if_true] at e2 ⊢
    exact ⟨P, W, F1, ρ1, r, ρ', R1, e2, fun v H2 F2 x2 R2 o => q v H2 F2 (x1.trans x2) R2 o⟩
  | false =>
    simp only [Bool.false_eq_true, if_false] at e2 ⊢
    exact ⟨P, W, F1, ρ1, r, ρ', R1, e2, fun v H2 F2 x2 R2 o => q v H2 F2 (x1.trans x2) R2 o⟩
/-- and, or, not as values: of truth values -/
def sAndV (f g : SemE) : SemE := fun ρ => (sTest f ρ).bind fun (b, ρ1) => if b = true then g ρ1 else some (.val (.bool false), ρ1)
def sOrV (f g : SemE) : SemE := fun ρ => (sTest f ρ).bind fun (b, ρ1) => if b = true then some (.val (.bool true), ρ1) else g ρ1
def sNotV (f : SemE) : SemE := fun ρ => (sTest f ρ).bind fun (b, ρ1) => some (.val (.bool !b), ρ1)
theorem de_one {a : Expr} {op} {f : SemE} {pos : Pos} (h : DE X a f) : DE X (.BoolOp op [a] pos) f := ⟨pe_one h.pe⟩
theorem de_and {a b : Expr} {rest : List Expr} {f g : SemE} {pos : Pos} (h : DE X a f) (k : DE X (.BoolOp .And (b :: rest) pos) g) : DE X (.BoolOp .And (a :: b :: rest) pos) (sAndV f g) := by
  refine ⟨(pe_and h.pe k.pe).pvi fun σ H Q q => ?_⟩
  obtain ⟨P, W, F, ρ, r, ρ', R, e, q⟩ := q
  simp only [sAndV, Option.bind_eq_some_iff, Prod.exists] at e
  obtain ⟨b, ρ1, e1, e2⟩ := e
  refine sTest_ok (K := X.K) (Q := fun c H1 => if c = true then tD X.K g σ H1 Q else Q (.bl false) H1) ⟨P, W, F, ρ, b, ρ1, R, e1, fun H1 F1 x1 R1 => ?_⟩
  cases b with
  | true =>
    simp only [if_true] at e2 ⊢
    exact ⟨P, W, F1, ρ1, r, ρ', R1, e2, fun v H2 F2 x2 R2 o => q v H2 F2 (x1.trans x2) R2 o⟩
  | false =>
    simp only [Bool.false_eq_true, if_false] at e2 ⊢
    cases e2
    exact q _ H1 F1 x1 R1 (.bl false)
theorem de_or {a b : Expr} {rest : List Expr} {f g : SemE} {pos : Pos} (h : DE X a f) (k : DE X (.BoolOp .Or (b :: rest) pos) g) : DE X (.BoolOp .Or (a :: b :: rest) pos) (sOrV f g) := by
  refine ⟨(pe_or h.pe k.pe).pvi fun σ H Q q => ?_⟩
  obtain ⟨P, W, F, ρ, r, ρ', R, e, q⟩ := q
  simp only [sOrV, Option.bind_eq_some_iff, Prod.exists] at e
  obtain ⟨b, ρ1, e1, e2⟩ := e
  refine sTest_ok (K := X.K) (Q := fun c H1 => if c = true then Q (.bl true) H1 else tD X.K g σ H1 Q) ⟨P, W, F, ρ, b, ρ1, R, e1, fun H1 F1 x1 R1 => ?_⟩
  cases b with
  | false =>
    simp only [Bool.false_eq_true, if_false] at e2 ⊢
    exact ⟨P, W, F1, ρ1, r, ρ', R1, e2, fun v H2 F2 x2 R2 o => q v H2 F2 (x1.trans x2) R2 o⟩
  | true =>
    simp only [if_true] at e2 ⊢
    cases e2
    exact q _ H1 F1 x1 R1 (.bl true)
theorem de_not {a : Expr} {f : SemE} {pos : Pos} (h : DE X a f) : DE X (.UnaryOp .Not a pos) (sNotV f) := by
  refine ⟨(pe_not h.pe).pvi fun σ H Q q => ?_⟩
  obtain ⟨P, W, F, ρ, r, ρ', R, e, q⟩ := q
  simp only [sNotV, Option.bind_eq_some_iff, Prod.exists] at e
  obtain ⟨b, ρ1, e1, e2⟩ := e
  cases e2
  exact sTest_ok (K := X.K) (Q := fun c H1 => Q (.bl (!c)) H1) ⟨P, W, F, ρ, b, _, R, e1, fun H1 F1 x1 R1 => q _ H1 F1 x1 R1 (.bl _)⟩

/-! ### subscripts, slices -/
theorem de_ix {o : Op2} {a b : Expr} {f g : SemE} {pos : Pos} (hr : IxR X (rS X.K o)) (ha : DE X a f) (hb : DE X b g) (hs : PlainIx b := by intro _ _; rfl) : DE X (.Subscript a b pos) (sOp o f g) :=
  ⟨(pe_ix hr ha.pe hb.pe hs).pvi fun _ _ _ => sOp_ok⟩
structure DO (X : Cx) (e : Option Expr) (f : Ro → Option (Option Int × Ro)) : Prop where
  po : PO X e fun σ H Q => ∃ P W F ρ b ρ', Rel X.K P W F H σ ρ ∧ f ρ = some (b, ρ') ∧ ∀ H' F', Ext W F F' → Rel X.K P W F' H' σ ρ' → Q b H'
def asI : D → Option Int
  | .int i => some i
  | _ => none
theorem asI_eq {d : D} {b : Int} (h : asI d = some b) : d = .int b := by
  unfold asI at h
  split at h
  · cases h; rfl
  · cases h
def oNone : Ro → Option (Option Int × Ro) := fun ρ => some (none, ρ)
def oSome (f : SemE) : Ro → Option (Option Int × Ro) := fun ρ => (f ρ).bind fun (r, ρ1) => (look ρ1 r).bind fun d => (asI d).bind fun i => some (some i, ρ1)
theorem do_none : DO X none oNone := by
  refine ⟨⟨fun pins s σ H Q I q => po_none.run pins s σ H Q I ?_⟩⟩
  obtain ⟨P, W, F, ρ, r, ρ', R, e, q⟩ := q
  cases e
  exact q H F (Ext.refl _ _) R
theorem do_some {e : Expr} {f : SemE} (h : DE X e f) : DO X (some e) (oSome f) := by
  refine ⟨⟨fun pins s σ H Q I q => (po_some h.pe).run pins s σ H Q I ?_⟩⟩
  obtain ⟨P, W, F, ρ, b, ρ', R, e, q⟩ := q
  simp only [oSome, Option.bind_eq_some_iff, Prod.exists] at e
  obtain ⟨r, ρ1, e1, d, e2, i, e3, e4⟩ := e
  cases e4
  refine ⟨P, W, F, ρ, r, _, R, e1, fun v H1 F1 x1 R1 o1 => ⟨i, ?_, q H1 F1 x1 R1⟩⟩
  have l := R1.lk o1 e2
  rw [asI_eq e3] at l
  exact l.int
def rSl (K : Fr') (f : D → Option Int → Option Int → Option (D × Bool)) : V → Option Int → Option Int → Hp → VK → Prop := fun x lo hi H Q => ∃ F d zb, Le F H ∧ Lk K F H x d ∧ f d lo hi = some zb ∧ Post K F H Q zb
def sSl (o : D → Option Int → Option Int → Option (D × Bool)) (f : SemE) (l h : Ro → Option (Option Int × Ro)) : SemE := fun ρ => (f ρ).bind fun (r, ρ1) => (l ρ1).bind fun (lo, ρ2) => (h ρ2).bind fun (hi, ρ3) => (look ρ3 (settle r)).bind fun d => (o d lo hi).bind fun zb => some (mkR zb, ρ3)
theorem de_slice {o : D → Option Int → Option Int → Option (D × Bool)} {a : Expr} {lo hi : Option Expr} {f : SemE} {l h : Ro → Option (Option Int × Ro)} {p2 pos : Pos} (hr : SlR X (rSl X.K o)) (ha : DE X a f) (hl : DO X lo l) (hh : DO X hi h) : DE X (.Subscript a (.Slice lo hi none p2) pos) (sSl o f l h) := by
  refine ⟨(pe_slice hr ha.pe hl.po hh.po).pvi fun σ H Q q => ?_⟩
  obtain ⟨P, W, F, ρ, r, ρ', R, e, q⟩ := q
  simp only [sSl, Option.bind_eq_some_iff, Prod.exists] at e
  obtain ⟨r1, ρ1, e1, lo, ρ2, e2, hi, ρ3, e3, d, e4, z, b, e5, e6⟩ := e
  cases e6
  refine ⟨P, W, F, ρ, r1, ρ1, R, e1, fun v H1 F1 x1 R1 o1 => ?_⟩
  obtain ⟨F2, x2, R2, o2⟩ := R1.settle o1
  refine ⟨P, W, F2, ρ1, lo, ρ2, R2, e2, fun H3 F3 x3 R3 => ?_⟩
  refine ⟨P, W, F3, ρ2, hi, ρ', R3, e3, fun H4 F4 x4 R4 => ?_⟩
  refine ⟨F4, d, (z, b), R4.fh, lk_later o2 (x3.trans x4).same R4 d e4, e5, ?_⟩
  exact post_of R4 fun v H' F' x5 R5 o => q v H' F' ((((x1.trans x2).trans x3).trans x4).trans x5) R5 o

/-! ### built-ins called by name -/
def looks (ρ : Ro) : List Rv → Option (List D)
  | [] => some []
  | r :: rs => (look ρ r).bind fun d => (looks ρ rs).bind fun ds => some (d :: ds)
theorem looks_ok {K : Fr'} {F H : Hp} {ρ : Ro} : ∀ {rs : List Rv} {vs : List V} {ds : List D}, Paired (fun v r => ∀ d, look ρ r = some d → Lk K F H v d) vs rs → looks ρ rs = some ds → Paired (Lk K F H) vs ds
  | _, _, _, .nil, e => by cases e; exact .nil
  | _, _, _, .cons r t, e => by
    simp only [looks, Option.bind_eq_some_iff] at e
    obtain ⟨d, e1, ds, e2, e3⟩ := e
    cases e3
    exact .cons (r d e1) (looks_ok t e2)
def sCB (o : OpN) (f : SemP) : SemE := fun ρ => (f ρ).bind fun (rs, ρ1) => (looks ρ1 rs).bind fun ds => (o ds).bind fun zb => some (mkR zb, ρ1)
theorem sCB_ok {K : Fr'} {o : OpN} {f : SemP} {σ : St} {H : Hp} {Q : VK} (q : tD K (sCB o f) σ H Q) : tCB (rCS K o) (tDP K f) σ H Q := by
  obtain ⟨P, W, F, ρ, r, ρ', R, e, q⟩ := q
  simp only [sCB, Option.bind_eq_some_iff, Prod.exists] at e
  obtain ⟨rs, ρ1, e1, ds, e2, z, b, e3, e4⟩ := e
  cases e4
  refine ⟨P, W, F, ρ, rs, _, R, e1, fun vs H1 F1 x1 R1 ls => ?_⟩
  exact ⟨F1, ds, (z, b), R1.fh, looks_ok ls e2, e3, post_of R1 fun v H' F' x2 R2 o => q v H' F' (x1.trans x2) R2 o⟩
theorem de_callB {x : Str} {id : String} {o : OpN} {e : Expr} {es : List Expr} {f : SemP} {p pos : Pos} (hc : CallR X (.builtin id) (rCS X.K o)) (hg : Gl X x) (hm : X.mg x = none) (hv : bootBuiltins x = some (.builtin id)) (ha : DP X (e :: es) f) (hn : x ≠ "__name__" := by decide) (hdb : (x == ("__debug__" : Str)) = false := by decide)
    (he : starEach (e :: es) X.env = (false, eval e X.env) :: starEach es X.env := by rfl) (hpl : (backTo pos (starEach es X.env)).any (·.1) = false := by rfl) : DE X (.Call (.Name x p) (e :: es) [] pos) (sCB o f) :=
  ⟨(pe_callB hc hg hm hv ha.pa hn hdb he hpl).pvi fun _ _ _ => sCB_ok⟩
theorem de_callTy {x : Str} {T : String} {o : OpN} {e : Expr} {es : List Expr} {f : SemP} {p pos : Pos} (hc : CallR X (.type T) (rCS X.K o)) (hg : Gl X x) (hm : X.mg x = none) (hv : bootBuiltins x = some (.type T)) (ha : DP X (e :: es) f) (hn : x ≠ "__name__" := by decide) (hdb : (x == ("__debug__" : Str)) = false := by decide)
    (he : starEach (e :: es) X.env = (false, eval e X.env) :: starEach es X.env := by rfl) (hpl : (backTo pos (starEach es X.env)).any (·.1) = false := by rfl) : DE X (.Call (.Name x p) (e :: es) [] pos) (sCB o f) :=
  ⟨(pe_callTy hc hg hm hv ha.pa hn hdb he hpl).pvi fun _ _ _ => sCB_ok⟩
end
end Pv
end
section
set_option Elab.async false
set_option linter.all false
set_option maxRecDepth 100000
set_option maxHeartbeats 1000000
/-! PvC: statements, loops, what changes one's own lists and dicts. -/
namespace Pv
open PySem PySem.Spec PyProof.Rows L2

inductive Out
  | nx (ρ : Ro)
  | rt (r : Rv) (ρ : Ro)
  | bk (ρ : Ro)
  | ct (ρ : Ro)
abbrev SemS := Ro → Option Out
def OutQ (K : Fr') (P : List (Nat × Addr)) (W F : Hp) (D : Ends) : Out → Prop
  | .nx ρ => ∀ σ H F', Ext W F F' → Rel K P W F' H σ ρ → D.nx σ H
  | .bk ρ => ∀ σ H F', Ext W F F' → Rel K P W F' H σ ρ → D.bk σ H
  | .ct ρ => ∀ σ H F', Ext W F F' → Rel K P W F' H σ ρ → D.ct σ H
  | .rt r ρ => ∀ v σ H F', Ext W F F' → Rel K P W F' H σ ρ → RvOk K W F' H σ ρ r v → D.rt v H
theorem OutQ.ext {K : Fr'} {P : List (Nat × Addr)} {W F F1 : Hp} {D : Ends} {o : Out} (h : OutQ K P W F D o) (x : Ext W F F1) : OutQ K P W F1 D o := by
  cases o with
  | nx ρ => exact fun σ H F' y R => h σ H F' (x.trans y) R
  | bk ρ => exact fun σ H F' y R => h σ H F' (x.trans y) R
  | ct ρ => exact fun σ H F' y R => h σ H F' (x.trans y) R
  | rt r ρ => exact fun v σ H F' y R o => h v σ H F' (x.trans y) R o
def tDS (K : Fr') (f : SemS) : TS := fun D σ H => ∃ P W F ρ o, Rel K P W F H σ ρ ∧ f ρ = some o ∧ OutQ K P W F D o
structure DS (X : Cx) (st : Stmt) (f : SemS) : Prop where
  ps : PS X st (tDS X.K f)
structure DSs (X : Cx) (st : List Stmt) (f : SemS) : Prop where
  ps : PSs X st (tDS X.K f)
theorem _root_.L2.PS.pvi {X : Cx} {e : Stmt} {t t' : TS} (h : PS X e t) (i : ∀ D σ H, t' D σ H → t D σ H) : PS X e t' := ⟨fun pins s σ H D I q => h.run pins s σ H D I (i D σ H q)⟩
theorem _root_.L2.PSs.pvi {X : Cx} {e : List Stmt} {t t' : TS} (h : PSs X e t) (i : ∀ D σ H, t' D σ H → t D σ H) : PSs X e t' := ⟨fun pins s σ H D I q => h.run pins s σ H D I (i D σ H q)⟩

section
variable {X : Cx}
/-! ### blocks -/
def sNx : SemS := fun ρ => some (.nx ρ)
def sStuck : SemS := fun _ => none
def thenS : Out → SemS → Option Out
  | .nx ρ, g => g ρ
  | o, _ => some o
def sSeq (f g : SemS) : SemS := fun ρ => (f ρ).bind fun o => thenS o g
theorem ds_never {st : Stmt} : DS X st sStuck := ⟨ps_never.pvi fun D σ H ⟨_, _, _, _, _, _, e, _⟩ => by cases e⟩
theorem ds_pass {pos : Pos} : DS X (.Pass pos) sNx := ⟨ps_pass.pvi fun D σ H ⟨P, W, F, ρ, o, R, e, q⟩ => by cases e; exact q σ H F (Ext.refl _ _) R⟩
theorem dss_nil : DSs X [] sNx := ⟨pss_nil.pvi fun D σ H ⟨P, W, F, ρ, o, R, e, q⟩ => by cases e; exact q σ H F (Ext.refl _ _) R⟩
theorem dss_one {st : Stmt} {f : SemS} (h : DS X st f) : DSs X [st] f := ⟨pss_one h.ps⟩
theorem dss_cons {st : Stmt} {rest : List Stmt} {f g : SemS} (h : DS X st f) (k : DSs X rest g) : DSs X (st :: rest) (sSeq f g) := by
  refine ⟨(pss_cons h.ps k.ps).pvi fun D σ H q => ?_⟩
  obtain ⟨P, W, F, ρ, o, R, e, q⟩ := q
  simp only [sSeq, Option.bind_eq_some_iff] at e
  obtain ⟨o1, e1, e2⟩ := e
  refine ⟨P, W, F, ρ, o1, R, e1, ?_⟩
  cases o1 with
  | nx ρ1 => exact fun σ1 H1 F1 x1 R1 => ⟨P, W, F1, ρ1, o, R1, e2, q.ext x1⟩
  | bk ρ1 => cases e2; exact q
  | ct ρ1 => cases e2; exact q
  | rt r ρ1 => cases e2; exact q

/-! ### stores to names -/
def slotOk (ρ : Ro) (i : Nat) : Bool := match ρ[i]? with
  | none => false
  | some (some (.byr _)) => false
  | some (some (.scr _)) => false
  | _ => true
def store (i : Nat) (r : Rv) (ρ : Ro) : Option Ro := if slotOk ρ i = true then (match r with
  | .val d => some (ρ.set i (some (.val d)))
  | .fr d => some (ρ.set i (some (.own d)))
  | .at j => (frz ρ (.at j)).bind fun (d, ρ2) => some (ρ2.set i (some (.val d)))) else none
theorem slot_pin {K : Fr'} {P : List (Nat × Addr)} {W F H : Hp} {σ : St} {ρ : Ro} (R : Rel K P W F H σ ρ) {i : Nat} (h : slotOk ρ i = true) : ∀ p ∈ P, p.1 ≠ i := fun p hp z => by
  obtain ⟨_, d, e⟩ := R.pin p hp
  rw [z] at e
  unfold slotOk at h
  rw [e] at h
  cases h
theorem Rel.setVal {K : Fr'} {P : List (Nat × Addr)} {W F H : Hp} {σ : St} {ρ : Ro} {i : Nat} {v : V} {d : D} (R : Rel K P W F H σ ρ) (hp : ∀ p ∈ P, p.1 ≠ i) (rp : Rp K F v d) (hi : i < ρ.length) :
    Rel K P W F H (σ.set i (some v)) (ρ.set i (some (.val d))) where
  fh := R.fh
  wh := R.wh
  len := by rw [List.length_set, List.length_set]; exact R.len
  cell := fun j c e => by
    rcases set_get e with ⟨rfl, z⟩ | ⟨hj, z⟩
    · cases z
      exact ⟨v, by rw [List.getElem?_set_self (by rw [R.len]; exact hi)], rp⟩
    · obtain ⟨w, hw, hk⟩ := R.cell j c z
      exact ⟨w, by rw [List.getElem?_set_ne (fun y => hj y.symm)]; exact hw, hk⟩
  inj := fun j k c e a hjk h1 h2 o1 o2 s1 s2 => by
    rcases set_get h1 with ⟨rfl, z⟩ | ⟨hj, z⟩
    · cases z; cases o1
    · rcases set_get h2 with ⟨rfl, z2⟩ | ⟨hk, z2⟩
      · cases z2; cases o2
      · rw [List.getElem?_set_ne (fun y => hj y.symm)] at s1
        rw [List.getElem?_set_ne (fun y => hk y.symm)] at s2
        exact R.inj j k c e a hjk z z2 o1 o2 s1 s2
  pin := fun p q => by
    obtain ⟨h1, d', h2⟩ := R.pin p q
    refine ⟨by rw [List.getElem?_set_ne (fun y => hp p q y.symm)]; exact h1, d', by rw [List.getElem?_set_ne (fun y => hp p q y.symm)]; exact h2⟩
  dis := R.dis
theorem Rel.setOwn {K : Fr'} {P : List (Nat × Addr)} {W F H : Hp} {σ : St} {ρ : Ro} {i : Nat} {v : V} {d : D} (R : Rel K P W F H σ ρ) (hp : ∀ p ∈ P, p.1 ≠ i) (ho : RvOk K W F H σ ρ (.fr d) v) (hi : i < ρ.length) :
    Rel K P W F H (σ.set i (some v)) (ρ.set i (some (.own d))) where
  fh := R.fh
  wh := R.wh
  len := by rw [List.length_set, List.length_set]; exact R.len
  cell := fun j c e => by
    rcases set_get e with ⟨rfl, z⟩ | ⟨hj, z⟩
    · cases z
      exact ⟨v, by rw [List.getElem?_set_self (by rw [R.len]; exact hi)], ho.1⟩
    · obtain ⟨w, hw, hk⟩ := R.cell j c z
      exact ⟨w, by rw [List.getElem?_set_ne (fun y => hj y.symm)]; exact hw, hk⟩
  inj := fun j k c e a hjk h1 h2 o1 o2 s1 s2 => by
    rcases set_get h1 with ⟨rfl, z⟩ | ⟨hj, z⟩
    · rcases set_get h2 with ⟨rfl, z2⟩ | ⟨hk, z2⟩
      · exact hjk rfl
      · rw [List.getElem?_set_self (by rw [R.len]; exact hi)] at s1
        rw [List.getElem?_set_ne (fun y => hk y.symm)] at s2
        cases s1
        exact ho.2 k e z2 o2 s2
    · rcases set_get h2 with ⟨rfl, z2⟩ | ⟨hk, z2⟩
      · rw [List.getElem?_set_self (by rw [R.len]; exact hi)] at s2
        rw [List.getElem?_set_ne (fun y => hj y.symm)] at s1
        cases s2
        exact ho.2 j c z o1 s1
      · rw [List.getElem?_set_ne (fun y => hj y.symm)] at s1
        rw [List.getElem?_set_ne (fun y => hk y.symm)] at s2
        exact R.inj j k c e a hjk z z2 o1 o2 s1 s2
  pin := fun p q => by
    obtain ⟨h1, d', h2⟩ := R.pin p q
    refine ⟨by rw [List.getElem?_set_ne (fun y => hp p q y.symm)]; exact h1, d', by rw [List.getElem?_set_ne (fun y => hp p q y.symm)]; exact h2⟩
  dis := R.dis
theorem slot_lt {ρ : Ro} {i : Nat} (h : slotOk ρ i = true) : i < ρ.length := by
  unfold slotOk at h
  cases e : ρ[i]? with
  | none => rw [e] at h; cases h
  | some c => exact (List.getElem?_eq_some_iff.mp e).1
theorem frz_len {ρ ρ' : Ro} {r : Rv} {d : D} (e : frz ρ r = some (d, ρ')) : ρ'.length = ρ.length := by
  unfold frz at e
  split at e
  · cases e; rfl
  · cases e; rfl
  · split at e
    · cases e; rfl
    · cases e; rw [List.length_set]
    · cases e
theorem Rel.store {K : Fr'} {P : List (Nat × Addr)} {W F H : Hp} {σ : St} {ρ ρ' : Ro} {i : Nat} {v : V} {r : Rv} (R : Rel K P W F H σ ρ) (ho : RvOk K W F H σ ρ r v) (e : store i r ρ = some ρ') :
    ∃ F', Ext W F F' ∧ Rel K P W F' H (σ.set i (some v)) ρ' := by
  unfold Pv.store at e
  split at e
  · rename_i hs
    have hp := slot_pin R hs
    have hl := slot_lt hs
    cases r with
    | val d => cases e; exact ⟨F, Ext.refl _ _, R.setVal hp ho hl⟩
    | fr d => cases e; exact ⟨F, Ext.refl _ _, R.setOwn hp ho hl⟩
    | «at» j =>
      simp only [Option.bind_eq_some_iff, Prod.exists] at e
      obtain ⟨d, ρ2, e1, e2⟩ := e
      cases e2
      obtain ⟨F', x, R', rp⟩ := R.frz ho e1
      exact ⟨F', x, R'.setVal hp rp (by rw [frz_len e1]; exact hl)⟩
  · cases e
def sSet (i : Nat) (f : SemE) : SemS := fun ρ => (f ρ).bind fun (r, ρ1) => (store i r ρ1).bind fun ρ2 => some (.nx ρ2)
theorem sSet_ok {K : Fr'} {i : Nat} {f : SemE} {D : Ends} {σ : St} {H : Hp} (q : tDS K (sSet i f) D σ H) : tAsg (tD K f) (gName i) D σ H := by
  obtain ⟨P, W, F, ρ, o, R, e, q⟩ := q
  simp only [sSet, Option.bind_eq_some_iff, Prod.exists] at e
  obtain ⟨r, ρ1, e1, ρ2, e2, e3⟩ := e
  cases e3
  refine ⟨P, W, F, ρ, r, ρ1, R, e1, fun v H1 F1 x1 R1 o1 => ?_⟩
  obtain ⟨F2, x2, R2⟩ := R1.store o1 e2
  exact q _ H1 F2 (x1.trans x2) R2
theorem ds_set {i : Nat} {x : Str} {e : Expr} {f : SemE} {pos pos' : Pos} (h : PS X (.Assign [.Name x pos'] e pos) (tAsg (tD X.K f) (gName i))) : DS X (.Assign [.Name x pos'] e pos) (sSet i f) :=
  ⟨h.pvi fun _ _ _ => sSet_ok⟩

/-! ### targets -/
abbrev SemG := D → Ro → Option Ro
abbrev SemGs := List D → Ro → Option Ro
/-- the slots is alone may differ -/
def Off (vs : List Nat) (σ σ' : St) : Prop := σ'.length = σ.length ∧ ∀ j, j ∉ vs → σ'[j]? = σ[j]?
theorem Off.refl (vs : List Nat) (σ : St) : Off vs σ σ := ⟨rfl, fun _ _ => rfl⟩
theorem Off.trans {vs us : List Nat} {σ σ1 σ2 : St} (a : Off vs σ σ1) (b : Off us σ1 σ2) : Off (vs ++ us) σ σ2 :=
  ⟨b.1.trans a.1, fun j h => (b.2 j fun z => h (List.mem_append_right _ z)).trans (a.2 j fun z => h (List.mem_append_left _ z))⟩
def tDG (K : Fr') (vs : List Nat) (g : SemG) : TG := fun v σ H Q => ∃ P W F ρ d ρ', Rel K P W F H σ ρ ∧ Rp K F v d ∧ g d ρ = some ρ' ∧ ∀ σ' H' F', Ext W F F' → Rel K P W F' H' σ' ρ' → Off vs σ σ' → Q σ' H'
def tDGs (K : Fr') (vs : List Nat) (g : SemGs) : TGs := fun us σ H Q => ∃ P W F ρ ds ρ', Rel K P W F H σ ρ ∧ RpA K F us ds ∧ g ds ρ = some ρ' ∧ ∀ σ' H' F', Ext W F F' → Rel K P W F' H' σ' ρ' → Off vs σ σ' → Q σ' H'
structure DG (X : Cx) (e : Expr) (vs : List Nat) (g : SemG) : Prop where
  pg : PG X e (tDG X.K vs g)
structure DGs (X : Cx) (e : List Expr) (vs : List Nat) (g : SemGs) : Prop where
  pg : PGs X e (tDGs X.K vs g)
theorem _root_.L2.PG.pvi {X : Cx} {e : Expr} {t t' : TG} (h : PG X e t) (i : ∀ v σ H Q, t' v σ H Q → t v σ H Q) : PG X e t' := ⟨fun pins s σ H v u Q I r q => h.run pins s σ H v u Q I r (i v σ H Q q)⟩
theorem _root_.L2.PGs.pvi {X : Cx} {e : List Expr} {t t' : TGs} (h : PGs X e t) (i : ∀ v σ H Q, t' v σ H Q → t v σ H Q) : PGs X e t' := ⟨fun pins s σ H v u Q I r q => h.run pins s σ H v u Q I r (i v σ H Q q)⟩
def gN (i : Nat) : SemG := fun d ρ => store i (.val d) ρ
def gsNil : SemGs := fun ds ρ => match ds with
  | [] => some ρ
  | _ => none
def gsCons (g : SemG) (h : SemGs) : SemGs := fun ds ρ => match ds with
  | d :: ds => (g d ρ).bind fun ρ1 => h ds ρ1
  | [] => none
def gT (n : Nat) (g : SemGs) : SemG := fun d ρ => match d with
  | .tuple ds => if ds.length = n then g ds ρ else none
  | _ => none
theorem dg_name {i : Nat} {x : Str} {pos : Pos} (h : PG X (.Name x pos) (gName i)) : DG X (.Name x pos) [i] (gN i) := by
  refine ⟨h.pvi fun v σ H Q q => ?_⟩
  obtain ⟨P, W, F, ρ, d, ρ', R, rp, e, q⟩ := q
  obtain ⟨F2, x2, R2⟩ := R.store (r := .val d) rp e
  exact q _ H F2 x2 R2 ⟨by rw [List.length_set], fun j hj => List.getElem?_set_ne (fun z => hj (by rw [z]; exact List.mem_singleton.mpr rfl))⟩
theorem dgs_nil : DGs X [] [] gsNil := by
  refine ⟨pgs_nil.pvi fun v σ H Q q => ?_⟩
  obtain ⟨P, W, F, ρ, d, ρ', R, rp, e, q⟩ := q
  cases rp with
  | nil => cases e; exact ⟨rfl, q _ H F (Ext.refl _ _) R (Off.refl _ _)⟩
  | cons r t => cases e
theorem dgs_cons {e : Expr} {es : List Expr} {g : SemG} {h : SemGs} {vs us : List Nat} (a : DG X e vs g) (b : DGs X es us h) (hs : (assignEach (e :: es) X.env).map (·.2) = assign e X.env :: (assignEach es X.env).map (·.2) := by rfl) : DGs X (e :: es) (vs ++ us) (gsCons g h) := by
  refine ⟨(pgs_cons a.pg b.pg hs).pvi fun v σ H Q q => ?_⟩
  obtain ⟨P, W, F, ρ, d, ρ', R, rp, e, q⟩ := q
  cases rp with
  | nil => cases e
  | @cons v vs d ds r t =>
    simp only [gsCons, Option.bind_eq_some_iff] at e
    obtain ⟨ρ1, e1, e2⟩ := e
    refine ⟨v, vs, rfl, P, W, F, ρ, d, ρ1, R, r, e1, fun σ1 H1 F1 x1 R1 f1 => ?_⟩
    exact ⟨P, W, F1, ρ1, ds, ρ', R1, t.mono (Le.of x1.same), e2, fun σ2 H2 F2 x2 R2 f2 => q σ2 H2 F2 (x1.trans x2) R2 (f1.trans f2)⟩
theorem dg_tup {es : List Expr} {k n : Nat} {g : SemGs} {vs : List Nat} {pos : Pos} (h : DGs X es vs g) (hc : X.calm = true) (hn : (assignEach es X.env).length = n := by rfl) (hst : (assignEach es X.env).findIdx? (·.1) = none := by rfl) : DG X (.Tuple es k pos) vs (gT n g) := by
  refine ⟨(pg_tup hc h.pg hn hst).pvi fun v σ H Q q => ?_⟩
  obtain ⟨P, W, F, ρ, d, ρ', R, rp, e, q⟩ := q
  unfold gT at e
  split at e
  · rename_i ds
    split at e
    · rename_i hl
      cases rp with
      | tup s r => exact ⟨_, _, rfl, R.fh.sqt s, by rw [r.length]; exact hl, P, W, F, ρ, ds, ρ', R, r, e, q⟩
    · cases e
  · cases e
def sAsg (f : SemE) (g : SemG) : SemS := fun ρ => (f ρ).bind fun (r, ρ1) => (frz ρ1 r).bind fun (d, ρ2) => (g d ρ2).bind fun ρ3 => some (.nx ρ3)
theorem ds_asg {tg e : Expr} {f : SemE} {g : SemG} {vs : List Nat} {pos : Pos} (he : DE X e f) (hg : DG X tg vs g) (hs : swapsWithSole [tg] e pos.line X.env = pure false := by rfl) (hw : swappedStores [tg] e X.env = pure none := by rfl)
    (h1 : (assignEach [tg] X.env).map (·.2) = [assign tg X.env] := by rfl) : DS X (.Assign [tg] e pos) (sAsg f g) := by
  refine ⟨(ps_asg he.pe hg.pg hs hw h1).pvi fun D σ H q => ?_⟩
  obtain ⟨P, W, F, ρ, o, R, e, q⟩ := q
  simp only [sAsg, Option.bind_eq_some_iff, Prod.exists] at e
  obtain ⟨r, ρ1, e1, d, ρ2, e2, ρ3, e3, e4⟩ := e
  cases e4
  refine ⟨P, W, F, ρ, r, ρ1, R, e1, fun v H1 F1 x1 R1 o1 => ?_⟩
  obtain ⟨F2, x2, R2, rp⟩ := R1.frz o1 e2
  exact ⟨P, W, F2, ρ2, d, ρ3, R2, rp, e3, fun σ3 H3 F3 x3 R3 _ => q σ3 H3 F3 ((x1.trans x2).trans x3) R3⟩

/-! ### return, expressions, if -/
def sRet (f : SemE) : SemS := fun ρ => (f ρ).bind fun (r, ρ1) => match r with
  | .at i => (match ρ1[i]? with
    | some (some (.own d)) => some (.rt (.fr d) (ρ1.set i none))
    | some (some (.val d)) => some (.rt (.val d) ρ1)
    | _ => none)
  | r => some (.rt r ρ1)
theorem Rel.clear {K : Fr'} {P : List (Nat × Addr)} {W F H : Hp} {σ : St} {ρ : Ro} {i : Nat} (R : Rel K P W F H σ ρ) (hp : ∀ p ∈ P, p.1 ≠ i) : Rel K P W F H σ (ρ.set i none) where
  fh := R.fh
  wh := R.wh
  len := by rw [List.length_set]; exact R.len
  cell := fun j c e => by
    rcases set_get e with ⟨rfl, z⟩ | ⟨hj, z⟩
    · cases z
    · exact R.cell j c z
  inj := fun j k c e a hjk h1 h2 o1 o2 s1 s2 => by
    rcases set_get h1 with ⟨rfl, z⟩ | ⟨hj, z⟩
    · cases z
    · rcases set_get h2 with ⟨rfl, z2⟩ | ⟨hk, z2⟩
      · cases z2
      · exact R.inj j k c e a hjk z z2 o1 o2 s1 s2
  pin := fun p q => by
    obtain ⟨h1, d', h2⟩ := R.pin p q
    exact ⟨h1, d', by rw [List.getElem?_set_ne (fun y => hp p q y.symm)]; exact h2⟩
  dis := R.dis
theorem ds_ret {e : Expr} {f : SemE} {pos : Pos} (he : DE X e f) : DS X (.Return (some e) pos) (sRet f) := by
  refine ⟨(ps_ret he.pe).pvi fun D σ H q => ?_⟩
  obtain ⟨P, W, F, ρ, o, R, e, q⟩ := q
  simp only [sRet, Option.bind_eq_some_iff, Prod.exists] at e
  obtain ⟨r, ρ1, e1, e2⟩ := e
  refine ⟨P, W, F, ρ, r, ρ1, R, e1, fun v H1 F1 x1 R1 o1 => ?_⟩
  cases r with
  | val d => cases e2; exact q v σ H1 F1 x1 R1 o1
  | fr d => cases e2; exact q v σ H1 F1 x1 R1 o1
  | «at» i =>
    simp only at e2
    split at e2
    · rename_i d hc
      cases e2
      obtain ⟨u, hu, hk⟩ := R1.cell i _ hc
      have hv : σ[i]? = some (some v) := o1
      rw [hv] at hu; cases hu
      have hp : ∀ p ∈ P, p.1 ≠ i := fun p hp z => by
        obtain ⟨_, d', h2⟩ := R1.pin p hp
        rw [z, hc] at h2; cases h2
      refine q v σ H1 F1 x1 (R1.clear hp) ⟨hk, fun j c e ow es => ?_⟩
      rcases set_get e with ⟨rfl, z⟩ | ⟨hj, z⟩
      · cases z
      · obtain ⟨a, ea, _⟩ := hk
        subst ea
        exact R1.inj j i c _ a hj z hc ow rfl es hv
    · rename_i d hc
      cases e2
      obtain ⟨u, hu, hk⟩ := R1.cell i _ hc
      have hv : σ[i]? = some (some v) := o1
      rw [hv] at hu; cases hu
      exact q v σ H1 F1 x1 R1 hk
    · cases e2
def sRetN : SemS := fun ρ => some (.rt (.val .none) ρ)
theorem ds_retN {pos : Pos} : DS X (.Return none pos) sRetN := ⟨ps_retN.pvi fun D σ H ⟨P, W, F, ρ, o, R, e, q⟩ => by cases e; exact q .non σ H F (Ext.refl _ _) R .non⟩
def sExpr (f : SemE) : SemS := fun ρ => (f ρ).bind fun (_, ρ1) => some (.nx ρ1)
theorem ds_expr {e : Expr} {f : SemE} {pos : Pos} (he : DE X e f) (hs : swapsWith e none pos.line X.env = pure false := by rfl) : DS X (.Expr e pos) (sExpr f) := by
  refine ⟨(ps_expr he.pe hs).pvi fun D σ H q => ?_⟩
  obtain ⟨P, W, F, ρ, o, R, e, q⟩ := q
  simp only [sExpr, Option.bind_eq_some_iff, Prod.exists] at e
  obtain ⟨r, ρ1, e1, e2⟩ := e
  cases e2
  exact ⟨P, W, F, ρ, r, ρ1, R, e1, fun v H1 F1 x1 R1 o1 => q σ H1 F1 x1 R1⟩
theorem ds_doc {x : Str} {j : Nat} {pos pos' : Pos} : DS X (.Expr (.Constant (.str x) j pos) pos') sNx := ⟨ps_doc.pvi fun D σ H ⟨P, W, F, ρ, o, R, e, q⟩ => by cases e; exact q σ H F (Ext.refl _ _) R⟩
def sIfS (c : SemT) (f g : SemS) : SemS := fun ρ => (c ρ).bind fun (b, ρ1) => if b = true then f ρ1 else g ρ1
theorem ds_if {c : Expr} {a b : List Stmt} {h : SemT} {f g : SemS} {pos : Pos} (hc : DT X c h) (ha : DSs X a f) (hb : DSs X b g) : DS X (.If c a b pos) (sIfS h f g) := by
  refine ⟨(ps_if hc.pt ha.ps hb.ps).pvi fun D σ H q => ?_⟩
  obtain ⟨P, W, F, ρ, o, R, e, q⟩ := q
  simp only [sIfS, Option.bind_eq_some_iff, Prod.exists] at e
  obtain ⟨b, ρ1, e1, e2⟩ := e
  refine ⟨P, W, F, ρ, b, ρ1, R, e1, fun H1 F1 x1 R1 => ?_⟩
  cases b with
  | true =>
    simp only [if_true] at e2 ⊢
    exact ⟨P, W, F1, ρ1, o, R1, e2, q.ext x1⟩
  | false =>
    simp only [Bool.false_eq_true, if_false] at e2 ⊢
    exact ⟨P, W, F1, ρ1, o, R1, e2, q.ext x1⟩

/-! ### while -/
/-- at most n turns -/
def sWhile (c : SemT) (b : SemS) : Nat → SemS
  | 0 => fun _ => none
  | n + 1 => fun ρ => (c ρ).bind fun (k, ρ1) => if k = true then (b ρ1).bind fun o => (match o with
      | .nx ρ2 => sWhile c b n ρ2
      | .ct ρ2 => sWhile c b n ρ2
      | .bk ρ2 => some (.nx ρ2)
      | .rt r ρ2 => some (.rt r ρ2)) else some (.nx ρ1)
theorem ds_while {c : Expr} {body : List Stmt} {h : SemT} {f : SemS} {pos : Pos} {n : Nat} (hc : DT X c h) (hb : DSs X body f) (hp : PassesOwn (model X.prog X.w) X.A X.env X.xe) : DS X (.While c body [] pos) (sWhile h f n) := by
  refine ⟨(ps_while hp hc.pt hb.ps).pvi fun D σ H q => ?_⟩
  obtain ⟨P, W, F, ρ, o, R, e, q⟩ := q
  refine ⟨fun m σ H => ∃ F1 ρ1, Ext W F F1 ∧ Rel X.K P W F1 H σ ρ1 ∧ sWhile h f m ρ1 = some o, ⟨n, F, ρ, Ext.refl _ _, R, e⟩, ?_⟩
  rintro m σ H ⟨F1, ρ1, x1, R1, e1⟩
  cases m with
  | zero => cases e1
  | succ m =>
    simp only [sWhile, Option.bind_eq_some_iff, Prod.exists] at e1
    obtain ⟨k, ρ2, e2, e3⟩ := e1
    refine ⟨P, W, F1, ρ1, k, ρ2, R1, e2, fun H2 F2 x2 R2 => ?_⟩
    cases k with
    | false =>
      simp only [Bool.false_eq_true, if_false] at e3 ⊢
      cases e3
      exact q σ H2 F2 (x1.trans x2) R2
    | true =>
      simp only [if_true, Option.bind_eq_some_iff] at e3 ⊢
      obtain ⟨o1, e4, e5⟩ := e3
      refine ⟨fun σ' H' => ∃ F3 ρ3, Ext W F F3 ∧ Rel X.K P W F3 H' σ' ρ3 ∧ sWhile h f m ρ3 = some o, fun σ' H' w => ⟨m, Nat.lt_succ_self m, w⟩, P, W, F2, ρ2, o1, R2, e4, ?_⟩
      cases o1 with
      | nx ρ3 => exact fun σ3 H3 F3 x3 R3 => ⟨F3, ρ3, (x1.trans x2).trans x3, R3, e5⟩
      | ct ρ3 => exact fun σ3 H3 F3 x3 R3 => ⟨F3, ρ3, (x1.trans x2).trans x3, R3, e5⟩
      | bk ρ3 => cases e5; exact fun σ3 H3 F3 x3 R3 => q σ3 H3 F3 ((x1.trans x2).trans x3) R3
      | rt r ρ3 => cases e5; exact fun v σ3 H3 F3 x3 R3 o3 => q v σ3 H3 F3 ((x1.trans x2).trans x3) R3 o3

/-! ### for -/
theorem RvOk.lessW {K : Fr'} {W W' F H : Hp} {σ : St} {ρ : Ro} {r : Rv} {v : V} (h : Same W W') (o : RvOk K W' F H σ ρ r v) : RvOk K W F H σ ρ r v := by
  cases r with
  | val d => exact o
  | «at» i => exact o
  | fr d =>
    obtain ⟨⟨a, ea, hw, q⟩, hn⟩ := o
    refine ⟨⟨a, ea, ?_, q⟩, hn⟩
    cases e : W a with
    | none => rfl
    | some u => rw [h a u e] at hw; cases hw
/-- what is locked stays locked -/
def SameZ (W H : Hp) : Prop := ∀ b o u, W b = some (.frz o u) → H b = some (.frz o u)
/-- a walk that gives these data -/
structure WalkD (K : Fr') (W F : Hp) (J : It) (ds : List D) : Prop where
  ex : ∃ G Y, Walk J ds.length G Y ∧ (∀ F' H, Same F F' → Le F' H → SameZ W H → G H) ∧
    ∀ (i : Nat) (d : D) (F' H H' : Hp) (x : V), Same F F' → Le F' H → ds[i]? = some d → Y i H x H' → ∃ F2, Grow F' H F2 H' ∧ Rp K F2 x d
abbrev SemI := Ro → Option (List D × Ro)
def tDI (K : Fr') (f : SemI) : TI := fun σ H R => ∃ P W F ρ ds ρ', Rel K P W F H σ ρ ∧ f ρ = some (ds, ρ') ∧ ∀ J H' W' F', Same W W' → Ext W F F' → Rel K P W' F' H' σ ρ' → WalkD K W' F' J ds → R J H'
structure DI (X : Cx) (tg iter : Expr) (f : SemI) : Prop where
  pi : PI X tg iter (tDI X.K f)
theorem _root_.L2.PI.pvi {X : Cx} {tg e : Expr} {t t' : TI} (h : PI X tg e t) (i : ∀ σ H Q, t' σ H Q → t σ H Q) : PI X tg e t' := ⟨fun pins s σ H Q I q => h.run pins s σ H Q I (i σ H Q q)⟩
def forL (g : SemG) (b : SemS) : List D → Ro → Option Out
  | [], ρ => some (.nx ρ)
  | d :: ds, ρ => (g d ρ).bind fun ρ1 => (b ρ1).bind fun o => (match o with
      | .nx ρ2 => forL g b ds ρ2
      | .ct ρ2 => forL g b ds ρ2
      | .bk ρ2 => some (.nx ρ2)
      | .rt r ρ2 => some (.rt r ρ2))
def sFor (it : SemI) (g : SemG) (b : SemS) : SemS := fun ρ => (it ρ).bind fun (ds, ρ1) => forL g b ds ρ1
theorem ds_for {tg iter : Expr} {body : List Stmt} {it : SemI} {g : SemG} {b : SemS} {vs : List Nat} {pos : Pos} (hi : DI X tg iter it) (hg : DG X tg vs g) (hb : DSs X body b) (hp : PassesOwn (model X.prog X.w) X.A X.env X.xe) (hc : X.calm = true)
    (hs : ∀ x, foldedSetIterable iter X.env x = pure x := by intro _; rfl) : DS X (.For tg iter body [] pos) (sFor it g b) := by
  refine ⟨(ps_for hp hc hi.pi hg.pg hb.ps hs).pvi fun D σ H q => ?_⟩
  obtain ⟨P, W, F, ρ, o, R, e, q⟩ := q
  simp only [sFor, Option.bind_eq_some_iff, Prod.exists] at e
  obtain ⟨ds, ρ1, e1, e2⟩ := e
  refine ⟨P, W, F, ρ, ds, ρ1, R, e1, fun J H1 W1 F1 sw x1 R1 w => ?_⟩
  obtain ⟨G, Y, w, hG, hY⟩ := w.ex
  refine for_it w (fun i σ H => ∃ F2 ρ2, Ext W1 F1 F2 ∧ Rel X.K P W1 F2 H σ ρ2 ∧ forL g b (ds.drop i) ρ2 = some o) ⟨F1, ρ1, Ext.refl _ _, R1, by simpa using e2⟩ (fun i σ H hi ⟨F2, ρ2, x2, R2, _⟩ => hG F2 H x2.same R2.fh fun b o u e => R2.wh b _ e) ?_ ?_
  · rintro i x σ H H' hi ⟨F2, ρ2, x2, R2, e3⟩ y
    have hd : ds[i]? = some ds[i] := List.getElem?_eq_getElem hi
    obtain ⟨F3, g3, rp⟩ := hY i _ F2 H H' x x2.same R2.fh hd y
    rw [List.drop_eq_getElem_cons hi] at e3
    simp only [forL, Option.bind_eq_some_iff] at e3
    obtain ⟨ρ3, e4, o1, e5, e6⟩ := e3
    have x3 := x2.trans (g3.ext R2.wh)
    refine ⟨P, W1, F3, ρ2, ds[i], ρ3, R2.grow g3, rp, e4, fun σ4 H4 F4 x4 R4 _ => ?_⟩
    refine ⟨P, W1, F4, ρ3, o1, R4, e5, ?_⟩
    cases o1 with
    | nx ρ5 => exact fun σ5 H5 F5 x5 R5 => ⟨F5, ρ5, (x3.trans x4).trans x5, R5, e6⟩
    | ct ρ5 => exact fun σ5 H5 F5 x5 R5 => ⟨F5, ρ5, (x3.trans x4).trans x5, R5, e6⟩
    | bk ρ5 => cases e6; exact fun σ5 H5 F5 x5 R5 => q σ5 H5 F5 (x1.trans ((x3.trans x4).trans x5 |>.less sw)) (R5.lessW sw)
    | rt r ρ5 => cases e6; exact fun v σ5 H5 F5 x5 R5 o5 => q v σ5 H5 F5 (x1.trans ((x3.trans x4).trans x5 |>.less sw)) (R5.lessW sw) (o5.lessW sw)
  · rintro σ H ⟨F2, ρ2, x2, R2, e3⟩
    rw [List.drop_length] at e3
    cases e3
    exact q σ H F2 (x1.trans (x2.less sw)) (R2.lessW sw)
/-- an expression that gives a list or tuple, walked -/
def asL : D → Option (List D)
  | .list ds => some ds
  | _ => none
def asT : D → Option (List D)
  | .tuple ds => some ds
  | _ => none
def iL (f : SemE) : SemI := fun ρ => (f ρ).bind fun (r, ρ1) => (frz ρ1 r).bind fun (d, ρ2) => (asL d).bind fun ds => some (ds, ρ2)
def iT (f : SemE) : SemI := fun ρ => (f ρ).bind fun (r, ρ1) => (frz ρ1 r).bind fun (d, ρ2) => (asT d).bind fun ds => some (ds, ρ2)
theorem asL_eq {d : D} {b : List D} (h : asL d = some b) : d = .list b := by
  unfold asL at h
  split at h
  · cases h; rfl
  · cases h
theorem asT_eq {d : D} {b : List D} (h : asT d = some b) : d = .tuple b := by
  unfold asT at h
  split at h
  · cases h; rfl
  · cases h
theorem walkD_list {K : Fr'} {W F : Hp} {a : Addr} {xs : List V} {ds : List D} (s : F a = some (.lst xs)) (r : RpA K F xs ds) : WalkD K W F (Itl K a) ds := by
  refine ⟨_, _, r.length ▸ walk_list (K := K) (a := a) (xs := xs), fun F' H x l _ => .inl (.inl (l.lst (x _ _ s))), ?_⟩
  rintro i d F' H H' x sm l hd ⟨rfl, e⟩
  obtain ⟨v, hv, rp⟩ := r.get i d hd
  rw [e] at hv; cases hv
  exact ⟨F', Grow.refl l, rp.mono (Le.of sm)⟩
theorem walkD_tup {K : Fr'} {W F : Hp} {a : Addr} {xs : List V} {ds : List D} (s : SqT K F a xs) (r : RpA K F xs ds) : WalkD K W F (Itt K a) ds := by
  refine ⟨_, _, r.length ▸ walk_tup (K := K) (a := a) (xs := xs), fun F' H x l _ => l.sqt ((Le.of x).sqt s), ?_⟩
  rintro i d F' H H' x sm l hd ⟨rfl, e⟩
  obtain ⟨v, hv, rp⟩ := r.get i d hd
  rw [e] at hv; cases hv
  exact ⟨F', Grow.refl l, rp.mono (Le.of sm)⟩
theorem di_list {tg e : Expr} {f : SemE} (h : DE X e f) (p : PI X tg e (iList X.K (tD X.K f))) : DI X tg e (iL f) := by
  refine ⟨p.pvi fun σ H Q q => ?_⟩
  obtain ⟨P, W, F, ρ, ds, ρ', R, e, q⟩ := q
  simp only [iL, Option.bind_eq_some_iff, Prod.exists] at e
  obtain ⟨r, ρ1, e1, d, ρ2, e2, ds', e3, e4⟩ := e
  cases e4
  refine ⟨P, W, F, ρ, r, ρ1, R, e1, fun v H1 F1 x1 R1 o1 => ?_⟩
  obtain ⟨F2, x2, R2, rp⟩ := R1.frz o1 e2
  rw [asL_eq e3] at rp
  cases rp with
  | lst s r => exact ⟨_, rfl, ⟨_, .inl (.inl (R2.fh.lst s))⟩, q _ H1 W F2 (Same.refl W) (x1.trans x2) R2 (walkD_list s r)⟩
theorem di_tup {tg e : Expr} {f : SemE} (h : DE X e f) (p : PI X tg e (iTup X.K (tD X.K f))) : DI X tg e (iT f) := by
  refine ⟨p.pvi fun σ H Q q => ?_⟩
  obtain ⟨P, W, F, ρ, ds, ρ', R, e, q⟩ := q
  simp only [iT, Option.bind_eq_some_iff, Prod.exists] at e
  obtain ⟨r, ρ1, e1, d, ρ2, e2, ds', e3, e4⟩ := e
  cases e4
  refine ⟨P, W, F, ρ, r, ρ1, R, e1, fun v H1 F1 x1 R1 o1 => ?_⟩
  obtain ⟨F2, x2, R2, rp⟩ := R1.frz o1 e2
  rw [asT_eq e3] at rp
  cases rp with
  | tup s r => exact ⟨_, rfl, ⟨_, R2.fh.sqt s⟩, q _ H1 W F2 (Same.refl W) (x1.trans x2) R2 (walkD_tup s r)⟩
/-- range -/
def small62 (i : Int) : Bool := decide (-(2 ^ 62) ≤ i) && decide (i < 2 ^ 62)
def rng (lo : Int) (n : Nat) : List D := (List.range n).map fun i => .int (lo + (i : Nat))
def iR1 (f : SemP) : SemI := fun ρ => (f ρ).bind fun (rs, ρ1) => (looks ρ1 rs).bind fun ds => match ds with
  | [.int j] => if small62 j = true then some (rng 0 j.toNat, ρ1) else none
  | _ => none
def iR2 (f : SemP) : SemI := fun ρ => (f ρ).bind fun (rs, ρ1) => (looks ρ1 rs).bind fun ds => match ds with
  | [.int i, .int j] => if (small62 i && small62 j) = true then some (rng i (j - i).toNat, ρ1) else none
  | _ => none
theorem walkD_rng {K : Fr'} {W F : Hp} {lo : Int} {n : Nat} : WalkD K W F (Itr lo n) (rng lo n) := by
  have hl : (rng lo n).length = n := by unfold rng; rw [List.length_map, List.length_range]
  refine ⟨_, _, (by rw [hl]; exact walk_range (lo := lo) (n := n)), fun _ _ _ _ _ => trivial, ?_⟩
  rintro i d F' H H' x sm l hd ⟨rfl, e⟩
  subst e
  unfold rng at hd
  rw [List.getElem?_map] at hd
  cases hr : (List.range n)[i]? with
  | none => rw [hr] at hd; cases hd
  | some j =>
    rw [hr] at hd
    have hj : j = i := by
      rw [List.getElem?_eq_some_iff] at hr
      obtain ⟨h1, h2⟩ := hr
      rw [List.getElem_range] at h2
      exact h2.symm
    subst hj
    cases hd
    exact ⟨F', Grow.refl l, .int _⟩
theorem di_range1 {tg a : Expr} {f : SemP} {p0 pos : Pos} (h : DP X [a] f) (p : PI X tg (.Call (.Name "range" p0) [a] [] pos) (iRng1 (tDP X.K f))) : DI X tg (.Call (.Name "range" p0) [a] [] pos) (iR1 f) := by
  refine ⟨p.pvi fun σ H Q q => ?_⟩
  obtain ⟨P, W, F, ρ, ds, ρ', R, e, q⟩ := q
  simp only [iR1, Option.bind_eq_some_iff, Prod.exists] at e
  obtain ⟨rs, ρ1, e1, es, e2, e3⟩ := e
  split at e3
  · rename_i j
    split at e3
    · rename_i hj
      cases e3
      refine ⟨P, W, F, ρ, rs, _, R, e1, fun vs H1 F1 x1 R1 ls => ?_⟩
      have k := looks_ok ls e2
      cases k with
      | cons l t =>
        cases t
        rw [l.int]
        unfold small62 at hj
        simp only [Bool.and_eq_true, decide_eq_true_eq] at hj
        exact ⟨j, rfl, hj.1, hj.2, q _ H1 W F1 (Same.refl W) x1 R1 walkD_rng⟩
    · cases e3
  · cases e3
theorem di_range2 {tg a b : Expr} {f : SemP} {p0 pos : Pos} (h : DP X [a, b] f) (p : PI X tg (.Call (.Name "range" p0) [a, b] [] pos) (iRng2 (tDP X.K f))) : DI X tg (.Call (.Name "range" p0) [a, b] [] pos) (iR2 f) := by
  refine ⟨p.pvi fun σ H Q q => ?_⟩
  obtain ⟨P, W, F, ρ, ds, ρ', R, e, q⟩ := q
  simp only [iR2, Option.bind_eq_some_iff, Prod.exists] at e
  obtain ⟨rs, ρ1, e1, es, e2, e3⟩ := e
  split at e3
  · rename_i i j
    split at e3
    · rename_i hj
      cases e3
      refine ⟨P, W, F, ρ, rs, _, R, e1, fun vs H1 F1 x1 R1 ls => ?_⟩
      have k := looks_ok ls e2
      cases k with
      | cons l t =>
        cases t with
        | cons l2 t =>
          cases t
          rw [l.int, l2.int]
          unfold small62 at hj
          simp only [Bool.and_eq_true, decide_eq_true_eq] at hj
          exact ⟨i, j, rfl, ⟨hj.1.1, hj.1.2, hj.2.1, hj.2.2⟩, q _ H1 W F1 (Same.refl W) x1 R1 walkD_rng⟩
    · cases e3
  · cases e3
end
end Pv
end
section
set_option Elab.async false
set_option linter.all false
set_option maxRecDepth 100000
set_option maxHeartbeats 1000000
/-! PvD: comprehensions. -/
namespace Pv
open PySem PySem.Spec PyProof.Rows L2

/-! ### what is kept for others -/
theorem Ext.un {W F F' : Hp} {a : Addr} {o : HO} (x : Ext (upd W a o) F F') : Ext W F F' := ⟨x.same, fun b e => x.off b (by
  by_cases hb : b = a
  · subst hb; rw [upd_same]; exact fun z => nomatch z
  · rw [upd_ne hb]; exact e)⟩
theorem upd_none {W : Hp} {a b : Addr} {o : HO} (h : upd W a o b = none) : b ≠ a ∧ W b = none := by
  by_cases hb : b = a
  · subst hb; rw [upd_same] at h; cases h
  · rw [upd_ne hb] at h; exact ⟨hb, h⟩
section
variable {K : Fr'} {P : List (Nat × Addr)} {W F H F' H' : Hp} {σ σ' : St} {ρ ρ' : Ro} {v : V} {d : D} {r : Rv} {c : Cell} {a : Addr} {o : HO}
theorem CellOk.w {W1 : Hp} (h : CellOk K W F H c v) (k : ∀ b, W b = none → (∃ u, H b = some u) → W1 b = none) : CellOk K W1 F H c v := by
  cases c with
  | val d => exact h
  | own d => obtain ⟨b, e, hw, hf, q⟩ := h; exact ⟨b, e, k b hw q.mut.2, hf, q⟩
  | byr d => obtain ⟨b, e, hw, hf, q⟩ := h; exact ⟨b, e, k b hw q.mut.2, hf, q⟩
  | scr ds => exact h
/-- a place that none of the cells owns is kept -/
theorem Rel.protect (R : Rel K P W F H σ ρ) (ha : H a = some o) (hfa : F a = none) (hn : ∀ (i : Nat) (c : Cell), ρ[i]? = some (some c) → c.owned = true → σ[i]? ≠ some (some (.ref a))) : Rel K P (upd W a o) F H σ ρ where
  fh := R.fh
  wh := fun b u e => by
    by_cases hb : b = a
    · subst hb; rw [upd_same] at e; cases e; exact ha
    · rw [upd_ne hb] at e; exact R.wh b u e
  len := R.len
  cell := fun i c e => by
    obtain ⟨v, hv, hk⟩ := R.cell i c e
    refine ⟨v, hv, ?_⟩
    cases c with
    | val d => exact hk
    | own d => obtain ⟨b, eb, hw, hf, q⟩ := hk; exact ⟨b, eb, by rw [upd_ne (fun z => hn i _ e rfl (by rw [hv, eb, z]))]; exact hw, hf, q⟩
    | byr d => obtain ⟨b, eb, hw, hf, q⟩ := hk; exact ⟨b, eb, by rw [upd_ne (fun z => hn i _ e rfl (by rw [hv, eb, z]))]; exact hw, hf, q⟩
    | scr ds => exact hk
  inj := R.inj
  pin := R.pin
  dis := fun b e => by
    by_cases hb : b = a
    · rw [hb]; exact .inl hfa
    · rw [upd_ne hb] at e ⊢; exact R.dis b e
theorem Rel.unprotect (R : Rel K P (upd W a o) F H σ ρ) (hw : W a = none) : Rel K P W F H σ ρ where
  fh := R.fh
  wh := fun b u e => R.wh b u (by rw [upd_ne (ne_of_none e hw)]; exact e)
  len := R.len
  cell := fun i c e => by
    obtain ⟨v, hv, hk⟩ := R.cell i c e
    exact ⟨v, hv, hk.w fun b hb _ => (upd_none hb).2⟩
  inj := R.inj
  pin := R.pin
  dis := fun b e => by
    have hb : b ≠ a := fun z => e (by rw [z]; exact hw)
    have := R.dis b (by rw [upd_ne hb]; exact e)
    rw [upd_ne hb] at this
    exact this
/-- what is kept is none's own -/
theorem Rel.noown (R : Rel K P (upd W a o) F H σ ρ) : ∀ (i : Nat) (c : Cell), ρ[i]? = some (some c) → c.owned = true → σ[i]? ≠ some (some (.ref a)) := fun i c e ow es => by
  obtain ⟨v, hv, hk⟩ := R.cell i c e
  rw [es] at hv; cases hv
  cases c with
  | val d => cases ow
  | own d => obtain ⟨b, eb, hw, _⟩ := hk; cases eb; exact (upd_none hw).1 rfl
  | byr d => obtain ⟨b, eb, hw, _⟩ := hk; cases eb; exact (upd_none hw).1 rfl
  | scr ds => cases ow
/-- it is changed by who keeps it -/
theorem Rel.kept {o' : HO} (R : Rel K P (upd W a o) F H σ ρ) (hf : F a = none) : Rel K P (upd W a o') F (upd H a o') σ ρ where
  fh := fun b u e => by
    rw [upd_ne (ne_of_none e hf)]; exact R.fh b u e
  wh := fun b u e => by
    by_cases hb : b = a
    · subst hb; rw [upd_same] at e ⊢; exact e
    · rw [upd_ne hb] at e ⊢; exact R.wh b u (by rw [upd_ne hb]; exact e)
  len := R.len
  cell := fun i c e => by
    obtain ⟨v, hv, hk⟩ := R.cell i c e
    refine ⟨v, hv, ?_⟩
    cases c with
    | val d => exact hk
    | own d =>
      obtain ⟨b, eb, hw, hfb, q⟩ := hk
      obtain ⟨h1, h2⟩ := upd_none hw
      exact ⟨b, eb, by rw [upd_ne h1]; exact h2, hfb, by rw [upd_ne h1]; exact q⟩
    | byr d =>
      obtain ⟨b, eb, hw, hfb, q⟩ := hk
      obtain ⟨h1, h2⟩ := upd_none hw
      exact ⟨b, eb, by rw [upd_ne h1]; exact h2, hfb, by rw [upd_ne h1]; exact q⟩
    | scr ds => exact hk
  inj := R.inj
  pin := R.pin
  dis := fun b e => by
    by_cases hb : b = a
    · rw [hb]; exact .inl hf
    · have := R.dis b (by rw [upd_ne hb] at e ⊢; exact e)
      rw [upd_ne hb] at this ⊢
      exact this
/-- the cells alone matter -/
theorem Rel.slots (R : Rel K P W F H σ ρ) (hl : σ'.length = σ.length) (hs : ∀ (i : Nat) (c : Cell), ρ[i]? = some (some c) → σ'[i]? = σ[i]?) : Rel K P W F H σ' ρ where
  fh := R.fh
  wh := R.wh
  len := hl.trans R.len
  cell := fun i c e => by
    obtain ⟨v, hv, hk⟩ := R.cell i c e
    exact ⟨v, by rw [hs i c e]; exact hv, hk⟩
  inj := fun j k c e b hjk h1 h2 o1 o2 s1 s2 => R.inj j k c e b hjk h1 h2 o1 o2 (by rw [← hs j c h1]; exact s1) (by rw [← hs k e h2]; exact s2)
  pin := fun p q => by
    obtain ⟨h1, d', h2⟩ := R.pin p q
    exact ⟨by rw [hs _ _ h2]; exact h1, d', h2⟩
  dis := R.dis
/-- fewer cells -/
theorem Rel.fewer (R : Rel K P W F H σ ρ) (hl : ρ'.length = ρ.length) (hs : ∀ (i : Nat) (c : Cell), ρ'[i]? = some (some c) → ρ[i]? = some (some c)) (hp : ∀ p ∈ P, ρ'[p.1]? = ρ[p.1]?) : Rel K P W F H σ ρ' where
  fh := R.fh
  wh := R.wh
  len := R.len.trans hl.symm
  cell := fun i c e => R.cell i c (hs i c e)
  inj := fun j k c e b hjk h1 h2 o1 o2 s1 s2 => R.inj j k c e b hjk (hs _ _ h1) (hs _ _ h2) o1 o2 s1 s2
  pin := fun p q => by
    obtain ⟨h1, d', h2⟩ := R.pin p q
    exact ⟨h1, d', by rw [hp p q]; exact h2⟩
  dis := R.dis
end
def wipeR (ρ : Ro) : List Nat → Ro
  | [] => ρ
  | v :: vs => (wipeR ρ vs).set v none
theorem wipeR_len (ρ : Ro) : ∀ vs, (wipeR ρ vs).length = ρ.length
  | [] => rfl
  | v :: vs => by unfold wipeR; rw [List.length_set, wipeR_len ρ vs]
theorem wipeR_in {ρ : Ro} {i : Nat} {c : Cell} : ∀ {vs : List Nat}, (wipeR ρ vs)[i]? = some (some c) → i ∉ vs ∧ ρ[i]? = some (some c)
  | [], h => ⟨List.not_mem_nil, h⟩
  | v :: vs, h => by
    unfold wipeR at h
    rcases set_get h with ⟨rfl, z⟩ | ⟨hj, z⟩
    · cases z
    · obtain ⟨h1, h2⟩ := wipeR_in z
      exact ⟨fun z => (List.mem_cons.mp z).elim hj h1, h2⟩
theorem wipeR_off {ρ : Ro} {i : Nat} : ∀ {vs : List Nat}, i ∉ vs → (wipeR ρ vs)[i]? = ρ[i]?
  | [], h => rfl
  | v :: vs, h => by
    unfold wipeR
    rw [List.getElem?_set_ne (fun z => h (by rw [z]; exact List.mem_cons_self)), wipeR_off (fun z => h (List.mem_cons_of_mem _ z))]
theorem wipe_off {σ : St} {i : Nat} : ∀ {vs : List Nat}, i ∉ vs → (wipe σ vs)[i]? = σ[i]?
  | [], h => rfl
  | v :: vs, h => by
    unfold wipe
    rw [List.getElem?_set_ne (fun z => h (by rw [z]; exact List.mem_cons_self)), wipe_off (fun z => h (List.mem_cons_of_mem _ z))]
theorem wipe_in {σ : St} {i : Nat} : ∀ {vs : List Nat}, i ∈ vs → i < σ.length → (wipe σ vs)[i]? = some none
  | [], h, _ => by cases h
  | v :: vs, h, hl => by
    unfold wipe
    by_cases hv : v = i
    · subst hv; rw [List.getElem?_set_self (by rw [wipe_length]; exact hl)]
    · rw [List.getElem?_set_ne hv]
      exact wipe_in ((List.mem_cons.mp h).elim (fun z => absurd z.symm hv) id) hl
theorem wipe_eq {σ σ' : St} {vs us : List Nat} (o : Off us σ σ') (hu : ∀ i ∈ us, i ∈ vs) : wipe σ' vs = wipe σ vs := by
  apply List.ext_getElem?
  intro i
  by_cases hi : i ∈ vs
  · by_cases hl : i < σ.length
    · rw [wipe_in hi hl, wipe_in hi (by rw [o.1]; exact hl)]
    · rw [List.getElem?_eq_none (by rw [wipe_length, o.1]; omega), List.getElem?_eq_none (by rw [wipe_length]; omega)]
  · rw [wipe_off hi, wipe_off hi]
    exact o.2 i fun z => hi (hu i z)
/-- none of the slots vs holds a cell -/
def clearAt (ρ : Ro) (vs : List Nat) : Bool := vs.all fun i => match ρ[i]? with
  | some (some _) => false
  | _ => true
theorem clear_at {ρ : Ro} {vs : List Nat} (h : clearAt ρ vs = true) {i : Nat} {c : Cell} (e : ρ[i]? = some (some c)) : i ∉ vs := fun z => by
  unfold clearAt at h
  rw [List.all_eq_true] at h
  have := h i z
  rw [e] at this
  cases this
/-- the pinned slots are none of vs -/
theorem pin_off {K : Fr'} {P : List (Nat × Addr)} {W F H : Hp} {σ : St} {ρ : Ro} {vs : List Nat} (R : Rel K P W F H σ ρ) (h : clearAt ρ vs = true) : ∀ p ∈ P, p.1 ∉ vs := fun p hp => by
  obtain ⟨_, d, e⟩ := R.pin p hp
  exact clear_at h e

/-! ### list comprehensions -/
section
variable (g : SemG) (t : SemT) (el : SemE) (vs : List Nat)
def lcL : List D → Nat → Ro → Option (List D × Ro)
  | [], _, ρ => some ([], ρ)
  | d :: ds, n, ρ => (g d ρ).bind fun ρ1 => (t ρ1).bind fun (b, ρ2) => if b = true then (el ρ2).bind fun (r, ρ3) => (frz ρ3 r).bind fun (z, ρ4) => if n < sizeLine then (lcL ds (n + 1) (wipeR ρ4 vs)).bind fun (zs, ρ5) => some (z :: zs, ρ5) else none
    else lcL ds n (wipeR ρ2 vs)
def sLc (it : SemI) : SemE := fun ρ => (it ρ).bind fun (ds, ρ1) => if clearAt ρ1 vs = true then (lcL g t el vs ds 0 ρ1).bind fun (zs, ρ2) => some (.fr (.list zs), ρ2) else none
end
structure DTs (X : Cx) (ifs : List Expr) (f : SemT) : Prop where
  pt : PTs X ifs (tDT X.K f)
def sYes : SemT := fun ρ => some (true, ρ)
section
variable {X : Cx}
theorem dts_nil : DTs X [] sYes := ⟨⟨fun pins s σ H Q I ⟨P, W, F, ρ, b, ρ', R, e, q⟩ => pts_nil.run pins s σ H Q I (by cases e; exact q H F (Ext.refl _ _) R)⟩⟩
theorem dts_one {c : Expr} {f : SemT} (h : DT X c f) : DTs X [c] f := ⟨pts_one h.pt⟩
theorem Rel.wiped {K : Fr'} {P : List (Nat × Addr)} {W F H : Hp} {σ σ2 : St} {ρ : Ro} {vs : List Nat} (R : Rel K P W F H σ2 ρ) (hw : wipe σ2 vs = wipe σ vs) (hp : ∀ p ∈ P, p.1 ∉ vs) : Rel K P W F H σ (wipeR ρ vs) := by
  have hl : σ.length = σ2.length := by rw [← wipe_length σ vs, ← hw, wipe_length]
  refine (R.fewer (wipeR_len ρ vs) (fun i c e => (wipeR_in e).2) fun p q => wipeR_off (hp p q)).slots hl fun i c e => ?_
  have hi := (wipeR_in e).1
  rw [← wipe_off (σ := σ) hi, ← hw, wipe_off hi]
theorem wipe_wipe {σ : St} {vs : List Nat} : wipe (wipe σ vs) vs = wipe σ vs := by
  apply List.ext_getElem?
  intro i
  by_cases hi : i ∈ vs
  · by_cases hl : i < σ.length
    · rw [wipe_in hi hl, wipe_in hi (by rw [wipe_length]; exact hl)]
    · rw [List.getElem?_eq_none (by rw [wipe_length, wipe_length]; omega), List.getElem?_eq_none (by rw [wipe_length]; omega)]
  · rw [wipe_off hi]
theorem wipeR_clear {ρ : Ro} {vs : List Nat} (h : clearAt ρ vs = true) {i : Nat} {c : Cell} (e : ρ[i]? = some (some c)) : (wipeR ρ vs)[i]? = some (some c) := by
  rw [wipeR_off (clear_at h e)]; exact e
theorem clear_wipeR {ρ : Ro} {vs : List Nat} : clearAt (wipeR ρ vs) vs = true := by
  unfold clearAt
  rw [List.all_eq_true]
  intro i hi
  split
  · rename_i c e
    exact absurd hi (wipeR_in e).1
  · rfl
theorem Rel.toWipe {K : Fr'} {P : List (Nat × Addr)} {W F H : Hp} {σ : St} {ρ : Ro} {vs : List Nat} (R : Rel K P W F H σ ρ) (h : clearAt ρ vs = true) : Rel K P W F H (wipe σ vs) ρ :=
  R.slots (wipe_length σ vs) fun i c e => wipe_off (clear_at h e)
theorem sLc_ok {K : Fr'} {it : SemI} {g : SemG} {t : SemT} {el : SemE} {us vs : List Nat} (hu : ∀ i ∈ us, i ∈ vs) {σ : St} {H : Hp} {Q : VK} (q : tD K (sLc g t el vs it) σ H Q) : tLc (tDI K it) (tDG K us g) (tDT K t) (tD K el) vs σ H Q := by
  obtain ⟨P, W, F, ρ, r, ρ', R, e, q⟩ := q
  simp only [sLc, Option.bind_eq_some_iff, Prod.exists] at e
  obtain ⟨ds, ρ1, e1, e2⟩ := e
  split at e2
  case isFalse => cases e2
  rename_i hclr
  simp only [Option.bind_eq_some_iff, Prod.exists] at e2
  obtain ⟨zs, ρ2, e2, e3⟩ := e2
  cases e3
  refine ⟨P, W, F, ρ, ds, ρ1, R, e1, fun J H1 W1 F1 sw x1 R1 w => ?_⟩
  intro D hD
  obtain ⟨G, Y, w, hG, hY⟩ := w.ex
  have hWD : W1 D = none := by
    cases e : W1 D with
    | none => rfl
    | some u => have := R1.wh D u e; rw [hD] at this; cases this
  have hFD := R1.fh.none hD
  have hp := pin_off R1 hclr
  refine lc_it w (fun i H => ∃ F2 ρ2 acc xs rest, Ext W1 F1 F2 ∧ Rel K P (upd W1 D (.lst xs)) F2 H σ ρ2 ∧ F2 D = none ∧ clearAt ρ2 vs = true ∧ RpA K F2 xs acc ∧ zs = acc ++ rest ∧ lcL g t el vs (ds.drop i) acc.length ρ2 = some (rest, ρ')) ?_ ?_ ?_ ?_
  · refine ⟨F1, ρ1, [], [], zs, Ext.refl _ _, ?_, hFD, hclr, .nil, rfl, by simpa using e2⟩
    have R2 := R1.grow (Grow.heap R1.fh hD (.lst []))
    refine R2.protect upd_same hFD fun i c e ow es => ?_
    obtain ⟨v, hv, hk⟩ := R1.cell i c e
    rw [es] at hv; cases hv
    cases c with
    | val d => cases ow
    | own d => obtain ⟨b, eb, _, _, o⟩ := hk; cases eb; rw [hD] at o; exact o
    | byr d => obtain ⟨b, eb, _, _, o⟩ := hk; cases eb; rw [hD] at o; exact o
    | scr ds => cases ow
  · rintro i H hi ⟨F2, ρ2, acc, xs, rest, x2, R2, _⟩
    exact hG F2 H x2.same R2.fh (fun b o u e => R2.wh b _ (by rw [upd_ne (ne_of_none e hWD)]; exact e))
  · rintro i x H H' hi ⟨F2, ρ2, acc, xs, rest, x2, R2, hFD2, hclr2, rxs, ez, e3⟩ y
    have hd : ds[i]? = some ds[i] := List.getElem?_eq_getElem hi
    obtain ⟨F3, g3, rp⟩ := hY i _ F2 H H' x x2.same R2.fh hd y
    rw [List.drop_eq_getElem_cons hi] at e3
    simp only [lcL, Option.bind_eq_some_iff, Prod.exists] at e3
    obtain ⟨ρ3, e4, b, ρ4, e5, e6⟩ := e3
    have R3 := (R2.grow g3).toWipe hclr2
    have x3 := g3.ext R2.wh
    refine ⟨P, _, F3, ρ2, ds[i], ρ3, R3, rp, e4, fun σ4 H4 F4 x4 R4 of4 => ?_⟩
    have hw4 : wipe σ4 vs = wipe σ vs := (wipe_eq of4 hu).trans wipe_wipe
    refine ⟨hw4, P, _, F4, ρ3, b, ρ4, R4, e5, fun H5 F5 x5 R5 => ?_⟩
    cases b with
    | false =>
      simp only [Bool.false_eq_true, if_false] at e6 ⊢
      have x25 := (x3.trans x4).trans x5
      refine ⟨F5, wipeR ρ4 vs, acc, xs, rest, (x2.trans x25.un), R5.wiped hw4 hp, ?_, clear_wipeR, rxs.mono (Le.of x25.same), ez, e6⟩
      rw [x25.off D (by rw [upd_same]; exact fun z => nomatch z)]; exact hFD2
    | true =>
      simp only [if_true, Option.bind_eq_some_iff, Prod.exists] at e6 ⊢
      obtain ⟨r, ρ5, e7, z, ρ6, e8, e9⟩ := e6
      split at e9
      case isFalse => cases e9
      rename_i hlen
      simp only [Option.bind_eq_some_iff, Prod.exists] at e9
      obtain ⟨zs', ρ7, e9, e10⟩ := e9
      cases e10
      refine ⟨P, _, F5, ρ4, r, ρ5, R5, e7, fun v H6 F6 x6 R6 o6 => ?_⟩
      obtain ⟨F7, x7, R7, rp7⟩ := R6.frz o6 e8
      have x27 := (((x3.trans x4).trans x5).trans x6).trans x7
      have hF7 : F7 D = none := by rw [x27.off D (by rw [upd_same]; exact fun z => nomatch z)]; exact hFD2
      refine ⟨xs, R7.wh D _ upd_same, by rw [rxs.length]; exact hlen, F7, wipeR ρ6 vs, acc ++ [z], xs ++ [v], zs', x2.trans x27.un, (R7.kept hF7).wiped hw4 hp, hF7, clear_wipeR, (rxs.mono (Le.of x27.same)).append (.cons rp7 .nil), by rw [ez, List.append_assoc]; rfl, by rw [List.length_append]; exact e9⟩
  · rintro H ⟨F2, ρ2, acc, xs, rest, x2, R2, hFD2, hclr2, rxs, ez, e3⟩
    rw [List.drop_length] at e3
    cases e3
    rw [List.append_nil] at ez
    subst ez
    have own : OwnO K F2 (H D) (.list zs) := by
      rw [R2.wh D _ upd_same]
      exact rxs
    exact q _ H F2 (x1.trans (x2.less sw)) ((R2.unprotect hWD).lessW sw) (RvOk.lessW sw (r := .fr _) ⟨⟨D, rfl, hWD, hFD2, own⟩, R2.noown⟩)
theorem de_lc {elt tg iter : Expr} {ifs : List Expr} {scope : Scope} {own : List (Str × Nat)} {pos : Pos} {it : SemI} {g : SemG} {t : SemT} {el : SemE} {us : List Nat} (hi : DI X tg iter it) (ok : BlkOk X.N X.env.scope scope own)
    (hg : ∀ (s : Shared) (H : Hp) (C : Addr) (cl : List (Str × Addr)) (fp : List Addr), DG (X.blk s H scope (compEnvC scope cl C X.env) fp) tg us g) (ht : ∀ (s : Shared) (H : Hp) (C : Addr) (cl : List (Str × Addr)) (fp : List Addr), DTs (X.blk s H scope (compEnvC scope cl C X.env) fp) ifs t)
    (he : ∀ (s : Shared) (H : Hp) (C : Addr) (cl : List (Str × Addr)) (fp : List Addr), DE (X.blk s H scope (compEnvC scope cl C X.env) fp) elt el) (hu : ∀ i ∈ us, i ∈ own.map (·.2)) (hc : X.calm = true) (hN : X.N.Nodup) (hs : ∀ x, foldedSetIterable iter X.env x = pure x := by intro _; rfl) :
    DE X (.ListComp elt [⟨tg, iter, ifs, 0⟩] scope pos) (sLc g t el (own.map (·.2)) it) := by
  refine ⟨(pe_lc (g := tDG X.K us g) (tt := tDT X.K t) (te := tD X.K el) hc hN hi.pi ok (fun s H C cl fp => (hg s H C cl fp).pg) (fun s H C cl fp => (ht s H C cl fp).pt) (fun s H C cl fp => (he s H C cl fp).pe) hs).pvi fun σ H Q q => sLc_ok hu q⟩
theorem ds_setLc {i : Nat} {y : Str} {py : Pos} {elt tg iter : Expr} {ifs : List Expr} {scope : Scope} {own : List (Str × Nat)} {pos spos : Pos} {it : SemI} {g : SemG} {t : SemT} {el : SemE} {us : List Nat} (hy : X.N[i]? = some y) (hyl : X.env.scope.names.lookup y = some .local)
    (hsw : swapsWith (.ListComp elt [⟨tg, iter, ifs, 0⟩] scope pos) (some (.Name y py)) spos.line X.env = pure true) (hi : DI X tg iter it) (ok : BlkOk X.N X.env.scope scope own)
    (hg : ∀ (s : Shared) (H : Hp) (C : Addr) (cl : List (Str × Addr)) (fp : List Addr), DG (X.blk s H scope (compEnvC scope cl C X.env) fp) tg us g) (ht : ∀ (s : Shared) (H : Hp) (C : Addr) (cl : List (Str × Addr)) (fp : List Addr), DTs (X.blk s H scope (compEnvC scope cl C X.env) fp) ifs t)
    (he : ∀ (s : Shared) (H : Hp) (C : Addr) (cl : List (Str × Addr)) (fp : List Addr), DE (X.blk s H scope (compEnvC scope cl C X.env) fp) elt el) (hu : ∀ i ∈ us, i ∈ own.map (·.2)) (hc : X.calm = true) (hN : X.N.Nodup) (hs : ∀ x, foldedSetIterable iter X.env x = pure x := by intro _; rfl) :
    DS X (.Assign [.Name y py] (.ListComp elt [⟨tg, iter, ifs, 0⟩] scope pos) spos) (sSet i (sLc g t el (own.map (·.2)) it)) :=
  ⟨(ps_setLc (g := tDG X.K us g) (tt := tDT X.K t) (te := tD X.K el) hc hN hy hyl hsw hi.pi ok (fun s H C cl fp => (hg s H C cl fp).pg) (fun s H C cl fp => (ht s H C cl fp).pt) (fun s H C cl fp => (he s H C cl fp).pe) hs).pvi fun D σ H q => sLc_ok hu (sSet_ok q)⟩
end
end Pv
end
section
set_option Elab.async false
set_option linter.all false
set_option maxRecDepth 100000
set_option maxHeartbeats 1000000
/-! PvE: defs and their calls. -/
namespace Pv
open PySem PySem.Spec PyProof.Rows L2

/-- how a parameter is given: a value, by reference (one's own list or dict), the script -/
inductive Md
  | v | r | s
  deriving DecidableEq
def rvals : List Md → List V → List V
  | .r :: ms, x :: vs => x :: rvals ms vs
  | .v :: ms, _ :: vs => rvals ms vs
  | .s :: ms, _ :: vs => rvals ms vs
  | _, _ => []
def ArgsOk (K : Fr') (W F H : Hp) : List Md → List V → List D → Prop
  | [], [], [] => True
  | .v :: ms, x :: vs, d :: ds => Rp K F x d ∧ ArgsOk K W F H ms vs ds
  | .r :: ms, x :: vs, d :: ds => OwnV K W F H x d ∧ x ∉ rvals ms vs ∧ ArgsOk K W F H ms vs ds
  | .s :: ms, x :: vs, d :: ds => (∃ es a xs, d = .list es ∧ x = .ref a ∧ SqL K F a xs ∧ RpA K F xs es) ∧ ArgsOk K W F H ms vs ds
  | _, _, _ => False
def cells : List Md → List D → Option Ro
  | [], [] => some []
  | .v :: ms, d :: ds => (cells ms ds).map (some (.val d) :: ·)
  | .r :: ms, d :: ds => (cells ms ds).map (some (.byr d) :: ·)
  | .s :: ms, .list es :: ds => (cells ms ds).map (some (.scr es) :: ·)
  | _, _ => none
def backsOf : List Md → Ro → Option (List D)
  | [], _ => some []
  | .r :: ms, some (.byr d) :: ρ => (backsOf ms ρ).map (d :: ·)
  | .v :: ms, _ :: ρ => backsOf ms ρ
  | .s :: ms, _ :: ρ => backsOf ms ρ
  | _, _ => none
def resOf : Rv → Option (D × Bool)
  | .val d => some (d, false)
  | .fr d => some (d, true)
  | .at _ => none
/-- a def's meaning: of its arguments' data the result (new or not), and what those given by reference are behind it -/
abbrev Fn := List D → Option ((D × Bool) × List D)
def endOf (ms : List Md) : Out → Option ((D × Bool) × List D)
  | .rt r ρ => (resOf r).bind fun z => (backsOf ms ρ).bind fun bs => some (z, bs)
  | .nx ρ => (backsOf ms ρ).bind fun bs => some ((.none, false), bs)
  | _ => none
def fnOf (n : Nat) (ms : List Md) (b : SemS) : Fn := fun ds => (cells ms ds).bind fun cs => (b (cs ++ List.replicate (n - ms.length) none)).bind (endOf ms)
def ResOk (K : Fr') (W F H : Hp) (rv : List V) : D × Bool → V → Prop
  | (z, false), v => Rp K F v z
  | (z, true), v => OwnV K W F H v z ∧ v ∉ rv
def spF (K : Fr') (ms : List Md) (fn : Fn) : Sp := fun vs H Q _ => ∃ W F ds z bs, Le F H ∧ Same W H ∧ Dis W F ∧ ArgsOk K W F H ms vs ds ∧ fn ds = some (z, bs) ∧
  ∀ v H' F', Ext W F F' → Le F' H' → Same W H' → Paired (OwnV K W F' H') (rvals ms vs) bs → ResOk K W F' H' (rvals ms vs) z v → Q v H'
/-- a def keeps its promise wherever no repr is under way: room for k calls, and the guards known to be none -/
structure FnG (P : Program) (w : World) (K : Fr') (mg : Str → Option Value) (base : Heap) (C : CXT) (k : Nat) (f : Addr) (fd : FuncData) (ps : List Str) (sp : Sp) : Prop where
  len : ∀ xs H Q E, sp xs H Q E → xs.length = ps.length
  run : ∀ (A : Around) (fs : List Env) (s : Shared) (H : Hp) (ar : Args) (us : List Value) (xs : List V) (Q : VK) (E : XK), Room k A → A.guards = some [] → Env0 P w K mg base A fs s H →
    BindsTo s fd ar (ps.zip us) → Vals xs us → sp xs H Q E → codeAny (model P w) A (.call (.ref f) ar) (CR C fs P w H s Q E) s
abbrev FnD (P : Program) (w : World) (K : Fr') (mg : Str → Option Value) (base : Heap) (k : Nat) (f : Addr) (fd : FuncData) (ps : List Str) (ms : List Md) (fn : Fn) : Prop := FnG P w K mg base CX0 k f fd ps (spF K ms fn)
theorem FnG.mono {P : Program} {w : World} {K : Fr'} {mg : Str → Option Value} {base : Heap} {C : CXT} {j k : Nat} {f : Addr} {fd : FuncData} {ps : List Str} {sp : Sp} (F : FnG P w K mg base C j f fd ps sp) (h : j ≤ k) : FnG P w K mg base C k f fd ps sp :=
  ⟨F.len, fun A fs s H ar us xs Q E r => F.run A fs s H ar us xs Q E (r.mono h)⟩
/-- the body run in a frame of its own -/
theorem fnG_of {C : CXT} {P : Program} {w : World} {K : Fr'} {mg : Str → Option Value} {base : Heap} {k : Nat} {f : Addr} {fd : FuncData} {x qual : Str} {st : Stmt} {N ps : List Str} {sp : Sp} (F : Fun K x qual st f fd) (S : FnScope N ps (defScope st))
    (len : ∀ xs H Q E, sp xs H Q E → xs.length = ps.length)
    (body : ∀ (cdv : Value) (A : Around) (fs : List Env) (s : Shared) (H : Hp) (xs : List V) (Q : VK) (E : XK), Room k (A.deeper (envOfC qual (defScope st) s.heap.objs.size f cdv)) → A.guards = some [] → sp xs H Q E →
      ∃ t, PSs (cxOf C P w K mg base N qual (defScope st) f cdv A fs s H E) (defBody st) t ∧ t { nx := fun _ H1 => Q .non H1, rt := Q } (L2.start N xs) H) :
    FnG P w K mg base C (k + 1) f fd ps sp := by
  obtain ⟨oc, od, kV, doc, pm, an, cdv, ct, osl, rfl, lk, cd⟩ := F.ex
  constructor
  · exact len
  intro A fs s H ar us xs Q E room gd env bnd vals prom
  have eqn := len _ _ _ _ prom
  have old : ∀ b o, base.get? b = some o → s.heap.get? b = some o := fun b o q => (env.bs b o q).1
  have KX := env.mod.kin.keeps old
  have nolim := env.mod.nolimit.keeps old
  refine codeAny_call_function room.depth (KX _ _ lk) rfl S.co S.gen rfl (PySem.W.codeRec_of KX cd) (bnd _ _ _ _ ?_)
  refine wpAny_newFunctionEnv_cells S.kind (fun y hy => ?_) fun env1 he s1 x1 => ?_
  · obtain ⟨n, v⟩ := y
    rcases S.par n (List.of_mem_zip hy).1 with q | q
    · exact Or.inl q
    · exact Or.inr ⟨q, PySem.W.cellsFrom_some _ _ _ (Or.inl q)⟩
  cases he
  refine ⟨nolim.keeps x1.toInCall.keep, codeAny_func ?_⟩
  obtain ⟨t, der, rd⟩ := body cdv A fs s H xs Q E (room.deeper _) gd prom
  refine wpAny_mono (der.run [] s1 _ H _ (inv_start S room.hd env eqn vals x1) rd) ?_ fun _ _ q => q
  intro fl s2 q
  cases fl with
  | next => obtain ⟨σ1, H1, J, q⟩ := q; exact ⟨.non, H1, J.os, J.bare, J.base, J.hok, rfl, q⟩
  | ret u => obtain ⟨v, σ1, H1, J, rv, q⟩ := q; exact ⟨v, H1, J.os, J.bare, J.base, J.hok, rv, q⟩
  | brk => obtain ⟨_, _, _, q⟩ := q; exact q.elim
  | cont => obtain ⟨_, _, _, q⟩ := q; exact q.elim
/-- a call of it -/
theorem run_g {X : Cx} {C : CXT} {k : Nat} {f : Addr} {fd : FuncData} {ps : List Str} {sp : Sp} {E : XK} {pins : List (Addr × Obj)} {σ : L2.St} {H : Hp} {s : Shared} {Q : VK} {us ds : List Value} {xs dvs : List V} (F : FnG X.prog X.w X.K X.mg X.base C k f fd ps sp)
    (room : Room k X.A) (gd : X.A.guards = some []) (bnd : Binds X.K fd ps ds) (dv : Vals dvs ds) (pass : Passes C X E) (I : Inv X pins σ H s) (vals : Vals xs us) (prom : sp (xs ++ dvs) H Q E) : wpAny (model X.prog X.w) X.A (call (.ref f) us) (EP X pins σ Q) X.xe s := by
  have both : Vals (xs ++ dvs) (us ++ ds) := vals.append dv
  have eqn : (us ++ ds).length = ps.length := (both.length).symm.trans (F.len _ _ _ _ prom)
  refine wpAny_call (codeAny_mono (F.run X.A X.stack s H ⟨us, []⟩ _ _ Q E room gd I.env0 (bnd s us I.kIn eqn) both prom) ?_)
  intro r s1 q
  cases r with
  | error e => exact pass pins σ H s e s1 I q
  | ok fl => cases fl with
    | ret u => exact I.after q
    | next => exact q.elim
    | brk => exact q.elim
    | cont => exact q.elim
theorem pe_callG {X : Cx} {C : CXT} {k : Nat} {f : Addr} {fd : FuncData} {ps : List Str} {sp : Sp} {E : XK} {ds : List Value} {dvs : List V} {x : Str} {e : Expr} {es : List Expr} {p pos : Pos} {t : TA} (F : FnG X.prog X.w X.K X.mg X.base C k f fd ps sp)
    (room : Room k X.A) (gd : X.A.guards = some []) (gl : Gl X x) (hm : X.mg x = some (.ref f)) (kp : PySem.W.keepIn X.K (.ref f) = true) (bnd : Binds X.K fd ps ds) (dv : Vals dvs ds) (pass : Passes C X E) (pa : PA X (e :: es) t)
    (hdb : (x == ("__debug__" : Str)) = false) (st : starEach (e :: es) X.env = (false, eval e X.env) :: starEach es X.env) (pl : (backTo pos (starEach es X.env)).any (·.1) = false) :
    PE X (.Call (.Name x p) (e :: es) [] pos) (tCall sp dvs E t) := by
  constructor
  intro pins s σ H Q I h
  refine wpAny_Call_Name_kw (ld_glob I gl hm ?_ hdb)
  refine PySem.W.callWith_K (h₀ := X.base) I.ok.mod.kin kp (thn (pa.run pos pins s σ H _ I h) ?_) st pl
  rintro us s1 ⟨xs, H1, I1, r, q⟩
  exact ⟨I1.kIn, run_g F room gd bnd dv pass I1 r q⟩
theorem pe_callG0 {X : Cx} {C : CXT} {k : Nat} {f : Addr} {fd : FuncData} {ps : List Str} {sp : Sp} {E : XK} {ds : List Value} {dvs : List V} {x : Str} {p pos : Pos} (F : FnG X.prog X.w X.K X.mg X.base C k f fd ps sp)
    (room : Room k X.A) (gd : X.A.guards = some []) (gl : Gl X x) (hm : X.mg x = some (.ref f)) (kp : PySem.W.keepIn X.K (.ref f) = true) (bnd : Binds X.K fd ps ds) (dv : Vals dvs ds) (pass : Passes C X E)
    (hdb : (x == ("__debug__" : Str)) = false) : PE X (.Call (.Name x p) [] [] pos) (tCall sp dvs E tNil) := by
  constructor
  intro pins s σ H Q I h
  refine wpAny_Call_Name_kw (ld_glob I gl hm ?_ hdb)
  exact PySem.W.callWith_K0 I.kIn kp (run_g (us := []) F room gd bnd dv pass I .nil h)

section
variable {K : Fr'} {W F H : Hp}
theorem args_len : ∀ {ms : List Md} {vs : List V} {ds : List D}, ArgsOk K W F H ms vs ds → vs.length = ms.length
  | [], [], [], _ => rfl
  | .v :: ms, x :: vs, d :: ds, h => congrArg (· + 1) (args_len h.2)
  | .r :: ms, x :: vs, d :: ds, h => congrArg (· + 1) (args_len h.2.2)
  | .s :: ms, x :: vs, d :: ds, h => congrArg (· + 1) (args_len h.2)
theorem cells_len : ∀ {ms : List Md} {ds : List D} {cs : Ro}, cells ms ds = some cs → cs.length = ms.length
  | [], [], cs, h => by cases h; rfl
  | .v :: ms, d :: ds, cs, h => by
    simp only [cells, Option.map_eq_some_iff] at h
    obtain ⟨c, h1, rfl⟩ := h
    exact congrArg (· + 1) (cells_len h1)
  | .r :: ms, d :: ds, cs, h => by
    simp only [cells, Option.map_eq_some_iff] at h
    obtain ⟨c, h1, rfl⟩ := h
    exact congrArg (· + 1) (cells_len h1)
  | .s :: ms, .list es :: ds, cs, h => by
    simp only [cells, Option.map_eq_some_iff] at h
    obtain ⟨c, h1, rfl⟩ := h
    exact congrArg (· + 1) (cells_len h1)
theorem args_cell : ∀ {ms : List Md} {vs : List V} {ds : List D} {cs : Ro}, ArgsOk K W F H ms vs ds → cells ms ds = some cs → ∀ (i : Nat) (c : Cell), cs[i]? = some (some c) → ∃ v, vs[i]? = some v ∧ CellOk K W F H c v ∧ (c.owned = true → v ∈ rvals ms vs)
  | [], [], [], cs, _, h, i, c, e => by cases h; simp at e
  | .v :: ms, x :: vs, d :: ds, cs, a, h, i, c, e => by
    simp only [cells, Option.map_eq_some_iff] at h
    obtain ⟨cs', h1, rfl⟩ := h
    cases i with
    | zero => simp at e; subst e; exact ⟨x, rfl, a.1, fun z => by cases z⟩
    | succ i =>
      obtain ⟨v, h2, h3, h4⟩ := args_cell a.2 h1 i c (by simpa using e)
      exact ⟨v, by simpa using h2, h3, h4⟩
  | .r :: ms, x :: vs, d :: ds, cs, a, h, i, c, e => by
    simp only [cells, Option.map_eq_some_iff] at h
    obtain ⟨cs', h1, rfl⟩ := h
    cases i with
    | zero => simp at e; subst e; exact ⟨x, rfl, a.1, fun _ => List.mem_cons_self⟩
    | succ i =>
      obtain ⟨v, h2, h3, h4⟩ := args_cell a.2.2 h1 i c (by simpa using e)
      exact ⟨v, by simpa using h2, h3, fun z => List.mem_cons_of_mem _ (h4 z)⟩
  | .s :: ms, x :: vs, .list es :: ds, cs, a, h, i, c, e => by
    simp only [cells, Option.map_eq_some_iff] at h
    obtain ⟨cs', h1, rfl⟩ := h
    cases i with
    | zero =>
      simp at e; subst e
      obtain ⟨⟨es', b, xs, z, e2, s, r⟩, _⟩ := a
      cases z
      exact ⟨x, rfl, ⟨b, xs, e2, s, r⟩, fun z => by cases z⟩
    | succ i =>
      obtain ⟨v, h2, h3, h4⟩ := args_cell a.2 h1 i c (by simpa using e)
      exact ⟨v, by simpa using h2, h3, h4⟩
theorem args_inj : ∀ {ms : List Md} {vs : List V} {ds : List D} {cs : Ro}, ArgsOk K W F H ms vs ds → cells ms ds = some cs → ∀ (i j : Nat) (c e : Cell) (v : V), i < j → cs[i]? = some (some c) → cs[j]? = some (some e) → c.owned = true → e.owned = true → vs[i]? = some v → vs[j]? = some v → False
  | [], [], [], cs, _, h, i, j, c, e, v, _, e1, _, _, _, _, _ => by cases h; simp at e1
  | .v :: ms, x :: vs, d :: ds, cs, a, h, i, j, c, e, v, hij, e1, e2, o1, o2, s1, s2 => by
    simp only [cells, Option.map_eq_some_iff] at h
    obtain ⟨cs', h1, rfl⟩ := h
    cases i with
    | zero => simp at e1; subst e1; cases o1
    | succ i =>
      cases j with
      | zero => omega
      | succ j => exact args_inj a.2 h1 i j c e v (by omega) (by simpa using e1) (by simpa using e2) o1 o2 (by simpa using s1) (by simpa using s2)
  | .r :: ms, x :: vs, d :: ds, cs, a, h, i, j, c, e, v, hij, e1, e2, o1, o2, s1, s2 => by
    simp only [cells, Option.map_eq_some_iff] at h
    obtain ⟨cs', h1, rfl⟩ := h
    cases j with
    | zero => omega
    | succ j =>
      cases i with
      | zero =>
        simp at s1; subst s1
        obtain ⟨v', h2, _, h4⟩ := args_cell a.2.2 h1 j e (by simpa using e2)
        have : vs[j]? = some x := by simpa using s2
        rw [this] at h2; cases h2
        exact a.2.1 (h4 o2)
      | succ i => exact args_inj a.2.2 h1 i j c e v (by omega) (by simpa using e1) (by simpa using e2) o1 o2 (by simpa using s1) (by simpa using s2)
  | .s :: ms, x :: vs, .list es :: ds, cs, a, h, i, j, c, e, v, hij, e1, e2, o1, o2, s1, s2 => by
    simp only [cells, Option.map_eq_some_iff] at h
    obtain ⟨cs', h1, rfl⟩ := h
    cases i with
    | zero => simp at e1; subst e1; cases o1
    | succ i =>
      cases j with
      | zero => omega
      | succ j => exact args_inj a.2 h1 i j c e v (by omega) (by simpa using e1) (by simpa using e2) o1 o2 (by simpa using s1) (by simpa using s2)
/-- the slots given by reference -/
def pinsOf : Nat → List Md → List V → List (Nat × Addr)
  | i, .r :: ms, .ref a :: vs => (i, a) :: pinsOf (i + 1) ms vs
  | i, .r :: ms, _ :: vs => pinsOf (i + 1) ms vs
  | i, .v :: ms, _ :: vs => pinsOf (i + 1) ms vs
  | i, .s :: ms, _ :: vs => pinsOf (i + 1) ms vs
  | _, _, _ => []
theorem args_pin : ∀ {ms : List Md} {vs : List V} {ds : List D} {cs : Ro} (k : Nat), ArgsOk K W F H ms vs ds → cells ms ds = some cs → ∀ p ∈ pinsOf k ms vs, ∃ i, p.1 = k + i ∧ vs[i]? = some (.ref p.2) ∧ ∃ d, cs[i]? = some (some (.byr d))
  | [], [], [], cs, k, _, h, p, hp => by cases hp
  | .v :: ms, x :: vs, d :: ds, cs, k, a, h, p, hp => by
    simp only [cells, Option.map_eq_some_iff] at h
    obtain ⟨cs', h1, rfl⟩ := h
    obtain ⟨i, e1, e2, d', e3⟩ := args_pin (k + 1) a.2 h1 p (by simpa [pinsOf] using hp)
    exact ⟨i + 1, by omega, by simpa using e2, d', by simpa using e3⟩
  | .r :: ms, x :: vs, d :: ds, cs, k, a, h, p, hp => by
    simp only [cells, Option.map_eq_some_iff] at h
    obtain ⟨cs', h1, rfl⟩ := h
    obtain ⟨b, rfl, _⟩ := a.1
    simp only [pinsOf, List.mem_cons] at hp
    rcases hp with rfl | hp
    · exact ⟨0, rfl, rfl, d, rfl⟩
    · obtain ⟨i, e1, e2, d', e3⟩ := args_pin (k + 1) a.2.2 h1 p hp
      exact ⟨i + 1, by omega, by simpa using e2, d', by simpa using e3⟩
  | .s :: ms, x :: vs, .list es :: ds, cs, k, a, h, p, hp => by
    simp only [cells, Option.map_eq_some_iff] at h
    obtain ⟨cs', h1, rfl⟩ := h
    obtain ⟨i, e1, e2, d', e3⟩ := args_pin (k + 1) a.2 h1 p (by simpa [pinsOf] using hp)
    exact ⟨i + 1, by omega, by simpa using e2, d', by simpa using e3⟩
theorem get_pad {α : Type} {l : List α} {k i : Nat} {c : α} (h : (l.map some ++ List.replicate k none)[i]? = some (some c)) : l[i]? = some c := by
  rw [List.getElem?_append] at h
  split at h
  · rw [List.getElem?_map] at h
    cases e : l[i]? with
    | none => rw [e] at h; cases h
    | some z => rw [e] at h; simpa using h
  · rw [List.getElem?_replicate] at h
    split at h
    · cases h
    · cases h
theorem get_padR {l : Ro} {k i : Nat} {c : Cell} (h : (l ++ List.replicate k none)[i]? = some (some c)) : l[i]? = some (some c) := by
  rw [List.getElem?_append] at h
  split at h
  · exact h
  · rw [List.getElem?_replicate] at h
    split at h
    · cases h
    · cases h
theorem pad_get {α : Type} {l : List α} {k i : Nat} {c : α} (h : l[i]? = some c) : (l.map some ++ List.replicate k none)[i]? = some (some c) := by
  have hl := (List.getElem?_eq_some_iff.mp h).1
  rw [List.getElem?_append_left (by rw [List.length_map]; exact hl), List.getElem?_map, h]
  rfl
theorem pad_getR {l : Ro} {k i : Nat} {c : Option Cell} (h : l[i]? = some c) : (l ++ List.replicate k none)[i]? = some c := by
  have hl := (List.getElem?_eq_some_iff.mp h).1
  rw [List.getElem?_append_left hl, h]
theorem rel_start {ms : List Md} {vs : List V} {ds : List D} {cs : Ro} {k : Nat} (hF : Le F H) (hW : Same W H) (hD : Dis W F) (a : ArgsOk K W F H ms vs ds) (h : cells ms ds = some cs) :
    Rel K (pinsOf 0 ms vs) W F H (vs.map some ++ List.replicate k none) (cs ++ List.replicate k none) where
  fh := hF
  wh := hW
  len := by rw [List.length_append, List.length_append, List.length_map, args_len a, cells_len h, List.length_replicate, List.length_replicate]
  cell := fun i c e => by
    obtain ⟨v, h1, h2, _⟩ := args_cell a h i c (get_padR e)
    exact ⟨v, pad_get h1, h2⟩
  inj := fun i j c e b hij h1 h2 o1 o2 s1 s2 => by
    rcases Nat.lt_or_gt_of_ne hij with q | q
    · exact args_inj a h i j c e _ q (get_padR h1) (get_padR h2) o1 o2 (get_pad s1) (get_pad s2)
    · exact args_inj a h j i e c _ q (get_padR h2) (get_padR h1) o2 o1 (get_pad s2) (get_pad s1)
  pin := fun p hp => by
    obtain ⟨i, e1, e2, d, e3⟩ := args_pin 0 a h p hp
    have : p.1 = i := by omega
    rw [this]
    exact ⟨pad_get e2, d, pad_getR e3⟩
  dis := hD
theorem backs_ok {P : List (Nat × Addr)} {F' H' : Hp} {σ : St} {ρ : Ro} (R : Rel K P W F' H' σ ρ) : ∀ {ms : List Md} {vs : List V} {ds bs : List D} (k : Nat), ArgsOk K W F H ms vs ds → (∀ p ∈ pinsOf k ms vs, p ∈ P) → backsOf ms (ρ.drop k) = some bs → Paired (OwnV K W F' H') (rvals ms vs) bs
  | [], [], [], bs, k, _, _, e => by cases e; exact .nil
  | .v :: ms, x :: vs, d :: ds, bs, k, a, hp, e => by
    cases q : ρ.drop k with
    | nil => rw [q] at e; cases e
    | cons c r =>
      rw [q] at e
      have hd : ρ.drop (k + 1) = r := by rw [← List.drop_drop, q]; rfl
      exact backs_ok R (ms := ms) (k + 1) a.2 (fun p z => hp p (by simpa [pinsOf] using z)) (by rw [hd]; exact e)
  | .s :: ms, x :: vs, d :: ds, bs, k, a, hp, e => by
    cases q : ρ.drop k with
    | nil => rw [q] at e; cases e
    | cons c r =>
      rw [q] at e
      have hd : ρ.drop (k + 1) = r := by rw [← List.drop_drop, q]; rfl
      exact backs_ok R (ms := ms) (k + 1) a.2 (fun p z => hp p (by simpa [pinsOf] using z)) (by rw [hd]; exact e)
  | .r :: ms, x :: vs, d :: ds, bs, k, a, hp, e => by
    obtain ⟨b, rfl, _⟩ := a.1
    cases q : ρ.drop k with
    | nil => rw [q] at e; cases e
    | cons c r =>
      rw [q] at e
      have hd : ρ.drop (k + 1) = r := by rw [← List.drop_drop, q]; rfl
      have hk : ρ[k]? = some c := by
        have : (ρ.drop k)[0]? = some c := by rw [q]; rfl
        rwa [List.getElem?_drop] at this
      obtain ⟨h1, d', h2⟩ := R.pin (k, b) (hp _ (by simp [pinsOf]))
      simp only at h1 h2
      rw [hk] at h2
      cases h2
      simp only [backsOf, Option.map_eq_some_iff] at e
      obtain ⟨bs', e1, rfl⟩ := e
      obtain ⟨v, hv, hc⟩ := R.cell k _ hk
      rw [h1] at hv; cases hv
      exact .cons hc (backs_ok R (k + 1) a.2.2 (fun p z => hp p (by simp only [pinsOf, List.mem_cons]; exact .inr z)) (by rw [hd]; exact e1))
theorem rvals_pin : ∀ {ms : List Md} {vs : List V} {ds : List D} {v : V} (k : Nat), ArgsOk K W F H ms vs ds → v ∈ rvals ms vs → ∃ a i, v = .ref a ∧ (i, a) ∈ pinsOf k ms vs
  | [], [], [], v, k, _, h => by cases h
  | .v :: ms, x :: vs, d :: ds, v, k, a, h => by
    obtain ⟨b, i, e, m⟩ := rvals_pin (k + 1) a.2 h
    exact ⟨b, i, e, by simpa [pinsOf] using m⟩
  | .s :: ms, x :: vs, d :: ds, v, k, a, h => by
    obtain ⟨b, i, e, m⟩ := rvals_pin (k + 1) a.2 h
    exact ⟨b, i, e, by simpa [pinsOf] using m⟩
  | .r :: ms, x :: vs, d :: ds, v, k, a, h => by
    obtain ⟨b, rfl, _⟩ := a.1
    rcases List.mem_cons.mp h with rfl | h
    · exact ⟨b, k, rfl, by simp [pinsOf]⟩
    · obtain ⟨c, i, e, m⟩ := rvals_pin (k + 1) a.2.2 h
      exact ⟨c, i, e, by simp only [pinsOf, List.mem_cons]; exact .inr m⟩
end

section
variable {P : Program} {w : World} {K : Fr'} {mg : Str → Option Value} {base : Heap}
/-- a def by its body -/
theorem fnD_of {x qual : Str} {st : Stmt} {f : Addr} {fd : FuncData} {N ps : List Str} {k : Nat} {ms : List Md} {b : SemS} (F : Fun K x qual st f fd) (S : FnScope N ps (defScope st)) (hl : ps.length = ms.length)
    (hbody : ∀ (cdv : Value) (A : Around) (outer : List Env) (s : Shared) (H : Hp) (E : XK), Room k (A.deeper (envOfC qual (defScope st) s.heap.objs.size f cdv)) → A.guards = some [] → DSs (cxOf CX0 P w K mg base N qual (defScope st) f cdv A outer s H E).nox (defBody st) b) :
    FnD P w K mg base (k + 1) f fd ps ms (fnOf N.length ms b) := by
  refine fnG_of F S (fun vs H Q E h => ?_) (fun cdv A outer s H vs Q E hr gd h => ?_)
  · obtain ⟨W, F', ds, z, bs, _, _, _, a, _⟩ := h
    rw [args_len a, hl]
  refine ⟨_, (hbody cdv A outer s H E hr gd).ps.nox, ?_⟩
  obtain ⟨W, F', ds, z, bs, hF, hW, hD, a, e, q⟩ := h
  simp only [fnOf, Option.bind_eq_some_iff] at e
  obtain ⟨cs, e1, o, e2, e3⟩ := e
  have R0 := rel_start (k := N.length - ms.length) hF hW hD a e1
  refine ⟨pinsOf 0 ms vs, W, F', _, o, ?_, e2, ?_⟩
  · show Rel K _ W F' H (L2.start N vs) _
    unfold L2.start
    rw [args_len a]
    exact R0
  · cases o with
    | bk ρ => cases e3
    | ct ρ => cases e3
    | nx ρ =>
      simp only [endOf, Option.bind_eq_some_iff] at e3
      obtain ⟨bs', e4, e5⟩ := e3
      cases e5
      exact fun σ H1 F1 x1 R1 => q _ H1 F1 x1 R1.fh R1.wh (backs_ok R1 0 a (fun p hp => hp) e4) .non
    | rt r ρ =>
      simp only [endOf, Option.bind_eq_some_iff] at e3
      obtain ⟨z', e4, bs', e5, e6⟩ := e3
      cases e6
      refine fun v σ H1 F1 x1 R1 o1 => q v H1 F1 x1 R1.fh R1.wh (backs_ok R1 0 a (fun p hp => hp) e5) ?_
      cases r with
      | val d => cases e4; exact o1
      | «at» i => cases e4
      | fr d =>
        cases e4
        refine ⟨o1.1, fun hm => ?_⟩
        obtain ⟨b, i, rfl, hp⟩ := rvals_pin 0 a hm
        obtain ⟨h1, d', h2⟩ := R1.pin _ hp
        exact o1.2 i _ h2 rfl h1
end

/-! ### calls -/
abbrev SemM := Ro → Option (List Rv × Ro)
def frV : List Md → List Rv → List V → List V
  | .r :: ms, .fr _ :: rs, v :: vs => v :: frV ms rs vs
  | _ :: ms, _ :: rs, _ :: vs => frV ms rs vs
  | _, _, _ => []
def MOk (K : Fr') (W F H : Hp) (σ : St) (ρ : Ro) : List Md → List Rv → List V → Prop
  | [], [], [] => True
  | .v :: ms, .val d :: rs, v :: vs => Rp K F v d ∧ MOk K W F H σ ρ ms rs vs
  | .r :: ms, .at i :: rs, v :: vs => σ[i]? = some (some v) ∧ MOk K W F H σ ρ ms rs vs
  | .r :: ms, .fr d :: rs, v :: vs => OwnV K W F H v d ∧ (∀ (i : Nat) (c : Cell), ρ[i]? = some (some c) → c.owned = true → σ[i]? ≠ some (some v)) ∧ v ∉ frV ms rs vs ∧ MOk K W F H σ ρ ms rs vs
  | .s :: ms, .at i :: rs, v :: vs => σ[i]? = some (some v) ∧ MOk K W F H σ ρ ms rs vs
  | _, _, _ => False
def tDM (K : Fr') (ms : List Md) (f : SemM) : TA := fun σ H Q => ∃ P W F ρ rs ρ', Rel K P W F H σ ρ ∧ f ρ = some (rs, ρ') ∧ ∀ vs H' F', Ext W F F' → Rel K P W F' H' σ ρ' → (MOk K W F' H' σ ρ' ms rs vs) → Q vs H'
structure DM (X : Cx) (es : List Expr) (ms : List Md) (f : SemM) : Prop where
  pa : PA X es (tDM X.K ms f)
def mNil : SemM := fun ρ => some ([], ρ)
def mV (f : SemE) (g : SemM) : SemM := fun ρ => (f ρ).bind fun (r, ρ1) => (frz ρ1 r).bind fun (d, ρ2) => (g ρ2).bind fun (rs, ρ3) => some (.val d :: rs, ρ3)
def mR (f : SemE) (g : SemM) : SemM := fun ρ => (f ρ).bind fun (r, ρ1) => match r with
  | .val _ => none
  | r => (g ρ1).bind fun (rs, ρ3) => some (r :: rs, ρ3)
def mS (i : Nat) (g : SemM) : SemM := fun ρ => match ρ[i]? with
  | some (some (.scr _)) => (g ρ).bind fun (rs, ρ3) => some (.at i :: rs, ρ3)
  | _ => none
section
variable {X : Cx}
theorem dm_nil : DM X [] [] mNil := by
  refine ⟨pa_nil.pvi fun σ H Q q => ?_⟩
  obtain ⟨P, W, F, ρ, r, ρ', R, e, q⟩ := q
  cases e
  exact q [] H F (Ext.refl _ _) R trivial
theorem dm_v {e : Expr} {es : List Expr} {f : SemE} {ms : List Md} {g : SemM} (a : DE X e f) (b : DM X es ms g) (hs : starEach (e :: es) X.env = (false, eval e X.env) :: starEach es X.env := by rfl) : DM X (e :: es) (.v :: ms) (mV f g) := by
  refine ⟨(pa_cons a.pe b.pa hs).pvi fun σ H Q q => ?_⟩
  obtain ⟨P, W, F, ρ, ds, ρ', R, e, q⟩ := q
  simp only [mV, Option.bind_eq_some_iff, Prod.exists] at e
  obtain ⟨r, ρ1, e1, d, ρ2, e2, ds', ρ3, e3, e4⟩ := e
  cases e4
  refine ⟨P, W, F, ρ, r, ρ1, R, e1, fun v H1 F1 x1 R1 o1 => ?_⟩
  obtain ⟨F2, x2, R2, rp⟩ := R1.frz o1 e2
  refine ⟨P, W, F2, ρ2, ds', ρ', R2, e3, fun vs H3 F3 x3 R3 rs => ?_⟩
  exact q _ H3 F3 ((x1.trans x2).trans x3) R3 ⟨rp.mono (Le.of x3.same), rs⟩
theorem MOk.w {K : Fr'} {W W1 F H : Hp} {σ : St} {ρ : Ro} (h : ∀ a, W1 a = none → W a = none) : ∀ {ms : List Md} {rs : List Rv} {vs : List V}, MOk K W1 F H σ ρ ms rs vs → MOk K W F H σ ρ ms rs vs
  | [], [], [], _ => trivial
  | .v :: ms, .val d :: rs, v :: vs, a => ⟨a.1, MOk.w h a.2⟩
  | .r :: ms, .at i :: rs, v :: vs, a => ⟨a.1, MOk.w h a.2⟩
  | .r :: ms, .fr d :: rs, v :: vs, a => by
    obtain ⟨⟨b, e, hw, q⟩, h2, h3, h4⟩ := a
    exact ⟨⟨b, e, h b hw, q⟩, h2, h3, MOk.w h h4⟩
  | .s :: ms, .at i :: rs, v :: vs, a => ⟨a.1, MOk.w h a.2⟩
/-- what the by-reference arguments are: cells, or new things -/
def mData (ρ : Ro) : List Md → List Rv → Option (List D)
  | [], [] => some []
  | .v :: ms, .val d :: rs => (mData ρ ms rs).map (d :: ·)
  | .r :: ms, .at i :: rs => (match ρ[i]? with
    | some (some (.own d)) => (mData ρ ms rs).map (d :: ·)
    | some (some (.byr d)) => (mData ρ ms rs).map (d :: ·)
    | _ => none)
  | .r :: ms, .fr d :: rs => (mData ρ ms rs).map (d :: ·)
  | .s :: ms, .at i :: rs => (match ρ[i]? with
    | some (some (.scr es)) => (mData ρ ms rs).map (.list es :: ·)
    | _ => none)
  | _, _ => none
def mIdx : List Md → List Rv → List Nat
  | .r :: ms, .at i :: rs => i :: mIdx ms rs
  | _ :: ms, _ :: rs => mIdx ms rs
  | _, _ => []
def setD (ρ : Ro) (i : Nat) (b : D) : Ro := match ρ[i]? with
  | some (some (.own _)) => ρ.set i (some (.own b))
  | some (some (.byr _)) => ρ.set i (some (.byr b))
  | _ => ρ
def mBack (ρ : Ro) : List Md → List Rv → List D → Ro
  | .r :: ms, .at i :: rs, b :: bs => setD (mBack ρ ms rs bs) i b
  | .r :: ms, .fr _ :: rs, _ :: bs => mBack ρ ms rs bs
  | .v :: ms, _ :: rs, bs => mBack ρ ms rs bs
  | .s :: ms, _ :: rs, bs => mBack ρ ms rs bs
  | _, _, _ => ρ
theorem rv_owned {K : Fr'} {W F H : Hp} {σ : St} {ρ : Ro} {v : V} : ∀ {ms : List Md} {rs : List Rv} {vs : List V} {ds : List D}, MOk K W F H σ ρ ms rs vs → mData ρ ms rs = some ds → v ∈ rvals ms vs →
    (∃ i ∈ mIdx ms rs, σ[i]? = some (some v) ∧ ∃ c, ρ[i]? = some (some c) ∧ c.owned = true) ∨ (v ∈ frV ms rs vs ∧ ∀ (i : Nat) (c : Cell), ρ[i]? = some (some c) → c.owned = true → σ[i]? ≠ some (some v))
  | [], [], [], _, _, _, h => by cases h
  | .v :: ms, .val d :: rs, x :: vs, ds, a, e, h => by
    simp only [mData, Option.map_eq_some_iff] at e
    obtain ⟨ds', e1, _⟩ := e
    exact rv_owned (ms := ms) (rs := rs) a.2 e1 h
  | .s :: ms, .at i :: rs, x :: vs, ds, a, e, h => by
    simp only [mData] at e
    split at e
    · simp only [Option.map_eq_some_iff] at e
      obtain ⟨ds', e1, _⟩ := e
      exact rv_owned (ms := ms) (rs := rs) a.2 e1 h
    · cases e
  | .r :: ms, .fr d :: rs, x :: vs, ds, a, e, h => by
    simp only [mData, Option.map_eq_some_iff] at e
    obtain ⟨ds', e1, _⟩ := e
    rcases List.mem_cons.mp h with rfl | h
    · exact .inr ⟨List.mem_cons_self, a.2.1⟩
    · rcases rv_owned (ms := ms) (rs := rs) a.2.2.2 e1 h with q | ⟨q1, q2⟩
      · exact .inl q
      · exact .inr ⟨List.mem_cons_of_mem _ q1, q2⟩
  | .r :: ms, .at i :: rs, x :: vs, ds, a, e, h => by
    simp only [mData] at e
    split at e
    · rename_i d hc
      simp only [Option.map_eq_some_iff] at e
      obtain ⟨ds', e1, _⟩ := e
      rcases List.mem_cons.mp h with rfl | h
      · exact .inl ⟨i, List.mem_cons_self, a.1, _, hc, rfl⟩
      · rcases rv_owned (ms := ms) (rs := rs) a.2 e1 h with ⟨j, hj, q⟩ | q
        · exact .inl ⟨j, List.mem_cons_of_mem _ hj, q⟩
        · exact .inr q
    · rename_i d hc
      simp only [Option.map_eq_some_iff] at e
      obtain ⟨ds', e1, _⟩ := e
      rcases List.mem_cons.mp h with rfl | h
      · exact .inl ⟨i, List.mem_cons_self, a.1, _, hc, rfl⟩
      · rcases rv_owned (ms := ms) (rs := rs) a.2 e1 h with ⟨j, hj, q⟩ | q
        · exact .inl ⟨j, List.mem_cons_of_mem _ hj, q⟩
        · exact .inr q
    · cases e

theorem frV_off {K : Fr'} {W F H : Hp} {σ : St} {ρ : Ro} : ∀ {ms : List Md} {rs : List Rv} {vs : List V}, MOk K W F H σ ρ ms rs vs → ∀ v ∈ frV ms rs vs, ∃ a, v = .ref a ∧ W a = none
  | [], [], [], _, v, h => by cases h
  | .v :: ms, .val d :: rs, x :: vs, a, v, h => frV_off (ms := ms) (rs := rs) a.2 v h
  | .s :: ms, .at i :: rs, x :: vs, a, v, h => frV_off (ms := ms) (rs := rs) a.2 v h
  | .r :: ms, .at i :: rs, x :: vs, a, v, h => frV_off (ms := ms) (rs := rs) a.2 v h
  | .r :: ms, .fr d :: rs, x :: vs, a, v, h => by
    rcases List.mem_cons.mp h with rfl | h
    · obtain ⟨b, e, hw, _⟩ := a.1; exact ⟨b, e, hw⟩
    · exact frV_off (ms := ms) (rs := rs) a.2.2.2 v h
theorem dm_r {e : Expr} {es : List Expr} {f : SemE} {ms : List Md} {g : SemM} (a : DE X e f) (b : DM X es ms g) (hs : starEach (e :: es) X.env = (false, eval e X.env) :: starEach es X.env := by rfl) : DM X (e :: es) (.r :: ms) (mR f g) := by
  refine ⟨(pa_cons a.pe b.pa hs).pvi fun σ H Q q => ?_⟩
  obtain ⟨P, W, F, ρ, ds, ρ', R, e, q⟩ := q
  simp only [mR, Option.bind_eq_some_iff, Prod.exists] at e
  obtain ⟨r, ρ1, e1, e2⟩ := e
  refine ⟨P, W, F, ρ, r, ρ1, R, e1, fun v H1 F1 x1 R1 o1 => ?_⟩
  cases r with
  | val d => cases e2
  | «at» i =>
    simp only [Option.bind_eq_some_iff, Prod.exists] at e2
    obtain ⟨rs, ρ3, e3, e4⟩ := e2
    cases e4
    exact ⟨P, W, F1, ρ1, rs, ρ', R1, e3, fun vs H3 F3 x3 R3 m => q _ H3 F3 (x1.trans x3) R3 ⟨o1, m⟩⟩
  | fr d =>
    simp only [Option.bind_eq_some_iff, Prod.exists] at e2
    obtain ⟨rs, ρ3, e3, e4⟩ := e2
    cases e4
    obtain ⟨⟨a, ea, hw, hf, ow⟩, hn⟩ := o1
    obtain ⟨_, u, hu⟩ := ow.mut
    subst ea
    refine ⟨P, upd W a u, F1, ρ1, rs, ρ', R1.protect hu hf hn, e3, fun vs H3 F3 x3 R3 m => ?_⟩
    have hF3 : F3 a = none := by rw [x3.off a (by rw [upd_same]; exact fun z => nomatch z)]; exact hf
    refine q _ H3 F3 (x1.trans x3.un) (R3.unprotect hw) ⟨⟨a, rfl, hw, hF3, ?_⟩, R3.noown, fun z => ?_, m.w fun b hb => (upd_none hb).2⟩
    · rw [R3.wh a u upd_same, ← hu]; exact ow.mono (Le.of x3.same)
    · obtain ⟨b, eb, hb⟩ := frV_off m _ z
      cases eb
      exact (upd_none hb).1 rfl
theorem dm_s {i : Nat} {x : Str} {p : Pos} {es : List Expr} {ms : List Md} {g : SemM} (a : PE X (.Name x p) (tVar i)) (b : DM X es ms g) (hs : starEach (.Name x p :: es) X.env = (false, eval (.Name x p) X.env) :: starEach es X.env := by rfl) : DM X (.Name x p :: es) (.s :: ms) (mS i g) := by
  refine ⟨(pa_cons a b.pa hs).pvi fun σ H Q q => ?_⟩
  obtain ⟨P, W, F, ρ, ds, ρ', R, e, q⟩ := q
  simp only [mS] at e
  split at e
  · rename_i es hc
    simp only [Option.bind_eq_some_iff, Prod.exists] at e
    obtain ⟨rs, ρ3, e3, e4⟩ := e
    cases e4
    obtain ⟨v, hv, hk⟩ := R.cell i _ hc
    exact ⟨v, hv, P, W, F, ρ, rs, ρ', R, e3, fun vs H3 F3 x3 R3 m => q _ H3 F3 x3 R3 ⟨hv, m⟩⟩
  · cases e

def sCall (ms : List Md) (fn : Fn) (f : SemM) : SemE := fun ρ => (f ρ).bind fun (rs, ρ1) => if (mIdx ms rs).Nodup then (mData ρ1 ms rs).bind fun ds => (fn ds).bind fun (z, bs) => some (mkR z, mBack ρ1 ms rs bs) else none
open Classical in
/-- what a callee must keep: what is kept, and what is one's own and not given -/
noncomputable def keepW (W H : Hp) (σ : St) (ρ : Ro) (rv : List V) : Hp := fun b => if (∃ (i : Nat) (c : Cell), ρ[i]? = some (some c) ∧ c.owned = true ∧ σ[i]? = some (some (.ref b))) ∧ V.ref b ∉ rv then H b else W b
section
variable {K : Fr'} {P : List (Nat × Addr)} {W F H F' H' : Hp} {σ : St} {ρ : Ro} {rv : List V} {a : Addr}
theorem keepW_in (h : ∃ (i : Nat) (c : Cell), ρ[i]? = some (some c) ∧ c.owned = true ∧ σ[i]? = some (some (.ref a))) (h2 : V.ref a ∉ rv) : keepW W H σ ρ rv a = H a := if_pos ⟨h, h2⟩
theorem keepW_rv (h : V.ref a ∈ rv) : keepW W H σ ρ rv a = W a := if_neg fun z => z.2 h
theorem keepW_no (h : ∀ (i : Nat) (c : Cell), ρ[i]? = some (some c) → c.owned = true → σ[i]? ≠ some (some (.ref a))) : keepW W H σ ρ rv a = W a := if_neg fun ⟨⟨i, c, h1, h2, h3⟩, _⟩ => h i c h1 h2 h3
theorem keepW_same (h : Same W H) : Same (keepW W H σ ρ rv) H := fun b o e => by
  unfold keepW at e
  split at e
  · exact e
  · exact h b o e
theorem keepW_none (R : Rel K P W F H σ ρ) (h : keepW W H σ ρ rv a = none) : W a = none ∧ ((∃ (i : Nat) (c : Cell), ρ[i]? = some (some c) ∧ c.owned = true ∧ σ[i]? = some (some (.ref a))) → V.ref a ∈ rv) := by
  unfold keepW at h
  split at h
  · rename_i z
    obtain ⟨⟨i, c, h1, h2, h3⟩, h4⟩ := z
    obtain ⟨v, hv, hk⟩ := R.cell i c h1
    rw [h3] at hv; cases hv
    have : ∃ u, H a = some u := by
      cases c with
      | val d => cases h2
      | own d => obtain ⟨b, eb, _, _, o⟩ := hk; cases eb; exact o.mut.2
      | byr d => obtain ⟨b, eb, _, _, o⟩ := hk; cases eb; exact o.mut.2
      | scr ds => cases h2
    obtain ⟨u, hu⟩ := this
    rw [hu] at h; cases h
  · rename_i z
    refine ⟨h, fun q => ?_⟩
    by_cases hm : V.ref a ∈ rv
    · exact hm
    · exact absurd ⟨q, hm⟩ z
theorem keepW_dis (R : Rel K P W F H σ ρ) : Dis (keepW W H σ ρ rv) F := fun b e => by
  unfold keepW at e ⊢
  split at e
  · next z =>
    obtain ⟨⟨i, c, h1, h2, h3⟩, _⟩ := z
    obtain ⟨v, hv, hk⟩ := R.cell i c h1
    rw [h3] at hv
    cases hv
    cases c with
    | val _ => cases h2
    | scr _ => cases h2
    | own _ => obtain ⟨a, ea, _, hf, _⟩ := hk; cases ea; exact .inl hf
    | byr _ => obtain ⟨a, ea, _, hf, _⟩ := hk; cases ea; exact .inl hf
  · next z => rw [if_neg z]; exact R.dis b e
theorem keepW_ext (w : Same W H) (x : Ext (keepW W H σ ρ rv) F F') : Ext W F F' := ⟨x.same, fun b e => x.off b (by
  unfold keepW
  split
  · exact Same.ne w e
  · exact e)⟩
theorem mok_args (R : Rel K P W F H σ ρ) : ∀ {ms : List Md} {rs : List Rv} {vs : List V} {ds : List D} (W' : Hp), MOk K W F H σ ρ ms rs vs → mData ρ ms rs = some ds → (mIdx ms rs).Nodup → (∀ a, V.ref a ∈ rvals ms vs → W' a = W a) → ArgsOk K W' F H ms vs ds
  | [], [], [], ds, W', _, e, _, _ => by cases e; trivial
  | .v :: ms, .val d :: rs, v :: vs, ds, W', m, e, nd, hw => by
    simp only [mData, Option.map_eq_some_iff] at e
    obtain ⟨ds', e1, rfl⟩ := e
    exact ⟨m.1, mok_args R (ms := ms) (rs := rs) W' m.2 e1 nd hw⟩
  | .s :: ms, .at i :: rs, v :: vs, ds, W', m, e, nd, hw => by
    simp only [mData] at e
    split at e
    · rename_i es hc
      simp only [Option.map_eq_some_iff] at e
      obtain ⟨ds', e1, rfl⟩ := e
      obtain ⟨u, hu, a, xs, ea, s, r⟩ := R.cell i _ hc
      rw [m.1] at hu; cases hu
      exact ⟨⟨es, a, xs, rfl, ea, s, r⟩, mok_args R (ms := ms) (rs := rs) W' m.2 e1 nd hw⟩
    · cases e
  | .r :: ms, .fr d :: rs, v :: vs, ds, W', m, e, nd, hw => by
    simp only [mData, Option.map_eq_some_iff] at e
    obtain ⟨ds', e1, rfl⟩ := e
    obtain ⟨⟨a, ea, hwa, hf, o⟩, hn, hfr, m2⟩ := m
    subst ea
    refine ⟨⟨a, rfl, by rw [hw a List.mem_cons_self]; exact hwa, hf, o⟩, fun z => ?_, mok_args R (ms := ms) (rs := rs) W' m2 e1 nd fun b hb => hw b (List.mem_cons_of_mem _ hb)⟩
    rcases rv_owned (ms := ms) (rs := rs) m2 e1 z with ⟨j, hj, s, c, hc, ow⟩ | ⟨q, _⟩
    · exact hn j c hc ow s
    · exact hfr q
  | .r :: ms, .at i :: rs, v :: vs, ds, W', m, e, nd, hw => by
    have go : ∀ (c : Cell) (d : D) (ds' : List D), ρ[i]? = some (some c) → c.owned = true → OwnV K W F H v d → mData ρ ms rs = some ds' → ArgsOk K W' F H (.r :: ms) (v :: vs) (d :: ds') := fun c d ds' hc ow hk e1 => by
      obtain ⟨a, ea, hwa, hf, o⟩ := hk
      subst ea
      have nd' := List.nodup_cons.mp nd
      refine ⟨⟨a, rfl, by rw [hw a List.mem_cons_self]; exact hwa, hf, o⟩, fun z => ?_, mok_args R (ms := ms) (rs := rs) W' m.2 e1 nd'.2 fun b hb => hw b (List.mem_cons_of_mem _ hb)⟩
      rcases rv_owned (ms := ms) (rs := rs) m.2 e1 z with ⟨j, hj, s, c', hc', ow'⟩ | ⟨q, hn⟩
      · exact R.inj i j c c' a (fun y => nd'.1 (by rw [y]; exact hj)) hc hc' ow ow' m.1 s
      · exact hn i c hc ow m.1
    simp only [mData] at e
    split at e
    · rename_i d hc
      simp only [Option.map_eq_some_iff] at e
      obtain ⟨ds', e1, rfl⟩ := e
      obtain ⟨u, hu, hk⟩ := R.cell i _ hc
      rw [m.1] at hu; cases hu
      exact go _ d ds' hc rfl hk e1
    · rename_i d hc
      simp only [Option.map_eq_some_iff] at e
      obtain ⟨ds', e1, rfl⟩ := e
      obtain ⟨u, hu, hk⟩ := R.cell i _ hc
      rw [m.1] at hu; cases hu
      exact go _ d ds' hc rfl hk e1
    · cases e
theorem setD_get {i j : Nat} {b : D} {c : Cell} (h : (setD ρ i b)[j]? = some (some c)) :
    (j = i ∧ ((c = .own b ∧ ∃ d, ρ[i]? = some (some (.own d))) ∨ (c = .byr b ∧ ∃ d, ρ[i]? = some (some (.byr d))))) ∨ (ρ[j]? = some (some c) ∧ (j = i → c.owned = false)) := by
  unfold setD at h
  split at h
  · rename_i d e
    rcases set_get h with ⟨rfl, z⟩ | ⟨hj, z⟩
    · cases z; exact .inl ⟨rfl, .inl ⟨rfl, d, e⟩⟩
    · exact .inr ⟨z, fun y => absurd y hj⟩
  · rename_i d e
    rcases set_get h with ⟨rfl, z⟩ | ⟨hj, z⟩
    · cases z; exact .inl ⟨rfl, .inr ⟨rfl, d, e⟩⟩
    · exact .inr ⟨z, fun y => absurd y hj⟩
  · rename_i n1 n2
    refine .inr ⟨h, fun y => ?_⟩
    subst y
    cases c with
    | val d => rfl
    | own d => exact absurd h (n1 d)
    | byr d => exact absurd h (n2 d)
    | scr ds => rfl
theorem setD_len {i : Nat} {b : D} : (setD ρ i b).length = ρ.length := by
  unfold setD
  split
  · rw [List.length_set]
  · rw [List.length_set]
  · rfl
theorem mBack_len : ∀ {ms : List Md} {rs : List Rv} {bs : List D}, (mBack ρ ms rs bs).length = ρ.length
  | [], _, _ => by simp [mBack]
  | .r :: ms, [], _ => by simp [mBack]
  | .v :: ms, [], _ => by simp [mBack]
  | .s :: ms, [], _ => by simp [mBack]
  | .r :: ms, .at i :: rs, [] => by simp [mBack]
  | .r :: ms, .at i :: rs, b :: bs => by simp only [mBack]; rw [setD_len]; exact mBack_len
  | .r :: ms, .fr d :: rs, [] => by simp [mBack]
  | .r :: ms, .fr d :: rs, b :: bs => by simp only [mBack]; exact mBack_len
  | .r :: ms, .val d :: rs, bs => by cases bs <;> simp [mBack]
  | .v :: ms, r :: rs, bs => by simp only [mBack]; exact mBack_len
  | .s :: ms, r :: rs, bs => by simp only [mBack]; exact mBack_len
theorem mBack_byr {i : Nat} {d : D} (h : ρ[i]? = some (some (.byr d))) : ∀ {ms : List Md} {rs : List Rv} {bs : List D}, ∃ d', (mBack ρ ms rs bs)[i]? = some (some (.byr d'))
  | [], _, _ => ⟨d, by simp [mBack, h]⟩
  | .r :: ms, [], _ => ⟨d, by simp [mBack, h]⟩
  | .v :: ms, [], _ => ⟨d, by simp [mBack, h]⟩
  | .s :: ms, [], _ => ⟨d, by simp [mBack, h]⟩
  | .r :: ms, .at j :: rs, [] => ⟨d, by simp [mBack, h]⟩
  | .r :: ms, .at j :: rs, b :: bs => by
    obtain ⟨d', e⟩ := mBack_byr h (ms := ms) (rs := rs) (bs := bs)
    simp only [mBack]
    unfold setD
    by_cases hj : j = i
    · subst hj
      rw [e]
      exact ⟨b, by simp only; rw [List.getElem?_set_self (List.getElem?_eq_some_iff.mp e).1]⟩
    · split
      · exact ⟨d', by rw [List.getElem?_set_ne hj]; exact e⟩
      · exact ⟨d', by rw [List.getElem?_set_ne hj]; exact e⟩
      · exact ⟨d', e⟩
  | .r :: ms, .fr _ :: rs, [] => ⟨d, by simp [mBack, h]⟩
  | .r :: ms, .fr _ :: rs, b :: bs => by simp only [mBack]; exact mBack_byr h
  | .r :: ms, .val _ :: rs, bs => by cases bs <;> exact ⟨d, by simp [mBack, h]⟩
  | .v :: ms, r :: rs, bs => by simp only [mBack]; exact mBack_byr h
  | .s :: ms, r :: rs, bs => by simp only [mBack]; exact mBack_byr h
/-- what the cells are behind a call -/
theorem mBack_get {T : V → D → Prop} : ∀ {ms : List Md} {rs : List Rv} {vs : List V} {bs ds : List D}, MOk K W F H σ ρ ms rs vs → mData ρ ms rs = some ds → (mIdx ms rs).Nodup → Paired T (rvals ms vs) bs → ∀ (j : Nat) (c : Cell), (mBack ρ ms rs bs)[j]? = some (some c) →
    (∃ v b, j ∈ mIdx ms rs ∧ σ[j]? = some (some v) ∧ T v b ∧ ((c = .own b ∧ ∃ d, ρ[j]? = some (some (.own d))) ∨ (c = .byr b ∧ ∃ d, ρ[j]? = some (some (.byr d))))) ∨ (j ∉ mIdx ms rs ∧ ρ[j]? = some (some c))
  | [], [], [], bs, ds, _, _, _, _, j, c, h => .inr ⟨List.not_mem_nil, by simpa [mBack] using h⟩
  | .v :: ms, .val d :: rs, v :: vs, bs, ds, m, e, nd, p, j, c, h => by
    simp only [mData, Option.map_eq_some_iff] at e
    obtain ⟨ds', e1, _⟩ := e
    exact mBack_get (ms := ms) (rs := rs) (vs := vs) m.2 e1 nd p j c h
  | .s :: ms, .at i :: rs, v :: vs, bs, ds, m, e, nd, p, j, c, h => by
    simp only [mData] at e
    split at e
    · simp only [Option.map_eq_some_iff] at e
      obtain ⟨ds', e1, _⟩ := e
      exact mBack_get (ms := ms) (rs := rs) (vs := vs) m.2 e1 nd p j c h
    · cases e
  | .r :: ms, .fr d :: rs, v :: vs, bs, ds, m, e, nd, p, j, c, h => by
    simp only [mData, Option.map_eq_some_iff] at e
    obtain ⟨ds', e1, _⟩ := e
    cases p with
    | cons t p => exact mBack_get (ms := ms) (rs := rs) (vs := vs) m.2.2.2 e1 nd p j c h
  | .r :: ms, .at i :: rs, v :: vs, bs, ds, m, e, nd, p, j, c, h => by
    have e' : ∃ ds', mData ρ ms rs = some ds' ∧ ∃ c, ρ[i]? = some (some c) ∧ c.owned = true := by
      simp only [mData] at e
      split at e
      · rename_i d hc
        simp only [Option.map_eq_some_iff] at e
        obtain ⟨ds', e1, _⟩ := e
        exact ⟨ds', e1, _, hc, rfl⟩
      · rename_i d hc
        simp only [Option.map_eq_some_iff] at e
        obtain ⟨ds', e1, _⟩ := e
        exact ⟨ds', e1, _, hc, rfl⟩
      · cases e
    obtain ⟨ds', e1, ci, hci, owi⟩ := e'
    have nd' := List.nodup_cons.mp nd
    cases p with
    | @cons _ b _ bs t p =>
      have ih := mBack_get (ms := ms) (rs := rs) (vs := vs) m.2 e1 nd'.2 p
      rcases setD_get h with ⟨rfl, q⟩ | ⟨q, hq⟩
      · refine .inl ⟨v, b, List.mem_cons_self, m.1, t, ?_⟩
        have back : ∀ c', (mBack ρ ms rs bs)[j]? = some (some c') → ρ[j]? = some (some c') := fun c' z => by
          rcases ih j c' z with ⟨_, _, h1, _⟩ | ⟨_, h2⟩
          · exact absurd h1 nd'.1
          · exact h2
        rcases q with ⟨q1, d, q2⟩ | ⟨q1, d, q2⟩
        · exact .inl ⟨q1, d, back _ q2⟩
        · exact .inr ⟨q1, d, back _ q2⟩
      · rcases ih j c q with ⟨v', b', h1, h2, h3, h4⟩ | ⟨h1, h2⟩
        · exact .inl ⟨v', b', List.mem_cons_of_mem _ h1, h2, h3, h4⟩
        · refine .inr ⟨fun z => ?_, h2⟩
          rcases List.mem_cons.mp z with z | z
          · have := hq z
            rw [z, hci] at h2
            cases h2
            rw [owi] at this; cases this
          · exact h1 z
/-- the frame behind a call -/
theorem rel_back {ms : List Md} {rs : List Rv} {vs : List V} {bs ds : List D} (R : Rel K P W F H σ ρ) (m : MOk K W F H σ ρ ms rs vs) (e : mData ρ ms rs = some ds) (nd : (mIdx ms rs).Nodup)
    (x : Ext (keepW W H σ ρ (rvals ms vs)) F F') (l : Le F' H') (s : Same (keepW W H σ ρ (rvals ms vs)) H') (p : Paired (OwnV K (keepW W H σ ρ (rvals ms vs)) F' H') (rvals ms vs) bs) : Rel K P W F' H' σ (mBack ρ ms rs bs) where
  fh := l
  wh := fun b o eb => by
    by_cases h : keepW W H σ ρ (rvals ms vs) b = W b
    · exact s b o (by rw [h]; exact eb)
    · have h2 : keepW W H σ ρ (rvals ms vs) b = H b := by
        unfold keepW at h ⊢
        split
        · rfl
        · rename_i z; exact absurd (if_neg z) h
      exact s b o (by rw [h2]; exact R.wh b o eb)
  len := by rw [mBack_len]; exact R.len
  cell := fun j c hc => by
    rcases mBack_get m e nd p j c hc with ⟨v, b, hj, hv, t, q⟩ | ⟨hj, q⟩
    · refine ⟨v, hv, ?_⟩
      obtain ⟨a, ea, hw, hf, o⟩ := t
      have hwa := (keepW_none R hw).1
      rcases q with ⟨rfl, _⟩ | ⟨rfl, _⟩
      · exact ⟨a, ea, hwa, hf, o⟩
      · exact ⟨a, ea, hwa, hf, o⟩
    · obtain ⟨v, hv, hk⟩ := R.cell j c q
      refine ⟨v, hv, ?_⟩
      have own : ∀ d, c.owned = true → OwnV K W F H v d → OwnV K W F' H' v d := fun d ow ⟨a, ea, hw, hf, o⟩ => by
        subst ea
        have hnr : V.ref a ∉ rvals ms vs := fun z => by
          rcases rv_owned m e z with ⟨i, hi, s', c', hc', ow'⟩ | ⟨_, hn⟩
          · exact R.inj i j c' c a (fun y => hj (by rw [← y]; exact hi)) hc' q ow' ow s' hv
          · exact hn j c q ow hv
        have hkw := keepW_in (W := W) (H := H) (rv := rvals ms vs) ⟨j, c, q, ow, hv⟩ hnr
        obtain ⟨_, u, hu⟩ := o.mut
        refine ⟨a, rfl, hw, by rw [x.off a (by rw [hkw, hu]; exact fun z => nomatch z)]; exact hf, ?_⟩
        rw [s a u (by rw [hkw]; exact hu), ← hu]
        exact o.mono (Le.of x.same)
      cases c with
      | val d => exact Rp.mono (Le.of x.same) hk
      | own d => exact own d rfl hk
      | byr d => exact own d rfl hk
      | scr ds => obtain ⟨a, xs, ea, s', r⟩ := hk; exact ⟨a, xs, ea, (Le.of x.same).sql s', r.mono (Le.of x.same)⟩
  inj := fun i j c e' a hij h1 h2 o1 o2 s1 s2 => by
    have was : ∀ (k : Nat) (c : Cell), (mBack ρ ms rs bs)[k]? = some (some c) → c.owned = true → ∃ c', ρ[k]? = some (some c') ∧ c'.owned = true := fun k c hc ow => by
      rcases mBack_get m e nd p k c hc with ⟨v, b, hj, hv, t, q⟩ | ⟨hj, q⟩
      · rcases q with ⟨_, d, q⟩ | ⟨_, d, q⟩
        · exact ⟨_, q, rfl⟩
        · exact ⟨_, q, rfl⟩
      · exact ⟨c, q, ow⟩
    obtain ⟨c1, h1', o1'⟩ := was i c h1 o1
    obtain ⟨c2, h2', o2'⟩ := was j e' h2 o2
    exact R.inj i j c1 c2 a hij h1' h2' o1' o2' s1 s2
  pin := fun q hq => by
    obtain ⟨h1, d, h2⟩ := R.pin q hq
    obtain ⟨d', h3⟩ := mBack_byr h2 (ms := ms) (rs := rs) (bs := bs)
    exact ⟨h1, d', h3⟩
  dis := fun b e => (R.dis b e).imp (fun z => ((keepW_ext R.wh x).off b e).trans z) id
end
theorem sCall_ok {K : Fr'} {ms : List Md} {fn : Fn} {f : SemM} {σ : St} {H : Hp} {Q : VK} {E : XK} (q : tD K (sCall ms fn f) σ H Q) : tCall (spF K ms fn) [] E (tDM K ms f) σ H Q := by
  obtain ⟨P, W, F, ρ, r, ρ', R, e, q⟩ := q
  simp only [sCall, Option.bind_eq_some_iff, Prod.exists] at e
  obtain ⟨rs, ρ1, e1, e2⟩ := e
  split at e2
  case isFalse => cases e2
  rename_i nd
  simp only [Option.bind_eq_some_iff, Prod.exists] at e2
  obtain ⟨ds, e3, z, b, bs, e4, e5⟩ := e2
  cases e5
  refine ⟨P, W, F, ρ, rs, ρ1, R, e1, fun vs H1 F1 x1 R1 m => ?_⟩
  show spF K ms fn (vs ++ []) H1 Q E
  rw [List.append_nil]
  refine ⟨keepW W H1 σ ρ1 (rvals ms vs), F1, ds, (z, b), bs, R1.fh, keepW_same R1.wh, keepW_dis R1, mok_args R1 _ m e3 nd fun a ha => keepW_rv ha, e4, fun v H' F' x l s p res => ?_⟩
  have R2 := rel_back R1 m e3 nd x l s p
  refine q v H' F' (x1.trans (keepW_ext R1.wh x)) R2 ?_
  cases b with
  | false => exact res
  | true =>
    obtain ⟨⟨a, ea, hw, hf, o⟩, hn⟩ := res
    subst ea
    obtain ⟨h1, h2⟩ := keepW_none R1 hw
    refine ⟨⟨a, rfl, h1, hf, o⟩, fun i c hc ow es => ?_⟩
    have : ∃ c', ρ1[i]? = some (some c') ∧ c'.owned = true := by
      rcases mBack_get m e3 nd p i c hc with ⟨v, b, hj, hv, t, q⟩ | ⟨hj, q⟩
      · rcases q with ⟨_, d, q⟩ | ⟨_, d, q⟩
        · exact ⟨_, q, rfl⟩
        · exact ⟨_, q, rfl⟩
      · exact ⟨c, q, ow⟩
    obtain ⟨c', hc', ow'⟩ := this
    exact hn (h2 ⟨i, c', hc', ow', es⟩)
section
variable {CX : CXT} {k : Nat} {f : Addr} {fd : FuncData} {ps : List Str} {x : Str} {p pos : Pos} {e : Expr} {es : List Expr} {ms : List Md} {fn : Fn} {g : SemM}
theorem de_call (F : FnD X.prog X.w X.K X.mg X.base k f fd ps ms fn) (hr : Room k X.A) (gd : X.A.guards = some []) (hg : Gl X x) (hm : X.mg x = some (.ref f)) (hk : PySem.W.keepIn X.K (.ref f) = true) (hb : Binds X.K fd ps [])
    (ha : DM X (e :: es) ms g) (hdb : (x == ("__debug__" : Str)) = false := by decide) (he : starEach (e :: es) X.env = (false, eval e X.env) :: starEach es X.env := by rfl) (hpl : (backTo pos (starEach es X.env)).any (·.1) = false := by rfl) :
    DE X (.Call (.Name x p) (e :: es) [] pos) (sCall ms fn g) :=
  ⟨(pe_callG F hr gd hg hm hk hb .nil pass0 ha.pa hdb he hpl).pvi fun _ _ _ => sCall_ok⟩
theorem de_call0 (F : FnD X.prog X.w X.K X.mg X.base k f fd ps [] fn) (hr : Room k X.A) (gd : X.A.guards = some []) (hg : Gl X x) (hm : X.mg x = some (.ref f)) (hk : PySem.W.keepIn X.K (.ref f) = true) (hb : Binds X.K fd ps [])
    (hdb : (x == ("__debug__" : Str)) = false := by decide) : DE X (.Call (.Name x p) [] [] pos) (sCall [] fn mNil) := by
  refine ⟨(pe_callG0 F hr gd hg hm hk hb .nil pass0 hdb).pvi fun σ H Q q => ?_⟩
  have := sCall_ok (E := E0) q
  obtain ⟨P, W, F, ρ, rs, ρ1, R, e1, k⟩ := this
  cases e1
  exact k [] H F (Ext.refl _ _) R trivial
end
end
end Pv
end
section
set_option Elab.async false
set_option linter.all false
set_option maxRecDepth 100000
set_option maxHeartbeats 1000000
/-! PvF: the operations on plain data. -/
namespace Pv
open PySem PySem.Spec PyProof.Rows L2

section
variable {X : Cx} {K : Fr'} {F H : Hp} {Q : VK} {v x y : V} {d : D}

/-! ### + - * // % ** -/
def addF : Op2
  | .int i, .int j => some (.int (i + j), false)
  | .str a, .str b => if a.length + b.length ≤ sizeLine then some (.str (a ++ b), false) else none
  | .list xs, .list ys => if xs.length + ys.length ≤ sizeLine then some (.list (xs ++ ys), true) else none
  | .tuple xs, .tuple ys => if xs.length + ys.length ≤ sizeLine then some (.tuple (xs ++ ys), false) else none
  | _, _ => none
theorem or_add : OpR X (binaryOp .Add) (rS X.K addF) := by
  intro pins s σ H x y v u Q I rx ry h
  obtain ⟨F, d, e, zb, l, hd, he, hz, q⟩ := h
  unfold addF at hz
  split at hz
  · cases hz
    exact op_add pins s σ H x y v u Q I rx ry ⟨_, _, hd.int, he.int, q.old l (.int _)⟩
  · split at hz
    · cases hz
      exact op_add_str pins s σ H x y v u Q I rx ry ⟨_, _, hd.str, he.str, by assumption, q.old l (.str _)⟩
    · cases hz
  · split at hz
    · cases hz
      obtain ⟨a, xs, e1, h1, r1⟩ := hd.list l
      obtain ⟨b, ys, e2, h2, r2⟩ := he.list l
      exact op_cat pins s σ H x y v u Q I rx ry ⟨a, b, xs, ys, e1, e2, h1, h2, by rw [r1.length, r2.length]; assumption, Post.lst l (r1.append r2) q⟩
    · cases hz
  · split at hz
    · cases hz
      obtain ⟨a, xs, e1, h1, r1, p1⟩ := hd.tuple l
      obtain ⟨b, ys, e2, h2, r2, p2⟩ := he.tuple l
      subst e1 e2
      refine op_catA pins s σ H _ _ v u Q I rx ry ⟨a, b, xs, ys, rfl, rfl, h1, h2, by rw [r1.length, r2.length]; assumption, fun z => ?_, fun _ z => ?_, fun _ _ => Post.tup l (r1.append r2) q⟩
      · subst z; cases r1; exact q.old l p2
      · subst z; cases r2; rw [List.append_nil] at q; exact q.old l p1
    · cases hz
  · cases hz
def subF : Op2
  | .int i, .int j => some (.int (i - j), false)
  | _, _ => none
theorem or_sub : OpR X (binaryOp .Sub) (rS X.K subF) := by
  intro pins s σ H x y v u Q I rx ry h
  obtain ⟨F, d, e, zb, l, hd, he, hz, q⟩ := h
  unfold subF at hz
  split at hz
  · cases hz
    exact op_sub pins s σ H x y v u Q I rx ry ⟨_, _, hd.int, he.int, q.old l (.int _)⟩
  · cases hz
def mulOk (i j : Int) : Bool := decide (i.natAbs.log2 + j.natAbs.log2 < 1000000)
/-- a text, so often -/
def repS (x : Str) (k : Int) : Str := if (k == 1 || x.length == 0) = true then x else ⟨(List.replicate k.toNat x.cps).foldl (· ++ ·) #[]⟩
def mulF : Op2
  | .int i, .int j => if mulOk i j = true then some (.int (i * j), false) else none
  | .list xs, .int k => if -(2 ^ 63) ≤ k ∧ k < 2 ^ 63 ∧ xs.length * k.toNat ≤ sizeLine then some (.list (List.replicate k.toNat xs).flatten, true) else none
  | .tuple xs, .int k => if xs ≠ [] ∧ 2 ≤ k ∧ k ≤ 1000 ∧ xs.length ≤ 1000 then some (.tuple (List.replicate k.toNat xs).flatten, false) else none
  | .str x, .int k => if 1 ≤ k ∧ k ≤ 1000 ∧ x.length ≤ 1000 ∧ (repS x k).length ≤ sizeLine then some (.str (repS x k), false) else none
  | _, _ => none
theorem op_rep_str : OpR X (binaryOp .Mult) (fun x y H Q => ∃ i k, x = V.str i ∧ y = V.int k ∧ 1 ≤ k ∧ k ≤ 1000 ∧ i.length ≤ 1000 ∧ (repS i k).length ≤ sizeLine ∧ Q (.str (repS i k)) H) := by
  intro pins s σ H x y v u Q I rx ry h
  obtain ⟨i, k, rfl, rfl, h1, h2, h3, h4, q⟩ := h
  obtain ⟨t, rfl⟩ := rx
  obtain ⟨t', rfl⟩ := ry
  have hk : ¬ k < 1 := by omega
  have hm : i.length * k.toNat ≤ 1000 * 1000 := Nat.mul_le_mul h3 (by omega)
  refine PySem.P.mul_str (by rw [decide_eq_false (by omega), decide_eq_false (by omega)]; rfl) (fun _ _ hg => ?_) (fun _ _ => ?_) ?_
  · have e1 : (1000 : Int) ≤ (2 ^ 63 - 1) / k := Int.le_ediv_of_mul_le (by omega) (by omega)
    omega
  · refine decide_eq_false ?_
    have : 1000 * 1000 ≤ sizeLine := by decide
    omega
  · rw [if_neg hk]
    unfold repS at q h4
    split
    · next hc =>
      rw [if_pos hc] at q
      exact ⟨.str i, H, I, ⟨_, rfl⟩, q⟩
    · next hc =>
      rw [if_neg hc] at q h4
      exact ⟨h4, ⟨.str _, H, I.tok _, ⟨_, rfl⟩, q⟩⟩
theorem RpA.rep {vs : List V} {ds : List D} (r : RpA K F vs ds) : ∀ n, RpA K F (List.replicate n vs).flatten (List.replicate n ds).flatten
  | 0 => .nil
  | n + 1 => by rw [List.replicate_succ, List.replicate_succ, List.flatten_cons, List.flatten_cons]; exact r.append (RpA.rep r n)
theorem or_mul : OpR X (binaryOp .Mult) (rS X.K mulF) := by
  intro pins s σ H x y v u Q I rx ry h
  obtain ⟨F, d, e, zb, l, hd, he, hz, q⟩ := h
  unfold mulF at hz
  split at hz
  · split at hz
    · rename_i hm
      cases hz
      exact op_mulW pins s σ H x y v u Q I rx ry ⟨_, _, hd.int, he.int, (by unfold mulOk at hm; have hm := of_decide_eq_true hm; exact hm), q.old l (.int _)⟩
    · cases hz
  · split at hz
    · rename_i hm
      cases hz
      obtain ⟨a, xs, e1, h1, r1⟩ := hd.list l
      exact op_rep pins s σ H x y v u Q I rx ry ⟨a, _, xs, e1, he.int, h1, hm.1, hm.2.1, by rw [r1.length]; exact hm.2.2, Post.lst l (r1.rep _) q⟩
    · cases hz
  · split at hz
    · rename_i hm
      cases hz
      obtain ⟨a, xs, e1, h1, r1⟩ := hd.tuple l
      exact op_repT pins s σ H x y v u Q I rx ry ⟨a, _, xs, e1, he.int, h1, fun e => hm.1 (by subst e; cases r1.1; rfl), hm.2.1, hm.2.2.1, by rw [r1.1.length]; exact hm.2.2.2, Post.tup l (r1.1.rep _) q⟩
    · cases hz
  · split at hz
    · rename_i hm
      cases hz
      exact op_rep_str pins s σ H x y v u Q I rx ry ⟨_, _, hd.str, he.int, hm.1, hm.2.1, hm.2.2.1, hm.2.2.2, q.old l (.str _)⟩
    · cases hz
  · cases hz
def divF : Op2
  | .int i, .int j => if 0 < j ∧ j.natAbs.log2 < 9000 then some (.int (i / j), false) else none
  | _, _ => none
theorem or_div : OpR X (binaryOp .FloorDiv) (rS X.K divF) := by
  intro pins s σ H x y v u Q I rx ry h
  obtain ⟨F, d, e, zb, l, hd, he, hz, q⟩ := h
  unfold divF at hz
  split at hz
  · split at hz
    · rename_i hm
      cases hz
      exact op_fdivW pins s σ H x y v u Q I rx ry ⟨_, _, hd.int, he.int, hm, q.old l (.int _)⟩
    · cases hz
  · cases hz
def modF : Op2
  | .int i, .int j => if 0 < j then some (.int (i % j), false) else none
  | _, _ => none
theorem or_mod : OpR X (binaryOp .Mod) (rS X.K modF) := by
  intro pins s σ H x y v u Q I rx ry h
  obtain ⟨F, d, e, zb, l, hd, he, hz, q⟩ := h
  unfold modF at hz
  split at hz
  · split at hz
    · rename_i hm
      cases hz
      exact op_mod pins s σ H x y v u Q I rx ry ⟨_, _, hd.int, he.int, hm, q.old l (.int _)⟩
    · cases hz
  · cases hz
def powF : Op2
  | .int i, .int j => if 0 ≤ j ∧ j ≤ 1000000 ∧ i.natAbs < 2 ^ 64 then some (.int (i ^ j.toNat), false) else none
  | _, _ => none
theorem or_pow : OpR X (binaryOp .Pow) (rS X.K powF) := by
  intro pins s σ H x y v u Q I rx ry h
  obtain ⟨F, d, e, zb, l, hd, he, hz, q⟩ := h
  unfold powF at hz
  split at hz
  · split at hz
    · rename_i hm
      cases hz
      exact op_pow pins s σ H x y v u Q I rx ry ⟨_, _, hd.int, he.int, hm, q.old l (.int _)⟩
    · cases hz
  · cases hz

/-! ### keys -/
/-- a key: an int or a text -/
def keyOf : D → Option Key
  | .int i => some (.inl i)
  | .str x => some (.inr x)
  | _ => none
theorem keyOf_kV {k : Key} (h : Lk K F H v d) (e : keyOf d = some k) : v = kV k := by
  unfold keyOf at e
  split at e
  · cases e; exact h.int
  · cases e; exact h.str
  · cases e
theorem keyOf_D {k : Key} (e : keyOf d = some k) : d = keyD k := by
  unfold keyOf at e
  split at e
  · cases e; rfl
  · cases e; rfl
  · cases e
/-- the same text, sign by sign -/
def eqS (x y : Str) : Bool := x.cps.toList == y.cps.toList
theorem eqS_iff {x y : Str} : eqS x y = true ↔ x = y := by
  unfold eqS
  rw [beq_iff_eq]
  exact ⟨fun h => PySem.W.str_of_cps h, fun h => by rw [h]⟩
theorem eqS_dec (x y : Str) : eqS x y = decide (x = y) := by
  by_cases h : x = y
  · rw [decide_eq_true h]; exact eqS_iff.mpr h
  · rw [decide_eq_false h]; exact Bool.eq_false_iff.mpr fun z => h (eqS_iff.mp z)
def dkey (d : D) (k : Key) : Bool := match keyOf d, k with
  | some (.inl i), .inl j => i == j
  | some (.inr x), .inr y => eqS x y
  | _, _ => false
theorem keyOf_keyD (k : Key) : keyOf (keyD k) = some k := by cases k <;> rfl
theorem dkey_keyD (k0 k : Key) : dkey (keyD k0) k = decide (k0 = k) := by
  unfold dkey
  rw [keyOf_keyD]
  cases k0 with
  | inl i =>
    cases k with
    | inl j => show (i == j) = _; by_cases h : i = j <;> simp [h]
    | inr y => rfl
  | inr x =>
    cases k with
    | inl j => rfl
    | inr y => show eqS x y = _; rw [eqS_dec]; by_cases h : x = y <;> simp [h]
/-- what the dict has at the key -/
def dget (es : List (D × D)) (k : Key) : Option D := (es.find? fun p => dkey p.1 k).map (·.2)
theorem RpD.get {kvs : List (Key × V)} {es : List (D × D)} (r : RpD K F kvs es) (k : Key) : (valV kvs k = none ∧ dget es k = none) ∨ ∃ v d, valV kvs k = some v ∧ dget es k = some d ∧ Rp K F v d := by
  induction kvs generalizing es with
  | nil => cases r; exact .inl ⟨rfl, rfl⟩
  | cons p kvs ih =>
    cases r with
    | @cons k0 v0 _ d0 es r t =>
      by_cases h : k0 = k
      · subst h
        refine .inr ⟨v0, d0, valV_pos rfl, ?_, r⟩
        unfold dget
        rw [List.find?_cons_of_pos (by rw [dkey_keyD]; exact decide_eq_true rfl)]
        rfl
      · rw [valV_neg h]
        have : dget ((keyD k0, d0) :: es) k = dget es k := by
          unfold dget
          rw [List.find?_cons_of_neg (by rw [dkey_keyD]; simpa using h)]
        rw [this]
        exact ih t
/-! ### == != < <= > >= -/
theorem plain_canLay : ∀ d : D, d.canLay0 = true → plain d = true
  | .none, _ => rfl
  | .bool _, _ => rfl
  | .int _, _ => rfl
  | .str _, _ => rfl
  | .list xs, h => by simp only [plain]; exact go xs (by simpa [PyData.canLay0] using h)
  | .tuple xs, h => by simp only [plain]; exact go xs (by simpa [PyData.canLay0] using h)
  | .dict _, h => by simp [PyData.canLay0] at h
where go : ∀ ds : List D, PyData.canLayAll0 ds = true → plainA ds = true
  | [], _ => rfl
  | d :: ds, h => by
    simp only [PyData.canLayAll0, Bool.and_eq_true] at h
    simp only [plainA, Bool.and_eq_true]
    exact ⟨plain_canLay d h.1, go ds h.2⟩
theorem op_eq2 : OpR X (compareOp .Eq) (fun x y H Q => ∃ i j, x = V.str i ∧ y = V.str j ∧ Q (.bl (i == j)) H) := by
  intro pins s σ H x y v u Q I rx ry h
  obtain ⟨i, j, rfl, rfl, q⟩ := h
  exact op_eq pins s σ H _ _ v u Q I rx ry ⟨rfl, by rw [dec_str]; exact q⟩
theorem op_ne2 : OpR X (compareOp .NotEq) (fun x y H Q => ∃ i j, x = V.str i ∧ y = V.str j ∧ Q (.bl (!(i == j))) H) := by
  intro pins s σ H x y v u Q I rx ry h
  obtain ⟨i, j, rfl, rfl, q⟩ := h
  exact op_ne pins s σ H _ _ v u Q I rx ry ⟨rfl, by rw [dec_str]; exact q⟩
theorem eqS_beq0 (x y : Str) : (x == y) = (x.cps.toList == y.cps.toList) := (PyProof.Rows.toList_beq x y).symm
/-- two dicts, their values of one kind -/
def dhit (fs : List (D × D)) (p : D × D) : Bool := match keyOf p.1 with
  | some k => (match dget fs k with
    | some d => PyData.eqv p.2 d
    | none => false)
  | none => false
def dEq (es fs : List (D × D)) : Option Bool := if (es.all (fun p => SeqAt.shaped p.2) && fs.all (fun p => SeqAt.shaped p.2)) = true then some (es.length == fs.length && es.all (dhit fs)) else none
theorem eqAt_shaped {A : Around} {s : Shared} {a b : Value} {da db : D} {as bs : List Addr} (ra : Reads s.heap a da as) (rb : Reads s.heap b db bs) (ha : SeqAt.shaped da = true) (hb : SeqAt.shaped db = true) (hu : A.units + 64 < cLine) : SeqAt.EqAt A s a b (PyData.eqv da db) :=
  SeqAt.eqAt_reads da db A s a b as bs ra rb (SeqAt.canLay_of_shaped ha) (SeqAt.canLay_of_shaped hb) (SeqAt.room_of_shaped ha hu)
theorem dget_mem {fs : List (D × D)} {k : Key} {d : D} (h : dget fs k = some d) : ∃ p ∈ fs, p.2 = d := by
  unfold dget at h
  rw [Option.map_eq_some_iff] at h
  obtain ⟨p, h1, h2⟩ := h
  exact ⟨p, List.mem_of_find?_eq_some h1, h2⟩
theorem hits_data {A : Around} {pins : List (Addr × Obj)} {σ : St} {s : Shared} {H : Hp} (I : Inv X pins σ H s) (hu : A.units + 64 < cLine) {ls : List (Key × V)} {vb : List (Key × Value)} {fs : List (D × D)} (rb : KV ls vb) (rl : RpD X.K H ls fs) (hf : ∀ p ∈ fs, SeqAt.shaped p.2 = true) {ks : List (Key × V)} {va : List (Key × Value)} (ra : KV ks va) :
    ∀ {es : List (D × D)}, RpD X.K H ks es → (∀ p ∈ es, SeqAt.shaped p.2 = true) → PySem.W.KeqHitsP X.prog X.w A s vb va (es.all (dhit fs)) := by
  unfold KV at ra
  induction ra with
  | nil => intro es r _; cases r; exact .nil
  | @cons p q ps qs h t ih =>
    intro es r he
    cases r with
    | @cons k v _ d es rv r =>
      obtain ⟨h1, h2⟩ := h
      obtain ⟨k2, v2⟩ := q
      have h1 : k = k2 := h1
      have h2 : RelV v v2 := h2
      subst h1
      rw [List.all_cons]
      have hd : dhit fs (keyD k, d) = (match dget fs k with
        | some e => PyData.eqv d e
        | none => false) := by unfold dhit; rw [keyOf_keyD]
      have rr := rb.val k
      rcases rl.get k with ⟨e1, e2⟩ | ⟨u, e, e1, e2, re⟩
      · rw [hd, e2, Bool.false_and]
        rw [e1] at rr
        cases e : valueAt vb k with
        | none => exact .miss e
        | some y => rw [e] at rr; exact rr.elim
      · rw [hd, e2]
        rw [e1] at rr
        obtain ⟨y, hy, ry⟩ := rr.some_of
        obtain ⟨pe, hpe, rfl⟩ := dget_mem e2
        have sd := he _ List.mem_cons_self
        have se := hf _ hpe
        obtain ⟨as, q1⟩ := Dp.reads I d v v2 (rv.dp (plain_canLay _ (SeqAt.canLay_of_shaped sd))) h2
        obtain ⟨bs, q2⟩ := Dp.reads I pe.2 u y (re.dp (plain_canLay _ (SeqAt.canLay_of_shaped se))) ry
        exact .hit hy (eqAt_shaped q1 q2 sd se hu).eqP (ih r fun p hm => he p (List.mem_cons_of_mem _ hm))
def eqF : Op2 := fun d e => match d, e with
  | .str a, .str b => some (.bool (a.cps.toList == b.cps.toList), false)
  | .dict es, .dict fs => (dEq es fs).map fun b => (.bool b, false)
  | d, e => if (SeqAt.shaped d && SeqAt.shaped e) = true then some (.bool (PyData.eqv d e), false) else none
def neF : Op2 := fun d e => match d, e with
  | .str a, .str b => some (.bool (!(a.cps.toList == b.cps.toList)), false)
  | d, e => if (SeqAt.shaped d && SeqAt.shaped e) = true then some (.bool (!PyData.eqv d e), false) else none
theorem or_eq (hu : X.A.units + 65 < cLine) : OpR X (compareOp .Eq) (rS X.K eqF) := by
  intro pins s σ H x y v u Q I rx ry h
  obtain ⟨F, d, e, zb, l, hd, he, hz, q⟩ := h
  unfold eqF at hz
  split at hz
  · cases hz
    exact op_eq2 pins s σ H x y v u Q I rx ry ⟨_, _, hd.str, he.str, by rw [eqS_beq0]; exact q.old l (.bl _)⟩
  · simp only [Option.map_eq_some_iff] at hz
    obtain ⟨b, hb, rfl⟩ := hz
    unfold dEq at hb
    split at hb
    · rename_i hs
      cases hb
      rw [Bool.and_eq_true] at hs
      obtain ⟨a, ks, rfl, ha, rk⟩ := hd.dict l
      obtain ⟨b, ls, rfl, hb, rl⟩ := he.dict l
      cases (show v = Value.ref a from rx)
      cases (show u = Value.ref b from ry)
      obtain ⟨_, ya, va, ra, da⟩ := dk_rd I.hok ha
      obtain ⟨_, yb, vb, rb, db⟩ := dk_rd I.hok hb
      refine PySem.W.rcP_dicts (knd := mixKind X.prog X.w) (r := _) ya yb da db (by omega) (fun _ => hits_data I (A := X.A.in1) (by show X.A.units + 1 + 64 < cLine; omega) rb (rl.mono l) (fun p hp => List.all_eq_true.mp hs.2 p hp) ra (rk.mono l) (fun p hp => List.all_eq_true.mp hs.1 p hp)) _ _ ?_
      have ev : va.length = _ := (ra.length.symm.trans rk.length)
      have ew : vb.length = _ := (rb.length.symm.trans rl.length)
      rw [ev, ew]
      exact ⟨.bl _, H, I, rfl, q.old l (.bl _)⟩
    · cases hb
  · split at hz
    · rename_i hs
      cases hz
      rw [Bool.and_eq_true] at hs
      exact op_eqD (by omega) pins s σ H x y v u Q I rx ry ⟨_, _, (hd.rp l).dp (plain_canLay _ (SeqAt.canLay_of_shaped hs.1)), (he.rp l).dp (plain_canLay _ (SeqAt.canLay_of_shaped hs.2)), hs.1, hs.2, q.old l (.bl _)⟩
    · cases hz
theorem or_ne (hu : X.A.units + 64 < cLine) : OpR X (compareOp .NotEq) (rS X.K neF) := by
  intro pins s σ H x y v u Q I rx ry h
  obtain ⟨F, d, e, zb, l, hd, he, hz, q⟩ := h
  unfold neF at hz
  split at hz
  · cases hz
    exact op_ne2 pins s σ H x y v u Q I rx ry ⟨_, _, hd.str, he.str, by rw [eqS_beq0]; exact q.old l (.bl _)⟩
  · split at hz
    · rename_i hs
      cases hz
      rw [Bool.and_eq_true] at hs
      exact op_neD hu pins s σ H x y v u Q I rx ry ⟨_, _, (hd.rp l).dp (plain_canLay _ (SeqAt.canLay_of_shaped hs.1)), (he.rp l).dp (plain_canLay _ (SeqAt.canLay_of_shaped hs.2)), hs.1, hs.2, q.old l (.bl _)⟩
    · cases hz
def ltF : Op2
  | .int i, .int j => some (.bool (decide (i < j)), false)
  | .str a, .str b => some (.bool (decide (a.cps.toList < b.cps.toList)), false)
  | _, _ => none
theorem or_lt : OpR X (compareOp .Lt) (rS X.K ltF) := by
  intro pins s σ H x y v u Q I rx ry h
  obtain ⟨F, d, e, zb, l, hd, he, hz, q⟩ := h
  unfold ltF at hz
  split at hz
  · cases hz
    exact op_lt pins s σ H x y v u Q I rx ry ⟨_, _, hd.int, he.int, q.old l (.bl _)⟩
  · cases hz
    exact op_lt_str pins s σ H x y v u Q I rx ry ⟨_, _, hd.str, he.str, q.old l (.bl _)⟩
  · cases hz
def leF : Op2
  | .int i, .int j => some (.bool (decide (i ≤ j)), false)
  | _, _ => none
def gtF : Op2
  | .int i, .int j => some (.bool (decide (j < i)), false)
  | _, _ => none
def geF : Op2
  | .int i, .int j => some (.bool (decide (j ≤ i)), false)
  | _, _ => none
theorem or_le : OpR X (compareOp .LtE) (rS X.K leF) := by
  intro pins s σ H x y v u Q I rx ry h
  obtain ⟨F, d, e, zb, l, hd, he, hz, q⟩ := h
  unfold leF at hz
  split at hz
  · cases hz
    exact op_le pins s σ H x y v u Q I rx ry ⟨_, _, hd.int, he.int, q.old l (.bl _)⟩
  · cases hz
theorem or_gt : OpR X (compareOp .Gt) (rS X.K gtF) := by
  intro pins s σ H x y v u Q I rx ry h
  obtain ⟨F, d, e, zb, l, hd, he, hz, q⟩ := h
  unfold gtF at hz
  split at hz
  · cases hz
    exact op_gt pins s σ H x y v u Q I rx ry ⟨_, _, hd.int, he.int, q.old l (.bl _)⟩
  · cases hz
theorem or_ge : OpR X (compareOp .GtE) (rS X.K geF) := by
  intro pins s σ H x y v u Q I rx ry h
  obtain ⟨F, d, e, zb, l, hd, he, hz, q⟩ := h
  unfold geF at hz
  split at hz
  · cases hz
    exact op_ge pins s σ H x y v u Q I rx ry ⟨_, _, hd.int, he.int, q.old l (.bl _)⟩
  · cases hz

/-! ### is None, in -/
def isNone : D → Bool
  | .none => true
  | _ => false
def isF : Op2
  | d, .none => some (.bool (isNone d), false)
  | _, _ => none
def isNotF : Op2
  | d, .none => some (.bool (!isNone d), false)
  | _, _ => none
theorem Lk.isNone (l : Le F H) (h : Lk K F H v d) : decide (v = .non) = Pv.isNone d := by
  have h := h.rp l
  cases h <;> first | rfl | exact decide_eq_false (fun z => nomatch z)
theorem or_is : OpR X (compareOp .Is) (rS X.K isF) := by
  intro pins s σ H x y v u Q I rx ry h
  obtain ⟨F, d, e, zb, l, hd, he, hz, q⟩ := h
  unfold isF at hz
  split at hz
  · cases hz
    refine op_isN pins s σ H x y v u Q I rx ry ⟨he.none, ?_⟩
    rw [hd.isNone l]
    exact q.old l (.bl _)
  · cases hz
theorem or_isNot : OpR X (compareOp .IsNot) (rS X.K isNotF) := by
  intro pins s σ H x y v u Q I rx ry h
  obtain ⟨F, d, e, zb, l, hd, he, hz, q⟩ := h
  unfold isNotF at hz
  split at hz
  · cases hz
    refine op_notN pins s σ H x y v u Q I rx ry ⟨he.none, ?_⟩
    rw [hd.isNone l]
    exact q.old l (.bl _)
  · cases hz
def chars (s : Str) : List Nat := s.cps.toList
/-- membership -/
def inB : D → D → Option Bool
  | .str x, .str y => (match chars x with
    | [c] => some (decide (c ∈ chars y))
    | _ => none)
  | d, .list ds => if (SeqAt.shaped d && SeqAt.shaped (.list ds)) = true then some (ds.any fun z => PyData.eqv z d) else none
  | d, .tuple ds => if (SeqAt.shaped d && SeqAt.shaped (.tuple ds)) = true then some (ds.any fun z => PyData.eqv z d) else none
  | d, .dict es => (keyOf d).map fun k => (dget es k).isSome
  | _, _ => none
def inF : Op2 := fun d e => (inB d e).map fun b => (.bool b, false)
def notInF : Op2 := fun d e => (inB d e).map fun b => (.bool (!b), false)
theorem str_one {x : Str} {c : Nat} (h : chars x = [c]) : x = ⟨#[c]⟩ := by
  obtain ⟨a⟩ := x
  have : a.toList = [c] := h
  congr 1
  exact Array.ext' this
theorem or_in (hu : X.A.units + 65 < cLine) : OpR X (compareOp .In) (rS X.K inF) := by
  intro pins s σ H x y v u Q I rx ry h
  obtain ⟨F, d, e, zb, l, hd, he, hz, q⟩ := h
  simp only [inF, Option.map_eq_some_iff] at hz
  obtain ⟨b, hb, rfl⟩ := hz
  unfold inB at hb
  split at hb
  · rename_i x' y'
    split at hb
    · rename_i c hc
      cases hb
      have e1 := hd.str
      rw [str_one hc] at e1
      exact op_in_sign pins s σ H x y v u Q I rx ry ⟨c, _, e1, he.str, q.old l (.bl _)⟩
    · cases hb
  · rename_i ds
    split at hb
    · rename_i hs
      cases hb
      rw [Bool.and_eq_true] at hs
      exact op_inD hu pins s σ H x y v u Q I rx ry ⟨d, ds, (hd.rp l).dp (plain_canLay d (SeqAt.canLay_of_shaped hs.1)), (he.rp l).dp (plain_canLay _ (SeqAt.canLay_of_shaped hs.2)), hs.1, hs.2, q.old l (.bl _)⟩
    · cases hb
  · rename_i ds
    split at hb
    · rename_i hs
      cases hb
      rw [Bool.and_eq_true] at hs
      obtain ⟨as, r1⟩ := Dp.reads I d x v ((hd.rp l).dp (plain_canLay d (SeqAt.canLay_of_shaped hs.1))) rx
      obtain ⟨bs, r2⟩ := Dp.reads I (.tuple ds) y u ((he.rp l).dp (plain_canLay _ (SeqAt.canLay_of_shaped hs.2))) ry
      refine SeqAt.in_tuple_reads r2 r1 (by simpa [PyData.canLay0] using SeqAt.canLay_of_shaped hs.2) (SeqAt.canLay_of_shaped hs.1) (PyProof.Rows.room_in_shaped hs.1 hu) ?_
      exact ⟨.bl _, H, I, rfl, q.old l (.bl _)⟩
    · cases hb
  · rename_i es
    simp only [Option.map_eq_some_iff] at hb
    obtain ⟨k, hk, rfl⟩ := hb
    obtain ⟨a, kvs, rfl, rd, r⟩ := he.dict l
    cases ry
    have ek := keyOf_kV hd hk
    have g : DGet H a x (valV kvs k) := .inl ⟨kvs, k, rd, ek, rfl⟩
    have es' : (dget es k).isSome = (valV kvs k).isSome := by
      rcases r.get k with ⟨h1, h2⟩ | ⟨v', d', h1, h2, _⟩ <;> rw [h1, h2] <;> rfl
    rw [es'] at q
    exact d_in (by omega) I g rx fun s3 I3 => ⟨.bl _, H, I3, rfl, q.old l (.bl _)⟩
  · cases hb
theorem or_notIn (hu : X.A.units + 65 < cLine) : OpR X (compareOp .NotIn) (rS X.K notInF) := by
  intro pins s σ H x y v u Q I rx ry h
  obtain ⟨F, d, e, zb, l, hd, he, hz, q⟩ := h
  simp only [notInF, Option.map_eq_some_iff] at hz
  obtain ⟨b, hb, rfl⟩ := hz
  unfold inB at hb
  split at hb
  · rename_i x' y'
    split at hb
    · rename_i c hc
      cases hb
      have e1 := hd.str
      rw [str_one hc] at e1
      exact op_notIn_sign pins s σ H x y v u Q I rx ry ⟨c, _, e1, he.str, q.old l (.bl _)⟩
    · cases hb
  · rename_i ds
    split at hb
    · rename_i hs
      cases hb
      rw [Bool.and_eq_true] at hs
      exact op_notInD hu pins s σ H x y v u Q I rx ry ⟨d, ds, (hd.rp l).dp (plain_canLay d (SeqAt.canLay_of_shaped hs.1)), (he.rp l).dp (plain_canLay _ (SeqAt.canLay_of_shaped hs.2)), hs.1, hs.2, q.old l (.bl _)⟩
    · cases hb
  · rename_i ds
    split at hb
    · rename_i hs
      cases hb
      rw [Bool.and_eq_true] at hs
      obtain ⟨as, r1⟩ := Dp.reads I d x v ((hd.rp l).dp (plain_canLay d (SeqAt.canLay_of_shaped hs.1))) rx
      obtain ⟨bs, r2⟩ := Dp.reads I (.tuple ds) y u ((he.rp l).dp (plain_canLay _ (SeqAt.canLay_of_shaped hs.2))) ry
      refine SeqAt.notIn_tuple_reads r2 r1 (by simpa [PyData.canLay0] using SeqAt.canLay_of_shaped hs.2) (SeqAt.canLay_of_shaped hs.1) (PyProof.Rows.room_in_shaped hs.1 hu) ?_
      exact ⟨.bl _, H, I, rfl, q.old l (.bl _)⟩
    · cases hb
  · rename_i es
    simp only [Option.map_eq_some_iff] at hb
    obtain ⟨k, hk, rfl⟩ := hb
    obtain ⟨a, kvs, rfl, rd, r⟩ := he.dict l
    cases ry
    have ek := keyOf_kV hd hk
    have g : DGet H a x (valV kvs k) := .inl ⟨kvs, k, rd, ek, rfl⟩
    have es' : (dget es k).isSome = (valV kvs k).isSome := by
      rcases r.get k with ⟨h1, h2⟩ | ⟨v', d', h1, h2, _⟩ <;> rw [h1, h2] <;> rfl
    rw [es'] at q
    exact d_notIn (by omega) I g rx fun s3 I3 => ⟨.bl _, H, I3, rfl, q.old l (.bl _)⟩
  · cases hb

/-! ### subscripts, slices -/
def ixF : Op2
  | .list ds, .int i => (atI ds i).map fun d => (d, false)
  | .tuple ds, .int i => (atI ds i).map fun d => (d, false)
  | .str x, .int i => if x.length ≤ sizeLine then (atI (chars x) i).map fun c => (.str ⟨#[c]⟩, false) else none
  | _, _ => none
theorem RpA.at {vs : List V} {ds : List D} {i : Int} {d : D} (r : RpA K F vs ds) (e : atI ds i = some d) : ∃ v, atI vs i = some v ∧ Rp K F v d := by
  unfold atI at e ⊢
  rw [r.length]
  simp only [Option.bind_eq_some_iff] at e
  obtain ⟨j, e1, e2⟩ := e
  obtain ⟨v, hv, rp⟩ := r.get j d e2
  exact ⟨v, by rw [e1]; exact hv, rp⟩
theorem ir_ix : IxR X (rS X.K ixF) := by
  intro value slice pins s σ H x y v u Q I rx ry h hs
  obtain ⟨F, d, e, zb, l, hd, he, hz, q⟩ := h
  unfold ixF at hz
  split at hz
  · simp only [Option.map_eq_some_iff] at hz
    obtain ⟨z, e1, rfl⟩ := hz
    obtain ⟨a, xs, ex, h1, r1⟩ := hd.list l
    obtain ⟨w, hw, rp⟩ := r1.at e1
    exact ix_list value slice pins s σ H x y v u Q I rx ry ⟨a, xs, _, w, ex, he.int, .inl (.inl h1), hw, q.old l rp⟩ hs
  · simp only [Option.map_eq_some_iff] at hz
    obtain ⟨z, e1, rfl⟩ := hz
    obtain ⟨a, xs, ex, h1, r1, _⟩ := hd.tuple l
    obtain ⟨w, hw, rp⟩ := r1.at e1
    exact ix_tup value slice pins s σ H x y v u Q I rx ry ⟨a, xs, _, w, ex, he.int, h1, hw, q.old l rp⟩ hs
  · split at hz
    · simp only [Option.map_eq_some_iff] at hz
      obtain ⟨c, e1, rfl⟩ := hz
      exact ix_str value slice pins s σ H x y v u Q I rx ry ⟨_, _, c, hd.str, he.int, by assumption, e1, q.old l (.str _)⟩ hs
    · cases hz
  · cases hz
def cutD (ds : List D) (lo hi : Option Int) : List D := (ds.drop (HT.sIx ds.length 0 lo)).take (HT.sIx ds.length ds.length hi - HT.sIx ds.length 0 lo)
theorem RpA.cut {vs : List V} {ds : List D} (r : RpA K F vs ds) (lo hi : Option Int) : RpA K F (cutV vs lo hi) (cutD ds lo hi) := by
  unfold cutV cutD
  rw [r.length]
  exact (r.drop _).take _
def slF : D → Option Int → Option Int → Option (D × Bool)
  | .list ds, lo, hi => some (.list (cutD ds lo hi), true)
  | .tuple ds, lo, hi => some (.tuple (cutD ds lo hi), false)
  | .str x, lo, hi => if x.length ≤ sizeLine then some (.str (cutS x lo hi), false) else none
  | _, _, _ => none
theorem cut_whole {ds : List D} {lo hi : Option Int} (h : HT.sIx ds.length 0 lo = 0 ∧ HT.sIx ds.length ds.length hi = ds.length) : cutD ds lo hi = ds := by
  unfold cutD
  rw [h.1, h.2]
  simp
theorem sr_sl : SlR X (rSl X.K slF) := by
  intro pins s σ H x v vl vu lo hi sl Q I rx hs pl pu h
  obtain ⟨F, d, zb, l, hd, hz, q⟩ := h
  unfold slF at hz
  split at hz
  · cases hz
    obtain ⟨a, xs, ex, h1, r1⟩ := hd.list l
    exact sl_list pins s σ H x v vl vu lo hi sl Q I rx hs pl pu ⟨a, xs, ex, .inl (.inl h1), Post.lst l (r1.cut lo hi) q⟩
  · cases hz
    obtain ⟨a, xs, ex, h1, r1, p1⟩ := hd.tuple l
    subst ex
    refine sl_tupA pins s σ H _ v vl vu lo hi sl Q I rx hs pl pu ⟨a, xs, rfl, h1, fun z => ?_, fun _ => Post.tup l (r1.cut lo hi) q⟩
    rw [r1.length] at z
    rw [cut_whole z] at q
    exact q.old l p1
  · split at hz
    · cases hz
      exact sl_str pins s σ H x v vl vu lo hi sl Q I rx hs pl pu ⟨_, hd.str, by assumption, q.old l (.str _)⟩
    · cases hz
  · cases hz
def kget : Op2
  | .dict es, d => (keyOf d).bind fun k => (dget es k).map fun z => (z, false)
  | _, _ => none
/-- d[k] of a dict -/
theorem de_dget {a b : Expr} {f g : SemE} {pos : Pos} (hu : X.A.units + 64 < cLine) (ha : DE X a f) (hb : DE X b g) (hs : NoSl b := by intro _ _; rfl) : DE X (.Subscript a b pos) (sOp kget f g) := by
  refine ⟨(pe_dget (by omega) ha.pe hb.pe hs).pvi fun σ H Q q => ?_⟩
  obtain ⟨P, W, F, ρ, r1, ρ1, R, e1, k⟩ := sOp_ok q
  refine ⟨P, W, F, ρ, r1, ρ1, R, e1, fun v H1 F1 x1 R1 o1 => ?_⟩
  obtain ⟨P', W', F', ρ', r2, ρ2, R', e2, k2⟩ := k v H1 F1 x1 R1 o1
  refine ⟨P', W', F', ρ', r2, ρ2, R', e2, fun u H3 F3 x3 R3 o3 => ?_⟩
  obtain ⟨F4, d, e, zb, l, hd, he, hz, q⟩ := k2 u H3 F3 x3 R3 o3
  unfold kget at hz
  split at hz
  · simp only [Option.bind_eq_some_iff, Option.map_eq_some_iff] at hz
    obtain ⟨key, hk, z, hg, rfl⟩ := hz
    obtain ⟨a, kvs, rfl, rd, r⟩ := hd.dict l
    rcases r.get key with ⟨_, h2⟩ | ⟨v', d', h1, h2, rp⟩
    · rw [h2] at hg; cases hg
    · rw [h2] at hg; cases hg
      exact ⟨a, v', rfl, .inl ⟨kvs, key, rd, keyOf_kV he hk, h1.symm⟩, q.old l rp⟩
  · cases hz
end
end Pv
end
section
set_option Elab.async false
set_option linter.all false
set_option autoImplicit false
set_option maxRecDepth 100000
set_option maxHeartbeats 2000000
/-! PvSt: lists of tuples are sorted, the empty tuple among them too. -/
namespace Pv
open PySem PySem.Calls PySem.W PySem.SeqAt PyProof.Rows
section
variable {A : Around} {s : Shared}
theorem call_tuple_lt {prog : Program} {w : World} {E : Value → Shared → Prop} {Q : Value → Shared → Prop} {l b : Addr} {items items2 : Array Value} {e r : Nat → Bool} (hl : s.heap.IsTuple l items) (hb : s.heap.IsTuple b items2)
    (he : ∀ j (h1 : j < items.size) (h2 : j < items2.size), EqAt A.in1 s items[j] items2[j] (e j)) (hr : ∀ j (h1 : j < items.size) (h2 : j < items2.size), e j = false → RcLt A.in1 s items[j] items2[j] (r j))
    (h : Q (.bool (firstLt e r (decide (items.size < items2.size)) (List.range (min items.size items2.size)))) s) : wpAny (model prog w) A (call (.builtin "tuple.__lt__") [.ref l, .ref b]) Q E s := by
  obtain ⟨⟨cls, dd, data, sl⟩, ho, hc, n, hd⟩ := id hl
  obtain ⟨⟨cls2, dd2, data2, sl2⟩, ho2, hc2, n2, hd2⟩ := id hb
  simp only at hc hd hc2 hd2
  subst hc hd hc2 hd2
  exact call_meets F.slot_tuple_lt ⟨_, ho, rfl⟩ F.entry_tuple_lt (F.args_tuple_lt_2 _ _) (tuple_ltAt l b items items2 n n2 dd dd2 sl sl2 e r) ⟨ho, ho2, he, hr, h⟩
end
section
variable {prog : Program} {w : World} {A : Around} {E : Value → Shared → Prop} {s : Shared}
theorem oneLt_tuple {xs ys : List PyData} {a b : Value} {as bs : List Addr} {Q : Bool → Shared → Prop} (ra : Reads s.heap a (.tuple xs) as) (rb : Reads s.heap b (.tuple ys) bs) (h : alike (.tuple xs) (.tuple ys) = true)
    (hu : A.units + min (PyData.tuple xs).depth (PyData.tuple ys).depth < cLine) (hq : Q (dataLt (.tuple xs) (.tuple ys)) s) : wpAny (model prog w) A (oneLt' true a b) Q E s := by
  have hal : alikeAll xs ys = true := by simpa [alike] using h
  cases ra with
  | @tuple l o vs n _ as₁ h1 h2 h3 h4 =>
    cases rb with
    | @tuple l' o' vs' n' _ bs₁ k1 k2 k3 k4 =>
      have n1 : vs.size = xs.length := by simpa using ReadsAll.length _ _ _ h4
      have n2 : vs'.size = ys.length := by simpa using ReadsAll.length _ _ _ k4
      rw [dataLt_tuple, ← firstLt_toks xs ys hal, ← n1, ← n2] at hq
      rw [oneLt'_eq]
      simp only [if_true]
      refine wpAny_bind (wpAny_cRoomFor (room_here hu) ?_)
      refine wpAny_bind (wpAny_callSpecialIfBound?_slot (T := "tuple") ⟨_, h1, h2⟩ F.slot_tuple_lt (call_tuple_lt (e := pairEq xs ys) (r := fun j => dataLt (xs.getD j .none) (ys.getD j .none)) ⟨_, h1, h2, _, h3⟩ ⟨_, k1, k2, _, k3⟩ (fun j j1 j2 => ?_) (fun j j1 j2 hj => ?_) ?_))
      · have := eqAt_alikeAll xs ys A.in1 s vs.toList vs'.toList _ _ h4 k4 hal (room_in hu) j (by simpa using j1) (by simpa using j2)
        simpa using this
      · have := rcLt_alikeAll xs ys A.in1 s vs.toList vs'.toList _ _ h4 k4 hal (room_in hu) j (by simpa using j1) (by simpa using j2) hj
        simpa using this
      · exact wpAny_truthy_bool hq
def KatO (h : Heap) (v : Value) (f : Option Value) : Prop := ∃ a o xs n, v = .ref a ∧ h.get? a = some o ∧ o.cls = .type "tuple" ∧ o.data = .seq xs n ∧ xs[0]? = f
theorem katO_firsts {M : Model} : ∀ (vs : List Value) (fs : List (Option Value)) {Q : List (Option Value) → Shared → Prop}, EachIs (KatO s.heap) vs fs → Q fs s → wpAny M A (vs.mapM firstOfTuple') Q E s
  | [], _, _, t, h => by cases t; rw [List.mapM_nil]; exact wpAny_pure h
  | v :: vs, _, Q, t, h => by
    cases t with
    | @cons _ f _ fs x t =>
      obtain ⟨a, o, xs, n, rfl, ho, hc, hd, hf⟩ := x
      rw [List.mapM_cons]
      refine wpAny_bind ?_
      rw [kas_first_eq]
      refine wpAny_bind (Looks.here (show Looks M s.heap (typeOf (.ref a)) o.cls from (Looks.ld ho).andThen .now) ?_)
      rw [hc, if_neg (by first | decide | simp)]
      refine wpAny_bind (listItems_at ho hd (wpAny_pure ?_))
      rw [hf]
      exact wpAny_bind (katO_firsts vs fs (Q := fun bs s' => wpAny M A (pure (f :: bs)) Q E s') t (wpAny_pure h))
theorem katO_type {M : Model} {h : Heap} {v : Value} {f : Option Value} (x : KatO h v f) : Looks M h (typeOf v) (.type "tuple") := by
  obtain ⟨a, o, xs, n, rfl, ho, hc, hd, hf⟩ := x
  exact hc ▸ (show Looks M h (typeOf (.ref a)) o.cls from (Looks.ld ho).andThen .now)
theorem katO_kind {M : Model} {vs : List Value} {fs : List (Option Value)} {Q : SortKind → Shared → Prop} (t : EachIs (KatO s.heap) vs fs) (h2 : 2 ≤ vs.length) (hm : (fs.all (·.isSome)) = false)
    (h : Q (if (fs[0]?.bind id).isSome then general' else oneType') s) : wpAny M A (keyKind' vs.toArray) Q E s := by
  rw [keyKind'_eq, List.mapM_toArray, map_eq_pure_bind]
  refine wpAny_bind (wpAny_bind (katO_firsts vs fs t (wpAny_pure ?_)))
  rw [if_neg (by rw [List.all_toArray, hm]; exact Bool.false_ne_true)]
  have e0 : fs.toArray[0]? = fs[0]? := by simp
  rw [e0]
  by_cases hf : (fs[0]?.bind id).isSome = true
  · rw [if_pos hf] at h ⊢
    exact wpAny_pure h
  · rw [if_neg hf] at h ⊢
    rw [oneTypeOnly'_eq, List.mapM_toArray, map_eq_pure_bind]
    refine wpAny_bind (wpAny_bind (wpAny_bind (kas_mapM (r := Value.type "tuple") _ (fun v hv Q' hq => ?_) (wpAny_pure ?_))))
    · obtain ⟨f, _, x⟩ := t.left v hv
      exact (katO_type x).here hq
    · have hall : ((List.map (fun _ => Value.type "tuple") vs).toArray.all fun x => x == Value.type "tuple") = true := by
        simp only [List.all_toArray, List.all_map, List.all_eq_true]
        intro _ _
        exact beq_self_eq_true _
      have h0 : (List.map (fun _ => Value.type "tuple") vs).toArray[0]? = some (Value.type "tuple") := by
        cases vs with
        | nil => simp at h2
        | cons v r => simp
      rw [h0]
      simp only [hall, if_true]
      exact wpAny_pure (wpAny_pure h)
theorem katO_of {h : Heap} : ∀ {vs : List Value} {ds : List PyData}, EachIs (fun v d => ∃ as, Reads h v d as) vs ds → (∀ d, d ∈ ds → ∃ xs, d = .tuple xs) → ∃ fs : List (Option Value), EachIs (KatO h) vs fs ∧ (fs.all (·.isSome) = true → ∀ d, d ∈ ds → ∃ x r, d = .tuple (x :: r))
  | _, _, .nil, _ => ⟨[], .nil, fun _ d hd => absurd hd (by simp)⟩
  | _, _, .cons (b := d) ⟨as, r⟩ t, ht => by
    obtain ⟨fs, h1, h2⟩ := katO_of t fun d hd => ht d (List.mem_cons_of_mem _ hd)
    obtain ⟨zs, rfl⟩ := ht d (List.mem_cons_self ..)
    cases r with
    | @tuple a o xs n _ _ ho hc hd hr =>
      refine ⟨xs[0]? :: fs, .cons ⟨a, o, xs, n, rfl, ho, hc, hd, rfl⟩ h1, fun hall d' hd' => ?_⟩
      rw [List.all_cons, Bool.and_eq_true] at hall
      rcases List.mem_cons.mp hd' with rfl | hd'
      · cases zs with
        | cons z r => exact ⟨_, _, rfl⟩
        | nil =>
          have hn : xs.toList = [] := by
            generalize xs.toList = l at hr
            cases hr
            rfl
          have : xs[0]? = none := by rw [← Array.getElem?_toList, hn]; rfl
          rw [this] at hall
          exact absurd hall.1 (by simp)
      · exact h2 hall.2 d' hd'
theorem sortsAt_tups {vs : List Value} {ds : List PyData} (e : EachIs (fun v d => ∃ as, Reads s.heap v d as) vs ds) (hal : AllAlike ds) (hk : ∀ d, d ∈ ds → ∃ xs, d = .tuple xs) (hu : ∀ d, d ∈ ds → A.units + d.depth < cLine) : SortsAt prog w A s (dataKind s.heap ds) vs := by
  obtain ⟨fs, t, hf⟩ := katO_of e hk
  by_cases hall : fs.all (·.isSome) = true
  · exact SortsAt.data e hal (.inl (hf hall)) hu
  have hm : fs.all (·.isSome) = false := by simpa using hall
  refine ⟨fun v hv => ?_, if (fs[0]?.bind id).isSome then general' else oneType', ?_, fun h2 E Q hq => katO_kind t h2 hm hq⟩
  · obtain ⟨d, hd, as, r⟩ := e.left v hv
    exact ⟨_, dataKind_some hal hd r⟩
  · intro E x y a b Q ha hb hq
    obtain ⟨d, as, hd, ra, rfl⟩ := dataKind_inv ha
    obtain ⟨d', as', hd', rb, rfl⟩ := dataKind_inv hb
    have hdd := hal d hd d' hd'
    have hroom : A.units + min d.depth d'.depth < cLine := Nat.lt_of_le_of_lt (Nat.add_le_add_left (Nat.min_le_left _ _) _) (hu d hd)
    obtain ⟨x1, rfl⟩ := hk d hd
    obtain ⟨x2, rfl⟩ := hk d' hd'
    have hq' : Q (dataLt (.tuple x1) (.tuple x2)) s := hq
    split
    · exact oneLt_alike (f := false) (fun h => absurd h Bool.false_ne_true) ra rb hdd (fun h => nomatch h) hroom hq'
    · rw [keyLt'_oneType]
      exact oneLt_tuple ra rb hdd hroom hq'
/-- all are tuples, or none is a tuple or None -/
def SortableT (ds : List PyData) : Prop := (∀ d, d ∈ ds → ∃ xs, d = .tuple xs) ∨ ∀ d, d ∈ ds → d ≠ .none ∧ ∀ xs, d ≠ .tuple xs
theorem sortableT {ds : List PyData} (h : Sortable ds) : SortableT ds := h.imp (fun q d hd => let ⟨x, r, e⟩ := q d hd; ⟨x :: r, e⟩) id
theorem sortsAtT {vs : List Value} {ds : List PyData} (e : EachIs (fun v d => ∃ as, Reads s.heap v d as) vs ds) (hal : AllAlike ds) (hk : SortableT ds) (hu : ∀ d, d ∈ ds → A.units + d.depth < cLine) : SortsAt prog w A s (dataKind s.heap ds) vs := by
  rcases hk with h | h
  · exact sortsAt_tups e hal h hu
  · exact SortsAt.data e hal (.inr h) hu
theorem list_sort_dataT {R : Value → PyData → Prop} {vs : List Value} {bs : List PyData} {a : Addr} {n : Nat} {Q : Value → Shared → Prop} (ho : s.heap.get? a = some (seqObj "list" vs.toArray n)) (e : EachIs R vs bs) (er : EachIs (fun v b => ∃ as, Reads s.heap v (id b) as ∧ a ∉ as) vs bs) (hal : AllAlike (bs.map id)) (hk : SortableT (bs.map id)) (hL : bs.length ≤ sizeLine)
    (hu : ∀ b, b ∈ bs → A.units + 1 + (id b : PyData).depth < cLine) (h : ∀ out, out.length = bs.length → EachIs R out (bs.mergeSort (dataLe false id)) → Q .none { s with heap := sortedHeap s.heap a vs (List.toArray out) }) :
    wpAny (model prog w) A (call (.builtin "list.sort") [.ref a]) Q E s := by
  have er' : EachIs (fun v b => ∃ as, Reads (sortingHeap s.heap a vs) v (id b) as) vs bs := each_keepBut (h' := sortingHeap s.heap a vs) (fun _ _ hb q => sortingHeap_old hb q) (fun o q => by rw [ho] at q; rw [← Option.some.inj q]) hal er
  refine wpAny_call_entry slot_list_sort ⟨_, ho, rfl⟩ entry_list_sort (list_sort_vals (κ := dataKind (sortingHeap s.heap a vs) (bs.map id)) ho (sortsAtT (s := { s with heap := sortingHeap s.heap a vs }) (each_map (R := fun v d => ∃ as, Reads (sortingHeap s.heap a vs) v d as) id er') hal hk (bound_map hu)) (by rw [e.length]; exact hL) ⟨.none, rfl, ?_⟩) (args_list_sort _)
  exact h _ (by rw [sortVals_length false rfl]; exact e.length) (sortVals_data false e er' hal)
end
end Pv
end
section
set_option Elab.async false
set_option linter.all false
set_option maxRecDepth 100000
set_option maxHeartbeats 2000000
/-! PvG: sets of texts made of a list or a tuple, sorted of anything that is gathered. -/
namespace Pv
open PySem PySem.Spec PyProof.Rows L2 PySem.W

/-! ### a set of texts, by what it holds -/
def txt (e : Int × Value) : Str := match e.2 with
  | .str x _ => x
  | _ => Str.empty
def IsT (w : World) (e : Int × Value) : Prop := ∃ x t, e.2 = Value.str x t ∧ e.1 = hashStr w x
/-- the set at a holds just the texts of xs, each once; its table rises and can be walked -/
structure SetS (w : World) (h : Heap) (a : Addr) (xs : List Str) (es : Array (Int × Value)) (ep : Nat) (tb : SetTable) : Prop where
  at_ : ∃ o, h.get? a = some o ∧ o.ExactSet ∧ o.data = .set es ep tb
  good : ∀ e ∈ es.toList, IsT w e
  once : (es.toList.map txt).Nodup
  mem : ∀ x, x ∈ xs ↔ x ∈ es.toList.map txt
  few : es.size < scanBound
  fits : tb.fits es.size = true
  ris : Ris tb.place.toList
  led : w.params.followText "set-order" = true ∨ tb.led = true
theorem SetS.keep {w : World} {h h' : Heap} {a : Addr} {xs : List Str} {es : Array (Int × Value)} {ep : Nat} {tb : SetTable} (R : SetS w h a xs es ep tb) (k : ∀ o, h.get? a = some o → h'.get? a = some o) : SetS w h' a xs es ep tb :=
  ⟨let ⟨o, h1, h2⟩ := R.at_; ⟨o, k o h1, h2⟩, R.good, R.once, R.mem, R.few, R.fits, R.ris, R.led⟩
theorem SetS.congr {w : World} {h : Heap} {a : Addr} {xs ys : List Str} {es : Array (Int × Value)} {ep : Nat} {tb : SetTable} (R : SetS w h a xs es ep tb) (k : ∀ x, x ∈ ys ↔ x ∈ xs) : SetS w h a ys es ep tb :=
  ⟨R.at_, R.good, R.once, fun x => (k x).trans (R.mem x), R.few, R.fits, R.ris, R.led⟩
theorem isT_key {w : World} {P : Program} {e : Int × Value} (g : IsT w e) (x : Str) : (strKind P w).is x e.2 = true ↔ txt e = x := by
  obtain ⟨y, t, h1, _⟩ := g
  unfold txt
  rw [h1]
  show Value.isStrOf x (.str y t) = true ↔ y = x
  simp [Value.isStrOf]
theorem isT_elems {w : World} {P : Program} {l : List (Int × Value)} (g : ∀ e ∈ l, IsT w e) : ElemsOf (strKind P w) l := fun e he => by
  obtain ⟨x, t, h1, h2⟩ := g e he
  exact ⟨⟨x, by rw [h1]; exact strKind_is P w x t, h2⟩, by rw [h1]; rfl⟩
section
variable {P : Program} {w : World} {A : Around} {E : Value → Shared → Prop} {s : Shared} {a : Addr}

/-- the new entries are stored, and relaid where the table is too full -/
theorem setS_tail {gv : Bool → Sem Unit} (hgv : ∀ (b : Bool) (s1 : Shared) (Q1 : Unit → Shared → Prop), Q1 () s1 → wpAny (model P w) A (gv b) Q1 E s1)
    {o : Obj} {es es1 : Array (Int × Value)} {ep : Nat} {tb t1 : SetTable} (ho : s.heap.get? a = some o) (ex : o.ExactSet) (dt : o.data = .set es ep tb) {ys : List Str} (good : ∀ e ∈ es1.toList, IsT w e) (once : (es1.toList.map txt).Nodup)
    (mem : ∀ x, x ∈ ys ↔ x ∈ es1.toList.map txt) (few : es1.size < scanBound) (fits : t1.fits es1.size = true) (ris : Ris t1.place.toList) (led : w.params.followText "set-order" = true ∨ t1.led = true) {dm : Bool} {R : Option Bool → Shared → Prop}
    (hR : ∀ h1 es2 ep2 t2, Heap.SameBut a s.heap h1 → SetS w h1 a ys es2 ep2 t2 → es2.size = es1.size → R (some true) { s with heap := h1 }) :
    wpAny (model P w) A (do
        storeSet a es1 t1
        if (!dm && t1.tooFull) = true then do
            gv (relayAll t1 es1 (SetTable.grown es1.size)).2.2
            storeSet a (relayAll t1 es1 (SetTable.grown es1.size)).1 (relayAll t1 es1 (SetTable.grown es1.size)).2.1
            pure (some true)
          else pure (some true)) R E s := by
  refine wpAny_bind (wpAny_storeSet_of ho dt ?_ (fits_of_scanBound few))
  have o1 := store_at (es' := es1) (t' := t1) ho dt
  have b1 := Heap.SameBut.update s.heap a (Obj.putSet es1 t1)
  split
  · have p2 := relayAll_perm t1 es1 (SetTable.grown es1.size)
    have f2 := relayAll_fits t1 es1 (SetTable.grown es1.size)
    have r2 := relayAll_ris t1 es1 (SetTable.grown es1.size)
    have l2 := relayAll_led t1 es1 (SetTable.grown es1.size)
    revert p2 f2 r2 l2
    generalize relayAll t1 es1 (SetTable.grown es1.size) = z
    obtain ⟨es2, t2, gave⟩ := z
    dsimp only
    intro p2 f2 r2 l2
    have size2 : es2.size = es1.size := by
      have := p2.length_eq
      rwa [Array.length_toList, Array.length_toList] at this
    refine wpAny_bind (hgv _ _ _ (wpAny_bind (wpAny_storeSet_of o1 rfl ?_ (fits_of_scanBound (by omega)))))
    have o2 := store_at (es' := es2) (t' := t2) o1 rfl
    refine wpAny_pure (hR _ es2 (ep + 1 + 1) t2 (b1.trans (Heap.SameBut.update _ a _)) ?_ size2)
    exact { at_ := ⟨_, o2, ex, rfl⟩, good := fun e he => good e (p2.mem_iff.mp he), once := (p2.map txt).nodup_iff.mpr once, mem := fun x => (mem x).trans (p2.map txt).mem_iff.symm, few := by omega, fits := f2, ris := r2, led := led.imp id fun z => by rw [l2]; exact z }
  · exact wpAny_pure (hR _ es1 (ep + 1) t1 b1 { at_ := ⟨_, o1, ex, rfl⟩, good := good, once := once, mem := mem, few := few, fits := fits, ris := ris, led := led } rfl)

theorem gave_way {b : Bool} {s1 : Shared} {Q1 : Unit → Shared → Prop} (q : Q1 () s1) : wpAny (model P w) A (match b with | true => rule "set.scan.the-table-gave-way" | false => pure ()) Q1 E s1 := by
  cases b
  · exact wpAny_pure q
  · exact wpAny_rule q
theorem setS_add {x : Str} {tk : Tok} {xs : List Str} {es : Array (Int × Value)} {ep : Nat} {tb : SetTable} {Q : Bool → Shared → Prop} (R : SetS w s.heap a xs es ep tb) (room : es.size + 1 < scanBound)
    (hQ : ∀ b h1 es1 ep1 t1, Heap.SameBut a s.heap h1 → SetS w h1 a (xs ++ [x]) es1 ep1 t1 → es1.size ≤ es.size + 1 → Q b { s with heap := h1 }) :
    wpAny (model P w) A (setAddHashed a (.str x tk) ((strKind P w).hash x)) Q E s := by
  obtain ⟨o, ho, ex, dt⟩ := R.at_
  have key : (strKind P w).is x (.str x tk) = true := strKind_is P w x tk
  have scan : (Value.str x tk).scannable = true := rfl
  have el : ElemsOf (strKind P w) es.toList := isT_elems R.good
  have memx : ∀ y, y ∈ es.toList.map txt ↔ ∃ e ∈ es.toList, (strKind P w).is y e.2 = true := fun y => by
    rw [List.mem_map]
    exact ⟨fun ⟨e, he, q⟩ => ⟨e, he, (isT_key (R.good e he) y).2 q⟩, fun ⟨e, he, q⟩ => ⟨e, he, (isT_key (R.good e he) y).1 q⟩⟩
  unfold setAddHashed setAddHashedIn
  refine wpAny_holding (wpAny_bind (wpAny_setState_of ho dt R.fits ?_))
  dsimp only
  rw [byScan_of scan R.few el]
  simp only [↓reduceIte]
  unfold setAddByScan
  refine wpAny_bind (wpAny_bind (wpAny_rule (wpAny_bind (wpAny_setScan_of key ho dt R.fits el ?_))))
  cases fi : List.findIdx? (fun e => (strKind P w).is x e.2) es.toList with
  | some j =>
    dsimp only
    obtain ⟨hj, pj, _⟩ := List.findIdx?_eq_some_iff_getElem.mp fi
    have here : x ∈ es.toList.map txt := (memx x).2 ⟨es.toList[j], List.getElem_mem hj, pj⟩
    refine wpAny_pure (wpAny_pure (hQ _ s.heap es ep tb (Heap.SameBut.refl a s.heap) (R.congr fun y => ?_) (Nat.le_succ _)))
    rw [List.mem_append, List.mem_singleton]
    exact ⟨fun z => z.elim id fun e => by rw [e]; exact (R.mem x).2 here, .inl⟩
  | none =>
    dsimp only
    have absent : x ∉ es.toList.map txt := fun z => by
      obtain ⟨e, he, q⟩ := (memx x).1 z
      have c := List.findIdx?_eq_none_iff.mp fi e he
      rw [q] at c
      cases c
    have pm := layNew_perm tb es ((strKind P w).hash x) (.str x tk)
    have ft := layNew_fits tb es ((strKind P w).hash x) (.str x tk)
    have rs := layNew_ris tb es ((strKind P w).hash x) (.str x tk) R.ris
    have ld := layNew_led tb es ((strKind P w).hash x) (.str x tk)
    revert pm ft rs ld
    generalize layNew tb es ((strKind P w).hash x) (.str x tk) = z
    obtain ⟨es1, t1, dm, gave⟩ := z
    dsimp only
    intro pm ft rs ld
    rw [Array.toList_push] at pm
    have pc : es1.toList.Perm (((strKind P w).hash x, Value.str x tk) :: es.toList) := pm.trans (List.perm_append_singleton _ _)
    have pk : (es1.toList.map txt).Perm (x :: es.toList.map txt) := pc.map txt
    have good1 : ∀ e ∈ es1.toList, IsT w e := fun e he => by
      rcases List.mem_cons.mp (pc.mem_iff.mp he) with z | z
      · rw [z]; exact ⟨x, tk, rfl, rfl⟩
      · exact R.good e z
    have once1 : (es1.toList.map txt).Nodup := pk.nodup_iff.mpr (List.nodup_cons.mpr ⟨absent, R.once⟩)
    have mem1 : ∀ y, y ∈ xs ++ [x] ↔ y ∈ es1.toList.map txt := fun y => by
      rw [pk.mem_iff, List.mem_cons, List.mem_append, List.mem_singleton, R.mem y]
      exact Or.comm
    have size1 : es1.size = es.size + 1 := by
      have := pc.length_eq
      rwa [List.length_cons, Array.length_toList, Array.length_toList] at this
    have few1 : es1.size < scanBound := by omega
    have led1 : w.params.followText "set-order" = true ∨ t1.led = true := R.led.imp id fun z => by rw [ld]; exact z
    refine wpAny_bind (gave_way ?_)
    split
    · refine wpAny_bind ?_
      rw [hashByValue_scannable 8 scan]
      refine wpAny_pure ?_
      refine setS_tail (fun b s1 Q1 q => gave_way q) ho ex dt good1 once1 mem1 few1 ?_ ?_ ?_ fun h1 es2 ep2 t2 sb r sz => ?_
      · split
        · exact ft
        · exact SetTable.fits_plain_off ft
      · split <;> exact rs
      · split <;> exact led1
      · exact wpAny_pure (hQ _ h1 es2 ep2 t2 sb r (by omega))
    · refine wpAny_bind (wpAny_pure ?_)
      simp only [↓reduceIte]
      refine setS_tail (fun b s1 Q1 q => gave_way q) ho ex dt good1 once1 mem1 few1 ft rs led1 fun h1 es2 ep2 t2 sb r sz => ?_
      exact wpAny_pure (hQ _ h1 es2 ep2 t2 sb r (by omega))

/-- all that a walk gives is added -/
theorem setS_update {I : Addr} {fp wr : List Addr} {G : Array GenState → Array GenState → Prop} {n : Nat} {Pv : Nat → Value → Prop} {St : Nat → Shared → Prop} {R : Result → Shared → Prop}
    (W : WalksS P w A.in1 I fp wr G n Pv St) (S : Addr) (hS : S ∉ fp) (xs : List Str) (hn : n = xs.length) (hb : xs.length + 1 < scanBound) (val : ∀ i v, Pv i v → ∃ x t, xs[i]? = some x ∧ v = .str x t) :
    ∀ (k i : Nat) (s : Shared), n - i = k → i ≤ n → St i s → (∃ es ep tb, es.size ≤ i ∧ SetS w s.heap S (xs.take i) es ep tb) →
      (∀ s1 es ep tb, Moved (S :: wr) G s s1 → SetS w s1.heap S xs es ep tb → R (.ok (.ret .none)) s1) →
      codeAny (model P w) A (.builtin "set.update.loop" ⟨[.ref S, .ref I], []⟩) R s := by
  have off : S ∉ wr := fun h => hS (W.sub _ h)
  have sub : ∀ b ∈ wr, b ∈ S :: wr := fun b hb => List.mem_cons_of_mem _ hb
  intro k
  induction k with
  | zero =>
    intro i s e hi st ⟨es, ep, tb, hc, hs⟩ hR
    obtain rfl : i = n := by omega
    refine codeAny_builtin F.entry_set_update_loop ?_
    rw [Around.under_plainId F.plain_set_update_loop _]
    show wpAny _ A.in1 (pyNext (.ref I) >>= _) _ _ s
    refine wpAny_bind (W.done s _ _ st fun s1 mv => ?_)
    rw [List.take_of_length_le (Nat.le_of_eq hn.symm)] at hs
    show wpAny _ A.in1 (ret Value.none) _ _ s1
    exact wpAny_pure (hR s1 es ep tb (mv.mono sub) (hs.keep fun o e => mv.heap S o off e))
  | succ k ih =>
    intro i s e hi st ⟨es, ep, tb, hc, hs⟩ hR
    have lt : i < n := by omega
    refine codeAny_builtin F.entry_set_update_loop ?_
    rw [Around.under_plainId F.plain_set_update_loop _]
    show wpAny _ A.in1 (pyNext (.ref I) >>= _) _ _ s
    refine wpAny_bind (W.item i s _ _ lt st fun v s1 hP st1 mv => ?_)
    obtain ⟨x, t, hx, rfl⟩ := val i v hP
    have hs1 := hs.keep (h' := s1.heap) fun o e => mv.heap S o off e
    show wpAny _ A.in1 (holding [Value.str x t] (setAdd S (.str x t)) >>= _) _ _ s1
    unfold setAdd
    refine wpAny_bind (wpAny_holding (wpAny_holding (wpAny_bind ((strKind P w).pyHash (k := x) (strKind_is P w x t) ?_))))
    refine setS_add (s := { s1 with toks := s1.toks + 1 }) hs1 (by omega) fun b h2 es2 ep2 t2 sb r sz => ?_
    have r3 : SetS w h2 S (xs.take (i + 1)) es2 ep2 t2 := r.congr fun y => by rw [List.take_add_one, hx]; rfl
    refine wpAny_pure ⟨plainId_quiet F.plain_set_update_loop _, ih (i + 1) _ (by omega) lt (W.frame _ s1 _ _ st1 (Nat.le_succ _) fun b hb o e => ?_) ⟨es2, ep2, t2, by omega, r3⟩ fun s3 es3 ep3 t3 mv3 r4 => hR s3 es3 ep3 t3 (Moved.trans W.gtrans ((mv.mono sub).then_heap (Nat.le_succ _) fun b o hb e => ?_) mv3) r4⟩
    · rw [sb.2 b fun h => hS (by rw [← h]; exact hb)]; exact e
    · rw [sb.2 b fun h => hb (by rw [h]; exact List.mem_cons_self)]; exact e
theorem setS_new {h : Heap} {xs : List Str} (ho : h.get? a = some { cls := .type "set", dict := none, data := .set #[] 0 (.fresh 0 0 (!w.params.followText "set-order")) }) : SetS w h a (xs.take 0) #[] 0 (.fresh 0 0 (!w.params.followText "set-order")) where
  at_ := ⟨_, ho, ⟨rfl, rfl, rfl⟩, rfl⟩
  good := fun e he => by simp at he
  once := by simp
  mem := fun x => by simp
  few := by decide
  fits := rfl
  ris := List.Pairwise.nil
  led := by
    show _ ∨ (!w.params.followText "set-order") = true
    cases w.params.followText "set-order"
    · exact .inr rfl
    · exact .inl rfl
end
end Pv
end
section
set_option Elab.async false
set_option linter.all false
set_option maxRecDepth 100000
set_option maxHeartbeats 2000000
/-! PvH: set(list), set(tuple) of texts. -/
namespace Pv
open PySem PySem.Spec PyProof.Rows L2 PySem.W
section
variable {P : Program} {w : World} {A : Around} {E : Value → Shared → Prop} {s : Shared}

set_option maxHeartbeats 4000000 in
/-- set(l), l a list of texts -/
theorem call_set_list {l : Addr} {items : Array Value} (xs : List Str) {Q : Value → Shared → Prop} (calm : A.handled = none) (hl : s.heap.IsList l items) (hx : StrsAre items.toList xs) (hb : xs.length + 1 < scanBound)
    (hQ : ∀ h1 tk es ep tb, SetS w h1 s.heap.objs.size xs es ep tb → (∀ b o, s.heap.get? b = some o → h1.get? b = some o) → Q (.ref s.heap.objs.size) { s with heap := h1, toks := tk }) :
    wpAny (model P w) A (call (.type "set") [.ref l]) Q E s := by
  have size : items.size = xs.length := by
    rw [← StrsAre.len_eq hx, Array.length_toList]
  have at_ : ∀ (i : Nat) (v : Value), items[i]? = some v → ∃ x t, xs[i]? = some x ∧ v = .str x t := fun i v hv => by
    have hi : i < xs.length := by rw [← size]; exact (Array.getElem?_eq_some_iff.mp hv).1
    obtain ⟨t, e⟩ := SS.strs_at hx i v (by rw [Array.getElem?_toList]; exact hv)
    refine ⟨xs[i], t, List.getElem?_eq_getElem hi, ?_⟩
    rw [e, List.getD_eq_getElem?_getD, List.getElem?_eq_getElem hi]
    rfl
  obtain ⟨c, tl, mro⟩ := F.called_set.mro
  have f1 := F.called_set.made
  have f2 := F.called_set.sub
  have f3 := F.called_set.notType
  have f4 := F.called_set.canCreate
  have f5 := F.typeCall_set_1 (.ref l)
  refine wpAny_call (codeAny_of_tree ?_)
  show wpAny _ _ (callAny (.type "set") _) _ _ _
  refine wpAny_pure ⟨Code.quiet_builtin _ (by decide +kernel), codeAny_builtin F.entry_type_call ?_⟩
  rw [Around.under_plain (weight_type_call_type "set" [.ref l] []) rfl]
  repeat (any_goals (first | assumption | wp_step))
  refine codeAny_mono (code_set_led1 (.ref l) (E := E) (Q₁ := fun v s1 => v = .ref s.heap.objs.size ∧ s1 = { s with heap := s.heap.push { cls := .type "set", dict := none, data := .set #[] 0 (.fresh 0 0 (!w.params.followText "set-order")) } }) ⟨rfl, rfl⟩) fun r s1 hr => ?_
  cases r with
  | error e => exact hr
  | ok fl =>
    cases fl with
    | ret v =>
      obtain ⟨rfl, rfl⟩ := hr
      have hO : (s.heap.push { cls := .type "set", dict := none, data := .set #[] 0 (.fresh 0 0 (!w.params.followText "set-order")) }).get? s.heap.objs.size = some { cls := .type "set", dict := none, data := .set #[] 0 (.fresh 0 0 (!w.params.followText "set-order")) } := Heap.get?_push_size _ rfl
      have ty : Shared.TypeIs { s with heap := s.heap.push { cls := .type "set", dict := none, data := .set #[] 0 (.fresh 0 0 (!w.params.followText "set-order")) } } (.ref s.heap.objs.size) "set" := ⟨_, hO, rfl⟩
      have g1 := F.called_set.init.lookup
      have g2 := F.called_set.init.bind (.ref s.heap.objs.size)
      repeat (any_goals (first | assumption | wp_step))
      refine codeAny_mono (codeAny_call_builtin (R := wants (fun r s2 => r = .none ∧ ∃ h1 tk es ep tb, s2 = { s with heap := h1, toks := tk } ∧ SetS w h1 s.heap.objs.size xs es ep tb ∧
        ∀ b o, s.heap.get? b = some o → h1.get? b = some o) E) F.called_set.init.plain F.entry_set_init (check_set_init_1 ty ?_)) fun r2 s2 hr2 => ?_
      · have small := Heap.lt_size hl.choose_spec.1
        obtain ⟨⟨oc, od, odt, os⟩, hol, hoc, nl, hod⟩ := hl
        simp only at hoc hod
        subst hoc; subst hod
        have hol1 : (s.heap.push { cls := .type "set", dict := none, data := .set #[] 0 (.fresh 0 0 (!w.params.followText "set-order")) }).get? l = some ⟨.type "list", od, .seq items nl, os⟩ := Heap.get?_push_of_some _ hol
        have m1 := F.sub_list_set
        have m2 := F.sub_list_frozenset
        have m3 : (Value.type "list" == Value.type "dict") = false := by decide
        have hl1 : (s.heap.push { cls := .type "set", dict := none, data := .set #[] 0 (.fresh 0 0 (!w.params.followText "set-order")) }).IsList l items := ⟨_, hol1, rfl, nl, rfl⟩
        unfold Builtin.«set.__init__» noKeywords Builtin.Frozenset.updateFrom
        generalize pit : pyIter = PI
        wp_walk
        subst pit
        refine wpAny_pyIter_list hl1 ?_
        refine wpAny_bind (wpAny_runValue ?_)
        have sz : (s.heap.push { cls := .type "set", dict := none, data := .set #[] 0 (.fresh 0 0 (!w.params.followText "set-order")) }).objs.size = s.heap.objs.size + 1 := Heap.size_push ..
        have ne1 : l ≠ (s.heap.push { cls := .type "set", dict := none, data := .set #[] 0 (.fresh 0 0 (!w.params.followText "set-order")) }).objs.size := by rw [sz]; exact Nat.ne_of_lt (Nat.lt_succ_of_lt small)
        have off : s.heap.objs.size ∉ [(s.heap.push { cls := .type "set", dict := none, data := .set #[] 0 (.fresh 0 0 (!w.params.followText "set-order")) }).objs.size, l] := by
          rw [sz]
          simp only [List.mem_cons, List.not_mem_nil, or_false, not_or]
          exact ⟨Nat.ne_of_lt (Nat.lt_succ_self _), Nat.ne_of_gt small⟩
        refine setS_update ((Walks.list (by simp [calm]) _ l ne1 items).toS) s.heap.objs.size off xs size hb at_ (items.size - 0) 0 _ rfl (Nat.zero_le _) ⟨⟨_, Heap.get?_push_size _ rfl, rfl, rfl⟩, hl1.push _⟩ ?h0 ?h1
        case h0 => exact ⟨#[], 0, _, Nat.le_refl 0, setS_new (Heap.get?_push_of_some _ hO)⟩
        case h1 =>
          intro s3 es ep tb mv res
          obtain ⟨h3, g3, d3, t3, o3⟩ := s3
          obtain rfl : g3 = s.gens := mv.gens
          obtain rfl : d3 = s.drawn := mv.drawn
          obtain rfl : o3 = s.os := mv.os
          refine wpAny_pure ?_
          show wpAny _ _ (ret Value.none) _ _ _
          refine wpAny_pure ⟨rfl, h3, t3, es, ep, tb, rfl, res, fun b o e => ?_⟩
          have lt := Heap.lt_size e
          refine mv.heap b o ?_ (Heap.get?_push_of_some _ (Heap.get?_push_of_some _ e))
          rw [sz]
          simp only [List.mem_cons, List.not_mem_nil, or_false, not_or]
          exact ⟨Nat.ne_of_lt lt, Nat.ne_of_lt (Nat.lt_succ_of_lt lt)⟩
      · cases r2 with
        | error e => exact hr2
        | ok fl2 =>
          cases fl2 with
          | ret v2 =>
            obtain ⟨rfl, h1, tk, es, ep, tb, rfl, res, kp⟩ := hr2
            repeat (any_goals (first | assumption | wp_step))
            exact hQ h1 tk es ep tb res kp
          | _ => exact hr2.elim
    | _ => exact hr.elim


set_option maxHeartbeats 4000000 in
/-- set(l), l a tuple of texts -/
theorem call_set_tuple {l : Addr} {items : Array Value} (xs : List Str) {Q : Value → Shared → Prop} (calm : A.handled = none) (hl : s.heap.IsTuple l items) (hx : StrsAre items.toList xs) (hb : xs.length + 1 < scanBound)
    (hQ : ∀ h1 tk es ep tb, SetS w h1 s.heap.objs.size xs es ep tb → (∀ b o, s.heap.get? b = some o → h1.get? b = some o) → Q (.ref s.heap.objs.size) { s with heap := h1, toks := tk }) :
    wpAny (model P w) A (call (.type "set") [.ref l]) Q E s := by
  have size : items.size = xs.length := by
    rw [← StrsAre.len_eq hx, Array.length_toList]
  have at_ : ∀ (i : Nat) (v : Value), items[i]? = some v → ∃ x t, xs[i]? = some x ∧ v = .str x t := fun i v hv => by
    have hi : i < xs.length := by rw [← size]; exact (Array.getElem?_eq_some_iff.mp hv).1
    obtain ⟨t, e⟩ := SS.strs_at hx i v (by rw [Array.getElem?_toList]; exact hv)
    refine ⟨xs[i], t, List.getElem?_eq_getElem hi, ?_⟩
    rw [e, List.getD_eq_getElem?_getD, List.getElem?_eq_getElem hi]
    rfl
  obtain ⟨c, tl, mro⟩ := F.called_set.mro
  have f1 := F.called_set.made
  have f2 := F.called_set.sub
  have f3 := F.called_set.notType
  have f4 := F.called_set.canCreate
  have f5 := F.typeCall_set_1 (.ref l)
  refine wpAny_call (codeAny_of_tree ?_)
  show wpAny _ _ (callAny (.type "set") _) _ _ _
  refine wpAny_pure ⟨Code.quiet_builtin _ (by decide +kernel), codeAny_builtin F.entry_type_call ?_⟩
  rw [Around.under_plain (weight_type_call_type "set" [.ref l] []) rfl]
  repeat (any_goals (first | assumption | wp_step))
  refine codeAny_mono (code_set_led1 (.ref l) (E := E) (Q₁ := fun v s1 => v = .ref s.heap.objs.size ∧ s1 = { s with heap := s.heap.push { cls := .type "set", dict := none, data := .set #[] 0 (.fresh 0 0 (!w.params.followText "set-order")) } }) ⟨rfl, rfl⟩) fun r s1 hr => ?_
  cases r with
  | error e => exact hr
  | ok fl =>
    cases fl with
    | ret v =>
      obtain ⟨rfl, rfl⟩ := hr
      have hO : (s.heap.push { cls := .type "set", dict := none, data := .set #[] 0 (.fresh 0 0 (!w.params.followText "set-order")) }).get? s.heap.objs.size = some { cls := .type "set", dict := none, data := .set #[] 0 (.fresh 0 0 (!w.params.followText "set-order")) } := Heap.get?_push_size _ rfl
      have ty : Shared.TypeIs { s with heap := s.heap.push { cls := .type "set", dict := none, data := .set #[] 0 (.fresh 0 0 (!w.params.followText "set-order")) } } (.ref s.heap.objs.size) "set" := ⟨_, hO, rfl⟩
      have g1 := F.called_set.init.lookup
      have g2 := F.called_set.init.bind (.ref s.heap.objs.size)
      repeat (any_goals (first | assumption | wp_step))
      refine codeAny_mono (codeAny_call_builtin (R := wants (fun r s2 => r = .none ∧ ∃ h1 tk es ep tb, s2 = { s with heap := h1, toks := tk } ∧ SetS w h1 s.heap.objs.size xs es ep tb ∧
        ∀ b o, s.heap.get? b = some o → h1.get? b = some o) E) F.called_set.init.plain F.entry_set_init (check_set_init_1 ty ?_)) fun r2 s2 hr2 => ?_
      · have small := Heap.lt_size hl.choose_spec.1
        obtain ⟨⟨oc, od, odt, os⟩, hol, hoc, nl, hod⟩ := hl
        simp only at hoc hod
        subst hoc; subst hod
        have hol1 : (s.heap.push { cls := .type "set", dict := none, data := .set #[] 0 (.fresh 0 0 (!w.params.followText "set-order")) }).get? l = some ⟨.type "tuple", od, .seq items nl, os⟩ := Heap.get?_push_of_some _ hol
        have m1 := F.sub_tuple_set
        have m2 := F.sub_tuple_frozenset
        have m3 : (Value.type "tuple" == Value.type "dict") = false := by decide
        have hl1 : (s.heap.push { cls := .type "set", dict := none, data := .set #[] 0 (.fresh 0 0 (!w.params.followText "set-order")) }).IsTuple l items := ⟨_, hol1, rfl, nl, rfl⟩
        unfold Builtin.«set.__init__» noKeywords Builtin.Frozenset.updateFrom
        generalize pit : pyIter = PI
        wp_walk
        subst pit
        refine wpAny_pyIter_tuple hl1 ?_
        refine wpAny_bind (wpAny_runValue ?_)
        have sz : (s.heap.push { cls := .type "set", dict := none, data := .set #[] 0 (.fresh 0 0 (!w.params.followText "set-order")) }).objs.size = s.heap.objs.size + 1 := Heap.size_push ..
        have ne1 : l ≠ (s.heap.push { cls := .type "set", dict := none, data := .set #[] 0 (.fresh 0 0 (!w.params.followText "set-order")) }).objs.size := by rw [sz]; exact Nat.ne_of_lt (Nat.lt_succ_of_lt small)
        have off : s.heap.objs.size ∉ [(s.heap.push { cls := .type "set", dict := none, data := .set #[] 0 (.fresh 0 0 (!w.params.followText "set-order")) }).objs.size, l] := by
          rw [sz]
          simp only [List.mem_cons, List.not_mem_nil, or_false, not_or]
          exact ⟨Nat.ne_of_lt (Nat.lt_succ_self _), Nat.ne_of_gt small⟩
        refine setS_update ((Walks.tuple (by simp [calm]) _ l ne1 items).toS) s.heap.objs.size off xs size hb at_ (items.size - 0) 0 _ rfl (Nat.zero_le _) ⟨⟨_, Heap.get?_push_size _ rfl, rfl, rfl⟩, hl1.push _⟩ ?h0 ?h1
        case h0 => exact ⟨#[], 0, _, Nat.le_refl 0, setS_new (Heap.get?_push_of_some _ hO)⟩
        case h1 =>
          intro s3 es ep tb mv res
          obtain ⟨h3, g3, d3, t3, o3⟩ := s3
          obtain rfl : g3 = s.gens := mv.gens
          obtain rfl : d3 = s.drawn := mv.drawn
          obtain rfl : o3 = s.os := mv.os
          refine wpAny_pure ?_
          show wpAny _ _ (ret Value.none) _ _ _
          refine wpAny_pure ⟨rfl, h3, t3, es, ep, tb, rfl, res, fun b o e => ?_⟩
          have lt := Heap.lt_size e
          refine mv.heap b o ?_ (Heap.get?_push_of_some _ (Heap.get?_push_of_some _ e))
          rw [sz]
          simp only [List.mem_cons, List.not_mem_nil, or_false, not_or]
          exact ⟨Nat.ne_of_lt lt, Nat.ne_of_lt (Nat.lt_succ_of_lt lt)⟩
      · cases r2 with
        | error e => exact hr2
        | ok fl2 =>
          cases fl2 with
          | ret v2 =>
            obtain ⟨rfl, h1, tk, es, ep, tb, rfl, res, kp⟩ := hr2
            repeat (any_goals (first | assumption | wp_step))
            exact hQ h1 tk es ep tb res kp
          | _ => exact hr2.elim
    | _ => exact hr.elim

end
end Pv
end
section
set_option Elab.async false
set_option linter.all false
set_option maxRecDepth 100000
set_option maxHeartbeats 2000000
/-! PvI: sorted of data; sorted(set(..)), len(set(..)) of texts. -/
namespace Pv
open PySem PySem.Spec PyProof.Rows L2 PySem.W

/-! ### sorted, of whatever is gathered -/
section
variable {α : Type} (le : α → α → Bool)
def ins (x : α) : List α → List α
  | [] => [x]
  | y :: t => if le x y = true then x :: y :: t else y :: ins x t
/-- sorted by insertion: stable, and easy to count with -/
def isort : List α → List α
  | [] => []
  | x :: r => ins le x (isort r)
theorem ins_perm (x : α) : ∀ l, (ins le x l).Perm (x :: l)
  | [] => .refl _
  | y :: t => by
    unfold ins
    split
    · exact .refl _
    · exact (List.Perm.cons y (ins_perm x t)).trans (.swap x y t)
theorem isort_perm : ∀ l, (isort le l).Perm l
  | [] => .nil
  | x :: r => (ins_perm le x _).trans ((isort_perm r).cons x)
theorem isort_len (l : List α) : (isort le l).length = l.length := (isort_perm le l).length_eq
variable (trans : ∀ x y z, le x y = true → le y z = true → le x z = true) (total : ∀ x y, (le x y || le y x) = true)
include trans total
theorem ins_sorted (x : α) : ∀ l, l.Pairwise (fun a b => le a b = true) → (ins le x l).Pairwise (fun a b => le a b = true)
  | [], _ => List.pairwise_singleton _ _
  | y :: t, h => by
    obtain ⟨h1, h2⟩ := List.pairwise_cons.mp h
    unfold ins
    split
    · next c =>
      refine List.pairwise_cons.mpr ⟨fun z hz => ?_, h⟩
      rcases List.mem_cons.mp hz with e | e
      · rw [e]; exact c
      · exact trans _ _ _ c (h1 z e)
    · next c =>
      have c' : le y x = true := by
        have := total x y
        rw [Bool.or_eq_true] at this
        exact this.resolve_left c
      refine List.pairwise_cons.mpr ⟨fun z hz => ?_, ins_sorted x t h2⟩
      rcases List.mem_cons.mp ((ins_perm le x t).mem_iff.mp hz) with e | e
      · rw [e]; exact c'
      · exact h1 z e
theorem isort_sorted : ∀ l, (isort le l).Pairwise (fun a b => le a b = true)
  | [] => .nil
  | x :: r => ins_sorted le trans total x _ (isort_sorted r)
theorem ins_class (x z : α) : ∀ l, (ins le x l).filter (PySem.W.Srt.alike le z) = (x :: l).filter (PySem.W.Srt.alike le z)
  | [] => rfl
  | y :: t => by
    unfold ins
    split
    · rfl
    · next c =>
      rw [List.filter_cons, ins_class x z t]
      by_cases a : PySem.W.Srt.alike le z y = true
      · by_cases b : PySem.W.Srt.alike le z x = true
        · exfalso
          unfold PySem.W.Srt.alike at a b
          rw [Bool.and_eq_true] at a b
          exact c (trans _ _ _ b.2 a.1)
        · rw [List.filter_cons_of_neg b, List.filter_cons_of_neg b, List.filter_cons]
      · rw [if_neg a, List.filter_cons, List.filter_cons, List.filter_cons_of_neg a]
theorem isort_eq (l : List α) : isort le l = l.mergeSort le := by
  refine PySem.W.Srt.the le trans total (isort_sorted le trans total l) fun z => ?_
  induction l with
  | nil => rfl
  | cons x r ih =>
    show (ins le x (isort le r)).filter _ = _
    rw [ins_class le trans total, List.filter_cons, List.filter_cons, ih]
end
theorem dataLe_total : ∀ x y : D, (dataLe false id x y || dataLe false id y x) = true := fun x y => by
  rw [Bool.or_eq_true]
  exact (sortLe_total (listOrd itemOrd) false fun b => keyToks (id b)).total x y
theorem dataLe_trans : ∀ x y z : D, dataLe false id x y = true → dataLe false id y z = true → dataLe false id x z = true := (sortLe_total (listOrd itemOrd) false fun b => keyToks (id b)).trans
abbrev sortD (ds : List D) : List D := isort (dataLe false id) ds
def Kept (s s1 : Shared) : Prop := (∀ b o, s.heap.get? b = some o → s1.heap.get? b = some o) ∧ s1.gens = s.gens ∧ s1.os = s.os
section
variable {P : Program} {w : World} {A : Around} {E : Value → Shared → Prop} {s : Shared}
theorem sorted_got {c : Value} {bs : List D} {S : List D → Prop} (sp : ∀ cs, S cs → cs.Perm bs) {R : Value → D → Prop} {Q : Value → Shared → Prop}
    (gather : ∀ (E1 : Value → Shared → Prop) (Q1 : List Value → Shared → Prop), (∀ s1 vs cs, Kept s s1 → S cs → EachIs R vs cs → EachIs (fun v b => ∃ as, Reads s1.heap v b as) vs cs → Q1 vs s1) → wpAny (model P w) A.in1 (collect c) Q1 E1 s)
    (al : AllAlike bs) (so : SortableT bs) (few : bs.length ≤ sizeLine) (hu : ∀ b, b ∈ bs → A.units + 2 + b.depth < cLine)
    (h : ∀ s1 p out cs k, Kept s s1 → s.heap.get? p = none → s1.heap.get? p = some (seqObj "list" (List.toArray out) k) → S cs → EachIs R out (sortD cs) → Q (.ref p) s1) :
    wpAny (model P w) A (call (.builtin "sorted") [c]) Q E s := by
  refine Calls.call_function_entry kind_sorted plain_sorted entry_sorted (args_sorted1 _) ?_
  unfold Builtin.«sorted»
  refine wpAny_bind (m := checkCount "sorted" 1 1 _) (wpAny_pure (wpAny_bind (gather _ _ fun s1 vs cs kp ps e er => ?_)))
  have pm := sp cs ps
  have len : vs.length ≤ sizeLine := by rw [e.length, pm.length_eq]; exact few
  refine wpAny_bind (wpAny_newList ?_ len)
  have ob : (s1.heap.push (seqObj "list" vs.toArray 0)).get? s1.heap.objs.size = some (seqObj "list" vs.toArray 0) := Heap.get?_push_size _ rfl
  have er1 : EachIs (fun v b => ∃ as, Reads (s1.heap.push (seqObj "list" vs.toArray 0)) v (id b) as ∧ s1.heap.objs.size ∉ as) vs cs := er.mono fun v b ⟨as, r⟩ =>
    ⟨as, PyProof.Rows.Reads.keeps (fun _ _ q => Heap.get?_push_of_some _ q) r, fun z => by
      obtain ⟨o, ho⟩ := PyProof.On.reads_mem_get r _ z
      exact absurd (Heap.lt_size ho) (Nat.lt_irrefl _)⟩
  have al1 : AllAlike (cs.map id) := by rw [List.map_id]; exact fun d hd d' hd' => al d (pm.mem_iff.mp hd) d' (pm.mem_iff.mp hd')
  have so1 : SortableT (cs.map id) := by
    rw [List.map_id]
    exact so.imp (fun q d hd => q d (pm.mem_iff.mp hd)) fun q d hd => q d (pm.mem_iff.mp hd)
  refine wpAny_bind (wpAny_holding (list_sort_dataT (A := A.in1) (s := { s1 with heap := s1.heap.push (seqObj "list" vs.toArray 0) }) ob e er1 al1 so1 (by rw [pm.length_eq]; exact few) (fun b hb => ?_) fun out ol each => ?_))
  · have := hu b (pm.mem_iff.mp hb)
    show A.units + 1 + 1 + b.depth < cLine
    omega
  · obtain ⟨k, hk⟩ := sortedHeap_at (vs := vs) (out := List.toArray out) ob
    refine wpAny_pure ⟨_, rfl, h { s1 with heap := sortedHeap (s1.heap.push (seqObj "list" vs.toArray 0)) s1.heap.objs.size vs out.toArray } _ out cs k ⟨fun b o q => ?_, kp.2.1, kp.2.2⟩ ?_ hk ps (by rw [sortD, isort_eq _ dataLe_trans dataLe_total]; exact each)⟩
    · have q1 := kp.1 b o q
      have lt := Heap.lt_size q1
      show (sortedHeap (s1.heap.push (seqObj "list" vs.toArray 0)) s1.heap.objs.size vs out.toArray).get? b = some o
      rw [sortedHeap_old (Nat.ne_of_lt lt) (by rw [size_push']; exact Nat.lt_succ_of_lt lt)]
      exact Heap.get?_push_of_some _ q1
    · cases q : s.heap.get? s1.heap.objs.size with
      | none => rfl
      | some o => exact absurd (Heap.lt_size (kp.1 _ _ q)) (Nat.lt_irrefl _)
end

/-! ### in the layer -/
def alikeB (ds : List D) : Bool := ds.all fun d => ds.all fun e => PySem.W.alike d e
def sortB (ds : List D) : Bool := (ds.all fun d => match d with
    | .tuple _ => true
    | _ => false) || ds.all fun d => match d with
    | .none => false
    | .tuple _ => false
    | _ => true
def sortOk (ds : List D) : Bool := alikeB ds && sortB ds && decide (ds.length ≤ sizeLine) && ds.all fun d => decide (d.depth ≤ 64)
theorem sortOk_iff {ds : List D} (h : sortOk ds = true) : AllAlike ds ∧ SortableT ds ∧ ds.length ≤ sizeLine ∧ ∀ d ∈ ds, d.depth ≤ 64 := by
  unfold sortOk at h
  simp only [Bool.and_eq_true, decide_eq_true_eq] at h
  obtain ⟨⟨⟨h1, h2⟩, h3⟩, h4⟩ := h
  refine ⟨fun d hd e he => ?_, ?_, h3, fun d hd => ?_⟩
  · unfold alikeB at h1
    exact List.all_eq_true.mp (List.all_eq_true.mp h1 d hd) e he
  · unfold sortB at h2
    rw [Bool.or_eq_true] at h2
    rcases h2 with q | q
    · left
      intro d hd
      have := List.all_eq_true.mp q d hd
      split at this
      · exact ⟨_, rfl⟩
      · cases this
    · right
      intro d hd
      have := List.all_eq_true.mp q d hd
      constructor
      · intro z; subst z; cases this
      · intro xs z; subst z; cases this
  · exact of_decide_eq_true (List.all_eq_true.mp h4 d hd)
theorem objOk_some {P : Program} {w : World} {H : Hp} {h : Heap} {a : Addr} {o : HO} (x : ObjOk P w H h a o) : ∃ ob, h.get? a = some ob := by
  cases o with
  | lst xs => obtain ⟨_, _, _, _, e⟩ := x; exact ⟨_, e⟩
  | tup xs => obtain ⟨_, _, _, o, e, _⟩ := x; exact ⟨_, e⟩
  | dK kvs => obtain ⟨_, _, _, _, o, _, _, e, _⟩ := x; exact ⟨_, e⟩
  | dT kvs => obtain ⟨_, _, _, _, o, _, _, e, _⟩ := x; exact ⟨_, e⟩
  | set S n => obtain ⟨o, _, _, _, e, _⟩ := x; exact ⟨_, e⟩
  | ins C dx fs => obtain ⟨_, _, _, e, _⟩ := x; exact ⟨_, e⟩
  | own y => obtain ⟨_, e⟩ := x; exact ⟨_, e⟩
  | xd fs => obtain ⟨_, ⟨_, _, _, e, _⟩, _⟩ := x; exact ⟨_, e⟩
  | rng lo hi => obtain ⟨_, _, _, e⟩ := x; exact ⟨_, e⟩
  | frz o u => obtain ⟨e, _⟩ := x; exact ⟨_, e⟩
  | tbl ps => exact ⟨_, x⟩
  | met f y => exact ⟨_, x⟩
  | ext φ => obtain ⟨_, ⟨o, e⟩, _⟩ := x; exact ⟨_, e⟩
def sortedF : OpN
  | [.list ds] => if sortOk ds = true then some (.list (sortD ds), true) else none
  | [.tuple ds] => if sortOk ds = true then some (.list (sortD ds), true) else none
  | _ => none
section
variable {X : Cx} {K : Fr'} {F H : Hp}
def Is (K : Fr') (F : Hp) (v : Value) (d : D) : Prop := ∃ x : V, RelV x v ∧ Rp K F x d
theorem is_of : ∀ {xs : List V} {us : List Value} {ds : List D}, Vals xs us → RpA K F xs ds → EachIs (Is K F) us ds
  | _, _, _, .nil, .nil => .nil
  | _, _, _, .cons r t, .cons q p => .cons ⟨_, r, q⟩ (is_of t p)
theorem of_is : ∀ {us : List Value} {ds : List D}, EachIs (Is K F) us ds → ∃ xs : List V, Vals xs us ∧ RpA K F xs ds
  | _, _, .nil => ⟨[], .nil, .nil⟩
  | _, _, .cons ⟨x, r, q⟩ t => by
    obtain ⟨xs, h1, h2⟩ := of_is t
    exact ⟨x :: xs, .cons r h1, .cons q h2⟩
theorem alike_self_plain : ∀ d : D, PySem.W.alike d d = true → plain d = true
  | .none, _ => rfl
  | .bool _, _ => rfl
  | .int _, _ => rfl
  | .str _, _ => rfl
  | .list xs, h => by simp only [plain]; exact go xs (by simpa [PySem.W.alike] using h)
  | .tuple xs, h => by simp only [plain]; exact go xs (by simpa [PySem.W.alike] using h)
  | .dict _, h => by simp [PySem.W.alike] at h
where go : ∀ ds : List D, PySem.W.alikeAll ds ds = true → plainA ds = true
  | [], _ => rfl
  | d :: ds, h => by
    simp only [PySem.W.alikeAll, Bool.and_eq_true] at h
    simp only [plainA, Bool.and_eq_true]
    exact ⟨alike_self_plain d h.1, go ds h.2⟩
theorem reads_of {pins : List (Addr × Obj)} {σ : St} {s : Shared} (I : Inv X pins σ H s) (le : Le F H) : ∀ {us : List Value} {ds : List D}, EachIs (Is X.K F) us ds → (∀ d ∈ ds, plain d = true) → EachIs (fun v b => ∃ as, Reads s.heap v b as) us ds
  | _, _, .nil, _ => .nil
  | _, _, .cons ⟨x, r, q⟩ t, h => .cons (Dp.reads I _ x _ ((q.mono le).dp (h _ List.mem_cons_self)) r) (reads_of I le t fun d hd => h d (List.mem_cons_of_mem _ hd))
/-- a new list behind a call that keeps all that stood -/
theorem new_list {pins : List (Addr × Obj)} {σ : St} {s s1 : Shared} (I : Inv X pins σ H s) (kp : Kept s s1) {p : Addr} (hp : s.heap.get? p = none) {xs : List V} {out : List Value} {k : Nat} (hg : s1.heap.get? p = some (seqObj "list" out.toArray k)) (rv : Vals xs out) (len : xs.length ≤ sizeLine) :
    Inv X pins σ (upd H p (.lst xs)) s1 ∧ H p = none := by
  have hn : H p = none := by
    cases q : H p with
    | none => rfl
    | some u =>
      obtain ⟨o, ho⟩ := objOk_some (I.hok _ _ q)
      rw [hp] at ho
      cases ho
  refine ⟨?_, hn⟩
  have J : Inv X pins σ (upd H p (.lst xs)) { s with heap := s1.heap, gens := s1.gens, drawn := s1.drawn, toks := s1.toks } :=
    I.call (ch := []) (Un.laidN kp.1 hp hn) (I.hok.laidN kp.1 hn ⟨len, out, k, rv, hg⟩) (by rw [kp.2.1]; exact I.bare) fun _ z => nomatch z
  have e : s1 = { s with heap := s1.heap, gens := s1.gens, drawn := s1.drawn, toks := s1.toks } := by
    have := kp.2.2
    cases s1
    cases s
    simp only at this
    subst this
    rfl
  rw [e]
  exact J
theorem sortD_len (ds : List D) : (sortD ds).length = ds.length := isort_len _ _
theorem cr_sorted (hu : X.A.units + 100 < cLine) : CallR X (.builtin "sorted") (rCS X.K sortedF) := by
  intro pins s σ H xs us Q I r h
  obtain ⟨F, ds, zb, l, ls, e, q⟩ := h
  have main : ∀ (ds : List D) (vs : List V) (items : List Value) (a : Addr) (T : String), (T = "list" ∨ T = "tuple") → (∃ o n, s.heap.get? a = some o ∧ o.cls = .type T ∧ o.data = .seq items.toArray n) → Vals vs items → RpA X.K F vs ds → sortOk ds = true →
      Post X.K F H Q (.list (sortD ds), true) → wpAny (model X.prog X.w) X.A (call (.builtin "sorted") [.ref a]) (EP X pins σ Q) X.xe s := by
    intro ds vs items a T hT ⟨o, n, ho, hc, hd⟩ rv rp ok q
    obtain ⟨al, so, few, dep⟩ := sortOk_iff ok
    have each := is_of rv rp
    have rd := reads_of I l each fun d hd => alike_self_plain d (al d hd d hd)
    have hz : items.length ≤ sizeLine := by rw [each.length]; exact few
    refine sorted_got (R := Is X.K F) (bs := ds) (S := fun cs => cs = ds) (fun cs z => by subst z; exact List.Perm.refl _) (fun E1 Q1 k => wpAny_collect_seq a hT ho hc hd (fun h1 keep => ?_) (by rw [List.size_toArray]; exact hz)) al so few (fun b hb => ?_) fun s1 p out cs k kp hp hg pm each1 => ?_
    · refine k _ items ds ⟨keep, rfl, rfl⟩ rfl each (rd.mono fun v b ⟨as, r⟩ => ⟨as, PyProof.Rows.Reads.keeps keep r⟩)
    · have := dep b hb
      omega
    · obtain ⟨xs1, r1, rp1⟩ := of_is each1
      subst pm
      obtain ⟨J, hn⟩ := new_list I kp hp hg r1 (by rw [rp1.length, sortD_len]; exact few)
      exact ⟨.ref p, _, J, rfl, Post.lst l rp1 q p hn⟩
  match ds, ls, e with
  | [.list ds], .cons lk .nil, e =>
    simp only [sortedF] at e
    split at e
    · next ok =>
      cases e
      obtain ⟨a, vs, rfl, ha, rp⟩ := lk.list l
      cases r with | cons r0 rn =>
      cases rn
      cases r0
      obtain ⟨its, n, rv, hl, hz⟩ := I.lst ha
      exact main ds vs its a "list" (.inl rfl) ⟨_, n, hl, rfl, rfl⟩ rv rp ok q
    · cases e
  | [.tuple ds], .cons lk .nil, e =>
    simp only [sortedF] at e
    split at e
    · next ok =>
      cases e
      obtain ⟨a, vs, rfl, ha, rp, _⟩ := lk.tuple l
      cases r with | cons r0 rn =>
      cases rn
      cases r0
      obtain ⟨its, rv, ⟨o, hl, hc, n, hd⟩, hz⟩ := I.tuple ha
      exact main ds vs its a "tuple" (.inr rfl) ⟨_, n, hl, hc, hd⟩ rv rp ok q
    · cases e
end
end Pv
end
section
set_option Elab.async false
set_option linter.all false
set_option maxRecDepth 100000
set_option maxHeartbeats 1000000
/-! PvJ: built-ins by name. -/
namespace Pv
open PySem PySem.Spec PyProof.Rows L2 PySem.W

theorem RpA.intsOf {K : Fr'} {F : Hp} : ∀ {xs : List V} {ds : List D} {ns : List Int}, RpA K F xs ds → ds = ns.map PyData.int → xs = ns.map V.int
  | _, _, [], .nil, _ => rfl
  | _, _, _ :: _, .nil, e => by cases e
  | _, _, [], .cons _ _, e => by cases e
  | _, _, _ :: _, .cons r t, e => by
    rw [List.map_cons] at e
    obtain ⟨e1, e2⟩ := List.cons.inj e
    subst e1
    cases r
    rw [List.map_cons, RpA.intsOf t e2]
theorem RpA.blsOf {K : Fr'} {F : Hp} : ∀ {xs : List V} {ds : List D} {ns : List Bool}, RpA K F xs ds → ds = ns.map PyData.bool → xs = ns.map V.bl
  | _, _, [], .nil, _ => rfl
  | _, _, _ :: _, .nil, e => by cases e
  | _, _, [], .cons _ _, e => by cases e
  | _, _, _ :: _, .cons r t, e => by
    rw [List.map_cons] at e
    obtain ⟨e1, e2⟩ := List.cons.inj e
    subst e1
    cases r
    rw [List.map_cons, RpA.blsOf t e2]
def asInts : List D → Option (List Int)
  | [] => some []
  | .int i :: r => (asInts r).map (i :: ·)
  | _ :: _ => none
theorem asInts_eq : ∀ {ds : List D} {ns : List Int}, asInts ds = some ns → ds = ns.map PyData.int
  | [], _, h => by cases h; rfl
  | d :: r, ns, h => by
    cases d with
    | int i =>
      simp only [asInts, Option.map_eq_some_iff] at h
      obtain ⟨a, e, rfl⟩ := h
      rw [List.map_cons, ← asInts_eq e]
    | _ => cases h
def asBls : List D → Option (List Bool)
  | [] => some []
  | .bool i :: r => (asBls r).map (i :: ·)
  | _ :: _ => none
theorem asBls_eq : ∀ {ds : List D} {ns : List Bool}, asBls ds = some ns → ds = ns.map PyData.bool
  | [], _, h => by cases h; rfl
  | d :: r, ns, h => by
    cases d with
    | bool i =>
      simp only [asBls, Option.map_eq_some_iff] at h
      obtain ⟨a, e, rfl⟩ := h
      rw [List.map_cons, ← asBls_eq e]
    | _ => cases h
theorem RpA.strsOf {K : Fr'} {F : Hp} : ∀ {xs : List V} {ds : List D} {ns : List Str}, RpA K F xs ds → ds = ns.map PyData.str → xs = ns.map V.str
  | _, _, [], .nil, _ => rfl
  | _, _, _ :: _, .nil, e => by cases e
  | _, _, [], .cons _ _, e => by cases e
  | _, _, _ :: _, .cons r t, e => by
    rw [List.map_cons] at e
    obtain ⟨e1, e2⟩ := List.cons.inj e
    subst e1
    cases r
    rw [List.map_cons, RpA.strsOf t e2]
theorem RpA.ofStrs {K : Fr'} {F : Hp} : ∀ ns : List Str, RpA K F (ns.map V.str) (ns.map PyData.str)
  | [] => .nil
  | x :: r => .cons (.str x) (RpA.ofStrs r)
def asStrs : List D → Option (List Str)
  | [] => some []
  | .str i :: r => (asStrs r).map (i :: ·)
  | _ :: _ => none
theorem asStrs_eq : ∀ {ds : List D} {ns : List Str}, asStrs ds = some ns → ds = ns.map PyData.str
  | [], _, h => by cases h; rfl
  | d :: r, ns, h => by
    cases d with
    | str i =>
      simp only [asStrs, Option.map_eq_some_iff] at h
      obtain ⟨a, e, rfl⟩ := h
      rw [List.map_cons, ← asStrs_eq e]
    | _ => cases h
theorem asStrs_map : ∀ ns : List Str, asStrs (ns.map PyData.str) = some ns
  | [] => rfl
  | x :: r => by simp [asStrs, asStrs_map r]
/-- the keys of a dict's pairs, all texts -/
theorem RpD.strKeys {K : Fr'} {F : Hp} : ∀ {xs : List (Key × V)} {es : List (D × D)} {ns : List Str}, RpD K F xs es → es.map (·.1) = ns.map PyData.str → xs.map (·.1) = ns.map Sum.inr
  | _, _, [], .nil, _ => rfl
  | _, _, _ :: _, .nil, e => by cases e
  | _, _, [], .cons _ _, e => by cases e
  | _, _, _ :: _, .cons (k := k) r t, e => by
    rw [List.map_cons, List.map_cons] at e
    obtain ⟨e1, e2⟩ := List.cons.inj e
    cases k with
    | inl i => cases e1
    | inr x =>
      cases e1
      rw [List.map_cons, List.map_cons, RpD.strKeys t e2]
theorem RpD.keys {K : Fr'} {F : Hp} : ∀ {xs : List (Key × V)} {es : List (D × D)}, RpD K F xs es → RpA K F (xs.map fun kv => kV kv.1) (es.map (·.1))
  | _, _, .nil => .nil
  | _, _, .cons (k := k) r t => by
    cases k with
    | inl i => exact .cons (.int i) (RpD.keys t)
    | inr x => exact .cons (.str x) (RpD.keys t)

section
variable {X : Cx} {F H : Hp}
/-! ### len -/
def lenF : OpN
  | [.list ds] => some (.int ds.length, false)
  | [.tuple ds] => some (.int ds.length, false)
  | [.dict es] => some (.int es.length, false)
  | [.str x] => if x.length ≤ sizeLine then some (.int x.length, false) else none
  | _ => none
theorem cr_len : CallR X (.builtin "len") (rCS X.K lenF) := by
  intro pins s σ H xs us Q I r h
  obtain ⟨F, ds, zb, l, ls, e, q⟩ := h
  match ds, ls, e with
  | [.list ds], .cons lk .nil, e =>
    cases e
    obtain ⟨a, vs, rfl, ha, rp⟩ := lk.list l
    refine call_len pins s σ H _ us Q I r ⟨_, vs.length, rfl, .inl ⟨vs, .inl (.inl ha), rfl⟩, ?_⟩
    rw [rp.length]
    exact q.old l (.int _)
  | [.tuple ds], .cons lk .nil, e =>
    cases e
    obtain ⟨a, vs, rfl, ha, rp, _⟩ := lk.tuple l
    refine call_len pins s σ H _ us Q I r ⟨_, vs.length, rfl, .inr ⟨vs, ha, rfl⟩, ?_⟩
    rw [rp.length]
    exact q.old l (.int _)
  | [.dict es], .cons lk .nil, e =>
    cases e
    obtain ⟨a, vs, rfl, ha, rp⟩ := lk.dict l
    obtain ⟨u, rfl, ru⟩ := vals1 r
    cases ru
    refine d_len I ha fun t s' I' => ⟨.int vs.length, H, I', ⟨t, rfl⟩, ?_⟩
    rw [rp.length]
    exact q.old l (.int _)
  | [.str x], .cons lk .nil, e =>
    simp only [lenF] at e
    split at e
    · next hz =>
      cases e
      rw [lk.str] at r
      exact call_len pins s σ H _ us Q I r ⟨_, x.length, rfl, ⟨hz, rfl⟩, q.old l (.int _)⟩
    · cases e
/-! ### int, min, max, all, any, sum -/
def intF : OpN
  | [.int i] => some (.int i, false)
  | [.bool b] => some (.int (if b then 1 else 0), false)
  | _ => none
theorem cr_int : CallR X (.type "int") (rCS X.K intF) := by
  intro pins s σ H xs us Q I r h
  obtain ⟨F, ds, zb, l, ls, e, q⟩ := h
  match ds, ls, e with
  | [.int i], .cons lk .nil, e => cases e; rw [lk.int] at r; exact call_int1 pins s σ H _ us Q I r (.inl ⟨i, rfl, q.old l (.int _)⟩)
  | [.bool i], .cons lk .nil, e => cases e; rw [lk.bool] at r; exact call_int1 pins s σ H _ us Q I r (.inr ⟨i, rfl, q.old l (.int _)⟩)
theorem max_of : ∀ (x : Int) (ns : List Int), (x :: ns).foldl max x ∈ x :: ns ∧ ∀ y ∈ x :: ns, y ≤ (x :: ns).foldl max x := by
  have go : ∀ (ns : List Int) (m : Int), (ns.foldl max m = m ∨ ns.foldl max m ∈ ns) ∧ m ≤ ns.foldl max m ∧ ∀ y ∈ ns, y ≤ ns.foldl max m := by
    intro ns
    induction ns with
    | nil => intro m; exact ⟨.inl rfl, Int.le_refl _, fun y h => by cases h⟩
    | cons a r ih =>
      intro m
      obtain ⟨h1, h2, h3⟩ := ih (max m a)
      rw [List.foldl_cons]
      refine ⟨?_, by omega, fun y hy => ?_⟩
      · rcases h1 with e | e
        · rw [e]
          by_cases c : m ≤ a
          · right; rw [Int.max_eq_right c]; exact List.mem_cons_self
          · left; exact Int.max_eq_left (by omega)
        · exact .inr (List.mem_cons_of_mem _ e)
      · rcases List.mem_cons.mp hy with e | e
        · subst e; omega
        · exact h3 y e
  intro x ns
  obtain ⟨h1, h2, h3⟩ := go (x :: ns) x
  refine ⟨?_, h3⟩
  rcases h1 with e | e
  · rw [e]; exact List.mem_cons_self
  · exact e
theorem min_of : ∀ (x : Int) (ns : List Int), (x :: ns).foldl min x ∈ x :: ns ∧ ∀ y ∈ x :: ns, (x :: ns).foldl min x ≤ y := by
  have go : ∀ (ns : List Int) (m : Int), (ns.foldl min m = m ∨ ns.foldl min m ∈ ns) ∧ ns.foldl min m ≤ m ∧ ∀ y ∈ ns, ns.foldl min m ≤ y := by
    intro ns
    induction ns with
    | nil => intro m; exact ⟨.inl rfl, Int.le_refl _, fun y h => by cases h⟩
    | cons a r ih =>
      intro m
      obtain ⟨h1, h2, h3⟩ := ih (min m a)
      rw [List.foldl_cons]
      refine ⟨?_, by omega, fun y hy => ?_⟩
      · rcases h1 with e | e
        · rw [e]
          by_cases c : m ≤ a
          · left; exact Int.min_eq_left c
          · right; rw [Int.min_eq_right (by omega)]; exact List.mem_cons_self
        · exact .inr (List.mem_cons_of_mem _ e)
      · rcases List.mem_cons.mp hy with e | e
        · subst e; omega
        · exact h3 y e
  intro x ns
  obtain ⟨h1, h2, h3⟩ := go (x :: ns) x
  refine ⟨?_, h3⟩
  rcases h1 with e | e
  · rw [e]; exact List.mem_cons_self
  · exact e
def intsF (f : Int → List Int → Int) : D → Option (D × Bool)
  | .list ds => (asInts ds).bind fun ns => match ns with
    | [] => none
    | x :: ns => some (.int (f x (x :: ns)), false)
  | _ => none
def maxF : OpN
  | [.int i, .int j] => some (.int (if j > i then j else i), false)
  | [.list ds] => intsF (fun x ns => ns.foldl max x) (.list ds)
  | _ => none
def minF : OpN
  | [.int i, .int j] => some (.int (if j < i then j else i), false)
  | [.list ds] => intsF (fun x ns => ns.foldl min x) (.list ds)
  | _ => none
theorem cr_maxD (hc : X.calm = true) : CallR X (.builtin "max") (rCS X.K maxF) := by
  intro pins s σ H xs us Q I r h
  obtain ⟨F, ds, zb, l, ls, e, q⟩ := h
  match ds, ls, e with
  | [.int i, .int j], .cons lk (.cons lk2 .nil), e => cases e; rw [lk.int, lk2.int] at r; exact call_max2 hc pins s σ H _ us Q I r ⟨i, j, rfl, q.old l (.int _)⟩
  | [.list ds], .cons lk .nil, e =>
    simp only [maxF, intsF, Option.bind_eq_some_iff] at e
    obtain ⟨ns, e1, e2⟩ := e
    cases ns with
    | nil => cases e2
    | cons x ns =>
      cases e2
      obtain ⟨a, vs, rfl, ha, rp⟩ := lk.list l
      have ev := rp.intsOf (asInts_eq e1)
      subst ev
      refine cr_max hc pins s σ H _ us Q I r ⟨a, x :: ns, rfl, .inl (.inl ha), Nat.succ_pos _, fun m hm hx => ?_⟩
      have e3 : m = (x :: ns).foldl max x := Int.le_antisymm ((max_of x ns).2 m hm) (hx _ (max_of x ns).1)
      rw [e3]
      exact q.old l (.int _)
theorem cr_minD (hc : X.calm = true) : CallR X (.builtin "min") (rCS X.K minF) := by
  intro pins s σ H xs us Q I r h
  obtain ⟨F, ds, zb, l, ls, e, q⟩ := h
  match ds, ls, e with
  | [.int i, .int j], .cons lk (.cons lk2 .nil), e => cases e; rw [lk.int, lk2.int] at r; exact call_min2 hc pins s σ H _ us Q I r ⟨i, j, rfl, q.old l (.int _)⟩
  | [.list ds], .cons lk .nil, e =>
    simp only [minF, intsF, Option.bind_eq_some_iff] at e
    obtain ⟨ns, e1, e2⟩ := e
    cases ns with
    | nil => cases e2
    | cons x ns =>
      cases e2
      obtain ⟨a, vs, rfl, ha, rp⟩ := lk.list l
      have ev := rp.intsOf (asInts_eq e1)
      subst ev
      refine cr_min hc pins s σ H _ us Q I r ⟨a, x :: ns, rfl, .inl (.inl ha), Nat.succ_pos _, fun m hm hx => ?_⟩
      have e3 : m = (x :: ns).foldl min x := Int.le_antisymm (hx _ (min_of x ns).1) ((min_of x ns).2 m hm)
      rw [e3]
      exact q.old l (.int _)
def sumF : OpN
  | [.list ds] => (asInts ds).bind fun ns => some (.int ns.sum, false)
  | _ => none
theorem cr_sumD (hc : X.calm = true) : CallR X (.builtin "sum") (rCS X.K sumF) := by
  intro pins s σ H xs us Q I r h
  obtain ⟨F, ds, zb, l, ls, e, q⟩ := h
  match ds, ls, e with
  | [.list ds], .cons lk .nil, e =>
    simp only [sumF, Option.bind_eq_some_iff] at e
    obtain ⟨ns, e1, e2⟩ := e
    cases e2
    obtain ⟨a, vs, rfl, ha, rp⟩ := lk.list l
    have ev := rp.intsOf (asInts_eq e1)
    subst ev
    exact cr_sum hc pins s σ H _ us Q I r ⟨a, ns, rfl, .inl (.inl ha), q.old l (.int _)⟩
def allF : OpN
  | [.list ds] => (asBls ds).bind fun ns => some (.bool (ns.all id), false)
  | _ => none
def anyF : OpN
  | [.list ds] => (asBls ds).bind fun ns => some (.bool (ns.any id), false)
  | _ => none
theorem cr_allD (hc : X.calm = true) : CallR X (.builtin "all") (rCS X.K allF) := by
  intro pins s σ H xs us Q I r h
  obtain ⟨F, ds, zb, l, ls, e, q⟩ := h
  match ds, ls, e with
  | [.list ds], .cons lk .nil, e =>
    simp only [allF, Option.bind_eq_some_iff] at e
    obtain ⟨ns, e1, e2⟩ := e
    cases e2
    obtain ⟨a, vs, rfl, ha, rp⟩ := lk.list l
    have ev := rp.blsOf (asBls_eq e1)
    subst ev
    exact cr_all hc pins s σ H _ us Q I r ⟨a, ns, rfl, .inl (.inl ha), q.old l (.bl _)⟩
theorem cr_anyD (hc : X.calm = true) : CallR X (.builtin "any") (rCS X.K anyF) := by
  intro pins s σ H xs us Q I r h
  obtain ⟨F, ds, zb, l, ls, e, q⟩ := h
  match ds, ls, e with
  | [.list ds], .cons lk .nil, e =>
    simp only [anyF, Option.bind_eq_some_iff] at e
    obtain ⟨ns, e1, e2⟩ := e
    cases e2
    obtain ⟨a, vs, rfl, ha, rp⟩ := lk.list l
    have ev := rp.blsOf (asBls_eq e1)
    subst ev
    exact cr_any hc pins s σ H _ us Q I r ⟨a, ns, rfl, .inl (.inl ha), q.old l (.bl _)⟩
/-! ### tuple, list, dict -/
def tupleF : OpN
  | [.list ds] => some (.tuple ds, false)
  | [.tuple ds] => some (.tuple ds, false)
  | _ => none
theorem cr_tupleD : CallR X (.type "tuple") (rCS X.K tupleF) := by
  intro pins s σ H xs us Q I r h
  obtain ⟨F, ds, zb, l, ls, e, q⟩ := h
  match ds, ls, e with
  | [.list ds], .cons lk .nil, e =>
    cases e
    obtain ⟨a, vs, rfl, ha, rp⟩ := lk.list l
    exact call_tuple_of pins s σ H _ us Q I r ⟨a, vs, rfl, .inl ⟨.inl (.inl ha), q.tup l rp⟩⟩
  | [.tuple ds], .cons lk .nil, e =>
    cases e
    obtain ⟨a, vs, rfl, ha, rp, rp2⟩ := lk.tuple l
    exact call_tuple_of pins s σ H _ us Q I r ⟨a, vs, rfl, .inr ⟨ha, q.old l rp2⟩⟩
def listF : OpN
  | [.list ds] => some (.list ds, true)
  | [.tuple ds] => some (.list ds, true)
  | [.dict es] => some (.list (es.map (·.1)), true)
  | _ => none
theorem cr_listD (hc : X.calm = true) : CallR X (.type "list") (rCS X.K listF) := by
  intro pins s σ H xs us Q I r h
  obtain ⟨F, ds, zb, l, ls, e, q⟩ := h
  match ds, ls, e with
  | [.list ds], .cons lk .nil, e =>
    cases e
    obtain ⟨a, vs, rfl, ha, rp⟩ := lk.list l
    exact call_list_of pins s σ H _ us Q I r ⟨a, vs, rfl, .inl (.inl (.inl ha)), q.lst l rp⟩
  | [.tuple ds], .cons lk .nil, e =>
    cases e
    obtain ⟨a, vs, rfl, ha, rp, rp2⟩ := lk.tuple l
    exact call_list_of pins s σ H _ us Q I r ⟨a, vs, rfl, .inr ha, q.lst l rp⟩
  | [.dict es], .cons lk .nil, e =>
    cases e
    obtain ⟨a, vs, rfl, ha, rp⟩ := lk.dict l
    exact call_listD hc pins s σ H _ us Q I r ⟨a, vs, rfl, ha, q.lst l rp.keys⟩
def dictF : OpN
  | [.dict es] => some (.dict es, true)
  | _ => none
theorem cr_dictD : CallR X (.type "dict") (rCS X.K dictF) := by
  intro pins s σ H xs us Q I r h
  obtain ⟨F, ds, zb, l, ls, e, q⟩ := h
  match ds, ls, e with
  | [.dict es], .cons lk .nil, e =>
    cases e
    obtain ⟨a, vs, rfl, ha, rp⟩ := lk.dict l
    exact call_dictD pins s σ H _ us Q I r ⟨a, vs, rfl, ha, q.dct l rp⟩
/-! ### sorted of a dict with texts as keys -/
def leS (a b : Str) : Bool := decide (a.cps.toList ≤ b.cps.toList)
abbrev sortS (ks : List Str) : List Str := isort leS ks
theorem leS_total : ∀ a b, (leS a b || leS b a) = true := fun a b => by
  unfold leS
  rw [Bool.or_eq_true, decide_eq_true_eq, decide_eq_true_eq]
  exact List.le_total _ _
theorem leS_trans : ∀ a b c, leS a b = true → leS b c = true → leS a c = true := fun a b c h k => by
  unfold leS at *
  rw [decide_eq_true_eq] at *
  exact List.le_trans h k
theorem leS_antisymm : ∀ a b, leS a b = true → leS b a = true → a = b := fun a b h k => by
  unfold leS at *
  rw [decide_eq_true_eq] at *
  exact str_of_cps (List.le_antisymm h k)
theorem sortS_of {ys ks : List Str} (p : ys.Perm ks) (h : ys.Pairwise fun a b => leS a b = true) : ys = sortS ks :=
  (PySem.W.Srt.the_of_perm leS leS_trans leS_total leS_antisymm p h).trans (isort_eq leS leS_trans leS_total ks).symm
theorem ins_map {α β : Type} {le : α → α → Bool} {le2 : β → β → Bool} {f : α → β} (h : ∀ a b, le2 (f a) (f b) = le a b) (x : α) : ∀ l, ins le2 (f x) (l.map f) = (ins le x l).map f
  | [] => rfl
  | y :: t => by
    rw [List.map_cons]
    unfold ins
    rw [h]
    split
    · rfl
    · rw [List.map_cons, ins_map h x t]
theorem isort_map {α β : Type} {le : α → α → Bool} {le2 : β → β → Bool} {f : α → β} (h : ∀ a b, le2 (f a) (f b) = le a b) : ∀ l, isort le2 (l.map f) = (isort le l).map f
  | [] => rfl
  | x :: r => by
    show ins le2 (f x) (isort le2 (r.map f)) = _
    rw [isort_map h r, ins_map h]
    rfl
theorem sortD_str (ks : List Str) : sortD (ks.map PyData.str) = (sortS ks).map PyData.str :=
  isort_map (le := leS) (le2 := dataLe false id) (f := PyData.str) (fun a b => congrFun (congrFun (dataLe_str (β := Str) id) a) b) ks
theorem sortedS_pairwise (ys : List Str) (h : sortedS ys = true) : ys.Pairwise fun a b => leS a b = true := by
  have go : ∀ (r : List Str) (p : Str), risingS p r = true → (p :: r).Pairwise fun a b => leS a b = true := by
    intro r
    induction r with
    | nil => intro p _; exact List.pairwise_singleton _ _
    | cons x r ih =>
      intro p h
      unfold risingS at h
      rw [Bool.and_eq_true] at h
      have t := ih x h.2
      have le : leS p x = true := by
        unfold leS
        rw [decide_eq_true_eq]
        have := h.1
        rw [PyProof.Rows.ltCps_eq] at this
        simpa using this
      refine List.pairwise_cons.mpr ⟨fun y hy => ?_, t⟩
      rcases List.mem_cons.mp hy with e | e
      · subst e; exact le
      · exact leS_trans _ _ _ le ((List.pairwise_cons.mp t).1 y e)
  cases ys with
  | nil => exact .nil
  | cons x r => exact go r x h
theorem sortD_strs {ys ks : List Str} (p : ys.Perm ks) (h : sortedS ys = true) : ys.map PyData.str = sortD (ks.map PyData.str) := by
  rw [sortD_str, ← sortS_of p (sortedS_pairwise ys h)]
def sortedF2 : OpN
  | [.dict es] => (asStrs (es.map (·.1))).bind fun ks => if ks.length < 64 then some (.list (sortD (ks.map PyData.str)), true) else none
  | ds => sortedF ds
theorem cr_sorted2 (hc : X.calm = true) (hu : X.A.units + 100 < cLine) : CallR X (.builtin "sorted") (rCS X.K sortedF2) := by
  intro pins s σ H xs us Q I r h
  obtain ⟨F, ds, zb, l, ls, e, q⟩ := h
  unfold sortedF2 at e
  split at e
  · next es =>
    cases ls with | cons lk ln =>
    cases ln
    simp only [Option.bind_eq_some_iff] at e
    obtain ⟨ks, e1, e2⟩ := e
    split at e2
    · next h64 =>
      cases e2
      obtain ⟨a, vs, rfl, ha, rp⟩ := lk.dict l
      refine call_sortedD hc pins s σ H _ us Q I r ⟨a, vs, ks, rfl, ha, rp.strKeys (asStrs_eq e1), h64, fun ys p h1 h2 hn => ?_⟩
      refine Post.lst l (ds := sortD (ks.map PyData.str)) ?_ q p hn
      rw [← sortD_strs h1 h2]
      exact RpA.ofStrs ys
    · cases e2
  · exact cr_sorted hu pins s σ H xs us Q I r ⟨F, _, zb, l, ls, e, q⟩
end
end Pv
end
section
set_option Elab.async false
set_option linter.all false
set_option maxRecDepth 100000
set_option maxHeartbeats 1000000
/-! PvK: sorted(set(e)), len(set(e)) of texts; isinstance; str. -/
namespace Pv
open PySem PySem.Spec PyProof.Rows L2 PySem.W

/-! ### each text once -/
def hasS (r : List Str) (x : Str) : Bool := r.any fun y => eqS y x
theorem hasS_iff {r : List Str} {x : Str} : hasS r x = true ↔ x ∈ r := by
  unfold hasS
  rw [List.any_eq_true]
  exact ⟨fun ⟨y, h, e⟩ => by rw [← eqS_iff.mp e]; exact h, fun h => ⟨x, h, eqS_iff.mpr rfl⟩⟩
def dedupS : List Str → List Str
  | [] => []
  | x :: r => if hasS r x = true then dedupS r else x :: dedupS r
theorem mem_dedupS {y : Str} : ∀ {xs : List Str}, y ∈ dedupS xs ↔ y ∈ xs
  | [] => Iff.rfl
  | x :: r => by
    unfold dedupS
    split
    · next h =>
      rw [mem_dedupS, List.mem_cons]
      exact ⟨.inr, fun e => e.elim (fun e => by rw [e]; exact hasS_iff.mp h) id⟩
    · rw [List.mem_cons, List.mem_cons, mem_dedupS]
theorem nodup_dedupS : ∀ xs : List Str, (dedupS xs).Nodup
  | [] => List.nodup_nil
  | x :: r => by
    unfold dedupS
    split
    · exact nodup_dedupS r
    · next h => exact List.nodup_cons.mpr ⟨fun k => h (hasS_iff.mpr (mem_dedupS.mp k)), nodup_dedupS r⟩
theorem nodup_perm : ∀ {l m : List Str}, l.Nodup → m.Nodup → (∀ x, x ∈ l ↔ x ∈ m) → l.Perm m
  | [], [], _, _, _ => .nil
  | [], y :: t, _, _, h => by cases (h y).mpr List.mem_cons_self
  | x :: l, m, h1, h2, h => by
    have hx : x ∈ m := (h x).mp List.mem_cons_self
    refine (List.Perm.cons x (nodup_perm (m := m.erase x) (List.nodup_cons.mp h1).2 (h2.erase x) fun y => ?_)).trans (List.perm_cons_erase hx).symm
    by_cases e : y = x
    · subst e
      exact ⟨fun k => absurd k (List.nodup_cons.mp h1).1, fun k => absurd k (List.Nodup.not_mem_erase h2)⟩
    · rw [List.mem_erase_of_ne e, ← h y, List.mem_cons]
      exact ⟨.inr, fun k => k.elim (fun k => absurd k e) id⟩
def uniqS (xs : List Str) : List Str := sortS (dedupS xs)

section
variable {X : Cx}
def phiS (w : World) (a : Addr) (ys : List Str) : Heap → Prop := fun h => ∃ es ep tb, SetS w h a ys es ep tb
def rSetNew (K : Fr') (w : World) : List V → Hp → VK → Prop := fun vs H Q => ∃ (a : Addr) (ys : List Str), vs = [.ref a] ∧ (SqL K H a (ys.map V.str) ∨ SqT K H a (ys.map V.str)) ∧ ys.length + 1 < scanBound ∧ ∀ p, H p = none → Q (.ref p) (upd H p (.ext (phiS w p ys)))
theorem strsAre_of : ∀ {ys : List Str} {us : List Value}, Vals (ys.map V.str) us → StrsAre us ys
  | [], _, .nil => .nil
  | y :: ys, _, .cons r t => by
    obtain ⟨t1, e⟩ := r
    subst e
    exact .cons y t1 (strsAre_of t)
theorem cr_setD (hc : X.calm = true) : CallR X (.type "set") (rSetNew X.K X.w) := by
  intro pins s σ H xs us Q I r h
  obtain ⟨a, ys, rfl, hs, hz, q⟩ := h
  rw [Vals.ref1 r]
  have fin : ∀ h1 tk es ep tb, SetS X.w h1 s.heap.objs.size ys es ep tb → (∀ b o, s.heap.get? b = some o → h1.get? b = some o) → EP X pins σ Q (.ref s.heap.objs.size) { s with heap := h1, toks := tk } := by
    intro h1 tk es ep tb R k
    refine ⟨.ref s.heap.objs.size, _, I.laid (o := .ext (phiS X.w s.heap.objs.size ys)) (t' := tk) k (Nat.le_refl _) ?_, rfl, q _ (I.hok.fresh (Nat.le_refl _))⟩
    obtain ⟨o, ho, _⟩ := R.at_
    exact ⟨⟨es, ep, tb, R⟩, ⟨o, ho⟩, fun g1 g2 ⟨es, ep, tb, R⟩ k => ⟨es, ep, tb, R.keep k⟩⟩
  rcases hs with hs | hs
  · obtain ⟨its, rv, ⟨o, n, ho, hc', _, hd⟩, _⟩ := I.list hs
    exact call_set_list ys (I.ok.hd hc) (items := its.toArray) ⟨o, ho, hc', n, hd⟩ (strsAre_of rv) hz fin
  · obtain ⟨its, rv, ht, _⟩ := I.tuple hs
    exact call_set_tuple ys (I.ok.hd hc) (items := its.toArray) ht (strsAre_of rv) hz fin
def valTxt : Value → Str
  | .str x _ => x
  | _ => Str.empty
theorem txt_val (e : Int × Value) : valTxt e.2 = txt e := rfl
theorem is_strs {K : Fr'} {F : Hp} : ∀ {out : List Value}, (∀ v ∈ out, ∃ x t, v = Value.str x t) → EachIs (Is K F) out ((out.map valTxt).map PyData.str)
  | [], _ => .nil
  | v :: r, h => by
    obtain ⟨x, t, rfl⟩ := h v List.mem_cons_self
    exact .cons ⟨.str x, ⟨t, rfl⟩, .str x⟩ (is_strs fun v hv => h v (List.mem_cons_of_mem _ hv))
theorem reads_strs {h : Heap} : ∀ {out : List Value}, (∀ v ∈ out, ∃ x t, v = Value.str x t) → EachIs (fun v b => ∃ as, Reads h v b as) out ((out.map valTxt).map PyData.str)
  | [], _ => .nil
  | v :: r, h => by
    obtain ⟨x, t, rfl⟩ := h v List.mem_cons_self
    exact .cons ⟨_, .str x t⟩ (reads_strs fun v hv => h v (List.mem_cons_of_mem _ hv))
theorem alikes (ks : List Str) : AllAlike (ks.map PyData.str) := fun d hd e he => by
  obtain ⟨x, _, rfl⟩ := List.mem_map.mp hd
  obtain ⟨y, _, rfl⟩ := List.mem_map.mp he
  rfl
theorem sortables (ks : List Str) : Sortable (ks.map PyData.str) := .inr fun d hd => by
  obtain ⟨x, _, rfl⟩ := List.mem_map.mp hd
  exact ⟨fun z => (by cases z), fun xs z => (by cases z)⟩
def rSortSet (K : Fr') (w : World) : List V → Hp → VK → Prop := fun vs H Q => ∃ (a : Addr) (ys : List Str), vs = [.ref a] ∧ H a = some (.ext (phiS w a ys)) ∧ ∀ p, H p = none → Q (.ref p) (upd H p (.lst ((uniqS ys).map V.str)))
theorem uniq_of {w : World} {h : Heap} {a : Addr} {ys : List Str} {es : Array (Int × Value)} {ep : Nat} {tb : SetTable} (R : SetS w h a ys es ep tb) : (es.toList.map txt).Perm (dedupS ys) :=
  nodup_perm R.once (nodup_dedupS ys) fun x => (R.mem x).symm.trans mem_dedupS.symm
theorem cr_sortSet (hc : X.calm = true) (hu : X.A.units + 100 < cLine) : CallR X (.builtin "sorted") (rSortSet X.K X.w) := by
  intro pins s σ H xs us Q I r h
  obtain ⟨a, ys, rfl, ha, q⟩ := h
  rw [Vals.ref1 r]
  obtain ⟨⟨es, ep, tb, R⟩, _, _⟩ := (show ObjOk X.prog X.w H s.heap a (.ext (phiS X.w a ys)) from I.hok a _ ha)
  have lenB : (es.toList.map txt).length ≤ sizeLine := by
    have := R.few
    rw [List.length_map, Array.length_toList, sizeLine_eq]
    unfold scanBound at this
    omega
  refine sorted_got (R := Is X.K H) (bs := (es.toList.map txt).map PyData.str) (S := fun cs => ∃ ks : List Str, cs = ks.map PyData.str ∧ ks.Perm (es.toList.map txt)) (fun cs ⟨ks, e, p⟩ => by rw [e]; exact p.map _) (fun E1 Q1 k => ?_) (alikes _) (sortableT (sortables _)) (by rw [List.length_map]; exact lenB) (fun b hb => ?_) fun s1 p out cs k kp hp hg ⟨ks, e, pm⟩ each1 => ?_
  · obtain ⟨o, ho, hx, hd⟩ := R.at_
    refine collect_set (show X.A.in1.handled = none from I.ok.hd hc) (es := es) (ep := ep) (t := tb) ⟨o, ho, hx.1, hd⟩ R.fits R.few R.ris R.led fun s' out k1 k2 g o' pm => ?_
    have all : ∀ v ∈ out, ∃ x t, v = Value.str x t := fun v hv => by
      obtain ⟨e, he, rfl⟩ := List.mem_map.mp (pm.mem_iff.mp hv)
      obtain ⟨x, t, h1, _⟩ := R.good e he
      exact ⟨x, t, h1⟩
    refine k s' out _ ⟨k1, g, o'⟩ ⟨out.map valTxt, rfl, ?_⟩ (is_strs all) (reads_strs all)
    have := pm.map valTxt
    rw [List.map_map] at this
    exact this
  · obtain ⟨x, _, rfl⟩ := List.mem_map.mp hb
    show X.A.units + 2 + 0 < cLine
    omega
  · subst e
    obtain ⟨xs1, r1, rp1⟩ := of_is each1
    rw [sortD_str] at rp1
    have e2 : sortS ks = uniqS ys := sortS_of ((isort_perm leS ks).trans (pm.trans (uniq_of R))) (isort_sorted leS leS_trans leS_total ks)
    rw [e2] at rp1
    have e3 := rp1.strsOf rfl
    subst e3
    obtain ⟨J, hn⟩ := new_list I kp hp hg r1 (by
      have := (uniq_of R).length_eq
      rw [List.length_map, uniqS, isort_len, ← this]
      exact lenB)
    exact ⟨.ref p, _, J, rfl, q p hn⟩
def rLenSet (w : World) : List V → Hp → VK → Prop := fun vs H Q => ∃ (a : Addr) (ys : List Str), vs = [.ref a] ∧ H a = some (.ext (phiS w a ys)) ∧ Q (.int (dedupS ys).length) H
theorem cr_lenSet : CallR X (.builtin "len") (rLenSet X.w) := by
  intro pins s σ H xs us Q I r h
  obtain ⟨a, ys, rfl, ha, q⟩ := h
  rw [Vals.ref1 r]
  obtain ⟨⟨es, ep, tb, R⟩, _, _⟩ := (show ObjOk X.prog X.w H s.heap a (.ext (phiS X.w a ys)) from I.hok a _ ha)
  obtain ⟨o, ho, hx, hd⟩ := R.at_
  have e := (uniq_of R).length_eq
  rw [List.length_map, Array.length_toList] at e
  rw [← e] at q
  refine call_len_set ho hx hd R.fits (by have := R.few; unfold scanBound at this; omega) ⟨.int es.size, H, I.tok _, ⟨_, rfl⟩, q⟩
def strsOf : D → Option (List Str)
  | .list ds => asStrs ds
  | .tuple ds => asStrs ds
  | _ => none
def sOfSet (g : List Str → Rv) (f : SemE) : SemE := fun ρ => (f ρ).bind fun (r, ρ1) => (look ρ1 (settle r)).bind fun d => (strsOf d).bind fun ys => if ys.length + 1 < scanBound then some (g ys, ρ1) else none
abbrev sSortSet : SemE → SemE := sOfSet fun ys => .fr (.list ((uniqS ys).map PyData.str))
abbrev sLenSet : SemE → SemE := sOfSet fun ys => .val (.int (dedupS ys).length)
theorem strsOf_at {K : Fr'} {F H : Hp} {v : V} {d : D} {ys : List Str} (l : Le F H) (lk : Lk K F H v d) (e : strsOf d = some ys) : ∃ a, v = .ref a ∧ (SqL K H a (ys.map V.str) ∨ SqT K H a (ys.map V.str)) := by
  cases d with
  | list ds =>
    obtain ⟨a, vs, rfl, ha, rp⟩ := lk.list l
    rw [rp.strsOf (asStrs_eq e)] at ha
    exact ⟨a, rfl, .inl (.inl (.inl ha))⟩
  | tuple ds =>
    obtain ⟨a, vs, rfl, ha, rp, _⟩ := lk.tuple l
    rw [rp.strsOf (asStrs_eq e)] at ha
    exact ⟨a, rfl, .inr ha⟩
  | _ => cases e
theorem de_sortSet {e : Expr} {f : SemE} {p p2 pos pos2 : Pos} (hc : X.calm = true) (hu : X.A.units + 100 < cLine) (hg : Gl X "sorted") (hm : X.mg "sorted" = none) (hg2 : Gl X "set") (hm2 : X.mg "set" = none) (he : DE X e f)
    (hs : starEach [e] X.env = (false, eval e X.env) :: starEach [] X.env := by rfl) (hpl : (backTo pos2 (starEach [] X.env)).any (·.1) = false := by rfl)
    (hs2 : starEach [.Call (.Name "set" p2) [e] [] pos2] X.env = (false, eval (.Call (.Name "set" p2) [e] [] pos2) X.env) :: starEach [] X.env := by rfl) (hpl2 : (backTo pos (starEach [] X.env)).any (·.1) = false := by rfl) :
    DE X (.Call (.Name "sorted" p) [.Call (.Name "set" p2) [e] [] pos2] [] pos) (sSortSet f) := by
  have hi := pe_callTy (pos := pos2) (p := p2) (cr_setD (X := X) hc) hg2 hm2 rfl (pa_cons he.pe pa_nil hs) (by decide) (by decide) hs hpl
  refine ⟨(pe_callB (pos := pos) (p := p) (cr_sortSet hc hu) hg hm rfl (pa_cons hi pa_nil hs2) (by decide) (by decide) hs2 hpl2).pvi fun σ H Q q => ?_⟩
  obtain ⟨P, W, F, ρ, r, ρ', R, ev, q⟩ := q
  simp only [sSortSet, sOfSet, Option.bind_eq_some_iff, Prod.exists] at ev
  obtain ⟨r1, ρ1, e1, d, e2, ys, e3, e4⟩ := ev
  split at e4
  · next hz =>
    cases e4
    refine ⟨P, W, F, ρ, r1, _, R, e1, fun v H1 F1 x1 R1 o1 => ?_⟩
    obtain ⟨F2, x2, R2, o2⟩ := R1.settle o1
    obtain ⟨a, rfl, hs'⟩ := strsOf_at R2.fh (R2.lk o2 e2) e3
    refine ⟨a, ys, rfl, hs', hz, fun p hp => ?_⟩
    refine ⟨p, ys, rfl, upd_same, fun p2 hp2 => ?_⟩
    have g1 := Grow.heap R2.fh hp (.ext (phiS X.w p ys))
    have R3 := R2.grow g1
    have g2 := Grow.heap R3.fh hp2 (.lst ((uniqS ys).map V.str))
    have hpost : Post X.K F2 (upd H1 p (.ext (phiS X.w p ys))) Q (.list ((uniqS ys).map PyData.str), true) :=
      post_of R3 fun v H' F' x5 R5 o => q v H' F' (((x1.trans x2)).trans x5) R5 o
    exact hpost.lst R3.fh (RpA.ofStrs _) p2 hp2
  · cases e4
theorem de_lenSet {e : Expr} {f : SemE} {p p2 pos pos2 : Pos} (hc : X.calm = true) (hg : Gl X "len") (hm : X.mg "len" = none) (hg2 : Gl X "set") (hm2 : X.mg "set" = none) (he : DE X e f)
    (hs : starEach [e] X.env = (false, eval e X.env) :: starEach [] X.env := by rfl) (hpl : (backTo pos2 (starEach [] X.env)).any (·.1) = false := by rfl)
    (hs2 : starEach [.Call (.Name "set" p2) [e] [] pos2] X.env = (false, eval (.Call (.Name "set" p2) [e] [] pos2) X.env) :: starEach [] X.env := by rfl) (hpl2 : (backTo pos (starEach [] X.env)).any (·.1) = false := by rfl) :
    DE X (.Call (.Name "len" p) [.Call (.Name "set" p2) [e] [] pos2] [] pos) (sLenSet f) := by
  have hi := pe_callTy (pos := pos2) (p := p2) (cr_setD (X := X) hc) hg2 hm2 rfl (pa_cons he.pe pa_nil hs) (by decide) (by decide) hs hpl
  refine ⟨(pe_callB (pos := pos) (p := p) cr_lenSet hg hm rfl (pa_cons hi pa_nil hs2) (by decide) (by decide) hs2 hpl2).pvi fun σ H Q q => ?_⟩
  obtain ⟨P, W, F, ρ, r, ρ', R, ev, q⟩ := q
  simp only [sLenSet, sOfSet, Option.bind_eq_some_iff, Prod.exists] at ev
  obtain ⟨r1, ρ1, e1, d, e2, ys, e3, e4⟩ := ev
  split at e4
  · next hz =>
    cases e4
    refine ⟨P, W, F, ρ, r1, _, R, e1, fun v H1 F1 x1 R1 o1 => ?_⟩
    obtain ⟨F2, x2, R2, o2⟩ := R1.settle o1
    obtain ⟨a, rfl, hs'⟩ := strsOf_at R2.fh (R2.lk o2 e2) e3
    refine ⟨a, ys, rfl, hs', hz, fun p hp => ?_⟩
    refine ⟨p, ys, rfl, upd_same, ?_⟩
    have g1 := Grow.heap R2.fh hp (.ext (phiS X.w p ys))
    have R3 := R2.grow g1
    exact q _ _ F2 (x1.trans x2) R3 (.int _)
  · cases e4

/-! ### isinstance -/
def tyName : D → String
  | .none => "NoneType"
  | .bool _ => "bool"
  | .int _ => "int"
  | .str _ => "str"
  | .list _ => "list"
  | .tuple _ => "tuple"
  | .dict _ => "dict"
def isiD (T : String) (d : D) : Bool := tyName d == T || (T == "int" && tyName d == "bool")
def tyNames : List String := ["bool", "int", "str", "list", "tuple", "dict"]
theorem kitB_all : (("NoneType" :: tyNames).all fun a => tyNames.all fun T => L2.kitB a T == some (a == T || (T == "int" && a == "bool"))) = true := by decide +kernel
theorem kitB_isi {T : String} (h : tyNames.contains T = true) (d : D) : L2.kitB (tyName d) T = some (isiD T d) := by
  have h1 := List.all_eq_true.mp kitB_all (tyName d) (by cases d <;> simp [tyName, tyNames])
  have h2 := List.all_eq_true.mp h1 T (by simpa using h)
  exact eq_of_beq h2
theorem tyX_of {F H : Hp} {K : Fr'} {v : V} {d : D} (l : Le F H) (lk : Lk K F H v d) : L2.TyX K H v (.type (tyName d)) := by
  cases d with
  | none => rw [lk.none]; exact .base .non
  | bool b => rw [lk.bool]; exact .base (.bl b)
  | int i => rw [lk.int]; exact .base (.int i)
  | str i => rw [lk.str]; exact .base (.str i)
  | list ds => obtain ⟨a, xs, rfl, ha, _⟩ := lk.list l; exact .base (.lst ha)
  | tuple ds =>
    obtain ⟨a, xs, rfl, ha, _⟩ := lk.tuple l
    rcases ha with (ha | ⟨o, ha⟩) | ⟨o, its, n, h1, h2, _⟩
    · exact .base (.tup ha)
    · exact .fTuple ha
    · exact .kTuple h1 h2
  | dict es =>
    obtain ⟨a, xs, rfl, ha, _⟩ := lk.dict l
    rcases ha with ha | ⟨o, ha⟩
    · exact .base (.dK ha)
    · exact .fDict ha
def sIsi (T : String) (f : SemE) : SemE := fun ρ => (f ρ).bind fun (r, ρ1) => (look ρ1 (settle r)).bind fun d => some (.val (.bool (isiD T d)), ρ1)
theorem de_isi {e : Expr} {T : Str} {U : String} {f : SemE} {p p2 pos : Pos} (hg : Gl X "isinstance") (hm : X.mg "isinstance" = none) (hg2 : Gl X T) (hm2 : X.mg T = none) (hb : bootBuiltins T = some (.type U)) (hU : tyNames.contains U = true) (he : DE X e f)
    (hs : starEach [e, .Name T p2] X.env = (false, eval e X.env) :: starEach [.Name T p2] X.env := by rfl) (hpl : (backTo pos (starEach [.Name T p2] X.env)).any (·.1) = false := by rfl) (hn : T ≠ "__name__" := by decide) (hd : (T == ("__debug__" : Str)) = false := by decide)
    (hs2 : starEach [.Name T p2] X.env = (false, eval (.Name T p2) X.env) :: starEach [] X.env := by rfl) :
    DE X (.Call (.Name "isinstance" p) [e, .Name T p2] [] pos) (sIsi U f) := by
  refine ⟨(pe_callB (pos := pos) (p := p) L2.call_isi hg hm rfl (pa_cons he.pe (pa_cons (pe_bltn (v := .ty U) hg2 hm2 hb rfl hn hd) pa_nil hs2) hs) (by decide) (by decide) hs hpl).pvi fun σ H Q q => ?_⟩
  obtain ⟨P, W, F, ρ, r, ρ', R, ev, q⟩ := q
  simp only [sIsi, Option.bind_eq_some_iff, Prod.exists] at ev
  obtain ⟨r1, ρ1, e1, d, e2, e4⟩ := ev
  cases e4
  refine ⟨P, W, F, ρ, r1, _, R, e1, fun v H1 F1 x1 R1 o1 => ?_⟩
  obtain ⟨F2, x2, R2, o2⟩ := R1.settle o1
  exact ⟨v, .ty U, .type (tyName d), .type U, isiD U d, rfl, .ty U, tyX_of R2.fh (R2.lk o2 e2), L2.kit_ty (kitB_isi hU d), q _ H1 F2 (x1.trans x2) R2 (.bl _)⟩

/-! ### str -/
theorem rp_readsD {pins : List (Addr × Obj)} {σ : St} {s : Shared} {H : Hp} (I : Inv X pins σ H s) {a : Addr} {kvs : List (Key × V)} (ha : Rd H a (.dK kvs)) (hk : kvs = []) : ∃ as, Reads s.heap (.ref a) (.dict []) as ∧ sysModules ∉ as := by
  obtain ⟨z, hm, vs, rel, o, es, ep, ho, hx, hd, _, pr, _⟩ := dk_rd I.hok ha
  subst hk
  cases rel
  have e : es.toList = [] := by cases h : es.toList with
    | nil => rfl
    | cons x r => rw [h] at pr; cases pr
  refine ⟨_, .dict (kvs := []) (as := []) (bs := []) ho hx.1 hd (by rw [e]; exact .nil) (by rw [e]; exact .nil), fun h => ?_⟩
  simp only [List.append_nil, List.mem_singleton] at h
  rw [h] at hm
  simp at hm
def showOk (d : D) : Bool := (plain d || (match d with | .dict [] => true | _ => false)) && d.showable && decide (d.shown.length ≤ sizeLine) && decide (d.depth ≤ 64)
def strVal : D → Str
  | .str x => x
  | d => d.shown
def strF : OpN
  | [d] => if showOk d = true then some (.str (strVal d), false) else none
  | _ => none
theorem plain_noDict : ∀ d : D, plain d = true → d.hasDict = false
  | .none, _ => rfl
  | .bool _, _ => rfl
  | .int _, _ => rfl
  | .str _, _ => rfl
  | .list xs, h => by simp only [PyData.hasDict]; exact go xs (by simpa [plain] using h)
  | .tuple xs, h => by simp only [PyData.hasDict]; exact go xs (by simpa [plain] using h)
  | .dict _, h => by simp [plain] at h
where go : ∀ ds : List D, plainA ds = true → PyData.hasDictAll ds = false
  | [], _ => rfl
  | d :: ds, h => by
    simp only [plainA, Bool.and_eq_true] at h
    simp only [PyData.hasDictAll, Bool.or_eq_false_iff]
    exact ⟨plain_noDict d h.1, go ds h.2⟩
theorem cr_strD (gd : X.A.guards = some []) (hu : X.A.units + 100 < cLine) : CallR X (.type "str") (rCS X.K strF) := by
  intro pins s σ H xs us Q I r h
  obtain ⟨F, ds, zb, l, ls, e, q⟩ := h
  cases ls with
  | nil => cases e
  | @cons x d xs ds lk ln =>
  cases ln with
  | cons _ _ => cases e
  | nil =>
  simp only [strF] at e
  split at e
  · next ok =>
    cases e
    unfold showOk at ok
    simp only [Bool.and_eq_true, decide_eq_true_eq, Bool.or_eq_true] at ok
    obtain ⟨⟨⟨pl, sh⟩, len⟩, dep⟩ := ok
    have main : ∀ (d : D) (a : Addr) (as : List Addr), x = .ref a → Reads s.heap (.ref a) d as → d.showable = true → (d.hasDict = true → sysModules ∉ as) → d.shown.length ≤ sizeLine → d.depth ≤ 64 → Post X.K F H Q (.str d.shown, false) →
        wpAny (model X.prog X.w) X.A (call (.type "str") us) (EP X pins σ Q) X.xe s := by
      intro d a as e rd sh hd len dep q
      subst e
      rw [Vals.ref1 r]
      exact str_of_reads rd sh hd gd (by omega) (fun _ _ e => e) (fun h' u tk k => ⟨.str d.shown, H, I.kept k, ⟨u, rfl⟩, q.old l (.str _)⟩) len
    cases d with
    | none =>
      rw [lk.none] at r
      obtain ⟨u, rfl, r1⟩ := vals1 r
      cases r1
      exact PySem.P.str_of_none ⟨.str "None", H, I.tok _, ⟨_, rfl⟩, by have := q.old l (.str _); simpa [strVal, PyData.shown] using this⟩
    | bool b =>
      rw [lk.bool] at r
      obtain ⟨u, rfl, r1⟩ := vals1 r
      cases r1
      exact PySem.P.str_of_bool ⟨.str (if b then "True" else "False"), H, I.tok _, ⟨_, rfl⟩, by have := q.old l (.str _); simpa [strVal, PyData.shown] using this⟩
    | int i =>
      rw [lk.int] at r
      exact call_str_int pins s σ H _ us Q I r ⟨i, rfl, by simpa [PyData.showable] using sh, by have := q.old l (.str _); simpa [strVal, PyData.shown] using this⟩
    | str x =>
      rw [lk.str] at r
      exact SkE.call_str_str pins s σ H _ us Q I r ⟨x, rfl, q.old l (.str _)⟩
    | list ds =>
      obtain ⟨a, vs, rfl, _, _⟩ := lk.list l
      have hp : plain (.list ds) = true := by simpa using pl
      obtain ⟨as, rd⟩ := Dp.reads I _ _ (.ref a) ((lk.rp l).dp hp) rfl
      exact main _ a as rfl rd sh (fun z => by rw [plain_noDict _ hp] at z; cases z) len dep q
    | tuple ds =>
      obtain ⟨a, vs, rfl, _, _⟩ := lk.tuple l
      have hp : plain (.tuple ds) = true := by simpa using pl
      obtain ⟨as, rd⟩ := Dp.reads I _ _ (.ref a) ((lk.rp l).dp hp) rfl
      exact main _ a as rfl rd sh (fun z => by rw [plain_noDict _ hp] at z; cases z) len dep q
    | dict es =>
      obtain ⟨a, vs, rfl, ha, rp⟩ := lk.dict l
      cases es with
      | cons _ _ => simp [plain] at pl
      | nil =>
        cases rp
        obtain ⟨as, rd, hs⟩ := rp_readsD I ha rfl
        exact main _ a as rfl rd sh (fun _ => hs) len dep q
  · cases e
end
end Pv
end
section
set_option Elab.async false
set_option linter.all false
set_option maxRecDepth 100000
set_option maxHeartbeats 1000000
/-! PvL: one's own lists and dicts are changed. -/
namespace Pv
open PySem PySem.Spec PyProof.Rows L2 PySem.W

def Cell.put : Cell → D → Cell
  | .own _, d => .own d
  | .byr _, d => .byr d
  | c, _ => c
section
variable {K : Fr'} {P : List (Nat × Addr)} {W F H : Hp} {σ : St} {ρ : Ro}
theorem Rel.upd_ {i : Nat} {c : Cell} {a : Addr} {u : HO} {d : D} (R : Rel K P W F H σ ρ) (hc : ρ[i]? = some (some c)) (ho : c.owned = true) (hv : σ[i]? = some (some (.ref a))) (q : OwnO K F (some u) d) :
    Rel K P W F (upd H a u) σ (ρ.set i (some (c.put d))) := by
  have own : ∀ (j : Nat) (e : Cell) (v : V), ρ[j]? = some (some e) → e.owned = true → σ[j]? = some (some v) → ∃ b, v = .ref b ∧ W b = Option.none ∧ F b = Option.none ∧ OwnO K F (H b) e.d := by
    intro j e v he ho hv
    obtain ⟨w, hw, hk⟩ := R.cell j e he
    rw [hv] at hw
    cases hw
    cases e with
    | val _ => cases ho
    | scr _ => cases ho
    | own d => exact hk
    | byr d => exact hk
  obtain ⟨b, eb, wa, fa, _⟩ := own i c _ hc ho hv
  cases eb
  have ilt : i < ρ.length := by
    rcases Nat.lt_or_ge i ρ.length with h | h
    · exact h
    · rw [List.getElem?_eq_none h] at hc; cases hc
  constructor
  · intro b o e
    rw [upd_ne (ne_of_none e fa)]
    exact R.fh b o e
  · intro b o e
    rw [upd_ne (ne_of_none e wa)]
    exact R.wh b o e
  · rw [List.length_set]; exact R.len
  · intro j e he
    rcases set_get he with ⟨rfl, z⟩ | ⟨hj, z⟩
    · cases z
      refine ⟨_, hv, ?_⟩
      cases c with
      | val _ => cases ho
      | scr _ => cases ho
      | own _ => exact ⟨a, rfl, wa, fa, by rw [upd_same]; exact q⟩
      | byr _ => exact ⟨a, rfl, wa, fa, by rw [upd_same]; exact q⟩
    · obtain ⟨w, hw, hk⟩ := R.cell j e z
      refine ⟨w, hw, ?_⟩
      cases e with
      | val _ => exact hk
      | scr _ => exact hk
      | own d' =>
        obtain ⟨b, eb, h1, h2, h3⟩ := hk
        subst eb
        have ne : b ≠ a := fun y => R.inj i j c _ a (fun y => hj y.symm) hc z ho rfl hv (by rw [hw, y])
        exact ⟨b, rfl, h1, h2, by rw [upd_ne ne]; exact h3⟩
      | byr d' =>
        obtain ⟨b, eb, h1, h2, h3⟩ := hk
        subst eb
        have ne : b ≠ a := fun y => R.inj i j c _ a (fun y => hj y.symm) hc z ho rfl hv (by rw [hw, y])
        exact ⟨b, rfl, h1, h2, by rw [upd_ne ne]; exact h3⟩
  · intro j k e e' b hjk h1 h2 o1 o2 s1 s2
    have back : ∀ (j : Nat) (e : Cell), (ρ.set i (some (c.put d)))[j]? = some (some e) → e.owned = true → ∃ e', ρ[j]? = some (some e') ∧ e'.owned = true := by
      intro j e he ho'
      rcases set_get he with ⟨rfl, z⟩ | ⟨_, z⟩
      · exact ⟨c, hc, ho⟩
      · exact ⟨e, z, ho'⟩
    obtain ⟨c1, h1, o1⟩ := back j e h1 o1
    obtain ⟨c2, h2, o2⟩ := back k e' h2 o2
    exact R.inj j k c1 c2 b hjk h1 h2 o1 o2 s1 s2
  · intro p hp
    obtain ⟨h1, d', h2⟩ := R.pin p hp
    refine ⟨h1, ?_⟩
    by_cases e : p.1 = i
    · rw [e] at h2
      rw [hc] at h2
      cases h2
      exact ⟨d, by rw [e, List.getElem?_set_self ilt]; rfl⟩
    · exact ⟨d', by rw [List.getElem?_set_ne (fun z => e z.symm)]; exact h2⟩
  · exact R.dis
end

/-- what one's own slot holds -/
def ownAt (ρ : Ro) (i : Nat) : Option D := match ρ[i]? with
  | some (some (.own d)) => some d
  | some (some (.byr d)) => some d
  | _ => none
def putAt (ρ : Ro) (i : Nat) (d : D) : Ro := match ρ[i]? with
  | some (some c) => ρ.set i (some (c.put d))
  | _ => ρ
theorem ownAt_cell {ρ : Ro} {i : Nat} {d : D} (h : ownAt ρ i = some d) : ∃ c, ρ[i]? = some (some c) ∧ c.owned = true ∧ c.d = d := by
  unfold ownAt at h
  split at h
  · next z e => cases h; exact ⟨_, e, rfl, rfl⟩
  · next z e => cases h; exact ⟨_, e, rfl, rfl⟩
  · cases h
theorem Rel.own {K : Fr'} {P : List (Nat × Addr)} {W F H : Hp} {σ : St} {ρ : Ro} {i : Nat} {d : D} (R : Rel K P W F H σ ρ) (h : ownAt ρ i = some d) : ∃ a, σ[i]? = some (some (.ref a)) ∧ F a = Option.none ∧ OwnO K F (H a) d := by
  obtain ⟨c, hc, ho, hd⟩ := ownAt_cell h
  obtain ⟨v, hv, hk⟩ := R.cell i c hc
  cases c with
  | val _ => cases ho
  | scr _ => cases ho
  | own _ => cases hd; obtain ⟨a, rfl, _, h2, h3⟩ := hk; exact ⟨a, hv, h2, h3⟩
  | byr _ => cases hd; obtain ⟨a, rfl, _, h2, h3⟩ := hk; exact ⟨a, hv, h2, h3⟩
theorem Rel.putAt {K : Fr'} {P : List (Nat × Addr)} {W F H : Hp} {σ : St} {ρ : Ro} {i : Nat} {d d' : D} {a : Addr} {u : HO} (R : Rel K P W F H σ ρ) (h : ownAt ρ i = some d) (hv : σ[i]? = some (some (.ref a))) (q : OwnO K F (some u) d') : Rel K P W F (L2.upd H a u) σ (Pv.putAt ρ i d') := by
  obtain ⟨c, hc, ho, hd⟩ := ownAt_cell h
  unfold Pv.putAt
  rw [hc]
  exact R.upd_ hc ho hv q
abbrev OpM := D → List D → Option (D × D)
def rM (K : Fr') (o : OpM) : V → List V → Hp → VK → Prop := fun x vs H Q => ∃ F a d ds d' z, x = .ref a ∧ Le F H ∧ F a = none ∧ OwnO K F (H a) d ∧ RpA K F vs ds ∧ o d ds = some (d', z) ∧ ∀ v u, OwnO K F (some u) d' → Rp K F v z → Q v (upd H a u)
def kindB : String → D → Bool
  | "list", .list _ => true
  | "dict", .dict _ => true
  | _, _ => false
theorem OwnO.lstE {K : Fr'} {F : Hp} {o : Option HO} {ds : List D} (q : OwnO K F o (.list ds)) : ∃ xs, o = some (.lst xs) ∧ RpA K F xs ds := by
  unfold OwnO at q
  split at q
  · next xs _ e => cases e; exact ⟨xs, rfl, q⟩
  · next z => cases z
  · exact q.elim
theorem OwnO.dctE {K : Fr'} {F : Hp} {o : Option HO} {es : List (D × D)} (q : OwnO K F o (.dict es)) : ∃ kvs, o = some (.dK kvs) ∧ RpD K F kvs es := by
  unfold OwnO at q
  split at q
  · next z => cases z
  · next kvs _ e => cases e; exact ⟨kvs, rfl, q⟩
  · exact q.elim
theorem kindB_ty {K : Fr'} {F H : Hp} {a : Addr} {d : D} {T : String} (q : OwnO K F (H a) d) (h : kindB T d = true) : tyV K T (.ref a) H := by
  unfold kindB at h
  split at h
  · next ds =>
    obtain ⟨xs, e, _⟩ := q.lstE
    exact .inl ⟨rfl, xs, .inl (.inl e)⟩
  · next ds =>
    obtain ⟨kvs, e, _⟩ := q.dctE
    exact .inr (.inr (.inl ⟨rfl, .inl ⟨kvs, e⟩⟩))
  · cases h
def sMut (T : String) (i : Nat) (o : OpM) (f : SemA) : SemE := fun ρ => (ownAt ρ i).bind fun d0 => if kindB T d0 = true then (f ρ).bind fun (ds, ρ1) => (ownAt ρ1 i).bind fun d => (o d ds).bind fun (d', z) => some (.val z, putAt ρ1 i d') else none
section
variable {X : Cx} {e : Expr} {es : List Expr} {name x : Str} {apos cpos pos npos : Pos} {T id : String} {i : Nat} {o : OpM} {f : SemA}
theorem sMut_end {P : List (Nat × Addr)} {W F H : Hp} {σ : St} {ρ1 : Ro} {d d' z : D} {ds : List D} {vs : List V} {a : Addr} {Q : VK} (R : Rel X.K P W F H σ ρ1) (h : ownAt ρ1 i = some d) (hv : σ[i]? = some (some (.ref a))) (rp : RpA X.K F vs ds) (e : o d ds = some (d', z))
    (q : ∀ v H' F', Ext W F F' → Rel X.K P W F' H' σ (putAt ρ1 i d') → RvOk X.K W F' H' σ (putAt ρ1 i d') (.val z) v → Q v H') : rM X.K o (.ref a) vs H Q := by
  obtain ⟨a', hv', fa, own⟩ := R.own h
  rw [hv] at hv'
  cases hv'
  exact ⟨F, a, d, ds, d', z, rfl, R.fh, fa, own, rp, e, fun v u q1 q2 => q v _ F (Ext.refl _ _) (R.putAt h hv q1) q2⟩
theorem de_mut (pa : PlainAttrs T) (slot : Slot T name id) (hty : typeOf (.builtin id) = pure (.type "method_descriptor")) (hm : MtR X id (rM X.K o)) (hx : PE X (.Name x npos) (tVar i)) (ha : DA X (e :: es) f)
    (hbase : attributeBase (.Name x npos) name X.env (eval (.Name x npos) X.env) = eval (.Name x npos) X.env := by rfl)
    (hfew : ((backTo cpos (starEach (e :: es) X.env)).all (fun x => !x.1) && (backToKw cpos (keywordEach [] X.env)).all (fun x => x.1.isSome)
      && decide ((e :: es).length + ([] : List Keyword).length + (if ([] : List Keyword).isEmpty then 0 else 1) < 30)) = true := by rfl)
    (hline : (apos.endLine == cpos.line) = true := by rfl) (hs : starEach (e :: es) X.env = (false, eval e X.env) :: starEach es X.env := by rfl) (hplain : (backTo cpos (starEach es X.env)).any (·.1) = false := by rfl) :
    DE X (.Call (.Attribute (.Name x npos) name apos) (e :: es) [] cpos) (sMut T i o f) := by
  refine ⟨(pe_bm (apos := apos) (cpos := cpos) pa slot hty hm hx ha.pa hbase hfew hline hs hplain).pvi fun σ H Q q => ?_⟩
  obtain ⟨P, W, F, ρ, r, ρ', R, ev, q⟩ := q
  simp only [sMut, Option.bind_eq_some_iff, Prod.exists] at ev
  obtain ⟨d0, e0, e1⟩ := ev
  split at e1
  · next hk =>
    simp only [Option.bind_eq_some_iff, Prod.exists] at e1
    obtain ⟨ds, ρ1, e2, d, e3, d', z, e4, e5⟩ := e1
    cases e5
    obtain ⟨a, hv, fa, own⟩ := R.own e0
    refine ⟨_, hv, kindB_ty own hk, P, W, F, ρ, ds, ρ1, R, e2, fun vs H1 F1 x1 R1 rp => ?_⟩
    exact sMut_end R1 e3 hv rp e4 fun v H' F' x2 R2 o2 => q v H' F' (x1.trans x2) R2 o2
  · cases e1
theorem de_mut0 (pa : PlainAttrs T) (slot : Slot T name id) (hty : typeOf (.builtin id) = pure (.type "method_descriptor")) (hm : MtR X id (rM X.K o)) (hx : PE X (.Name x npos) (tVar i))
    (hbase : attributeBase (.Name x npos) name X.env (eval (.Name x npos) X.env) = eval (.Name x npos) X.env := by rfl) (hline : (apos.endLine == cpos.line) = true := by rfl) :
    DE X (.Call (.Attribute (.Name x npos) name apos) [] [] cpos) (sMut T i o sNil) := by
  refine ⟨(pe_bm0 (apos := apos) (cpos := cpos) pa slot hty hm hx hbase hline).pvi fun σ H Q q => ?_⟩
  obtain ⟨P, W, F, ρ, r, ρ', R, ev, q⟩ := q
  simp only [sMut, Option.bind_eq_some_iff, Prod.exists] at ev
  obtain ⟨d0, e0, e1⟩ := ev
  split at e1
  · next hk =>
    simp only [Option.bind_eq_some_iff, Prod.exists] at e1
    obtain ⟨ds, ρ1, e2, d, e3, d', z, e4, e5⟩ := e1
    cases e2
    cases e5
    obtain ⟨a, hv, fa, own⟩ := R.own e0
    exact ⟨_, hv, kindB_ty own hk, sMut_end R e3 hv .nil e4 q⟩
  · cases e1

/-! ### methods of lists -/
def appendM : OpM
  | .list ds, [d] => if ds.length < sizeLine then some (.list (ds ++ [d]), .none) else none
  | _, _ => none
theorem mt_appendD : MtR X "list.append" (rM X.K appendM) := by
  intro pins s σ H x xs v us Q I rx rs h
  obtain ⟨F, a, d, ds, d', z, rfl, l, fa, q1, rp, e, q⟩ := h
  unfold appendM at e
  split at e
  · split at e
    · next hz =>
      cases e
      obtain ⟨ys, hH, ry⟩ := q1.lstE
      cases rp with | cons r0 rn =>
      cases rn
      exact mt_append pins s σ H _ _ v us Q I rx rs ⟨a, ys, _, rfl, rfl, hH, by rw [ry.length]; exact hz, q _ _ (ry.append (.cons r0 .nil)) .non⟩
    · cases e
  · cases e
theorem RpA.eraseIdx {K : Fr'} {F : Hp} : ∀ {vs : List V} {ds : List D} (i : Nat), RpA K F vs ds → RpA K F (vs.eraseIdx i) (ds.eraseIdx i)
  | _, _, _, .nil => .nil
  | _, _, 0, .cons _ t => t
  | _, _, i + 1, .cons r t => .cons r (RpA.eraseIdx i t)
theorem RpA.dropLast {K : Fr'} {F : Hp} : ∀ {vs : List V} {ds : List D}, RpA K F vs ds → RpA K F vs.dropLast ds.dropLast
  | _, _, .nil => .nil
  | _, _, .cons r .nil => .nil
  | _, _, .cons r (.cons r2 t) => .cons r (RpA.dropLast (.cons r2 t))
def popM : OpM
  | .list ds, [] => (ds[ds.length - 1]?).map fun z => (.list ds.dropLast, z)
  | .list ds, [.int i] => if -(2 ^ 63) ≤ i ∧ i < 2 ^ 63 then (seqIndex? i ds.length).bind fun k => (ds[k]?).map fun z => (.list (ds.eraseIdx k), z) else none
  | _, _ => none
theorem mt_popD : MtR X "list.pop" (rM X.K popM) := by
  intro pins s σ H x xs v us Q I rx rs h
  obtain ⟨F, a, d, ds, d', z, rfl, l, fa, q1, rp, e, q⟩ := h
  unfold popM at e
  split at e
  · simp only [Option.map_eq_some_iff] at e
    obtain ⟨z0, e1, e2⟩ := e
    cases e2
    obtain ⟨ys, hH, ry⟩ := q1.lstE
    cases rp
    obtain ⟨y, hy, rz⟩ := ry.get _ _ e1
    exact mt_pop pins s σ H _ _ v us Q I rx rs ⟨a, ys, y, rfl, rfl, hH, by rw [ry.length]; exact hy, q _ _ ry.dropLast rz⟩
  · split at e
    · next hi =>
      simp only [Option.bind_eq_some_iff, Option.map_eq_some_iff] at e
      obtain ⟨k, e0, z0, e1, e2⟩ := e
      cases e2
      obtain ⟨ys, hH, ry⟩ := q1.lstE
      cases rp with | cons r0 rn =>
      cases rn
      cases r0
      obtain ⟨y, hy, rz⟩ := ry.get _ _ e1
      exact mt_popAt pins s σ H _ _ v us Q I rx rs ⟨a, ys, _, k, y, rfl, rfl, hH, hi.1, hi.2, by rw [ry.length]; exact e0, hy, q _ _ (ry.eraseIdx k) rz⟩
    · cases e
  · cases e
def clearM : OpM
  | .list ds, [] => some (.list [], .none)
  | _, _ => none
theorem mt_clearD : MtR X "list.clear" (rM X.K clearM) := by
  intro pins s σ H x xs v us Q I rx rs h
  obtain ⟨F, a, d, ds, d', z, rfl, l, fa, q1, rp, e, q⟩ := h
  unfold clearM at e
  split at e
  · cases e
    obtain ⟨ys, hH, ry⟩ := q1.lstE
    cases rp
    exact mt_clear pins s σ H _ _ v us Q I rx rs ⟨a, ys, rfl, rfl, hH, q _ _ .nil .non⟩
  · cases e

/-! ### x[i] = e -/
def dput (es : List (D × D)) (k : Key) (d : D) : List (D × D) := if (es.any fun p => dkey p.1 k) = true then es.map (fun p => if dkey p.1 k = true then (p.1, d) else p) else es ++ [(keyD k, d)]
theorem RpD.any {K : Fr'} {F : Hp} {k : Key} : ∀ {kvs : List (Key × V)} {es : List (D × D)}, RpD K F kvs es → (kvs.any fun kv => decide (kv.1 = k)) = es.any fun p => dkey p.1 k
  | _, _, .nil => rfl
  | _, _, .cons r t => by
    rw [List.any_cons, List.any_cons, dkey_keyD, RpD.any t]
theorem RpD.append {K : Fr'} {F : Hp} : ∀ {kvs lvs : List (Key × V)} {es fs : List (D × D)}, RpD K F kvs es → RpD K F lvs fs → RpD K F (kvs ++ lvs) (es ++ fs)
  | _, _, _, _, .nil, h => h
  | _, _, _, _, .cons r t, h => .cons r (RpD.append t h)
theorem RpD.put {K : Fr'} {F : Hp} {k : Key} {v : V} {d : D} {kvs : List (Key × V)} {es : List (D × D)} (r : RpD K F kvs es) (rv : Rp K F v d) : RpD K F (putK kvs k v) (dput es k d) := by
  unfold putK dput
  rw [r.any]
  split
  · have go : ∀ {kvs : List (Key × V)} {es : List (D × D)}, RpD K F kvs es → RpD K F (kvs.map (fun kv => if kv.1 = k then (kv.1, v) else kv)) (es.map (fun p => if dkey p.1 k = true then (p.1, d) else p)) := by
      intro kvs es r
      induction kvs generalizing es with
      | nil => cases r; exact .nil
      | cons kv kvs ih =>
        cases r with
        | @cons k0 v0 _ d0 _ r0 t =>
        rw [List.map_cons, List.map_cons, dkey_keyD]
        by_cases e : k0 = k
        · simp only [e, decide_true, if_true]
          exact .cons rv (ih t)
        · simp only [e, decide_false, if_false, Bool.false_eq_true]
          exact .cons r0 (ih t)
    exact go r
  · exact r.append (.cons rv .nil)
/-- x[i] = z -/
def setM : D → D → D → Option D
  | .list ds, .int k, z => (ixN ds.length k).map fun j => .list (ds.set j z)
  | .dict es, i, z => (keyOf i).bind fun k => if es.length < sizeLine then some (.dict (dput es k z)) else none
  | _, _, _ => none
def rSetM (K : Fr') : TSet := fun o i v H Q => ∃ F a d ix z d', o = .ref a ∧ Le F H ∧ OwnO K F (H a) d ∧ Lk K F H i ix ∧ Rp K F v z ∧ setM d ix z = some d' ∧ ∀ u, OwnO K F (some u) d' → Q (upd H a u)
theorem set_M (hu : X.A.units + 1 < cLine) : PSet X (rSetM X.K) := by
  intro pins s σ H o i v ov iv u Q I ro ri rv h
  obtain ⟨F, a, d, ix, z, d', rfl, l, q1, li, rz, e, q⟩ := h
  unfold setM at e
  split at e
  · simp only [Option.map_eq_some_iff] at e
    obtain ⟨j, e1, e2⟩ := e
    subst e2
    obtain ⟨ys, hH, ry⟩ := q1.lstE
    have ei := li.int
    subst ei
    exact set_list pins s σ H _ _ _ ov iv u Q I ro ri rv ⟨a, ys, _, j, rfl, rfl, hH, by rw [ry.length]; exact e1, q _ (ry.set rz j)⟩
  · simp only [Option.bind_eq_some_iff] at e
    obtain ⟨k, e1, e2⟩ := e
    split at e2
    · next hz =>
      cases e2
      obtain ⟨kvs, hH, ry⟩ := q1.dctE
      exact set_dict hu pins s σ H _ _ _ ov iv u Q I ro ri rv ⟨a, _, rfl, .inl ⟨kvs, k, hH, keyOf_kV li e1, by rw [ry.length]; exact hz, rfl⟩, q _ (ry.put rz)⟩
    · cases e2
  · cases e
def sSub (i : Nat) (g f : SemE) : SemS := fun ρ => (f ρ).bind fun (r, ρ1) => (frz ρ1 r).bind fun (z, ρ2) => (ownAt ρ2 i).bind fun _ => (g ρ2).bind fun (r2, ρ3) => (look ρ3 r2).bind fun ix => (ownAt ρ3 i).bind fun d => (setM d ix z).bind fun d' => some (.nx (putAt ρ3 i d'))
theorem ds_sub {ie e : Expr} {g f : SemE} {tpos : Pos} (hu : X.A.units + 1 < cLine) (hx : PE X (.Name x npos) (tVar i)) (hi : DE X ie g) (he : DE X e f)
    (hs : swapsWithSole [.Subscript (.Name x npos) ie tpos] e pos.line X.env = pure false := by rfl) (hw : swappedStores [.Subscript (.Name x npos) ie tpos] e X.env = pure none := by rfl)
    (h1 : (assignEach [.Subscript (.Name x npos) ie tpos] X.env).map (·.2) = [assign (.Subscript (.Name x npos) ie tpos) X.env] := by rfl)
    (ha : ∀ v, assign (.Subscript (.Name x npos) ie tpos) X.env v = (do
      let ov ← holding [v] (eval (.Name x npos) X.env)
      let iv ← holding [v, ov] (eval ie X.env)
      standAt tpos
      holding [v, ov, iv] (setItem ov iv v)
      release [v, ov, iv] []) := by intro _; rfl) :
    DS X (.Assign [.Subscript (.Name x npos) ie tpos] e pos) (sSub i g f) := by
  refine ⟨(ps_asg he.pe (pg_sub hx hi.pe (set_M hu) ha) hs hw h1).pvi fun D σ H q => ?_⟩
  obtain ⟨P, W, F, ρ, o, R, e, q⟩ := q
  simp only [sSub, Option.bind_eq_some_iff, Prod.exists] at e
  obtain ⟨r, ρ1, e1, z, ρ2, e2, d0, e0, r2, ρ3, e3, ix, e4, d, e5, d', e6, e7⟩ := e
  cases e7
  refine ⟨P, W, F, ρ, r, ρ1, R, e1, fun v H1 F1 x1 R1 o1 => ?_⟩
  obtain ⟨F2, x2, R2, rp⟩ := R1.frz o1 e2
  obtain ⟨a, hv, _, _⟩ := R2.own e0
  refine ⟨_, hv, P, W, F2, ρ2, r2, ρ3, R2, e3, fun iv H3 F3 x3 R3 o3 => ?_⟩
  obtain ⟨a', hv', fa, own⟩ := R3.own e5
  rw [hv] at hv'
  cases hv'
  exact ⟨F3, a, d, ix, z, d', rfl, R3.fh, own, R3.lk o3 e4, rp.mono (Le.of x3.same), e6, fun u q1 => q σ _ F3 ((x1.trans x2).trans x3) (R3.putAt e5 hv q1)⟩
/-- d[k] of a dict, xs[i] of what has an order -/
def ixG : Op2
  | .dict es, d => kget (.dict es) d
  | d, e => ixF d e
theorem de_ixG {a b : Expr} {f g : SemE} (hu : X.A.units + 64 < cLine) (hr : IxR X (rS X.K ixF)) (ha : DE X a f) (hb : DE X b g) (hs : PlainIx b := by intro _ _; rfl) (hs2 : NoSl b := by intro _ _; rfl) : DE X (.Subscript a b pos) (sOp ixG f g) := by
  refine ⟨⟨fun pins s σ H Q I q => ?_⟩⟩
  obtain ⟨P, W, F, ρ, r, ρ', R, e, q⟩ := q
  simp only [sOp, Option.bind_eq_some_iff, Prod.exists] at e
  obtain ⟨r1, ρ1, e1, r2, ρ2, e2, d, e3, d2, e4, z, b, e5, e6⟩ := e
  unfold ixG at e5
  split at e5
  · exact (de_dget hu ha hb hs2).pe.run pins s σ H Q I ⟨P, W, F, ρ, r, ρ', R, by simp only [sOp, Option.bind_eq_some_iff, Prod.exists]; exact ⟨r1, ρ1, e1, r2, ρ2, e2, _, e3, d2, e4, z, b, e5, e6⟩, q⟩
  · exact (de_ix hr ha hb hs).pe.run pins s σ H Q I ⟨P, W, F, ρ, r, ρ', R, by simp only [sOp, Option.bind_eq_some_iff, Prod.exists]; exact ⟨r1, ρ1, e1, r2, ρ2, e2, d, e3, d2, e4, z, b, e5, e6⟩, q⟩
end
end Pv
end
section
set_option Elab.async false
set_option linter.all false
set_option maxRecDepth 100000
set_option maxHeartbeats 1000000
/-! PvEn: enumerate of a tuple. -/
namespace Pv
open PySem PySem.Spec PyProof.Rows L2 PySem.W

/-! ### enumerate of a tuple -/
section
variable {v0 : Value} {o0 : Obj} {H0 : Heap → Prop}
theorem meets_enum1 (B : Begins v0 o0 H0) :
    Meets (Builtin.«enumerate.__new__» ⟨[.type "enumerate", v0], []⟩) (fun _ R s => H0 s.heap ∧
      R (.ok (.ret (.ref (s.heap.push o0).objs.size))) { s with heap := (s.heap.push o0).push { cls := .type "enumerate", data := .fields #[.none, .bool false, .ref s.heap.objs.size, rawInt 0, .none, .none] } }) :=
  .of_wp fun prog w A R s h => by
    obtain ⟨hp, g, d, tk, os⟩ := s
    obtain ⟨h1, h⟩ := h
    have hsub := sub_enumerate
    have it1 : ∀ {A' : Around} {E : Value → Shared → Prop} {Q : Value → Shared → Prop}, Q (.ref hp.objs.size) ⟨hp.push o0, g, d, tk, os⟩ → wpAny (model prog w) A' (pyIter v0) Q E ⟨hp, g, d, tk, os⟩ :=
      fun q => B.iter prog w _ _ ⟨hp, g, d, tk, os⟩ _ h1 q
    wp_walk using it1
    refine wpAny_stack_any fun st => wpAny_pure ?_
    split
    · rename_i c _ _ _ _ _
      cases (c == Value.type "enumerate")
      · wp_walk using it1
        exact ⟨_, rfl, h⟩
      · wp_walk using it1
        exact ⟨_, rfl, h⟩
    · wp_walk using it1
      exact ⟨_, rfl, h⟩
theorem call_enum1 {P : Program} {w : World} {A : Around} {E : Value → Shared → Prop} {s : Shared} {Q : Value → Shared → Prop} (B : Begins v0 o0 H0) (h1 : H0 s.heap)
    (h : ∀ h', IsEnum h' (s.heap.objs.size + 1) s.heap.objs.size 0 .none → h'.get? s.heap.objs.size = some o0 → (∀ b o, s.heap.get? b = some o → h'.get? b = some o) → Q (.ref (s.heap.objs.size + 1)) { s with heap := h' }) :
    wpAny (model P w) A (call (.type "enumerate") [v0]) Q E s := by
  refine callType_new F.called_enumerate (by decide) (F.typeCall_enumerate_1 _) (F.newCall_enumerate_1 _) (fun obj => F.args_object_init_2 obj _) F.entry_enumerate_new (meets_enum1 B) ⟨h1, ?_⟩
  have hz : (s.heap.push o0).objs.size = s.heap.objs.size + 1 := Heap.size_push ..
  show _ ∧ _
  rw [hz]
  have he : IsEnum ((s.heap.push o0).push { cls := .type "enumerate", data := .fields #[.none, .bool false, .ref s.heap.objs.size, rawInt 0, .none, .none] }) (s.heap.objs.size + 1) s.heap.objs.size 0 .none := by
    have q := Heap.get?_push_size (s.heap.push o0) (o := { cls := .type "enumerate", data := .fields #[.none, .bool false, .ref s.heap.objs.size, rawInt 0, .none, .none] }) rfl
    rw [hz] at q
    exact q
  exact ⟨⟨_, he, rfl⟩, h _ he (Heap.get?_push_of_some _ (Heap.get?_push_size _ B.free)) fun b o x => Heap.get?_push_of_some _ (Heap.get?_push_of_some _ x)⟩
end
/-- the tuple at a, each item in a new pair behind its place -/
def IteT (K : PySem.W.Frag) (a : Addr) : It :=
  ⟨fun i H => ∃ (xs : List V) (x : V), SqT K H a xs ∧ xs[i]? = some x,
   fun i H v H' => ∃ T x, v = .ref T ∧ H T = none ∧ H' = upd H T (.tup [.int (i : Nat), x]) ∧ ∀ xs, SqT K H a xs → xs[i]? = some x,
   fun i H => ∃ xs : List V, SqT K H a xs ∧ xs.length ≤ i⟩
theorem turn_enumT {P : Program} {w : World} {K : PySem.W.Frag} {elts : List Expr} {kk : Nat} {tpos : Pos} (a e it : Addr) :
    Turn P w K (.Tuple elts kk tpos) (IteT K a) [e, it] e (fun i h => (∃ old, IsEnum h e it ((i : Nat) : Int) old) ∧ h.IsTupleIter it a i ∧ e ≠ it ∧ a ≠ it ∧ a ≠ e) where
  mem := by simp
  obj := fun i h st b hb => by
    obtain ⟨⟨old, he⟩, ⟨o, ho, hc, hd⟩, _⟩ := st
    have two : b = e ∨ b = it := by simpa using hb
    rcases two with rfl | rfl
    · exact ⟨_, he, fun v q => nomatch q⟩
    · exact ⟨o, ho, fun v q => by rw [hd] at q; cases q⟩
  keep := fun i h h' st k => by
    obtain ⟨⟨old, he⟩, hi, hne⟩ := st
    exact ⟨⟨old, k e (by simp) _ he⟩, hi.at fun o q => k it (by simp) o q, hne⟩
  item := by
    intro X hP hw hK hc i pins s σ H E I hf st hg
    subst hP hw hK
    obtain ⟨⟨old, he⟩, hit, hne, hai, hae⟩ := st
    obtain ⟨xs, x, hq, hx⟩ := hg
    obtain ⟨its, rv, p, hz⟩ := I.tuple hq
    obtain ⟨u, hu, ru⟩ := rv.get hx
    have hel : e < s.heap.objs.size := Heap.lt_size he
    have hil : it < s.heap.objs.size := by obtain ⟨_, q, _⟩ := hit; exact Heap.lt_size q
    have lt : i < its.toArray.size := by
      rw [List.size_toArray]
      exact (List.getElem?_eq_some_iff.mp hu).1
    refine wpAny_pyNext_enum_itemD (n := its.toArray.size) (Draws.tuple (A := X.A.in1) (show X.A.in1.handled = none from I.ok.hd hc) it a hai its.toArray) he ⟨hit, p⟩ lt hne (by simp [hne, Ne.symm hae]) fun y h' tk hy ho hit' hT hsz hk => ?_
    have ey : y = u := by
      have : its.toArray[i]? = some u := by simpa using hu
      rw [this] at hy
      exact (Option.some.inj hy).symm
    subst ey
    refine ⟨_, rfl, wpAny_letOwnedTupleGo_enum (s := { s with heap := h', toks := tk + 1 }) ho fun h'' he' sb => ?_⟩
    have hT2 : h''.get? s.heap.objs.size = some { cls := .type "tuple", data := .seq #[.int i tk, y] } := (sb.2 _ (Nat.ne_of_gt hel)).trans hT
    have new : ObjOk X.prog X.w (upd H s.heap.objs.size (.tup [.int (i : Nat), x])) h'' s.heap.objs.size (.tup [.int (i : Nat), x]) :=
      ⟨by show 2 ≤ sizeLine; decide, [.int i tk, y], .cons ⟨_, rfl⟩ (.cons ru .nil), ⟨_, hT2, rfl, _, rfl⟩⟩
    have I1 : Inv X pins σ (upd H s.heap.objs.size (.tup [.int (i : Nat), x])) { s with heap := h'', toks := tk + 1 } :=
      I.turnedNew (ch := [e, it]) (fun b ob hb q => (sb.2 b (fun z => hb (by simp [z]))).trans (hk b ob (fun z => hb (by simp [z])) (fun z => hb (by simp [z])) q)) hf (Nat.le_refl _) new
    refine ⟨.ref s.heap.objs.size, _, I1, rfl, ⟨_, x, rfl, I.hok.fresh (Nat.le_refl _), rfl, fun ys hy => by rw [I.tuple_inj hy hq]; exact hx⟩, ⟨⟨y, ?_⟩, hit'.1.at fun o q => (sb.2 it (Ne.symm hne)).trans q, hne, hai, hae⟩, fun b hb => ?_⟩
    · have e1 : ((i + 1 : Nat) : Int) = (i : Int) + 1 := by omega
      rw [e1]
      exact he'
    · have two : b = e ∨ b = it := by simpa using hb
      have hb' : b < s.heap.objs.size := by
        rcases two with rfl | rfl
        · exact hel
        · exact hil
      rw [upd_ne (Nat.ne_of_lt hb')]
      exact (hf b hb).1
  done := by
    intro X hP hw hK hc i pins s σ H E I hf st hg
    subst hP hw hK
    obtain ⟨⟨old, he⟩, hit, hne, hai, hae⟩ := st
    obtain ⟨xs, hq, hx⟩ := hg
    obtain ⟨its, rv, p, hz⟩ := I.tuple hq
    obtain ⟨f0, f1, f2, f3, f4, f5⟩ := hf it (by simp)
    have hl := rv.length
    have ge : its.toArray.size ≤ i := by rw [List.size_toArray]; omega
    refine wpAny_pyNext_enum_endD (n := i) (P := fun _ _ => False) (fp := [it, a]) (St := fun j h => j = i ∧ h.IsTupleIter it a i ∧ h.IsTuple a its.toArray) ⟨fun _ _ st => let ⟨o, ho, _⟩ := st.2.1; ⟨o, ho⟩, fun j g g' st k => ?_, fun j s Q E hj st _ => ?_, fun s Q E st hE => ?_⟩ he ⟨rfl, hit, p⟩ fun h' eb => ⟨rfl, I.turned (t' := s.toks) (fun b o hb q => eb b o hb q) f0 f1 f3 f4 f5⟩
    · exact ⟨st.1, st.2.1.at fun o q => k it (by simp) o q, st.2.2.at fun o q => k a (by simp) o q⟩
    · exact absurd st.1 (Nat.ne_of_lt hj)
    · exact wpAny_nextOf_tuple_end (I.ok.hd hc) st.2.1 st.2.2 (by simp only [List.getElem?_toArray]; exact List.getElem?_eq_none (by simpa using ge)) hE
  self := fun A i s Q E st h => let ⟨⟨_, he⟩, _⟩ := st; wpAny_pyIter_enum he h
def iEnumT (K : PySem.W.Frag) (ta : TA) : TI := fun σ H R => ta σ H fun vs H1 => ∃ a xs, vs = [.ref a] ∧ SqT K H1 a xs ∧ R (IteT K a) H1
theorem pi_enumT {X : Cx} {e : Expr} {ta : TA} {p pos tpos : Pos} {elts : List Expr} {kk : Nat} (hg : Gl X "enumerate") (hm : X.mg "enumerate" = none) (ha : PA X [e] ta) (hs : starEach [e] X.env = [(false, eval e X.env)] := by rfl) :
    PI X (.Tuple elts kk tpos) (.Call (.Name "enumerate" p) [e] [] pos) (iEnumT X.K ta) := by
  refine ⟨fun pins s σ H R I h => ?_⟩
  refine Call_ (ld_blt I hg hm boot_enumerate (PyProof.Rows.callWith_type1 (thn (ha.run pos pins s σ H _ I h) fun us s1 ⟨vs, H1, I1, r1, q1⟩ => ?_) hs rfl))
  obtain ⟨a, xs, ex, hq, q⟩ := q1
  subst ex
  rw [Vals.ref1 r1]
  obtain ⟨its, rv, p', hz⟩ := I1.tuple hq
  have alt : a < s1.heap.objs.size := by obtain ⟨o, ho, _⟩ := p'; exact Heap.lt_size ho
  refine call_enum1 (begins_tuple a its.toArray) p' fun h' he hit hk => wpAny_pyIter_enum he ?_
  have I2 : Inv X pins σ H1 { s1 with heap := h' } := I1.kept (t' := s1.toks) hk
  refine ⟨s1.heap.objs.size + 1, [s1.heap.objs.size + 1, s1.heap.objs.size], _, _, H1, rfl, I2, turn_enumT a (s1.heap.objs.size + 1) s1.heap.objs.size, ⟨⟨.none, he⟩, ⟨_, hit, rfl, rfl⟩, Nat.succ_ne_self _, Nat.ne_of_lt alt, Nat.ne_of_lt (Nat.lt_succ_of_lt alt)⟩, fun b hb => ?_, q⟩
  have hle : s1.heap.objs.size ≤ b := by
    have two : b = s1.heap.objs.size + 1 ∨ b = s1.heap.objs.size := by simpa using hb
    rcases two with z | z <;> (rw [z]; omega)
  exact I1.fpOk hle (I1.hok.fresh hle)
theorem walk_enumT {K : PySem.W.Frag} {a : Addr} {xs : List V} : Walk (IteT K a) xs.length (fun H => SqT K H a xs) (YPair (fun i => some (.int (i : Nat))) (fun i => xs[i]?)) := by
  refine ⟨fun i _ hi q => ⟨xs, xs[i], q, by simp [hi]⟩, fun _ q => ⟨xs, q, Nat.le_refl _⟩, fun i H v H' _ q y => ?_⟩
  obtain ⟨T, x, h1, h2, h3, h4⟩ := y
  exact ⟨T, .int (i : Nat), x, h1, h2, h3, rfl, h4 xs q⟩
theorem walk_zipT {K : PySem.W.Frag} {a b : Addr} {xs ys : List V} {n : Nat} (hn : n = min xs.length ys.length) : Walk (RZ.ItzT K a b) n (fun H => SqT K H a xs ∧ SqT K H b ys) (YPair (fun i => xs[i]?) (fun i => ys[i]?)) := by
  subst hn
  refine ⟨fun i _ hi q => ?_, fun _ q => ⟨xs, ys, q.1, q.2, by omega⟩, fun i H v H' _ q y => ?_⟩
  · have h1 : i < xs.length := by omega
    have h2 : i < ys.length := by omega
    exact ⟨xs, ys, xs[i], ys[i], q.1, q.2, by simp [h1], by simp [h2]⟩
  · obtain ⟨T, x, z, h1, h2, h3, h4, h5⟩ := y
    exact ⟨T, x, z, h1, h2, h3, h4 xs q.1, h5 ys q.2⟩
end Pv
end
section
set_option Elab.async false
set_option linter.all false
set_option maxRecDepth 100000
set_option maxHeartbeats 1000000
/-! PvM: what can be walked. -/
namespace Pv
open PySem PySem.Spec PyProof.Rows L2 PySem.W

/-! ### a dict is locked -/
def tLk (t : TE) : TE := fun σ H Q => t σ H fun v H1 => ∃ a kvs, v = .ref a ∧ Rd H1 a (.dK kvs) ∧ ∀ o, (∀ o', H1 a = some (.frz o' (.dK kvs)) → o' = o) → Q v (upd H1 a (.frz o (.dK kvs)))
theorem upd_self {H : Hp} {a : Addr} {u : HO} (h : H a = some u) : upd H a u = H := by
  funext b
  by_cases e : b = a
  · rw [e, upd_same, h]
  · rw [upd_ne e]
theorem pe_lk {X : Cx} {e : Expr} {t : TE} (h : PE X e t) : PE X e (tLk t) := by
  refine ⟨fun pins s σ H Q I q => ?_⟩
  refine thn (h.run pins s σ H _ I q) fun u s1 ⟨v, H1, I1, r1, a, kvs, ev, rd, q1⟩ => ?_
  rcases rd with rd | ⟨o, rd⟩
  · obtain ⟨od, I2⟩ := I1.lock rd trivial
    exact ⟨v, _, I2, r1, q1 od fun o' z => by rw [rd] at z; cases z⟩
  · have := q1 o
    rw [upd_self rd] at this
    exact ⟨v, _, I1, r1, this fun o' z => by rw [rd] at z; cases z; rfl⟩
theorem Rel.lock {K : Fr'} {P : List (Nat × Addr)} {W F H : Hp} {σ : St} {ρ : Ro} {a : Addr} {kvs : List (Key × V)} {o : Obj} (R : Rel K P W F H σ ρ) (hf : Rd F a (.dK kvs)) (ho : ∀ o', H a = some (.frz o' (.dK kvs)) → o' = o) :
    ∃ W', Same W W' ∧ Rel K P W' F (upd H a (.frz o (.dK kvs))) σ ρ ∧ W' a = some (.frz o (.dK kvs)) := by
  have hne : F a ≠ Option.none := by
    rcases hf with e | ⟨o', e⟩ <;> (rw [e]; exact fun z => nomatch z)
  have hH : H a = some (.dK kvs) ∨ H a = some (.frz o (.dK kvs)) := by
    rcases hf with e | ⟨o', e⟩
    · rcases R.fh a _ e with q | ⟨_, od, q⟩
      · exact .inl q
      · right; rw [q, ho _ q]
    · rcases R.fh a _ e with q | ⟨z, _⟩
      · right; rw [q, ho _ q]
      · exact z.elim
  have own : ∀ (i : Nat) (c : Cell) (b : Addr), ρ[i]? = some (some c) → c.owned = true → σ[i]? = some (some (.ref b)) → b ≠ a := by
    intro i c b e ow hv z
    obtain ⟨v, hv', hk⟩ := R.cell i c e
    rw [hv] at hv'
    cases hv'
    cases c with
    | val _ => cases ow
    | scr _ => cases ow
    | own _ => obtain ⟨b', eb, _, h2, _⟩ := hk; cases eb; rw [z] at h2; exact hne h2
    | byr _ => obtain ⟨b', eb, _, h2, _⟩ := hk; cases eb; rw [z] at h2; exact hne h2
  have wa : W a = Option.none ∨ (W a = some (.frz o (.dK kvs)) ∧ H a = some (.frz o (.dK kvs))) := by
    cases q : W a with
    | none => exact .inl rfl
    | some u =>
      right
      have hq := R.wh a u q
      rcases R.dis a (by rw [q]; exact fun z => nomatch z) with z | ⟨o', u', z⟩
      · exact absurd z hne
      · rw [q] at z
        cases z
        rcases hH with y | y
        · rw [hq] at y; cases y
        · rw [hq] at y; cases y; exact ⟨rfl, hq⟩
  rcases wa with wa | ⟨wa, ha⟩
  · refine ⟨upd W a (.frz o (.dK kvs)), fun b u e => by rw [upd_ne (ne_of_none e wa)]; exact e, ?_, upd_same⟩
    constructor
    · intro b u e
      by_cases hb : b = a
      · subst hb
        rw [upd_same]
        rcases hf with q | ⟨o', q⟩
        · rw [q] at e; cases e; exact .inr ⟨trivial, o, rfl⟩
        · rw [q] at e
          cases e
          rcases R.fh b _ q with y | ⟨z, _⟩
          · rw [ho _ y]; exact .inl rfl
          · exact z.elim
      · rw [upd_ne hb]; exact R.fh b u e
    · intro b u e
      by_cases hb : b = a
      · subst hb; rw [upd_same] at e ⊢; exact e
      · rw [upd_ne hb] at e ⊢; exact R.wh b u e
    · exact R.len
    · intro i c e
      obtain ⟨v, hv, hk⟩ := R.cell i c e
      refine ⟨v, hv, ?_⟩
      cases c with
      | val _ => exact hk
      | scr _ => exact hk
      | own _ =>
        obtain ⟨b, eb, h1, h2, h3⟩ := hk
        subst eb
        have ne := own i _ b e rfl hv
        exact ⟨b, rfl, by rw [upd_ne ne]; exact h1, h2, by rw [upd_ne ne]; exact h3⟩
      | byr _ =>
        obtain ⟨b, eb, h1, h2, h3⟩ := hk
        subst eb
        have ne := own i _ b e rfl hv
        exact ⟨b, rfl, by rw [upd_ne ne]; exact h1, h2, by rw [upd_ne ne]; exact h3⟩
    · exact R.inj
    · exact R.pin
    · intro b e
      by_cases hb : b = a
      · subst hb; rw [upd_same]; exact .inr ⟨_, _, rfl⟩
      · rw [upd_ne hb] at e ⊢; exact R.dis b e
  · exact ⟨W, Same.refl W, by rw [upd_self ha]; exact R, wa⟩

/-! ### any walk of pairs -/
theorem walkD_pair {K : Fr'} {W F : Hp} {J : It} {G : Hp → Prop} {fx fy : Nat → Option V} {ds : List D} {n : Nat} (hn : ds.length = n) (w : Walk J n G (YPair fx fy)) (hG : ∀ F' H, Same F F' → Le F' H → SameZ W H → G H)
    (hp : ∀ (i : Nat) (d : D) (x y : V), ds[i]? = some d → fx i = some x → fy i = some y → ∃ dx dy, d = .tuple [dx, dy] ∧ Rp K F x dx ∧ Rp K F y dy) : WalkD K W F J ds := by
  refine ⟨G, _, (by rw [hn]; exact w), hG, ?_⟩
  rintro i d F' H H' v sm l hd ⟨T, x, y, rfl, hT, rfl, h1, h2⟩
  obtain ⟨dx, dy, rfl, r1, r2⟩ := hp i d x y hd h1 h2
  have g := Grow.both l hT (.tup [x, y])
  refine ⟨_, g, .tup (.inl (.inl upd_same)) (.cons (r1.mono ?_) (.cons (r2.mono ?_) .nil))⟩
  · exact (Le.of sm).post g.fs
  · exact (Le.of sm).post g.fs
def charsD (x : Str) : List D := x.cps.toList.map fun c => .str ⟨#[c]⟩
theorem walkD_str {K : Fr'} {W F : Hp} {x : Str} : WalkD K W F (Its x) (charsD x) := by
  have hl : (charsD x).length = x.cps.size := by unfold charsD; rw [List.length_map, Array.length_toList]
  refine ⟨_, _, (by rw [hl]; exact walk_str (z := x)), fun _ _ _ _ _ => trivial, ?_⟩
  rintro i d F' H H' v sm l hd ⟨rfl, c, hc, rfl⟩
  unfold charsD at hd
  rw [List.getElem?_map, Array.getElem?_toList, hc] at hd
  cases hd
  exact ⟨F', Grow.refl l, .str _⟩
theorem RpD.at {K : Fr'} {F : Hp} : ∀ {kvs : List (Key × V)} {es : List (D × D)} (i : Nat) (p : D × D), RpD K F kvs es → es[i]? = some p → ∃ k v, kvs[i]? = some (k, v) ∧ p.1 = keyD k ∧ Rp K F v p.2
  | _, _, _, _, .nil, h => by cases h
  | _, _, 0, _, .cons (k := k) (v := v) r t, h => by
    simp only [List.getElem?_cons_zero, Option.some.injEq] at h
    subst h
    exact ⟨k, v, rfl, rfl, r⟩
  | _, _, i + 1, p, .cons r t, h => RpD.at i p t (by simpa using h)
theorem rp_key {K : Fr'} {F : Hp} (k : Key) : Rp K F (kV k) (keyD k) := by
  cases k with
  | inl i => exact .int i
  | inr x => exact .str x
theorem walkD_keys {K : Fr'} {W F : Hp} {a : Addr} {o : Obj} {kvs : List (Key × V)} {es : List (D × D)} (hw : W a = some (.frz o (.dK kvs))) (r : RpD K F kvs es) : WalkD K W F (Itk a o kvs) (es.map (·.1)) := by
  refine ⟨_, _, (by rw [List.length_map, ← r.length]; exact walk_keys), fun F' H _ _ s => s _ _ _ hw, ?_⟩
  rintro i d F' H H' v sm l hd ⟨rfl, k, z, hk, rfl⟩
  rw [List.getElem?_map, Option.map_eq_some_iff] at hd
  obtain ⟨p, hp, rfl⟩ := hd
  obtain ⟨k', v', h1, h2, _⟩ := RpD.at i p r hp
  rw [hk] at h1
  cases h1
  rw [h2]
  exact ⟨F', Grow.refl l, rp_key k⟩
theorem walkD_vals {K : Fr'} {W F : Hp} {a : Addr} {o : Obj} {kvs : List (Key × V)} {es : List (D × D)} (hw : W a = some (.frz o (.dK kvs))) (r : RpD K F kvs es) : WalkD K W F (Itd a o kvs) (es.map (·.2)) := by
  refine ⟨_, _, (by rw [List.length_map, ← r.length]; exact walk_values), fun F' H _ _ s => s _ _ _ hw, ?_⟩
  rintro i d F' H H' v sm l hd ⟨rfl, k, hk⟩
  rw [List.getElem?_map, Option.map_eq_some_iff] at hd
  obtain ⟨p, hp, rfl⟩ := hd
  obtain ⟨k', v', h1, _, h3⟩ := RpD.at i p r hp
  rw [hk] at h1
  cases h1
  exact ⟨F', Grow.refl l, h3.mono (Le.of sm)⟩
def pairD (p : D × D) : D := .tuple [p.1, p.2]
theorem walkD_items {K : Fr'} {W F : Hp} {a : Addr} {o : Obj} {kvs : List (Key × V)} {es : List (D × D)} (hw : W a = some (.frz o (.dK kvs))) (r : RpD K F kvs es) : WalkD K W F (Iti a o kvs) (es.map pairD) := by
  refine walkD_pair (by rw [List.length_map, ← r.length]) walk_items (fun F' H _ _ s => s _ _ _ hw) fun i d x y hd hx hy => ?_
  rw [List.getElem?_map, Option.map_eq_some_iff] at hd
  obtain ⟨p, hp, rfl⟩ := hd
  obtain ⟨k', v', h1, h2, h3⟩ := RpD.at i p r hp
  rw [h1] at hx hy
  cases hx
  cases hy
  exact ⟨p.1, p.2, rfl, by rw [h2]; exact rp_key k', h3⟩
def zipD (xs ys : List D) : List D := List.zipWith (fun x y => .tuple [x, y]) xs ys
theorem zipD_len (xs ys : List D) : (zipD xs ys).length = min xs.length ys.length := List.length_zipWith
theorem zipD_at {K : Fr'} {F : Hp} {us vs : List V} {xs ys : List D} (r1 : RpA K F us xs) (r2 : RpA K F vs ys) (i : Nat) (d : D) (x y : V) (hd : (zipD xs ys)[i]? = some d) (hx : us[i]? = some x) (hy : vs[i]? = some y) :
    ∃ dx dy, d = .tuple [dx, dy] ∧ Rp K F x dx ∧ Rp K F y dy := by
  obtain ⟨dx, h1, q1⟩ := r1.get' i x hx
  obtain ⟨dy, h2, q2⟩ := r2.get' i y hy
  unfold zipD at hd
  rw [List.getElem?_zipWith, h1, h2] at hd
  cases hd
  exact ⟨dx, dy, rfl, q1, q2⟩
def enumD (xs : List D) : List D := xs.mapIdx fun i x => .tuple [.int (i : Nat), x]
theorem enumD_at {K : Fr'} {F : Hp} {us : List V} {xs : List D} (r1 : RpA K F us xs) (i : Nat) (d : D) (x y : V) (hd : (enumD xs)[i]? = some d) (hx : some (V.int (i : Nat)) = some x) (hy : us[i]? = some y) :
    ∃ dx dy, d = .tuple [dx, dy] ∧ Rp K F x dx ∧ Rp K F y dy := by
  obtain ⟨dy, h2, q2⟩ := r1.get' i y hy
  unfold enumD at hd
  rw [List.getElem?_mapIdx, h2] at hd
  cases hd
  cases hx
  exact ⟨_, dy, rfl, .int _, q2⟩

/-! ### the iterators -/
section
variable {X : Cx} {tg e : Expr} {f : SemE}
def walkOf : D → Option (List D)
  | .list ds => some ds
  | .tuple ds => some ds
  | .str x => some (charsD x)
  | .dict es => some (es.map (·.1))
  | _ => none
def iOf (w : D → Option (List D)) (f : SemE) : SemI := fun ρ => (f ρ).bind fun (r, ρ1) => (frz ρ1 r).bind fun (d, ρ2) => (w d).bind fun ds => some (ds, ρ2)
theorem di_any (h : DE X e f) (hl : PI X tg e (iList X.K (tD X.K f))) (ht : PI X tg e (iTup X.K (tD X.K f))) (hs : PI X tg e (iStr (tD X.K f))) (hk : PI X tg e (iKeys (tLk (tD X.K f)))) : DI X tg e (iOf walkOf f) := by
  refine ⟨⟨fun pins s σ H Q I q => ?_⟩⟩
  obtain ⟨P, W, F, ρ, ds, ρ', R, ev, q⟩ := q
  simp only [iOf, Option.bind_eq_some_iff, Prod.exists] at ev
  obtain ⟨r, ρ1, e1, d, ρ2, e2, ds', e3, e4⟩ := ev
  cases e4
  cases d with
  | none => cases e3
  | bool _ => cases e3
  | int _ => cases e3
  | list xs =>
    cases e3
    exact (di_list h hl).pi.run pins s σ H Q I ⟨P, W, F, ρ, ds, ρ', R, by simp only [iL, Option.bind_eq_some_iff, Prod.exists]; exact ⟨r, ρ1, e1, _, _, e2, _, rfl, rfl⟩, q⟩
  | tuple xs =>
    cases e3
    exact (di_tup h ht).pi.run pins s σ H Q I ⟨P, W, F, ρ, ds, ρ', R, by simp only [iT, Option.bind_eq_some_iff, Prod.exists]; exact ⟨r, ρ1, e1, _, _, e2, _, rfl, rfl⟩, q⟩
  | str x =>
    cases e3
    refine hs.run pins s σ H Q I ⟨P, W, F, ρ, r, ρ1, R, e1, fun v H1 F1 x1 R1 o1 => ?_⟩
    obtain ⟨F2, x2, R2, rp⟩ := R1.frz o1 e2
    cases rp
    exact ⟨x, rfl, q _ H1 W F2 (Same.refl W) (x1.trans x2) R2 walkD_str⟩
  | dict es =>
    cases e3
    refine hk.run pins s σ H Q I ⟨P, W, F, ρ, r, ρ1, R, e1, fun v H1 F1 x1 R1 o1 => ?_⟩
    obtain ⟨F2, x2, R2, rp⟩ := R1.frz o1 e2
    cases rp with
    | @dic a kvs _ s r =>
    refine ⟨a, kvs, rfl, R2.fh.rd s, fun o ho => ⟨a, o, rfl, .inl ⟨kvs, upd_same, ?_⟩⟩⟩
    obtain ⟨W', sw, R3, hw⟩ := R2.lock (o := o) s ho
    exact q _ _ W' F2 sw (x1.trans x2) R3 (walkD_keys hw r)
def itemsOf : D → Option (List D)
  | .dict es => some (es.map pairD)
  | _ => none
def valsOf : D → Option (List D)
  | .dict es => some (es.map (·.2))
  | _ => none
theorem di_items {e' : Expr} (hk : PI X tg e' (iItems (tLk (tD X.K f)))) : DI X tg e' (iOf itemsOf f) := by
  refine ⟨hk.pvi fun σ H Q q => ?_⟩
  obtain ⟨P, W, F, ρ, ds, ρ', R, ev, q⟩ := q
  simp only [iOf, Option.bind_eq_some_iff, Prod.exists] at ev
  obtain ⟨r, ρ1, e1, d, ρ2, e2, ds', e3, e4⟩ := ev
  cases e4
  unfold itemsOf at e3
  split at e3
  · cases e3
    refine ⟨P, W, F, ρ, r, ρ1, R, e1, fun v H1 F1 x1 R1 o1 => ?_⟩
    obtain ⟨F2, x2, R2, rp⟩ := R1.frz o1 e2
    cases rp with
    | @dic a kvs _ s r =>
    refine ⟨a, kvs, rfl, R2.fh.rd s, fun o ho => ⟨a, o, kvs, rfl, upd_same, ?_⟩⟩
    obtain ⟨W', sw, R3, hw⟩ := R2.lock (o := o) s ho
    exact q _ _ W' F2 sw (x1.trans x2) R3 (walkD_items hw r)
  · cases e3
theorem di_values {e' : Expr} (hk : PI X tg e' (iVals (tLk (tD X.K f)))) : DI X tg e' (iOf valsOf f) := by
  refine ⟨hk.pvi fun σ H Q q => ?_⟩
  obtain ⟨P, W, F, ρ, ds, ρ', R, ev, q⟩ := q
  simp only [iOf, Option.bind_eq_some_iff, Prod.exists] at ev
  obtain ⟨r, ρ1, e1, d, ρ2, e2, ds', e3, e4⟩ := ev
  cases e4
  unfold valsOf at e3
  split at e3
  · cases e3
    refine ⟨P, W, F, ρ, r, ρ1, R, e1, fun v H1 F1 x1 R1 o1 => ?_⟩
    obtain ⟨F2, x2, R2, rp⟩ := R1.frz o1 e2
    cases rp with
    | @dic a kvs _ s r =>
    refine ⟨a, kvs, rfl, R2.fh.rd s, fun o ho => ⟨a, o, kvs, rfl, upd_same, ?_⟩⟩
    obtain ⟨W', sw, R3, hw⟩ := R2.lock (o := o) s ho
    exact q _ _ W' F2 sw (x1.trans x2) R3 (walkD_vals hw r)
  · cases e3
/-- enumerate(e) -/
def iEn (f : SemA) : SemI := fun ρ => (f ρ).bind fun (ds, ρ1) => match ds with
  | [.list xs] => some (enumD xs, ρ1)
  | [.tuple xs] => some (enumD xs, ρ1)
  | _ => none
theorem enumD_len (xs : List D) : (enumD xs).length = xs.length := List.length_mapIdx
theorem di_enum {fa : SemA} {e' : Expr} (hl : PI X tg e' (iEnum X.K (tDA X.K fa))) (ht : PI X tg e' (iEnumT X.K (tDA X.K fa))) : DI X tg e' (iEn fa) := by
  refine ⟨⟨fun pins s σ H Q I q => ?_⟩⟩
  obtain ⟨P, W, F, ρ, ds, ρ', R, ev, q⟩ := q
  simp only [iEn, Option.bind_eq_some_iff, Prod.exists] at ev
  obtain ⟨es, ρ1, e1, e2⟩ := ev
  split at e2
  · next xs =>
    cases e2
    refine hl.run pins s σ H Q I ⟨P, W, F, ρ, _, _, R, e1, fun vs H1 F1 x1 R1 rp => ?_⟩
    cases rp with | cons r rn =>
    cases rn
    cases r with
    | @lst a us _ sq r =>
    exact ⟨a, us, rfl, .inl (.inl (R1.fh.lst sq)), q _ H1 W F1 (Same.refl W) x1 R1 (walkD_pair (by rw [enumD_len, ← r.length]) walk_enum (fun F' H' s l _ => .inl (.inl (l.lst (s _ _ sq)))) (enumD_at r))⟩
  · next xs =>
    cases e2
    refine ht.run pins s σ H Q I ⟨P, W, F, ρ, _, _, R, e1, fun vs H1 F1 x1 R1 rp => ?_⟩
    cases rp with | cons r rn =>
    cases rn
    cases r with
    | @tup a us _ sq r =>
    exact ⟨a, us, rfl, R1.fh.sqt sq, q _ H1 W F1 (Same.refl W) x1 R1 (walkD_pair (by rw [enumD_len, ← r.length]) walk_enumT (fun F' H' s l _ => l.sqt ((Le.of s).sqt sq)) (enumD_at r))⟩
  · cases e2
/-- zip(e, e2) -/
def iZp (f : SemA) : SemI := fun ρ => (f ρ).bind fun (ds, ρ1) => match ds with
  | [.list xs, .list ys] => some (zipD xs ys, ρ1)
  | [.tuple xs, .tuple ys] => some (zipD xs ys, ρ1)
  | _ => none
theorem di_zip {fa : SemA} {e' : Expr} (h : PI X tg e' (RZ.iZipA X.K (tDA X.K fa))) : DI X tg e' (iZp fa) := by
  refine ⟨h.pvi fun σ H Q q => ?_⟩
  obtain ⟨P, W, F, ρ, ds, ρ', R, ev, q⟩ := q
  simp only [iZp, Option.bind_eq_some_iff, Prod.exists] at ev
  obtain ⟨es, ρ1, e1, e2⟩ := ev
  split at e2
  · next xs ys =>
    cases e2
    refine ⟨P, W, F, ρ, _, _, R, e1, fun vs H1 F1 x1 R1 rp => ?_⟩
    cases rp with | cons r rn =>
    cases rn with | cons r2 rn =>
    cases rn
    cases r with
    | @lst a us _ sq r =>
    cases r2 with
    | @lst b us2 _ sq2 r2 =>
    refine ⟨a, b, us, us2, rfl, .inl ⟨.inl (.inl (R1.fh.lst sq)), .inl (.inl (R1.fh.lst sq2)), q _ H1 W F1 (Same.refl W) x1 R1 (walkD_pair (by rw [zipD_len, ← r.length, ← r2.length]) (walk_zip rfl) (fun F' H' s l _ => ⟨.inl (.inl (l.lst (s _ _ sq))), .inl (.inl (l.lst (s _ _ sq2)))⟩) (zipD_at r r2))⟩⟩
  · next xs ys =>
    cases e2
    refine ⟨P, W, F, ρ, _, _, R, e1, fun vs H1 F1 x1 R1 rp => ?_⟩
    cases rp with | cons r rn =>
    cases rn with | cons r2 rn =>
    cases rn
    cases r with
    | @tup a us _ sq r =>
    cases r2 with
    | @tup b us2 _ sq2 r2 =>
    refine ⟨a, b, us, us2, rfl, .inr ⟨R1.fh.sqt sq, R1.fh.sqt sq2, q _ H1 W F1 (Same.refl W) x1 R1 (walkD_pair (by rw [zipD_len, ← r.length, ← r2.length]) (walk_zipT rfl) (fun F' H' s l _ => ⟨l.sqt ((Le.of s).sqt sq), l.sqt ((Le.of s).sqt sq2)⟩) (zipD_at r r2))⟩⟩
  · cases e2
/-- range(i, j, c) -/
def rng3 (i c : Int) (n : Nat) : List D := (List.range n).map fun k => .int (i + (k : Nat) * c)
def iR3 (f : SemP) : SemI := fun ρ => (f ρ).bind fun (rs, ρ1) => (looks ρ1 rs).bind fun ds => match ds with
  | [.int i, .int j, .int c] => if c ≠ 0 ∧ c.natAbs < 1073741824 ∧ Builtin.Range.small i j c = true ∧ 0 ≤ Builtin.Range.rangeSize i j c then some (rng3 i c (Builtin.Range.rangeSize i j c).toNat, ρ1) else none
  | _ => none
theorem walkD_rng3 {K : Fr'} {W F : Hp} {lo c : Int} {n : Nat} : WalkD K W F (Itc lo c n) (rng3 lo c n) := by
  have hl : (rng3 lo c n).length = n := by unfold rng3; rw [List.length_map, List.length_range]
  refine ⟨_, _, (by rw [hl]; exact walk_rangeC (lo := lo) (c := c) (n := n)), fun _ _ _ _ _ => trivial, ?_⟩
  rintro i d F' H H' x sm l hd ⟨rfl, e⟩
  subst e
  unfold rng3 at hd
  rw [List.getElem?_map, Option.map_eq_some_iff] at hd
  obtain ⟨j, hj, rfl⟩ := hd
  have e2 : j = i := by
    obtain ⟨h1, h2⟩ := List.getElem?_eq_some_iff.mp hj
    rw [List.getElem_range] at h2
    exact h2.symm
  subst e2
  exact ⟨F', Grow.refl l, .int _⟩
theorem di_range3 {fa : SemP} {e' : Expr} (h : PI X tg e' (iRng3 (tDP X.K fa))) : DI X tg e' (iR3 fa) := by
  refine ⟨h.pvi fun σ H Q q => ?_⟩
  obtain ⟨P, W, F, ρ, ds, ρ', R, ev, q⟩ := q
  simp only [iR3, Option.bind_eq_some_iff, Prod.exists] at ev
  obtain ⟨rs, ρ1, e1, es, e2, e3⟩ := ev
  split at e3
  · next i j c =>
    split at e3
    · next hc =>
      cases e3
      refine ⟨P, W, F, ρ, rs, _, R, e1, fun vs H1 F1 x1 R1 ls => ?_⟩
      have k := looks_ok ls e2
      cases k with | cons l1 t =>
      cases t with | cons l2 t =>
      cases t with | cons l3 t =>
      cases t
      rw [l1.int, l2.int, l3.int]
      exact ⟨i, j, c, _, rfl, ⟨hc.1, hc.2.1, hc.2.2.1, (Int.toNat_of_nonneg hc.2.2.2).symm⟩, q _ H1 W F1 (Same.refl W) x1 R1 walkD_rng3⟩
    · cases e3
  · cases e3
end
end Pv
end
section
set_option Elab.async false
set_option linter.all false
set_option maxRecDepth 100000
set_option maxHeartbeats 1000000
/-! PvN: comprehensions of two clauses, of dicts; dict displays; pairs assigned; methods. -/
namespace Pv
open PySem PySem.Spec PyProof.Rows L2 PySem.W

theorem walk_it {J : It} {n : Nat} {G : Hp → Prop} {Y : Nat → Hp → V → Hp → Prop} (w : Walk J n G Y) (step : V → Hp → (Hp → Prop) → Prop) {H0 : Hp} {Qd : Hp → Prop} (B : Nat → Hp → Prop) (h0 : B 0 H0) (hG : ∀ i H, i ≤ n → B i H → G H)
    (hs : ∀ i x H H', i < n → B i H → Y i H x H' → step x H' (B (i + 1))) (hd : ∀ H, B n H → Qd H) :
    ∃ W : Nat → Nat → Hp → Prop, (∃ m, W 0 m H0) ∧ ∀ i m H, W i m H →
      (J.stop i H ∧ Qd H) ∨ (J.go i H ∧ ∃ Nx : Hp → Prop, (∀ H', Nx H' → ∃ m', m' < m ∧ W (i + 1) m' H') ∧ ∀ x H', J.yld i H x H' → step x H' Nx) := by
  refine ⟨fun i m H => m = n - i ∧ i ≤ n ∧ B i H, ⟨n, by simp, Nat.zero_le _, h0⟩, ?_⟩
  rintro i m H ⟨rfl, hi, p⟩
  have q := hG i H hi p
  by_cases hlt : i < n
  · exact .inr ⟨w.goes i H hlt q, B (i + 1), fun H' p' => ⟨n - (i + 1), by omega, rfl, hlt, p'⟩, fun x H' y => hs i x H H' hlt p (w.yields i H x H' hlt q y)⟩
  · have e : i = n := by omega
    subst e
    exact .inl ⟨w.stops H q, hd H p⟩

section
variable {K : Fr'} {g : SemG} {t : SemT} {el : SemE} {vs us : List Nat}
/-- one loop of a list comprehension whose list stands already -/
theorem lcl_it {P : List (Nat × Addr)} {W F H : Hp} {σ : St} {ρ ρ' : Ro} {ds acc0 zs : List D} {xs0 : List V} {D : Addr} {J : It} {Qd : Hp → Prop} (w : WalkD K W F J ds) (R : Rel K P W F H σ ρ) (hWD : W D = some (.lst xs0)) (hFD : F D = none) (hclr : clearAt ρ vs = true)
    (r0 : RpA K F xs0 acc0) (e : lcL g t el vs ds acc0.length ρ = some (zs, ρ')) (hu : ∀ i ∈ us, i ∈ vs)
    (hd : ∀ H F2 xs, Ext W F F2 → Rel K P (upd W D (.lst xs)) F2 H σ ρ' → F2 D = none → RpA K F2 xs (acc0 ++ zs) → Qd H) :
    ∃ W1 : Nat → Nat → Hp → Prop, (∃ m, W1 0 m H) ∧ ∀ i m H, W1 i m H →
      (J.stop i H ∧ Qd H) ∨ (J.go i H ∧ ∃ Nx : Hp → Prop, (∀ H', Nx H' → ∃ m', m' < m ∧ W1 (i + 1) m' H') ∧ ∀ x H', J.yld i H x H' →
        tDG K us g x (wipe σ vs) H' fun σ2 H2 => wipe σ2 vs = wipe σ vs ∧ tDT K t σ2 H2 fun b H3 =>
          if b = true then tD K el σ2 H3 fun y H4 => ∃ acc, H4 D = some (.lst acc) ∧ acc.length < sizeLine ∧ Nx (upd H4 D (.lst (acc ++ [y]))) else Nx H3) := by
  obtain ⟨G, Y, w, hG, hY⟩ := w.ex
  have hp := pin_off R hclr
  have hWf : ∀ xs b o u, W b = some (.frz o u) → upd W D (.lst xs) b = some (.frz o u) := fun xs b o u e => by
    rw [upd_ne (fun z => by rw [z, hWD] at e; cases e)]; exact e
  have hEx : ∀ {xs : List V} {F1 F2 : Hp}, Ext (upd W D (.lst xs)) F1 F2 → Ext W F1 F2 := fun x => ⟨x.same, fun b e => x.off b (by
    by_cases hb : b = D
    · subst hb; rw [upd_same]; exact fun z => nomatch z
    · rw [upd_ne hb]; exact e)⟩
  refine walk_it w (step := fun x H' Nx => tDG K us g x (wipe σ vs) H' fun σ2 H2 => wipe σ2 vs = wipe σ vs ∧ tDT K t σ2 H2 fun b H3 =>
    if b = true then tD K el σ2 H3 fun y H4 => ∃ acc, H4 D = some (.lst acc) ∧ acc.length < sizeLine ∧ Nx (upd H4 D (.lst (acc ++ [y]))) else Nx H3)
    (fun i H => ∃ F2 ρ2 acc xs rest, Ext W F F2 ∧ Rel K P (upd W D (.lst xs)) F2 H σ ρ2 ∧ F2 D = none ∧ clearAt ρ2 vs = true ∧ RpA K F2 xs (acc0 ++ acc) ∧ zs = acc ++ rest ∧ lcL g t el vs (ds.drop i) (acc0 ++ acc).length ρ2 = some (rest, ρ')) ?_ ?_ ?_ ?_
  · refine ⟨F, ρ, [], xs0, zs, Ext.refl _ _, ?_, hFD, hclr, by rw [List.append_nil]; exact r0, rfl, by rw [List.append_nil]; simpa using e⟩
    rw [upd_self hWD]
    exact R
  · rintro i H hi ⟨F2, ρ2, acc, xs, rest, x2, R2, _⟩
    exact hG F2 H x2.same R2.fh fun b o u e => R2.wh b _ (hWf _ b o u e)
  · rintro i x H H' hi ⟨F2, ρ2, acc, xs, rest, x2, R2, hFD2, hclr2, rxs, ez, e3⟩ y
    have hdi : ds[i]? = some ds[i] := List.getElem?_eq_getElem hi
    obtain ⟨F3, g3, rp⟩ := hY i _ F2 H H' x x2.same R2.fh hdi y
    rw [List.drop_eq_getElem_cons hi] at e3
    simp only [lcL, Option.bind_eq_some_iff, Prod.exists] at e3
    obtain ⟨ρ3, e4, b, ρ4, e5, e6⟩ := e3
    have R3 := (R2.grow g3).toWipe hclr2
    have x3 := g3.ext R2.wh
    refine ⟨P, _, F3, ρ2, ds[i], ρ3, R3, rp, e4, fun σ4 H4 F4 x4 R4 of4 => ?_⟩
    have hw4 : wipe σ4 vs = wipe σ vs := (wipe_eq of4 hu).trans wipe_wipe
    refine ⟨hw4, P, _, F4, ρ3, b, ρ4, R4, e5, fun H5 F5 x5 R5 => ?_⟩
    cases b with
    | false =>
      simp only [Bool.false_eq_true, if_false] at e6 ⊢
      have x25 := (x3.trans x4).trans x5
      refine ⟨F5, wipeR ρ4 vs, acc, xs, rest, x2.trans (hEx x25), R5.wiped hw4 hp, ?_, clear_wipeR, rxs.mono (Le.of x25.same), ez, e6⟩
      rw [x25.off D (by rw [upd_same]; exact fun z => nomatch z)]; exact hFD2
    | true =>
      simp only [if_true, Option.bind_eq_some_iff, Prod.exists] at e6 ⊢
      obtain ⟨r, ρ5, e7, z, ρ6, e8, e9⟩ := e6
      split at e9
      case isFalse => cases e9
      rename_i hlen
      simp only [Option.bind_eq_some_iff, Prod.exists] at e9
      obtain ⟨zs', ρ7, e9, e10⟩ := e9
      cases e10
      refine ⟨P, _, F5, ρ4, r, ρ5, R5, e7, fun v H6 F6 x6 R6 o6 => ?_⟩
      obtain ⟨F7, x7, R7, rp7⟩ := R6.frz o6 e8
      have x27 := (((x3.trans x4).trans x5).trans x6).trans x7
      have hF7 : F7 D = none := by rw [x27.off D (by rw [upd_same]; exact fun z => nomatch z)]; exact hFD2
      refine ⟨xs, R7.wh D _ upd_same, by rw [rxs.length]; exact hlen, F7, wipeR ρ6 vs, acc ++ [z], xs ++ [v], zs', x2.trans (hEx x27), ?_, hF7, clear_wipeR, ?_, by rw [ez, List.append_assoc]; rfl, ?_⟩
      · have := (R7.kept (o' := .lst (xs ++ [v])) hF7).wiped hw4 hp
        exact this
      · rw [← List.append_assoc]
        exact (rxs.mono (Le.of x27.same)).append (.cons rp7 .nil)
      · rw [← List.append_assoc, List.length_append]
        exact e9
  · rintro H ⟨F2, ρ2, acc, xs, rest, x2, R2, hFD2, hclr2, rxs, ez, e3⟩
    rw [List.drop_length] at e3
    cases e3
    rw [List.append_nil] at ez
    subst ez
    exact hd H F2 xs x2 R2 hFD2 rxs
end
section
variable (g : SemG) (t : SemT) (it1 : SemI) (g1 : SemG) (t1 : SemT) (el : SemE) (vs vs1 : List Nat)
def lc2L : List D → Nat → Ro → Option (List D × Ro)
  | [], _, ρ => some ([], ρ)
  | d :: ds, n, ρ => (g d ρ).bind fun ρ1 => (t ρ1).bind fun (b, ρ2) => if b = true then (it1 ρ2).bind fun (ds1, ρ3) => if clearAt ρ3 vs1 = true then (lcL g1 t1 el vs1 ds1 n ρ3).bind fun (zs, ρ4) => (lc2L ds (n + zs.length) (wipeR ρ4 vs)).bind fun (zs2, ρ5) => some (zs ++ zs2, ρ5) else none
    else lc2L ds n (wipeR ρ2 vs)
def sLc2 (it : SemI) : SemE := fun ρ => (it ρ).bind fun (ds, ρ1) => if clearAt ρ1 vs = true then (lc2L g t it1 g1 t1 el vs vs1 ds 0 ρ1).bind fun (zs, ρ2) => some (.fr (.list zs), ρ2) else none
end
section
variable {X : Cx}
theorem sLc2_ok {K : Fr'} {it it1 : SemI} {g g1 : SemG} {t t1 : SemT} {el : SemE} {us us1 vs vs1 : List Nat} (hu : ∀ i ∈ us, i ∈ vs) (hu1 : ∀ i ∈ us1, i ∈ vs1) {σ : St} {H : Hp} {Q : VK} (q : tD K (sLc2 g t it1 g1 t1 el vs vs1 it) σ H Q) : tLc2 (tDI K it) (tDG K us g) (tDT K t) (tDI K it1) (tDG K us1 g1) (tDT K t1) (tD K el) vs vs1 σ H Q := by
  obtain ⟨P, W, F, ρ, r, ρ', R, e, q⟩ := q
  simp only [sLc2, Option.bind_eq_some_iff, Prod.exists] at e
  obtain ⟨ds, ρ1, e1, e2⟩ := e
  split at e2
  case isFalse => cases e2
  rename_i hclr
  simp only [Option.bind_eq_some_iff, Prod.exists] at e2
  obtain ⟨zs, ρ2, e2, e3⟩ := e2
  cases e3
  refine ⟨P, W, F, ρ, ds, ρ1, R, e1, fun J H1 W1 F1 sw x1 R1 w => ?_⟩
  intro D hD
  obtain ⟨G, Y, w, hG, hY⟩ := w.ex
  have hWD : W1 D = none := by
    cases e : W1 D with
    | none => rfl
    | some u => have := R1.wh D u e; rw [hD] at this; cases this
  have hFD := R1.fh.none hD
  have hp := pin_off R1 hclr
  refine walk_it w (step := fun x H' Nx => tDG K us g x (wipe σ vs) H' fun σ2 H2 => wipe σ2 vs = wipe σ vs ∧ tDT K t σ2 H2 fun b H3 => _)
    (fun i H => ∃ F2 ρ2 acc xs rest, Ext W1 F1 F2 ∧ Rel K P (upd W1 D (.lst xs)) F2 H σ ρ2 ∧ F2 D = none ∧ clearAt ρ2 vs = true ∧ RpA K F2 xs acc ∧ zs = acc ++ rest ∧ lc2L g t it1 g1 t1 el vs vs1 (ds.drop i) acc.length ρ2 = some (rest, ρ')) ?_ ?_ ?_ ?_
  · refine ⟨F1, ρ1, [], [], zs, Ext.refl _ _, ?_, hFD, hclr, .nil, rfl, by simpa using e2⟩
    have R2 := R1.grow (Grow.heap R1.fh hD (.lst []))
    refine R2.protect upd_same hFD fun i c e ow es => ?_
    obtain ⟨v, hv, hk⟩ := R1.cell i c e
    rw [es] at hv; cases hv
    cases c with
    | val d => cases ow
    | own d => obtain ⟨b, eb, _, _, o⟩ := hk; cases eb; rw [hD] at o; exact o
    | byr d => obtain ⟨b, eb, _, _, o⟩ := hk; cases eb; rw [hD] at o; exact o
    | scr ds => cases ow
  · rintro i H hi ⟨F2, ρ2, acc, xs, rest, x2, R2, _⟩
    exact hG F2 H x2.same R2.fh (fun b o u e => R2.wh b _ (by rw [upd_ne (ne_of_none e hWD)]; exact e))
  · rintro i x H H' hi ⟨F2, ρ2, acc, xs, rest, x2, R2, hFD2, hclr2, rxs, ez, e3⟩ y
    have hd : ds[i]? = some ds[i] := List.getElem?_eq_getElem hi
    obtain ⟨F3, g3, rp⟩ := hY i _ F2 H H' x x2.same R2.fh hd y
    rw [List.drop_eq_getElem_cons hi] at e3
    simp only [lc2L, Option.bind_eq_some_iff, Prod.exists] at e3
    obtain ⟨ρ3, e4, b, ρ4, e5, e6⟩ := e3
    have R3 := (R2.grow g3).toWipe hclr2
    have x3 := g3.ext R2.wh
    refine ⟨P, _, F3, ρ2, ds[i], ρ3, R3, rp, e4, fun σ4 H4 F4 x4 R4 of4 => ?_⟩
    have hw4 : wipe σ4 vs = wipe σ vs := (wipe_eq of4 hu).trans wipe_wipe
    refine ⟨hw4, P, _, F4, ρ3, b, ρ4, R4, e5, fun H5 F5 x5 R5 => ?_⟩
    have x25 := (x3.trans x4).trans x5
    have hF5 : F5 D = none := by rw [x25.off D (by rw [upd_same]; exact fun z => nomatch z)]; exact hFD2
    cases b with
    | false =>
      simp only [Bool.false_eq_true, if_false] at e6 ⊢
      exact ⟨F5, wipeR ρ4 vs, acc, xs, rest, (x2.trans x25.un), R5.wiped hw4 hp, hF5, clear_wipeR, rxs.mono (Le.of x25.same), ez, e6⟩
    | true =>
      simp only [if_true, Option.bind_eq_some_iff, Prod.exists] at e6 ⊢
      obtain ⟨ds1, ρ5, e7, e8⟩ := e6
      split at e8
      case isFalse => cases e8
      rename_i hclr1
      simp only [Option.bind_eq_some_iff, Prod.exists] at e8
      obtain ⟨zs1, ρ6, e9, zs2, ρ7, e10, e11⟩ := e8
      cases e11
      refine ⟨P, _, F5, ρ4, ds1, ρ5, R5, e7, fun J1 H6 W6 F6 sw6 x6 R6 w6 => ?_⟩
      have hW6 : W6 D = some (.lst xs) := sw6 D _ upd_same
      have hF6 : F6 D = none := by rw [x6.off D (by rw [upd_same]; exact fun z => nomatch z)]; exact hF5
      refine lcl_it w6 R6 hW6 hF6 hclr1 (rxs.mono (Le.of (x25.trans x6).same)) e9 hu1 fun H8 F8 xs8 x8 R8 hF8 r8 => ?_
      have sw8 : Same (upd W1 D (.lst xs8)) (upd W6 D (.lst xs8)) := fun b u e => by
        by_cases hb : b = D
        · subst hb; rw [upd_same] at e ⊢; exact e
        · rw [upd_ne hb] at e ⊢; exact sw6 b u (by rw [upd_ne hb]; exact e)
      have x58 : Ext W1 F5 F8 := x6.un.trans ⟨x8.same, fun b e => x8.off b (by
        have : upd W1 D (.lst xs) b ≠ none := by
          by_cases hb : b = D
          · subst hb; rw [upd_same]; exact fun z => nomatch z
          · rw [upd_ne hb]; exact e
        exact Same.ne sw6 this)⟩
      exact ⟨F8, wipeR ρ6 vs, acc ++ zs1, xs8, zs2, (x2.trans x25.un).trans x58, (R8.lessW sw8).wiped hw4 hp, hF8, clear_wipeR, r8, by rw [ez, List.append_assoc], by rw [List.length_append]; exact e10⟩
  · rintro H ⟨F2, ρ2, acc, xs, rest, x2, R2, hFD2, hclr2, rxs, ez, e3⟩
    rw [List.drop_length] at e3
    cases e3
    rw [List.append_nil] at ez
    subst ez
    have own : OwnO K F2 (H D) (.list zs) := by
      rw [R2.wh D _ upd_same]
      exact rxs
    exact q _ H F2 (x1.trans (x2.less sw)) ((R2.unprotect hWD).lessW sw) (RvOk.lessW sw (r := .fr _) ⟨⟨D, rfl, hWD, hFD2, own⟩, R2.noown⟩)
theorem de_lc2 {elt tg iter tg1 iter1 : Expr} {ifs ifs1 : List Expr} {scope : Scope} {own : List (Str × Nat)} {vs1 : List Nat} {pos : Pos} {it it1 : SemI} {g g1 : SemG} {t t1 : SemT} {el : SemE} {us us1 : List Nat} (hi : DI X tg iter it) (ok : BlkOk X.N X.env.scope scope own)
    (hg : ∀ (s : Shared) (H : Hp) (C : Addr) (cl : List (Str × Addr)) (fp : List Addr), DG (X.blk s H scope (compEnvC scope cl C X.env) fp) tg us g) (ht : ∀ (s : Shared) (H : Hp) (C : Addr) (cl : List (Str × Addr)) (fp : List Addr), DTs (X.blk s H scope (compEnvC scope cl C X.env) fp) ifs t)
    (hi1 : ∀ (s : Shared) (H : Hp) (C : Addr) (cl : List (Str × Addr)) (fp : List Addr), DI (X.blk s H scope (compEnvC scope cl C X.env) fp) tg1 iter1 it1)
    (hg1 : ∀ (s : Shared) (H : Hp) (C : Addr) (cl : List (Str × Addr)) (fp : List Addr), DG (X.blk s H scope (compEnvC scope cl C X.env) fp) tg1 us1 g1) (ht1 : ∀ (s : Shared) (H : Hp) (C : Addr) (cl : List (Str × Addr)) (fp : List Addr), DTs (X.blk s H scope (compEnvC scope cl C X.env) fp) ifs1 t1)
    (he : ∀ (s : Shared) (H : Hp) (C : Addr) (cl : List (Str × Addr)) (fp : List Addr), DE (X.blk s H scope (compEnvC scope cl C X.env) fp) elt el) (hu : ∀ i ∈ us, i ∈ own.map (·.2)) (hu1 : ∀ i ∈ us1, i ∈ vs1) (hv : ∀ i ∈ vs1, i ∈ own.map (·.2)) (hc : X.calm = true) (hN : X.N.Nodup)
    (hs : ∀ x, foldedSetIterable iter X.env x = pure x := by intro _; rfl) (hs1 : ∀ env x, foldedSetIterable iter1 env x = pure x := by intro _ _; rfl) :
    DE X (.ListComp elt [⟨tg, iter, ifs, 0⟩, ⟨tg1, iter1, ifs1, 0⟩] scope pos) (sLc2 g t it1 g1 t1 el (own.map (·.2)) vs1 it) := by
  refine ⟨(pe_lc2 (g := tDG X.K us g) (tt := tDT X.K t) (wi1 := tDI X.K it1) (g1 := tDG X.K us1 g1) (tt1 := tDT X.K t1) (te := tD X.K el) hc hN hi.pi ok hv (fun s H C cl fp => (hg s H C cl fp).pg) (fun s H C cl fp => (ht s H C cl fp).pt) (fun s H C cl fp => (hi1 s H C cl fp).pi)
    (fun s H C cl fp => (hg1 s H C cl fp).pg) (fun s H C cl fp => (ht1 s H C cl fp).pt) (fun s H C cl fp => (he s H C cl fp).pe) hs hs1).pvi fun σ H Q q => sLc2_ok hu hu1 q⟩
theorem ds_setLc2 {elt tg iter tg1 iter1 : Expr} {ifs ifs1 : List Expr} {scope : Scope} {own : List (Str × Nat)} {vs1 : List Nat} {pos spos : Pos} {i : Nat} {y : Str} {py : Pos} {it it1 : SemI} {g g1 : SemG} {t t1 : SemT} {el : SemE} {us us1 : List Nat} (hy : X.N[i]? = some y) (hyl : X.env.scope.names.lookup y = some .local) (hsw : swapsWith (.ListComp elt [⟨tg, iter, ifs, 0⟩, ⟨tg1, iter1, ifs1, 0⟩] scope pos) (some (.Name y py)) spos.line X.env = pure true) (hi : DI X tg iter it) (ok : BlkOk X.N X.env.scope scope own)
    (hg : ∀ (s : Shared) (H : Hp) (C : Addr) (cl : List (Str × Addr)) (fp : List Addr), DG (X.blk s H scope (compEnvC scope cl C X.env) fp) tg us g) (ht : ∀ (s : Shared) (H : Hp) (C : Addr) (cl : List (Str × Addr)) (fp : List Addr), DTs (X.blk s H scope (compEnvC scope cl C X.env) fp) ifs t)
    (hi1 : ∀ (s : Shared) (H : Hp) (C : Addr) (cl : List (Str × Addr)) (fp : List Addr), DI (X.blk s H scope (compEnvC scope cl C X.env) fp) tg1 iter1 it1)
    (hg1 : ∀ (s : Shared) (H : Hp) (C : Addr) (cl : List (Str × Addr)) (fp : List Addr), DG (X.blk s H scope (compEnvC scope cl C X.env) fp) tg1 us1 g1) (ht1 : ∀ (s : Shared) (H : Hp) (C : Addr) (cl : List (Str × Addr)) (fp : List Addr), DTs (X.blk s H scope (compEnvC scope cl C X.env) fp) ifs1 t1)
    (he : ∀ (s : Shared) (H : Hp) (C : Addr) (cl : List (Str × Addr)) (fp : List Addr), DE (X.blk s H scope (compEnvC scope cl C X.env) fp) elt el) (hu : ∀ i ∈ us, i ∈ own.map (·.2)) (hu1 : ∀ i ∈ us1, i ∈ vs1) (hv : ∀ i ∈ vs1, i ∈ own.map (·.2)) (hc : X.calm = true) (hN : X.N.Nodup)
    (hs : ∀ x, foldedSetIterable iter X.env x = pure x := by intro _; rfl) (hs1 : ∀ env x, foldedSetIterable iter1 env x = pure x := by intro _ _; rfl) :
    DS X (.Assign [.Name y py] (.ListComp elt [⟨tg, iter, ifs, 0⟩, ⟨tg1, iter1, ifs1, 0⟩] scope pos) spos) (sSet i (sLc2 g t it1 g1 t1 el (own.map (·.2)) vs1 it)) := by
  refine ⟨(ps_setLc2 (g := tDG X.K us g) (tt := tDT X.K t) (wi1 := tDI X.K it1) (g1 := tDG X.K us1 g1) (tt1 := tDT X.K t1) (te := tD X.K el) hc hN hy hyl hsw hi.pi ok hv (fun s H C cl fp => (hg s H C cl fp).pg) (fun s H C cl fp => (ht s H C cl fp).pt) (fun s H C cl fp => (hi1 s H C cl fp).pi)
    (fun s H C cl fp => (hg1 s H C cl fp).pg) (fun s H C cl fp => (ht1 s H C cl fp).pt) (fun s H C cl fp => (he s H C cl fp).pe) hs hs1).pvi fun D σ H q => sLc2_ok hu hu1 (sSet_ok q)⟩
end

/-! ### dict comprehensions -/
section
variable (g : SemG) (t : SemT) (kf vf : SemE) (vs : List Nat)
def dcL : List D → List (D × D) → Ro → Option (List (D × D) × Ro)
  | [], es, ρ => some (es, ρ)
  | d :: ds, es, ρ => (g d ρ).bind fun ρ1 => (t ρ1).bind fun (b, ρ2) => if b = true then (kf ρ2).bind fun (r, ρ3) => (frz ρ3 r).bind fun (kd, ρ4) => (keyOf kd).bind fun k => (vf ρ4).bind fun (r2, ρ5) => (frz ρ5 r2).bind fun (z, ρ6) => if es.length < sizeLine then dcL ds (dput es k z) (wipeR ρ6 vs) else none
    else dcL ds es (wipeR ρ2 vs)
def sDc (it : SemI) : SemE := fun ρ => (it ρ).bind fun (ds, ρ1) => if clearAt ρ1 vs = true then (dcL g t kf vf vs ds [] ρ1).bind fun (es, ρ2) => some (.fr (.dict es), ρ2) else none
end
section
variable {X : Cx}
theorem de_dc {kx vx tg iter : Expr} {ifs : List Expr} {scope : Scope} {own : List (Str × Nat)} {pos : Pos} {it : SemI} {g : SemG} {t : SemT} {kf vf : SemE} {us : List Nat} (hi : DI X tg iter it) (ok : BlkOk X.N X.env.scope scope own)
    (hg : ∀ (s : Shared) (H : Hp) (C : Addr) (cl : List (Str × Addr)) (fp : List Addr), DG (X.blk s H scope (compEnvC scope cl C X.env) fp) tg us g) (ht : ∀ (s : Shared) (H : Hp) (C : Addr) (cl : List (Str × Addr)) (fp : List Addr), DTs (X.blk s H scope (compEnvC scope cl C X.env) fp) ifs t)
    (hk : ∀ (s : Shared) (H : Hp) (C : Addr) (cl : List (Str × Addr)) (fp : List Addr), DE (X.blk s H scope (compEnvC scope cl C X.env) fp) kx kf) (he : ∀ (s : Shared) (H : Hp) (C : Addr) (cl : List (Str × Addr)) (fp : List Addr), DE (X.blk s H scope (compEnvC scope cl C X.env) fp) vx vf)
    (hu : ∀ i ∈ us, i ∈ own.map (·.2)) (hc : X.calm = true) (hN : X.N.Nodup) (hs : ∀ x, foldedSetIterable iter X.env x = pure x := by intro _; rfl) :
    DE X (.DictComp kx vx [⟨tg, iter, ifs, 0⟩] scope pos) (sDc g t kf vf (own.map (·.2)) it) := by
  refine ⟨(pe_dc (g := tDG X.K us g) (tt := tDT X.K t) (tk := tD X.K kf) (tv := tD X.K vf) hc hN hi.pi ok (fun s H C cl fp => (hg s H C cl fp).pg) (fun s H C cl fp => (ht s H C cl fp).pt) (fun s H C cl fp => (hk s H C cl fp).pe) (fun s H C cl fp => (he s H C cl fp).pe) hs).pvi fun σ H Q q => ?_⟩
  generalize hvs : own.map (·.2) = vs at *
  obtain ⟨P, W, F, ρ, r, ρ', R, e, q⟩ := q
  simp only [sDc, Option.bind_eq_some_iff, Prod.exists] at e
  obtain ⟨ds, ρ1, e1, e2⟩ := e
  split at e2
  case isFalse => cases e2
  rename_i hclr
  simp only [Option.bind_eq_some_iff, Prod.exists] at e2
  obtain ⟨zs, ρ2, e2, e3⟩ := e2
  cases e3
  refine ⟨P, W, F, ρ, ds, ρ1, R, e1, fun J H1 W1 F1 sw x1 R1 w => ?_⟩
  intro D hD
  obtain ⟨G, Y, w, hG, hY⟩ := w.ex
  have hWD : W1 D = none := by
    cases e : W1 D with
    | none => rfl
    | some u => have := R1.wh D u e; rw [hD] at this; cases this
  have hFD := R1.fh.none hD
  have hp := pin_off R1 hclr
  refine walk_it w (step := fun x H' Nx => tDG X.K us g x (wipe σ vs) H' fun σ2 H2 => wipe σ2 vs = wipe σ vs ∧ tDT X.K t σ2 H2 fun b H3 => _)
    (fun i H => ∃ F2 ρ2 es kvs, Ext W1 F1 F2 ∧ Rel X.K P (upd W1 D (.dK kvs)) F2 H σ ρ2 ∧ F2 D = none ∧ clearAt ρ2 vs = true ∧ RpD X.K F2 kvs es ∧ dcL g t kf vf vs (ds.drop i) es ρ2 = some (zs, ρ')) ?_ ?_ ?_ ?_
  · refine ⟨F1, ρ1, [], [], Ext.refl _ _, ?_, hFD, hclr, .nil, by simpa using e2⟩
    have R2 := R1.grow (Grow.heap R1.fh hD (.dK []))
    refine R2.protect upd_same hFD fun i c e ow es => ?_
    obtain ⟨v, hv, hk⟩ := R1.cell i c e
    rw [es] at hv; cases hv
    cases c with
    | val d => cases ow
    | own d => obtain ⟨b, eb, _, _, o⟩ := hk; cases eb; rw [hD] at o; exact o
    | byr d => obtain ⟨b, eb, _, _, o⟩ := hk; cases eb; rw [hD] at o; exact o
    | scr ds => cases ow
  · rintro i H hi ⟨F2, ρ2, es, kvs, x2, R2, _⟩
    exact hG F2 H x2.same R2.fh (fun b o u e => R2.wh b _ (by rw [upd_ne (ne_of_none e hWD)]; exact e))
  · rintro i x H H' hi ⟨F2, ρ2, es, kvs, x2, R2, hFD2, hclr2, rxs, e3⟩ y
    have hd : ds[i]? = some ds[i] := List.getElem?_eq_getElem hi
    obtain ⟨F3, g3, rp⟩ := hY i _ F2 H H' x x2.same R2.fh hd y
    rw [List.drop_eq_getElem_cons hi] at e3
    simp only [dcL, Option.bind_eq_some_iff, Prod.exists] at e3
    obtain ⟨ρ3, e4, b, ρ4, e5, e6⟩ := e3
    have R3 := (R2.grow g3).toWipe hclr2
    have x3 := g3.ext R2.wh
    refine ⟨P, _, F3, ρ2, ds[i], ρ3, R3, rp, e4, fun σ4 H4 F4 x4 R4 of4 => ?_⟩
    have hw4 : wipe σ4 vs = wipe σ vs := (wipe_eq of4 hu).trans wipe_wipe
    refine ⟨hw4, P, _, F4, ρ3, b, ρ4, R4, e5, fun H5 F5 x5 R5 => ?_⟩
    cases b with
    | false =>
      simp only [Bool.false_eq_true, if_false] at e6 ⊢
      have x25 := (x3.trans x4).trans x5
      refine ⟨F5, wipeR ρ4 vs, es, kvs, (x2.trans x25.un), R5.wiped hw4 hp, ?_, clear_wipeR, rxs.mono (Le.of x25.same), e6⟩
      rw [x25.off D (by rw [upd_same]; exact fun z => nomatch z)]; exact hFD2
    | true =>
      simp only [if_true, Option.bind_eq_some_iff, Prod.exists] at e6 ⊢
      obtain ⟨r, ρ5, e7, kd, ρ6, e8, k, e9, r2, ρ7, e10, z, ρ8, e11, e12⟩ := e6
      split at e12
      case isFalse => cases e12
      rename_i hlen
      refine ⟨P, _, F5, ρ4, r, ρ5, R5, e7, fun y H6 F6 x6 R6 o6 => ?_⟩
      obtain ⟨F7, x7, R7, rp7⟩ := R6.frz o6 e8
      refine ⟨P, _, F7, ρ6, r2, ρ7, R7, e10, fun v H8 F8 x8 R8 o8 => ?_⟩
      obtain ⟨F9, x9, R9, rp9⟩ := R8.frz o8 e11
      have x29 := (((((x3.trans x4).trans x5).trans x6).trans x7).trans x8).trans x9
      have hF9 : F9 D = none := by rw [x29.off D (by rw [upd_same]; exact fun z => nomatch z)]; exact hFD2
      have rk := rxs.mono (Le.of x29.same)
      exact ⟨kvs, k, keyOf_kV (F := F7) (H := H6) (.inl rp7) e9, R9.wh D _ upd_same, by rw [rk.length]; exact hlen, F9, wipeR ρ8 vs, dput es k z, putK kvs k v, x2.trans x29.un, (R9.kept hF9).wiped hw4 hp, hF9, clear_wipeR, rk.put rp9, e12⟩
  · rintro H ⟨F2, ρ2, es, kvs, x2, R2, hFD2, hclr2, rxs, e3⟩
    rw [List.drop_length] at e3
    cases e3
    have own : OwnO X.K F2 (H D) (.dict zs) := by
      rw [R2.wh D _ upd_same]
      exact rxs
    exact q _ H F2 (x1.trans (x2.less sw)) ((R2.unprotect hWD).lessW sw) (RvOk.lessW sw (r := .fr _) ⟨⟨D, rfl, hWD, hFD2, own⟩, R2.noown⟩)
/-- {} -/
def sDct0 : SemE := fun ρ => some (.fr (.dict []), ρ)
theorem de_dct0 {pos : Pos} : DE X (.Dict [] [] pos) sDct0 := by
  refine ⟨pe_dnewK.pvi fun σ H Q q => ?_⟩
  obtain ⟨P, W, F, ρ, r, ρ', R, e, q⟩ := q
  cases e
  intro p hp
  exact (post_of (zb := (.dict [], true)) R fun v H' F' x R' o => q v H' F' x R' o).dct R.fh .nil p hp
end

/-! ### a, b = e, f -/
def sPar (i j : Nat) (f : SemM) : SemS := fun ρ => (f ρ).bind fun (rs, ρ1) => match rs with
  | [.val a, .val b] => (store i (.val a) ρ1).bind fun ρ2 => (store j (.val b) ρ2).bind fun ρ3 => some (.nx ρ3)
  | [.val a, .fr b] => (store i (.val a) ρ1).bind fun ρ2 => (store j (.fr b) ρ2).bind fun ρ3 => some (.nx ρ3)
  | [.fr a, .val b] => (store i (.fr a) ρ1).bind fun ρ2 => (store j (.val b) ρ2).bind fun ρ3 => some (.nx ρ3)
  | [.fr a, .fr b] => (store i (.fr a) ρ1).bind fun ρ2 => (store j (.fr b) ρ2).bind fun ρ3 => some (.nx ρ3)
  | _ => none
section
variable {X : Cx}
theorem store_na {K : Fr'} {P : List (Nat × Addr)} {W F H : Hp} {σ : St} {ρ ρ' : Ro} {i : Nat} {v : V} {r : Rv} (R : Rel K P W F H σ ρ) (hr : ∀ k, r ≠ .at k) (ho : RvOk K W F H σ ρ r v) (e : store i r ρ = some ρ') :
    Rel K P W F H (σ.set i (some v)) ρ' ∧ i < σ.length ∧ ∃ c : Cell, ρ' = ρ.set i (some c) ∧ (c.owned = true → ∃ d, r = .fr d) := by
  unfold Pv.store at e
  split at e
  · next hs =>
    have hl := slot_lt hs
    have hl2 : i < σ.length := by rw [R.len]; exact hl
    cases r with
    | val d => cases e; exact ⟨R.setVal (slot_pin R hs) ho hl, hl2, _, rfl, fun z => by cases z⟩
    | fr d => cases e; exact ⟨R.setOwn (slot_pin R hs) ho hl, hl2, _, rfl, fun _ => ⟨d, rfl⟩⟩
    | «at» k => exact absurd rfl (hr k)
  · cases e
theorem mok2 {K : Fr'} {W F H : Hp} {σ : St} {ρ : Ro} {r1 r2 : Rv} (n1 : ∀ k, r1 ≠ .at k) (n2 : ∀ k, r2 ≠ .at k) : ∀ {ms : List Md} {vs : List V}, MOk K W F H σ ρ ms [r1, r2] vs → ∃ v w, vs = [v, w] ∧ RvOk K W F H σ ρ r1 v ∧ RvOk K W F H σ ρ r2 w ∧ (∀ d e, r1 = .fr d → r2 = .fr e → v ≠ w) := by
  intro ms vs m
  have one : ∀ {m1 : Md} {ms : List Md} {r : Rv} {rs : List Rv} {v : V} {vs : List V}, (∀ k, r ≠ .at k) → MOk K W F H σ ρ (m1 :: ms) (r :: rs) (v :: vs) → RvOk K W F H σ ρ r v ∧ MOk K W F H σ ρ ms rs vs ∧ (∀ d, r = .fr d → v ∉ frV ms rs vs ∧ m1 = .r) := by
    intro m1 ms r rs v vs n m
    cases r with
    | «at» k => exact absurd rfl (n k)
    | val d =>
      cases m1 with
      | v => exact ⟨m.1, m.2, fun _ z => by cases z⟩
      | r => exact m.elim
      | s => exact m.elim
    | fr d =>
      cases m1 with
      | v => exact m.elim
      | r => exact ⟨⟨m.1, m.2.1⟩, m.2.2.2, fun _ _ => ⟨m.2.2.1, rfl⟩⟩
      | s => exact m.elim
  cases ms with
  | nil => cases vs <;> exact m.elim
  | cons m1 ms =>
  cases vs with
  | nil => cases m1 <;> cases r1 <;> exact m.elim
  | cons v vs =>
  obtain ⟨h1, m, k1⟩ := one n1 m
  cases ms with
  | nil => cases vs <;> exact m.elim
  | cons m2 ms =>
  cases vs with
  | nil => cases m2 <;> cases r2 <;> exact m.elim
  | cons w vs =>
  obtain ⟨h2, m, k2⟩ := one n2 m
  cases ms with
  | cons m3 ms => cases vs <;> cases m3 <;> exact m.elim
  | nil =>
  cases vs with
  | cons _ _ => exact m.elim
  | nil =>
  refine ⟨v, w, rfl, h1, h2, fun d e z1 z2 z => ?_⟩
  have q := (k1 d z1).1
  have e2 := (k2 e z2).2
  subst e2
  subst z2
  exact q (by rw [z]; exact List.mem_cons_self)
theorem ds_par {i j : Nat} {x y : Str} {a b : Expr} {ms : List Md} {f : SemM} {px py pt pos : Pos} {kt k2 pt2} (hc : X.calm = true) (hN : X.N.Nodup) (hi : X.N[i]? = some x) (hj : X.N[j]? = some y) (hij : i ≠ j)
    (hx : X.env.scope.names.lookup x = some .local) (hy : X.env.scope.names.lookup y = some .local) (ha : DM X [a, b] ms f)
    (hw : swappedStores [.Tuple [.Name x px, .Name y py] kt pt] (.Tuple [a, b] k2 pt2) X.env = pure (some [x, y]))
    (hs : swapsWithSole [.Tuple [.Name x px, .Name y py] kt pt] (.Tuple [a, b] k2 pt2) pos.line X.env = pure false := by rfl) :
    DS X (.Assign [.Tuple [.Name x px, .Name y py] kt pt] (.Tuple [a, b] k2 pt2) pos) (sPar i j f) := by
  refine ⟨(ps_par hc hN hi hj hij hx hy ha.pa hw hs).pvi fun D σ H q => ?_⟩
  obtain ⟨P, W, F, ρ, o, R, e, q⟩ := q
  simp only [sPar, Option.bind_eq_some_iff, Prod.exists] at e
  obtain ⟨rs, ρ1, e1, e2⟩ := e
  refine ⟨P, W, F, ρ, rs, ρ1, R, e1, fun vs H1 F1 x1 R1 m => ?_⟩
  have main : ∀ (r1 r2 : Rv) (v w : V), (∀ k, r1 ≠ .at k) → (∀ k, r2 ≠ .at k) → RvOk X.K W F1 H1 σ ρ1 r1 v → RvOk X.K W F1 H1 σ ρ1 r2 w → (∀ d e, r1 = .fr d → r2 = .fr e → v ≠ w) → ((store i r1 ρ1).bind fun ρ2 => (store j r2 ρ2).bind fun ρ3 => some (Out.nx ρ3)) = some o →
      D.nx ((σ.set i (some v)).set j (some w)) H1 := by
    intro r1 r2 v w n1 n2 o1 o2 hne e
    simp only [Option.bind_eq_some_iff] at e
    obtain ⟨ρ2, e3, ρ3, e4, e5⟩ := e
    cases e5
    obtain ⟨R2, hl, c, ec, hown⟩ := store_na R1 n1 o1 e3
    have o2' : RvOk X.K W F1 H1 (σ.set i (some v)) ρ2 r2 w := by
      cases r2 with
      | val d => exact o2
      | «at» k => exact absurd rfl (n2 k)
      | fr d =>
        refine ⟨o2.1, fun k e he ow => ?_⟩
        rw [ec] at he
        rcases set_get he with ⟨rfl, z⟩ | ⟨hk, z⟩
        · cases z
          obtain ⟨d1, hd1⟩ := hown ow
          rw [List.getElem?_set_self hl]
          exact fun z => hne d1 d hd1 rfl (Option.some.inj (Option.some.inj z))
        · rw [List.getElem?_set_ne (fun z => hk z.symm)]
          exact o2.2 k e z ow
    obtain ⟨R3, _⟩ := store_na R2 n2 o2' e4
    exact q _ H1 F1 x1 R3
  have go : ∀ (r1 r2 : Rv), (∀ k, r1 ≠ .at k) → (∀ k, r2 ≠ .at k) → MOk X.K W F1 H1 σ ρ1 ms [r1, r2] vs → ((store i r1 ρ1).bind fun ρ2 => (store j r2 ρ2).bind fun ρ3 => some (Out.nx ρ3)) = some o → ∃ v w, vs = [v, w] ∧ D.nx ((σ.set i (some v)).set j (some w)) H1 := by
    intro r1 r2 n1 n2 m e
    obtain ⟨v, w, rfl, o1, o2, ne⟩ := mok2 n1 n2 m
    exact ⟨v, w, rfl, main r1 r2 v w n1 n2 o1 o2 ne e⟩
  split at e2
  · exact go _ _ (fun _ z => by cases z) (fun _ z => by cases z) m e2
  · exact go _ _ (fun _ z => by cases z) (fun _ z => by cases z) m e2
  · exact go _ _ (fun _ z => by cases z) (fun _ z => by cases z) m e2
  · exact go _ _ (fun _ z => by cases z) (fun _ z => by cases z) m e2
  · cases e2
/-- the same where the names may stand in cells: the pair is made and taken apart -/
theorem ds_par2 {i j : Nat} {x y : Str} {a b : Expr} {ms : List Md} {f : SemM} {px py pt pos : Pos} {kt k2 pt2} (hc : X.calm = true) (hN : X.N.Nodup) (hi : X.N[i]? = some x) (hj : X.N[j]? = some y)
    (hx : Loc X.env.scope x) (hy : Loc X.env.scope y) (ha : DM X [a, b] ms f)
    (hs : swapsWithSole [.Tuple [.Name x px, .Name y py] kt pt] (.Tuple [a, b] k2 pt2) pos.line X.env = pure false := by rfl) (hw : swappedStores [.Tuple [.Name x px, .Name y py] kt pt] (.Tuple [a, b] k2 pt2) X.env = pure none := by rfl)
    (h1 : (assignEach [.Tuple [.Name x px, .Name y py] kt pt] X.env).map (·.2) = [assign (.Tuple [.Name x px, .Name y py] kt pt) X.env] := by rfl)
    (hn : (assignEach [.Name x px, .Name y py] X.env).length = 2 := by rfl) (hst : (assignEach [.Name x px, .Name y py] X.env).findIdx? (·.1) = none := by rfl)
    (hs1 : (assignEach [.Name x px, .Name y py] X.env).map (·.2) = assign (.Name x px) X.env :: (assignEach [.Name y py] X.env).map (·.2) := by rfl) (hs2 : (assignEach [.Name y py] X.env).map (·.2) = assign (.Name y py) X.env :: (assignEach [] X.env).map (·.2) := by rfl)
    (hf1 : X.fn x = true ∨ X.env.scope.names.lookup x = some .local := by first | exact .inl rfl | exact .inr rfl) (hf2 : X.fn y = true ∨ X.env.scope.names.lookup y = some .local := by first | exact .inl rfl | exact .inr rfl) :
    DS X (.Assign [.Tuple [.Name x px, .Name y py] kt pt] (.Tuple [a, b] k2 pt2) pos) (sPar i j f) := by
  refine ⟨(ps_asg (pe_tup ha.pa) (pg_tup hc (pgs_cons (pg_name hN hi hx hf1) (pgs_cons (pg_name hN hj hy hf2) pgs_nil hs2) hs1) hn hst) hs hw h1).pvi fun D σ H q => ?_⟩
  obtain ⟨P, W, F, ρ, o, R, e, q⟩ := q
  simp only [sPar, Option.bind_eq_some_iff, Prod.exists] at e
  obtain ⟨rs, ρ1, e1, e2⟩ := e
  refine ⟨P, W, F, ρ, rs, ρ1, R, e1, fun vs H1 F1 x1 R1 m => ?_⟩
  have main : ∀ (r1 r2 : Rv) (v w : V), (∀ k, r1 ≠ .at k) → (∀ k, r2 ≠ .at k) → RvOk X.K W F1 H1 σ ρ1 r1 v → RvOk X.K W F1 H1 σ ρ1 r2 w → (∀ d e, r1 = .fr d → r2 = .fr e → v ≠ w) → ((store i r1 ρ1).bind fun ρ2 => (store j r2 ρ2).bind fun ρ3 => some (Out.nx ρ3)) = some o →
      ∀ p, H1 p = none → D.nx ((σ.set i (some v)).set j (some w)) (upd H1 p (.tup [v, w])) := by
    intro r1 r2 v w n1 n2 o1 o2 hne e p hp
    simp only [Option.bind_eq_some_iff] at e
    obtain ⟨ρ2, e3, ρ3, e4, e5⟩ := e
    cases e5
    obtain ⟨R2, hl, c, ec, hown⟩ := store_na R1 n1 o1 e3
    have o2' : RvOk X.K W F1 H1 (σ.set i (some v)) ρ2 r2 w := by
      cases r2 with
      | val d => exact o2
      | «at» k => exact absurd rfl (n2 k)
      | fr d =>
        refine ⟨o2.1, fun k e he ow => ?_⟩
        rw [ec] at he
        rcases set_get he with ⟨rfl, z⟩ | ⟨hk, z⟩
        · cases z
          obtain ⟨d1, hd1⟩ := hown ow
          rw [List.getElem?_set_self hl]
          exact fun z => hne d1 d hd1 rfl (Option.some.inj (Option.some.inj z))
        · rw [List.getElem?_set_ne (fun z => hk z.symm)]
          exact o2.2 k e z ow
    obtain ⟨R3, _⟩ := store_na R2 n2 o2' e4
    exact q _ _ F1 x1 (R3.grow (Grow.heap R3.fh hp (.tup [v, w])))
  have go : ∀ (r1 r2 : Rv), (∀ k, r1 ≠ .at k) → (∀ k, r2 ≠ .at k) → MOk X.K W F1 H1 σ ρ1 ms [r1, r2] vs → ((store i r1 ρ1).bind fun ρ2 => (store j r2 ρ2).bind fun ρ3 => some (Out.nx ρ3)) = some o →
      vs.length ≤ sizeLine ∧ ∀ p, H1 p = none → gTup X.K 2 (gCons (gName i) (gCons (gName j) gNil)) (.ref p) σ (upd H1 p (.tup vs)) D.nx := by
    intro r1 r2 n1 n2 m e
    obtain ⟨v, w, rfl, o1, o2, ne⟩ := mok2 n1 n2 m
    exact ⟨by show 2 ≤ sizeLine; decide, fun p hp => ⟨p, [v, w], rfl, .inl (.inl upd_same), rfl, v, [w], rfl, w, [], rfl, rfl, main r1 r2 v w n1 n2 o1 o2 ne e p hp⟩⟩
  split at e2
  · exact go _ _ (fun _ z => by cases z) (fun _ z => by cases z) m e2
  · exact go _ _ (fun _ z => by cases z) (fun _ z => by cases z) m e2
  · exact go _ _ (fun _ z => by cases z) (fun _ z => by cases z) m e2
  · exact go _ _ (fun _ z => by cases z) (fun _ z => by cases z) m e2
  · cases e2
end
end Pv
end
section
set_option Elab.async false
set_option linter.all false
set_option maxRecDepth 100000
set_option maxHeartbeats 1000000
/-! PvO: methods that look, dict.update, op=. -/
namespace Pv
open PySem PySem.Spec PyProof.Rows L2 PySem.W

/-! ### methods that only look -/
abbrev OpL := D → List D → Option (D × Bool)
def rL (K : Fr') (o : OpL) : V → List V → Hp → VK → Prop := fun x vs H Q => ∃ F d ds zb, Le F H ∧ Lk K F H x d ∧ RpA K F vs ds ∧ o d ds = some zb ∧ Post K F H Q zb
def sMeth (T : String) (o : OpL) (f : SemE) (g : SemA) : SemE := fun ρ => (f ρ).bind fun (r, ρ1) => (look ρ1 (settle r)).bind fun d0 => if kindB T d0 = true then (g ρ1).bind fun (ds, ρ2) => (look ρ2 (settle r)).bind fun d => (o d ds).bind fun zb => some (mkR zb, ρ2) else none
theorem kind_lk {K : Fr'} {F H : Hp} {v : V} {d : D} (l : Le F H) (lk : Lk K F H v d) (h : kindB "list" d = true) : tyV K "list" v H := by
  unfold kindB at h
  split at h
  · obtain ⟨a, xs, rfl, ha, _⟩ := lk.list l
    exact .inl ⟨rfl, xs, .inl (.inl ha)⟩
  · next z => exact absurd z (by decide)
  · cases h
section
variable {X : Cx} {e : Expr} {es : List Expr} {name x : Str} {apos cpos pos npos : Pos} {id : String} {i : Nat} {o : OpL} {f : SemE} {g : SemA} {e0 : Expr}
theorem de_meth (slot : Slot "list" name id) (hty : typeOf (.builtin id) = pure (.type "method_descriptor")) (hm : MtR X id (rL X.K o)) (hx : DE X e0 f) (ha : DA X (e :: es) g)
    (hbase : attributeBase e0 name X.env (eval e0 X.env) = eval e0 X.env := by rfl)
    (hfew : ((backTo cpos (starEach (e :: es) X.env)).all (fun x => !x.1) && (backToKw cpos (keywordEach [] X.env)).all (fun x => x.1.isSome)
      && decide ((e :: es).length + ([] : List Keyword).length + (if ([] : List Keyword).isEmpty then 0 else 1) < 30)) = true := by rfl)
    (hline : (apos.endLine == cpos.line) = true := by rfl) (hs : starEach (e :: es) X.env = (false, eval e X.env) :: starEach es X.env := by rfl) (hplain : (backTo cpos (starEach es X.env)).any (·.1) = false := by rfl) :
    DE X (.Call (.Attribute e0 name apos) (e :: es) [] cpos) (sMeth "list" o f g) := by
  refine ⟨(pe_bm (apos := apos) (cpos := cpos) PySem.F.plainAttrs_list slot hty hm hx.pe ha.pa hbase hfew hline hs hplain).pvi fun σ H Q q => ?_⟩
  obtain ⟨P, W, F, ρ, r, ρ', R, ev, q⟩ := q
  simp only [sMeth, Option.bind_eq_some_iff, Prod.exists] at ev
  obtain ⟨r1, ρ1, e1, d0, e2, e3⟩ := ev
  split at e3
  · next hk =>
    simp only [Option.bind_eq_some_iff, Prod.exists] at e3
    obtain ⟨ds, ρ2, e4, d, e5, z, b, e6, e7⟩ := e3
    cases e7
    refine ⟨P, W, F, ρ, r1, ρ1, R, e1, fun v H1 F1 x1 R1 o1 => ?_⟩
    obtain ⟨F2, x2, R2, o2⟩ := R1.settle o1
    refine ⟨kind_lk R2.fh (R2.lk o2 e2) hk, P, W, F2, ρ1, ds, _, R2, e4, fun vs H3 F3 x3 R3 rp => ?_⟩
    exact ⟨F3, d, ds, (z, b), R3.fh, lk_later o2 x3.same R3 d e5, rp, e6, post_of R3 fun v H' F' x4 R4 o4 => q v H' F' (((x1.trans x2).trans x3).trans x4) R4 o4⟩
  · cases e3
def indexL : OpL
  | .list ds, [d] => if (SeqAt.shaped (.list ds) && SeqAt.shaped d) = true then (ds.findIdx? fun z => PyData.eqv z d).map fun j => (.int (j : Nat), false) else none
  | _, _ => none
theorem mt_indexL (hu : X.A.units + 65 < cLine) : MtR X "list.index" (rL X.K indexL) := by
  intro pins s σ H x xs v us Q I rx rs h
  obtain ⟨F, d, ds, zb, l, lk, rp, e, q⟩ := h
  unfold indexL at e
  split at e
  · next dl dd =>
    split at e
    · next hsh =>
      rw [Bool.and_eq_true] at hsh
      simp only [Option.map_eq_some_iff] at e
      obtain ⟨j, hj, e2⟩ := e
      cases e2
      obtain ⟨hlt, hz, hno⟩ := List.findIdx?_eq_some_iff_getElem.mp hj
      obtain ⟨a, ys, rfl, ha, ry⟩ := lk.list l
      cases rp with | cons r0 rn =>
      cases rn
      have p1 := plain_canLay _ (SeqAt.canLay_of_shaped hsh.1)
      have p2 := plain_canLay _ (SeqAt.canLay_of_shaped hsh.2)
      refine mt_indexD hu pins s σ H _ _ v us Q I rx rs ⟨a, _, dd, dl, j, dl[j], rfl, rfl, (lk.rp l).dp p1, (r0.mono l).dp p2, hsh.1, hsh.2, List.getElem?_eq_getElem hlt, hz, fun m z' hm hz' => ?_, q.old l (.int _)⟩
      have := hno m hm
      obtain ⟨h1, h2⟩ := List.getElem?_eq_some_iff.mp hz'
      rw [← h2]
      simpa using this
    · cases e
  · cases e

/-! ### d.update(e) -/
def dmerge (es fs : List (D × D)) : Option (List (D × D)) := match fs with
  | [] => some es
  | (k, d) :: r => (keyOf k).bind fun k' => dmerge (dput es k' d) r
theorem RpD.merge {K : Fr'} {F : Hp} {more : List (Key × V)} {fs es gs : List (D × D)} {kvs : List (Key × V)} (h1 : RpD K F more fs) (h : RpD K F kvs es) (e : dmerge es fs = some gs) : RpD K F (mergeK kvs more) gs := by
  induction more generalizing fs es kvs with
  | nil => cases h1; cases e; exact h
  | cons p more ih =>
    cases h1 with
    | @cons k v0 _ d0 fs r t =>
    simp only [dmerge, keyOf_keyD, Option.bind_some] at e
    exact ih t (h.put r) e
def updateM : OpM
  | .dict es, [.dict fs] => if es.length + fs.length ≤ sizeLine then (dmerge es fs).map fun gs => (.dict gs, .none) else none
  | _, _ => none
theorem mt_updateD : MtR X "dict.update" (rM X.K updateM) := by
  intro pins s σ H x xs v us Q I rx rs h
  obtain ⟨F, a, d, ds, d', z, rfl, l, fa, q1, rp, e, q⟩ := h
  unfold updateM at e
  split at e
  · next es fs =>
    split at e
    · next hz =>
      simp only [Option.map_eq_some_iff] at e
      obtain ⟨gs, e1, e2⟩ := e
      cases e2
      obtain ⟨kvs, hH, ry⟩ := q1.dctE
      cases rp with | cons r0 rn =>
      cases rn
      cases r0 with
      | @dic b lvs _ sq r2 =>
      cases rx
      cases rs with | cons ru rn =>
      cases rn
      cases ru
      have hne : a ≠ b := by
        intro z
        subst z
        rcases sq with y | ⟨o, y⟩ <;> (rw [fa] at y; cases y)
      obtain ⟨z1, hd1, vs1, rel1, dd1⟩ := dk_of I.hok hH
      obtain ⟨z2, hd2, vs2, rel2, dd2⟩ := dk_rd I.hok (l.rd sq)
      have hsz : vs1.length + vs2.length ≤ sizeLine := by rw [← rel1.length, ← rel2.length, ry.length, r2.length]; exact hz
      refine call_meetsIn PySem.F.slot_dict_update dd1.typeIs PySem.F.entry_dict_update (PySem.F.args_dict_update_2 _ _) (meets_dict_update (mixKind X.prog X.w) a b hne hd2) ⟨vs1, vs2, dd1, dd2, hsz, fun h' dm _ hs => ?_⟩
      have rel : KV (mergeK kvs lvs) (merged vs1 vs2) := KV.merge rel2 rel1
      refine ⟨.non, _, d_write (t' := s.toks) (ob := .dK (mergeK kvs lvs)) I (by rw [hH]; trivial) hs ⟨_, dm.choose_spec.choose_spec.choose_spec.1⟩ (dk_new (Nat.le_trans (length_mergeK lvs kvs) (by rw [ry.length, r2.length]; exact hz)) hd1 rel dm), rfl, q _ _ (RpD.merge r2 ry e1) .non⟩
    · cases e
  · cases e
end
end Pv
end
section
set_option Elab.async false
set_option linter.all false
set_option maxRecDepth 100000
set_option maxHeartbeats 1000000
/-! PvP: defs of a program by name; -e; the law's end. -/
namespace Pv
open PySem PySem.Spec PyProof.Rows L2 PySem.W

/-- a def of the program, by its name -/
structure Cal (P : Program) (w : World) (K : Fr') (mg : Str → Option Value) (base : Heap) (x : Str) (k : Nat) (ps : List Str) (ms : List Md) (fn : Fn) : Prop where
  ex : ∃ f fd, FnD P w K mg base k f fd ps ms fn ∧ Binds K fd ps [] ∧ PySem.W.keepIn K (.ref f) = true ∧ mg x = some (.ref f)
/-- a def's text stands in the program -/
structure Here (K : Fr') (mg : Str → Option Value) (x : Str) (st : Stmt) : Prop where
  ex : ∃ f fd, Fun K x x st f fd ∧ mg x = some (.ref f)
section
variable {P : Program} {w : World} {K : Fr'} {mg : Str → Option Value} {base : Heap} {x : Str} {k : Nat} {ps N : List Str} {ms : List Md} {b : SemS} {st : Stmt}
theorem Here.mk_ {h : Heap} {f : Addr} {oc : Value} {od an : Option Addr} {osl : Array (Option Value)} {kV doc pm cdv ct : Value} (X : K.In h) (G : h.Ns mainGlobals mg) (a : PySem.W.nsIn K mainGlobals x = some (some (.ref f)))
    (l : K.lookup f = some ⟨oc, od, .func (PySem.W.fnOf x x (defArgs st) (defBody st) (defScope st) .none kV doc pm an cdv ct), osl⟩) (c : PySem.W.codeIn K cdv x = true) (kp : PySem.W.keepIn K (.ref f) = true) : Here K mg x st :=
  ⟨⟨f, _, fun_mk l c kp, PySem.W.mg_of X G a⟩⟩
theorem Cal.mk_ (h : Here K mg x st) (S : FnScope N ps (defScope st)) (hl : ps.length = ms.length)
    (hb : ∀ (kV doc pm : Value) (an : Option Addr) (cdv ct : Value) (us : List Value), us.length = ps.length → bindArgs (PySem.W.fnOf x x (defArgs st) (defBody st) (defScope st) .none kV doc pm an cdv ct) ⟨us, []⟩ = pure (ps.zip us))
    (hbody : ∀ (f : Addr) (cdv : Value) (A : Around) (outer : List Env) (s : Shared) (H : Hp) (E : XK), Room k (A.deeper (envOfC x (defScope st) s.heap.objs.size f cdv)) → A.guards = some [] → DSs (cxOf CX0 P w K mg base N x (defScope st) f cdv A outer s H E).nox (defBody st) b) :
    Cal P w K mg base x (k + 1) ps ms (fnOf N.length ms b) := by
  obtain ⟨f, fd, F, m⟩ := h.ex
  exact ⟨⟨f, fd, fnD_of F S hl (hbody f), F.binds hb, F.kp, m⟩⟩
end
section
variable {X : Cx} {k j : Nat} {x : Str} {ps : List Str} {ms : List Md} {fn : Fn} {e : Expr} {es : List Expr} {g : SemM} {p pos : Pos}
theorem de_cal (c : Cal X.prog X.w X.K X.mg X.base x j ps ms fn) (hr : Room k X.A) (hj : j ≤ k) (gd : X.A.guards = some []) (hg : Gl X x) (ha : DM X (e :: es) ms g) (hdb : (x == ("__debug__" : Str)) = false := by decide)
    (he : starEach (e :: es) X.env = (false, eval e X.env) :: starEach es X.env := by rfl) (hpl : (backTo pos (starEach es X.env)).any (·.1) = false := by rfl) : DE X (.Call (.Name x p) (e :: es) [] pos) (sCall ms fn g) := by
  obtain ⟨f, fd, F, b, kp, m⟩ := c.ex
  exact de_call (F.mono hj) hr gd hg m kp b ha hdb he hpl
theorem de_cal0 (c : Cal X.prog X.w X.K X.mg X.base x j ps [] fn) (hr : Room k X.A) (hj : j ≤ k) (gd : X.A.guards = some []) (hg : Gl X x) (hdb : (x == ("__debug__" : Str)) = false := by decide) : DE X (.Call (.Name x p) [] [] pos) (sCall [] fn mNil) := by
  obtain ⟨f, fd, F, b, kp, m⟩ := c.ex
  exact de_call0 (F.mono hj) hr gd hg m kp b hdb
/-- -e of an int -/
def sNeg (f : SemE) : SemE := fun ρ => (f ρ).bind fun (r, ρ1) => (look ρ1 (settle r)).bind fun d => (asI d).bind fun i => some (.val (.int (-i)), ρ1)
theorem de_neg {a : Expr} {f : SemE} (ha : DE X a f) : DE X (.UnaryOp .USub a pos) (sNeg f) := by
  refine ⟨(pe_un un_neg ha.pe).pvi fun σ H Q q => ?_⟩
  obtain ⟨P, W, F, ρ, r, ρ', R, ev, q⟩ := q
  simp only [sNeg, Option.bind_eq_some_iff, Prod.exists] at ev
  obtain ⟨r1, ρ1, e1, d, e2, i, e3, e4⟩ := ev
  cases e4
  refine ⟨P, W, F, ρ, r1, _, R, e1, fun v H1 F1 x1 R1 o1 => ?_⟩
  obtain ⟨F2, x2, R2, o2⟩ := R1.settle o1
  have lk := R2.lk o2 e2
  rw [asI_eq e3] at lk
  exact ⟨i, lk.int, q _ H1 F2 (x1.trans x2) R2 (.int _)⟩
/-- a name of the module that stands for an int or a text -/
theorem de_gint {i : Int} (hg : Gl X x) (hm : ∃ t, X.mg x = some (.int i t)) (hd : (x == ("__debug__" : Str)) = false := by decide) : DE X (.Name x pos) (sC (.int i)) := by
  obtain ⟨t, hm⟩ := hm
  exact de_c (pe_glob (v := .int i) hg hm ⟨t, rfl⟩ hd) fun _ => .int i
theorem de_gstr {i : Str} (hg : Gl X x) (hm : ∃ t, X.mg x = some (.str i t)) (hd : (x == ("__debug__" : Str)) = false := by decide) : DE X (.Name x pos) (sC (.str i)) := by
  obtain ⟨t, hm⟩ := hm
  exact de_c (pe_glob (v := .str i) hg hm ⟨t, rfl⟩ hd) fun _ => .str i
end
end Pv
end
section
set_option Elab.async false
set_option linter.all false
set_option maxRecDepth 100000
set_option maxHeartbeats 1000000
/-! PvRv: t[::-1] of a tuple. -/
namespace Pv
open PySem PySem.Spec PyProof.Rows L2 HT
theorem back_places (n : Nat) : Builtin.Slice.slicePlaces ((n : Int) - 1) (-1) (-1) = n := by
  unfold Builtin.Slice.slicePlaces
  rw [if_neg (by decide)]
  have e : ((n : Int) - 1 - -1 - 1) / - -1 = (n : Int) - 1 := by
    have : (- -1 : Int) = 1 := rfl
    rw [this, Int.ediv_one]
    omega
  rw [e]
  split <;> omega
theorem back_pick (xs : Array Value) : ((List.range xs.size).filterMap fun (m : Nat) => xs[(((xs.size : Int) - 1) + (m : Int) * (-1)).toNat]?).toArray = xs.toList.reverse.toArray := by
  congr 1
  have e : (List.range xs.size).filterMap (fun (m : Nat) => xs[(((xs.size : Int) - 1) + (m : Int) * (-1)).toNat]?) = (List.range xs.size).filterMap fun m => xs.toList.reverse[m]? := by
    have go : ∀ l : List Nat, (∀ m ∈ l, m < xs.size) → l.filterMap (fun (m : Nat) => xs[(((xs.size : Int) - 1) + (m : Int) * (-1)).toNat]?) = l.filterMap fun m => xs.toList.reverse[m]? := by
      intro l
      induction l with
      | nil => intro _; rfl
      | cons m l ih =>
        intro h
        have lt := h m List.mem_cons_self
        have e1 : (((xs.size : Int) - 1) + (m : Int) * (-1)).toNat = xs.size - 1 - m := by omega
        rw [List.filterMap_cons, List.filterMap_cons, ih fun k hk => h k (List.mem_cons_of_mem _ hk), e1, List.getElem?_reverse (by rw [Array.length_toList]; exact lt), Array.length_toList, Array.getElem?_toList]
    exact go _ fun m hm => List.mem_range.mp hm
  rw [e]
  have len : xs.size = xs.toList.reverse.length := by rw [List.length_reverse, Array.length_toList]
  rw [len]
  generalize xs.toList.reverse = l
  have all : (List.range l.length).filterMap (fun m => l[m]?) = l := by
    induction l with
    | nil => rfl
    | cons a l ih =>
      rw [List.length_cons, List.range_succ_eq_map, List.filterMap_cons]
      simp only [List.getElem?_cons_zero, List.filterMap_map]
      congr 1
  exact all
section
variable {prog : Program} {w : World} {A : Around} {E : Value → Shared → Prop} {s : Shared}
theorem getItem_tuple_back {t sl : Addr} {items : Array Value} {u : Tok} {Q : Value → Shared → Prop} (ht : IsTup s.heap t items) (hs : s.heap.IsSliceOf sl .none .none (.int (-1) u))
    (h : Q (.ref s.heap.objs.size) { s with heap := s.heap.push { cls := .type "tuple", data := .seq items.toList.reverse.toArray } }) (hsz : items.size ≤ sizeLine) : wpAny (model prog w) A (getItem (.ref t) (.ref sl)) Q E s := by
  have htake : sizeOk (.seq items.toList.reverse.toArray) := by
    show items.toList.reverse.toArray.size ≤ sizeLine
    rw [List.size_toArray, List.length_reverse, Array.length_toList]
    exact hsz
  obtain ⟨os, hos, hcs, hds⟩ := id hs
  have hTs : s.TypeIs (.ref sl) "slice" := ⟨os, hos, hcs⟩
  unfold getItem
  try with_reducible refine wpAny_holding ?_
  first | refine wpAny_bind (wpAny_pure ?_) | skip
  refine wpAny_bind (wpAny_sequenceKey ht.typeIs (by decide) ?_)
  refine wpAny_bind (wpAny_callSpecial?_slot (name := Str.ofString "__getitem__") ht.typeIs slot_tuple_getitem
    (wpAny_call_entry slot_tuple_getitem ht.typeIs entry_tuple_getitem ?_ (args_tuple_getitem _ _)))
  show wpAny _ _ (Builtin.Tuple.tupleItemsOf (.ref t) >>= _) _ _ s
  refine wpAny_bind (tupleItemsOf_ ht (wpAny_bind (wpAny_typeOf hTs ?_)))
  rw [if_pos (by decide)]
  refine wpAny_bind ?_
  unfold Builtin.Slice.sliceApplied Builtin.Slice.sliceFields
  refine wpAny_bind (wpAny_bind (wpAny_field hos hds (x := .none) rfl (wpAny_bind (wpAny_field hos hds (x := .none) rfl (wpAny_bind (wpAny_field hos hds (x := .int (-1) u) rfl (wpAny_pure ?_)))))))
  refine wpAny_bind (slicePart_int ?_)
  show wpAny _ _ (if ((-1 : Int) == 0) = true then _ else _) _ _ s
  rw [if_neg (by decide)]
  refine wpAny_bind (slicePart_none (wpAny_bind (slicePart_none (wpAny_bind (wpAny_pure ?_)))))
  show wpAny _ _ (pure (((items.size : Int) - 1), (-1 : Int), Builtin.Slice.slicePlaces ((items.size : Int) - 1) (-1) (-1))) _ _ s
  rw [back_places]
  refine wpAny_pure ?_
  have hno : ¬ (((((items.size : Int) - 1)) == 0 && (-1 : Int) == 1 && items.size == items.size) = true) := by
    intro q
    rw [Bool.and_eq_true, Bool.and_eq_true] at q
    exact absurd q.1.2 (by decide)
  show wpAny _ _ (if ((((items.size : Int) - 1)) == 0 && (-1 : Int) == 1 && items.size == items.size) = true then _ else _) _ _ s
  rw [if_neg hno, back_pick]
  first
    | exact wpAny_bind (m := Builtin.Tuple.tupleExact _) (wpAny_newObj_type (wpAny_pure ⟨_, rfl, wpAny_pure h⟩) htake)
    | exact wpAny_bind (m := Builtin.Tuple.tupleExact _) (wpAny_newObj_type (wpAny_bind (wpAny_pure (wpAny_pure ⟨_, rfl, wpAny_pure h⟩))) htake)
    | exact wpAny_bind (wpAny_bind (m := Builtin.Tuple.tupleExact _) (wpAny_newObj_type (wpAny_pure (wpAny_pure ⟨_, rfl, wpAny_pure h⟩)) htake))
    | exact wpAny_bind (wpAny_bind (m := Builtin.Tuple.tupleExact _) (wpAny_newObj_type (wpAny_pure ⟨_, rfl, wpAny_pure h⟩) htake))
end
section
variable {X : Cx}
def tRevT (K : PySem.W.Frag) (te : TE) : TE := fun σ H Q => te σ H fun x H1 => ∃ a xs, x = .ref a ∧ SqT K H1 a xs ∧ ∀ p, H1 p = none → Q (.ref p) (upd H1 p (.tup xs.reverse))
theorem pe_revT {e : Expr} {te : TE} {k : Nat} {p1 p2 p3 pos : Pos} (he : PE X e te) : PE X (.Subscript e (.Slice none none (some (.UnaryOp .USub (.Constant (.int 1) k p1) p2)) p3) pos) (tRevT X.K te) := by
  refine ⟨fun pins s σ H Q I h => ?_⟩
  refine Subscript_ (thn (he.run pins s σ H _ I h) fun v s1 ⟨x, H1, I1, r1, a, xs, ex, hx, q⟩ => ?_)
  subst ex
  cases r1
  have hst : PO X (some (.UnaryOp .USub (.Constant (.int 1) k p1) p2)) (tPart (tUn (rU fun i => .int (-i)) (tC (.int 1)))) := po_some (pe_un un_neg pe_int)
  refine wpAny_Slice (thn (po_none.run pins s1 σ H1 (fun o H2 => o = none ∧ H2 = H1) I1 ⟨rfl, rfl⟩) fun vl s2 ⟨l, H2, I2, pl, el, e2⟩ => ?_)
  subst el e2
  refine thn (po_none.run pins s2 σ H2 (fun o H3 => o = none ∧ H3 = H2) I2 ⟨rfl, rfl⟩) fun vu s3 ⟨u, H3, I3, pu, eu, e3⟩ => ?_
  subst eu e3
  refine thn (hst.run pins s3 σ H3 (fun o H4 => o = some (-1) ∧ H4 = H3) I3 ⟨1, rfl, -1, rfl, rfl, rfl⟩) fun vs s4 ⟨o, H4, I4, ps, eo, e4⟩ => ?_
  subst eo e4
  cases pl
  cases pu
  cases ps with
  | int _ tk =>
  have I5 : Inv X pins σ H4 { s4 with heap := s4.heap.push { cls := .type "slice", data := .fields #[.none, .none, .int (-1) tk] } } := I4.kept (t' := s4.toks) fun b ob q => Heap.get?_push_of_some _ q
  obtain ⟨its, r, ht, hz⟩ := I5.tuple hx
  have hlen := r.length
  refine tail_any (ops := [.ref a, .ref s4.heap.objs.size]) ht.typeIs slot_tuple_getitem.lookup ?_ (by with_unfolding_all rfl)
  refine getItem_tuple_back (u := tk) ht (Heap.IsSliceOf.new _ .none .none (.int (-1) tk)) ?_ (by rw [List.size_toArray]; omega)
  refine ⟨.ref _, _, I5.laid (t' := s4.toks) (o := .tup xs.reverse) (fun b ob q => Heap.get?_push_of_some _ q) (Nat.le_refl _) ?_, rfl, q _ (I5.hok.fresh (Nat.le_refl _))⟩
  exact ⟨by rw [List.length_reverse]; exact hz, its.reverse, r.reverse, IsTup.new _ _⟩
end
end Pv
end
section
set_option Elab.async false
set_option linter.all false
set_option maxRecDepth 100000
set_option maxHeartbeats 1000000
/-! PvQ: short names for the printed derivations; the script; tuple of a text. -/
namespace Pv
open PySem PySem.Spec PyProof.Rows L2 PySem.W

theorem hu_room {A : Around} {k : Nat} (hr : Room k A) : A.units + 100 < cLine := by
  have := hr.un
  omega
theorem hu64 {n : Nat} (h : n + 100 < cLine) : n + 64 < cLine := by omega
theorem hu65 {n : Nat} (h : n + 100 < cLine) : n + 65 < cLine := by omega
theorem hu1 {n : Nat} (h : n + 100 < cLine) : n + 1 < cLine := by omega
theorem pass_nox {M : Model} {A : Around} {env : Env} : PassesOwn M A env (fun _ _ => False) := PassesOwn.never
section
variable {X : Cx} {x : Str} {pos p q0 : Pos}
theorem or_eqH (hu : X.A.units + 100 < cLine) : OpR X (compareOp .Eq) (rS X.K eqF) := or_eq (hu65 hu)
theorem or_neH (hu : X.A.units + 100 < cLine) : OpR X (compareOp .NotEq) (rS X.K neF) := or_ne (hu64 hu)
theorem or_inH (hu : X.A.units + 100 < cLine) : OpR X (compareOp .In) (rS X.K inF) := or_in (hu65 hu)
theorem or_notInH (hu : X.A.units + 100 < cLine) : OpR X (compareOp .NotIn) (rS X.K notInF) := or_notIn (hu65 hu)

/-! ### the script -/
def scrAt (ρ : Ro) (i : Nat) : Option (List D) := match ρ[i]? with
  | some (some (.scr ds)) => some ds
  | _ => none
theorem Rel.scr {K : Fr'} {P : List (Nat × Addr)} {W F H : Hp} {σ : St} {ρ : Ro} {i : Nat} {ds : List D} (R : Rel K P W F H σ ρ) (h : scrAt ρ i = some ds) : ∃ a xs, σ[i]? = some (some (.ref a)) ∧ SqL K F a xs ∧ RpA K F xs ds := by
  unfold scrAt at h
  split at h
  · next es e =>
    cases h
    obtain ⟨v, hv, a, xs, rfl, s, r⟩ := R.cell i _ e
    exact ⟨a, xs, hv, s, r⟩
  · cases h
def sLenScr (i : Nat) : SemE := fun ρ => (scrAt ρ i).bind fun ds => some (.val (.int ds.length), ρ)
theorem de_lenScr {i : Nat} (hg : Gl X "len") (hm : X.mg "len" = none) (hx : PE X (.Name x q0) (tVar i)) (hs : starEach [.Name x q0] X.env = (false, eval (.Name x q0) X.env) :: starEach [] X.env := by rfl) (hpl : (backTo pos (starEach [] X.env)).any (·.1) = false := by rfl) :
    DE X (.Call (.Name "len" p) [.Name x q0] [] pos) (sLenScr i) := by
  refine ⟨(pe_callB (pos := pos) (p := p) call_len hg hm rfl (pa_cons hx pa_nil hs) (by decide) (by decide) hs hpl).pvi fun σ H Q q => ?_⟩
  obtain ⟨P, W, F, ρ, r, ρ', R, ev, q⟩ := q
  simp only [sLenScr, Option.bind_eq_some_iff] at ev
  obtain ⟨ds, e1, e2⟩ := ev
  cases e2
  obtain ⟨a, xs, hv, s, r⟩ := R.scr e1
  refine ⟨_, hv, .ref a, xs.length, rfl, .inl ⟨xs, R.fh.sql s, rfl⟩, ?_⟩
  rw [r.length]
  exact q _ H F (Ext.refl _ _) R (.int _)
def sIxScr (i : Nat) (f : SemE) : SemE := fun ρ => (scrAt ρ i).bind fun _ => (f ρ).bind fun (r, ρ1) => (look ρ1 r).bind fun d => (asI d).bind fun k => (scrAt ρ1 i).bind fun ds => (atI ds k).bind fun z => some (.val z, ρ1)
theorem de_ixScr {i : Nat} {e : Expr} {f : SemE} (hx : PE X (.Name x q0) (tVar i)) (he : DE X e f) (hs : PlainIx e := by intro _ _; rfl) : DE X (.Subscript (.Name x q0) e pos) (sIxScr i f) := by
  refine ⟨(pe_ix (ix_list (X := X)) hx he.pe hs).pvi fun σ H Q q => ?_⟩
  obtain ⟨P, W, F, ρ, r, ρ', R, ev, q⟩ := q
  simp only [sIxScr, Option.bind_eq_some_iff, Prod.exists] at ev
  obtain ⟨ds0, e0, r1, ρ1, e1, d, e2, k, e3, ds, e4, z, e5, e6⟩ := ev
  cases e6
  obtain ⟨a, xs, hv, s, r⟩ := R.scr e0
  refine ⟨_, hv, P, W, F, ρ, r1, _, R, e1, fun v H1 F1 x1 R1 o1 => ?_⟩
  have lk := R1.lk o1 e2
  rw [asI_eq e3] at lk
  obtain ⟨a', xs', hv', s', r'⟩ := R1.scr e4
  rw [hv] at hv'
  cases hv'
  obtain ⟨u, hu, rp⟩ := r'.at e5
  exact ⟨a, xs', k, u, rfl, lk.int, R1.fh.sql s', hu, q _ H1 F1 x1 R1 rp⟩

/-! ### tuple of a text -/
theorem vals_chars {x : Str} {us : List Value} (hl : us.length = x.cps.size) (h : ∀ (i : Nat) (v : Value), us[i]? = some v → SignAt x i v) : Vals ((x.cps.toList.map fun c => (⟨#[c]⟩ : Str)).map V.str) us := by
  have go : ∀ (cs : List Nat) (us : List Value), us.length = cs.length → (∀ (i : Nat) (v : Value), us[i]? = some v → ∃ c u, cs[i]? = some c ∧ v = .str ⟨#[c]⟩ u) → Vals ((cs.map fun c => (⟨#[c]⟩ : Str)).map V.str) us := by
    intro cs
    induction cs with
    | nil =>
      intro us hl _
      cases us with
      | nil => exact .nil
      | cons _ _ => cases hl
    | cons c cs ih =>
      intro us hl h
      cases us with
      | nil => cases hl
      | cons v us =>
        obtain ⟨c', u, h1, h2⟩ := h 0 v rfl
        cases h1
        subst h2
        refine .cons ⟨u, rfl⟩ (ih us (by simpa using hl) fun i w hw => ?_)
        obtain ⟨c', u', h1, h2⟩ := h (i + 1) w (by simpa using hw)
        exact ⟨c', u', by simpa using h1, h2⟩
  refine go x.cps.toList us (by rw [Array.length_toList]; exact hl) fun i v hv => ?_
  obtain ⟨c, u, h1, h2⟩ := h i v hv
  exact ⟨c, u, by rw [Array.getElem?_toList]; exact h1, h2⟩
def tupleF2 : OpN
  | [.str x] => if x.cps.size ≤ sizeLine then some (.tuple (charsD x), false) else none
  | ds => tupleF ds
theorem cr_tuple2 (hc : X.calm = true) : CallR X (.type "tuple") (rCS X.K tupleF2) := by
  intro pins s σ H xs us Q I r h
  obtain ⟨F, ds, zb, l, ls, e, q⟩ := h
  unfold tupleF2 at e
  split at e
  · next x =>
    cases ls with | cons lk ln =>
    cases ln
    split at e
    · next hz =>
      cases e
      rw [lk.str] at r
      obtain ⟨u, rfl, t, rfl⟩ := vals1 r
      refine call_tuple_str (I.ok.hd hc) x t (fun h' tk acc k it => ?_) hz
      have rv : Vals ((x.cps.toList.map fun c => (⟨#[c]⟩ : Str)).map V.str) acc.toList := vals_chars (by rw [Array.length_toList]; exact it.1) fun i v hv => it.2 i v (by rw [← Array.getElem?_toList]; exact hv)
      have I1 : Inv X pins σ H { s with heap := h', toks := tk } := I.kept k
      have hz2 : ((x.cps.toList.map fun c => (⟨#[c]⟩ : Str)).map V.str).length ≤ sizeLine := by rw [List.length_map, List.length_map, Array.length_toList]; exact hz
      have I2 : Inv X pins σ (upd H h'.objs.size (.tup ((x.cps.toList.map fun c => (⟨#[c]⟩ : Str)).map V.str))) { s with heap := h'.push { cls := .type "tuple", data := .seq acc }, toks := tk } :=
        I1.laid (t' := tk) (fun b o e => Heap.get?_push_of_some _ e) (Nat.le_refl _) (show ObjOk X.prog X.w _ _ _ (.tup _) from ⟨hz2, acc.toList, rv, by rw [Array.toArray_toList]; exact IsTup.new _ _⟩)
      refine ⟨.ref h'.objs.size, _, I2, rfl, Post.tup l (ds := charsD x) ?_ q _ (I1.hok.fresh (Nat.le_refl _))⟩
      have := RpA.ofStrs (K := X.K) (F := F) (x.cps.toList.map fun c => (⟨#[c]⟩ : Str))
      unfold charsD
      rw [List.map_map] at this ⊢
      rw [List.map_map] at this
      exact this
    · cases e
  · exact cr_tupleD pins s σ H xs us Q I r ⟨F, _, zb, l, ls, e, q⟩
/-! ### e[::-1] -/
def revF : D → Option (D × Bool)
  | .list ds => some (.list ds.reverse, true)
  | .tuple ds => some (.tuple ds.reverse, false)
  | _ => none
def sRev (f : SemE) : SemE := fun ρ => (f ρ).bind fun (r, ρ1) => (look ρ1 (settle r)).bind fun d => (revF d).bind fun zb => some (mkR zb, ρ1)
theorem de_rev {e : Expr} {f : SemE} {k : Nat} {p1 p2 p3 : Pos} (he : DE X e f) : DE X (.Subscript e (.Slice none none (some (.UnaryOp .USub (.Constant (.int 1) k p1) p2)) p3) pos) (sRev f) := by
  refine ⟨⟨fun pins s σ H Q I q => ?_⟩⟩
  obtain ⟨P, W, F, ρ, r, ρ', R, ev, q⟩ := q
  simp only [sRev, Option.bind_eq_some_iff, Prod.exists] at ev
  obtain ⟨r1, ρ1, e1, d, e2, z, b, e3, e4⟩ := ev
  cases e4
  unfold revF at e3
  split at e3
  · next ds =>
    cases e3
    refine (pe_revL he.pe).run pins s σ H Q I ⟨P, W, F, ρ, r1, _, R, e1, fun v H1 F1 x1 R1 o1 => ?_⟩
    obtain ⟨F2, x2, R2, o2⟩ := R1.settle o1
    obtain ⟨a, xs, rfl, ha, rp⟩ := (R2.lk o2 e2).list R2.fh
    exact ⟨a, xs, rfl, .inl (.inl ha), (post_of (zb := (.list ds.reverse, true)) R2 fun v H' F' x5 R5 o => q v H' F' ((x1.trans x2).trans x5) R5 o).lst R2.fh rp.reverse⟩
  · next ds =>
    cases e3
    refine (pe_revT he.pe).run pins s σ H Q I ⟨P, W, F, ρ, r1, _, R, e1, fun v H1 F1 x1 R1 o1 => ?_⟩
    obtain ⟨F2, x2, R2, o2⟩ := R1.settle o1
    obtain ⟨a, xs, rfl, ha, rp, _⟩ := (R2.lk o2 e2).tuple R2.fh
    exact ⟨a, xs, rfl, ha, (post_of (zb := (.tuple ds.reverse, false)) R2 fun v H' F' x5 R5 o => q v H' F' ((x1.trans x2).trans x5) R5 o).tup R2.fh rp.reverse⟩
  · cases e3
/-! ### with the derivation as an argument -/
section
variable {e tg a b c : Expr} {f : SemE} {fa : SemA} {fp : SemP} {i : Nat} {pos' apos cpos tpos : Pos} {elts : List Expr} {kk : Nat}
theorem dw_dt {h : SemT} (k : DW X e h) : DT X e h := k.dt
theorem ds_setN (hN : X.N.Nodup) (hi : X.N[i]? = some x) (hx : Loc X.env.scope x) (he : DE X e f) (hs : swapsWith e (some (.Name x pos')) pos.line X.env = pure false := by rfl)
    (hf : X.fn x = true ∨ X.env.scope.names.lookup x = some .local := by first | exact .inl rfl | exact .inr rfl | assumption) : DS X (.Assign [.Name x pos'] e pos) (sSet i f) := ds_set (ps_set hN hi hx he.pe hs hf)
theorem di_anyW (h : DE X e f) : DI X tg e (iOf walkOf f) := di_any h (pi_list h.pe) (pi_tup h.pe) (pi_str h.pe) (pi_keys (pe_lk h.pe))
theorem di_itemsW (h : DE X e f) (hbase : attributeBase e "items" X.env (eval e X.env) = eval e X.env := by rfl) (hline : (apos.endLine == cpos.line) = true := by rfl) : DI X (.Tuple elts kk tpos) (.Call (.Attribute e "items" apos) [] [] cpos) (iOf itemsOf f) := di_items (pi_items (pe_lk h.pe) hbase hline)
theorem di_valuesW (h : DE X e f) (hbase : attributeBase e "values" X.env (eval e X.env) = eval e X.env := by rfl) (hline : (apos.endLine == cpos.line) = true := by rfl) : DI X tg (.Call (.Attribute e "values" apos) [] [] cpos) (iOf valsOf f) := di_values (pi_values (pe_lk h.pe) hbase hline)
theorem di_rangeW1 (hg : Gl X "range") (hm : X.mg "range" = none) (h : DP X [a] fp) (hs : starEach [a] X.env = [(false, eval a X.env)] := by rfl) : DI X tg (.Call (.Name "range" p) [a] [] pos) (iR1 fp) := di_range1 h (pi_range1 hg hm h.pa hs)
theorem di_rangeW2 (hg : Gl X "range") (hm : X.mg "range" = none) (h : DP X [a, b] fp) (hs : starEach [a, b] X.env = [(false, eval a X.env), (false, eval b X.env)] := by rfl) (hs2 : starEach [b] X.env = [(false, eval b X.env)] := by rfl) : DI X tg (.Call (.Name "range" p) [a, b] [] pos) (iR2 fp) := di_range2 h (pi_range2 hg hm h.pa hs hs2)
theorem di_rangeW3 (hg : Gl X "range") (hm : X.mg "range" = none) (h : DP X [a, b, c] fp) (hs : starEach [a, b, c] X.env = (false, eval a X.env) :: starEach [b, c] X.env := by rfl) (hpl : (backTo pos (starEach [b, c] X.env)).any (·.1) = false := by rfl) : DI X tg (.Call (.Name "range" p) [a, b, c] [] pos) (iR3 fp) := di_range3 (pi_range3 hg hm h.pa hs hpl)
theorem di_enumW (hg : Gl X "enumerate") (hm : X.mg "enumerate" = none) (h : DA X [a] fa) (hs : starEach [a] X.env = [(false, eval a X.env)] := by rfl) : DI X (.Tuple elts kk tpos) (.Call (.Name "enumerate" p) [a] [] pos) (iEn fa) := di_enum (pi_enum hg hm h.pa hs) (pi_enumT hg hm h.pa hs)
theorem di_zipW (hg : Gl X "zip") (hm : X.mg "zip" = none) (h : DA X [a, b] fa) (hs : starEach [a, b] X.env = (false, eval a X.env) :: starEach [b] X.env := by rfl) (hpl : (backTo pos (starEach [b] X.env)).any (·.1) = false := by rfl) : DI X (.Tuple elts kk tpos) (.Call (.Name "zip" p) [a, b] [] pos) (iZp fa) := di_zip (RZ.pi_zipA hg hm h.pa hs hpl)
end
end
end Pv
end
section
set_option Elab.async false
set_option linter.all false
set_option maxRecDepth 100000
set_option maxHeartbeats 1000000
/-! PxA: break, continue; a def that calls itself: no calls left. -/
namespace Pv
open PySem PySem.Spec PyProof.Rows L2 PySem.W
section
variable {X : Cx}
def sBrk : SemS := fun ρ => some (.bk ρ)
def sCnt : SemS := fun ρ => some (.ct ρ)
theorem ds_brk {pos : Pos} : DS X (.Break pos) sBrk := ⟨ps_break.pvi fun D σ H ⟨P, W, F, ρ, o, R, e, q⟩ => by cases e; exact q σ H F (Ext.refl _ _) R⟩
theorem ds_cnt {pos : Pos} : DS X (.Continue pos) sCnt := ⟨ps_continue.pvi fun D σ H ⟨P, W, F, ρ, o, R, e, q⟩ => by cases e; exact q σ H F (Ext.refl _ _) R⟩
end
def fnNone : Fn := fun _ => none
section
variable {P : Program} {w : World} {K : Fr'} {mg : Str → Option Value} {base : Heap} {x : Str} {k : Nat} {ps : List Str} {ms : List Md} {st : Stmt}
theorem Cal.none_ (h : Here K mg x st) (hl : ps.length = ms.length)
    (hb : ∀ (kV doc pm : Value) (an : Option Addr) (cdv ct : Value) (us : List Value), us.length = ps.length → bindArgs (PySem.W.fnOf x x (defArgs st) (defBody st) (defScope st) .none kV doc pm an cdv ct) ⟨us, []⟩ = pure (ps.zip us)) :
    Cal P w K mg base x k ps ms fnNone := by
  obtain ⟨f, fd, F, m⟩ := h.ex
  refine ⟨⟨f, fd, ⟨fun xs H Q E h => ?_, fun A fs s H ar us xs Q E _ _ _ _ _ h => ?_⟩, F.binds hb, F.kp, m⟩⟩
  · obtain ⟨W, F', ds, z, bs, _, _, _, a, _⟩ := h
    rw [args_len a, hl]
  · obtain ⟨W, F', ds, z, bs, _, _, _, _, e, _⟩ := h
    cases e
end
end Pv
end
section
set_option Elab.async false
set_option linter.all false
set_option maxRecDepth 100000
set_option maxHeartbeats 1000000
/-! PgB: the meanings of bodies.py, printed by gen.py. -/
namespace Pv.Pg
open PySem Pv
/-! ### is_name -/
abbrev N_is_name : List Str := ["value", "letter"]
def b_is_name : SemS := (sRet (sAndV (sIsi "str" (sVar 0)) (sAndV (sChain leF leF (sC (.int 1)) (sCB lenF (pCons (sVar 0) pNil)) (sC (.int 8))) (sCB allF (pCons (sLc (gN 1) sYes (sOp inF (sVar 1) (sC (.str "abcdefghijklmnopqrstuvwxyz"))) [1] (iOf walkOf (sVar 0))) pNil)))))
def F_is_name : Fn := fnOf 2 [.v] b_is_name
/-! ### check_name -/
abbrev N_check_name : List Str := ["name"]
def b_check_name : SemS := (sIfS (sNot (sTruth (sCall [.v] F_is_name (mV (sVar 0) mNil)))) sStuck sNx)
def F_check_name : Fn := fnOf 1 [.v] b_check_name
/-! ### has_form -/
abbrev N_has_form : List Str := ["value", "leaves", "kind", "size"]
def b_has_form : SemS := (sSeq (sIfS (sOr (sNot (sTruth (sIsi "tuple" (sVar 0)))) (sOr (sTest (sOp ltF (sCB lenF (pCons (sVar 0) pNil)) (sC (.int 1)))) (sNot (sTruth (sIsi "str" (sOp ixG (sVar 0) (sC (.int 0)))))))) (sRet (sC (.bool false))) sNx) (sSeq (sPar 2 3 (mV (sOp ixG (sVar 0) (sC (.int 0))) (mV (sCB lenF (pCons (sVar 0) pNil)) mNil))) (sSeq (sIfS (sOr (sTest (sOp inF (sVar 2) (sTup (sCons (sC (.str "skip")) (sCons (sC (.str "stop")) sNil))))) (sAnd (sTest (sOp eqF (sVar 2) (sC (.str "hole")))) (sTest (sOp inF (sVar 2) (sVar 1))))) (sRet (sOp eqF (sVar 3) (sC (.int 1)))) sNx) (sSeq (sIfS (sOr (sTest (sOp eqF (sVar 2) (sC (.str "do")))) (sAnd (sTest (sOp eqF (sVar 2) (sC (.str "call")))) (sTest (sOp inF (sVar 2) (sVar 1))))) (sRet (sAndV (sOp eqF (sVar 3) (sC (.int 2))) (sCall [.v] F_is_name (mV (sOp ixG (sVar 0) (sC (.int 1))) mNil)))) sNx) (sSeq (sIfS (sTest (sOp eqF (sVar 2) (sC (.str "hold")))) (sRet (sAndV (sOp eqF (sVar 3) (sC (.int 3))) (sCall [.v] F_is_name (mV (sOp ixG (sVar 0) (sC (.int 1))) mNil)))) sNx) (sRet (sOrV (sAndV (sOp eqF (sVar 2) (sC (.str "loop"))) (sOp eqF (sVar 3) (sC (.int 2)))) (sAndV (sOp inF (sVar 2) (sTup (sCons (sC (.str "seq")) (sCons (sC (.str "either")) sNil)))) (sOp geF (sVar 3) (sC (.int 3)))))))))))
def F_has_form : Fn := fnOf 4 [.v, .v] b_has_form
/-! ### members -/
abbrev N_members : List Str := ["body"]
def b_members : SemS := (sSeq (sIfS (sTest (sOp inF (sOp ixG (sVar 0) (sC (.int 0))) (sTup (sCons (sC (.str "seq")) (sCons (sC (.str "either")) (sCons (sC (.str "loop")) sNil)))))) (sRet (sSl slF (sVar 0) (oSome (sC (.int 1))) oNone)) sNx) (sRet (sIf (sTest (sOp eqF (sOp ixG (sVar 0) (sC (.int 0))) (sC (.str "hold")))) (sSl slF (sVar 0) (oSome (sC (.int 2))) oNone) (sTup sNil))))
def F_members : Fn := fnOf 1 [.v] b_members
/-! ### with_members -/
abbrev N_with_members : List Str := ["body", "parts"]
def b_with_members : SemS := (sRet (sOp addF (sSl slF (sVar 0) oNone (oSome (sOp subF (sCB lenF (pCons (sVar 0) pNil)) (sCB lenF (pCons (sVar 1) pNil))))) (sCB tupleF2 (pCons (sVar 1) pNil))))
def F_with_members : Fn := fnOf 2 [.v, .v] b_with_members
/-! ### parts_in -/
abbrev N_parts_in : List Str := ["value", "depth", "leaves", "many", "part"]
def b_parts_in (self_ : Fn) : SemS := (sSeq (sIfS (sOr (sTest (sOp gtF (sVar 1) (sC (.int 40)))) (sNot (sTruth (sCall [.v, .v] F_has_form (mV (sVar 0) (mV (sVar 2) mNil)))))) (sRet (sOp addF (sC (.int 60)) (sC (.int 1)))) sNx) (sSeq (sSet 3 (sC (.int 1))) (sSeq (sFor (iOf walkOf (sCall [.v] F_members (mV (sVar 0) mNil))) (gN 4) (sSeq (sSet 3 (sOp addF (sVar 3) (sCall [.v, .v, .v] self_ (mV (sVar 4) (mV (sOp addF (sVar 1) (sC (.int 1))) (mV (sVar 2) mNil)))))) (sIfS (sTest (sOp gtF (sVar 3) (sC (.int 60)))) (sRet (sOp addF (sC (.int 60)) (sC (.int 1)))) sNx))) (sRet (sVar 3)))))
def F_parts_in : Nat → Fn
  | 0 => fnNone
  | n + 1 => fnOf 5 [.v, .v, .v] (b_parts_in (F_parts_in n))
/-! ### named_in -/
abbrev N_named_in : List Str := ["body", "kind", "inner", "part", "name"]
def b_named_in (self_ : Fn) : SemS := (sSeq (sSet 2 (sLc2 (gN 3) sYes (iOf walkOf (sCall [.v, .v] self_ (mV (sVar 3) (mV (sVar 1) mNil)))) (gN 4) sYes (sVar 4) [3, 4] [4] (iOf walkOf (sCall [.v] F_members (mV (sVar 0) mNil))))) (sRet (sIf (sTest (sOp eqF (sOp ixG (sVar 0) (sC (.int 0))) (sVar 1))) (sOp addF (sLst (sCons (sOp ixG (sVar 0) (sC (.int 1))) sNil)) (sVar 2)) (sVar 2))))
def F_named_in : Nat → Fn
  | 0 => fnNone
  | n + 1 => fnOf 5 [.v, .v] (b_named_in (F_named_in n))
/-! ### set_of -/
abbrev N_set_of : List Str := ["names"]
def b_set_of : SemS := (sRet (sCB tupleF2 (pCons (sSortSet (sVar 0)) pNil)))
def F_set_of : Fn := fnOf 1 [.v] b_set_of
/-! ### is_formed -/
abbrev N_is_formed : List Str := ["value", "leaves"]
def b_is_formed : SemS := (sSeq (sIfS (sTest (sOp gtF (sCall [.v, .v, .v] (F_parts_in 45) (mV (sVar 0) (mV (sC (.int 1)) (mV (sVar 1) mNil)))) (sC (.int 60)))) (sRet (sC (.bool false))) sNx) (sRet (sAndV (sOp leF (sCB lenF (pCons (sCall [.v] F_set_of (mV (sCall [.v, .v] (F_named_in 45) (mV (sVar 0) (mV (sC (.str "hold")) mNil))) mNil)) pNil)) (sC (.int 5))) (sOp leF (sCB lenF (pCons (sCall [.v] F_set_of (mV (sCall [.v, .v] (F_named_in 45) (mV (sVar 0) (mV (sC (.str "do")) mNil))) mNil)) pNil)) (sC (.int 6))))))
def F_is_formed : Fn := fnOf 2 [.v, .v] b_is_formed
/-! ### is_body -/
abbrev N_is_body : List Str := ["value"]
def b_is_body : SemS := (sRet (sCall [.v, .v] F_is_formed (mV (sVar 0) (mV (sTup sNil) mNil))))
def F_is_body : Fn := fnOf 1 [.v] b_is_body
/-! ### check_body -/
abbrev N_check_body : List Str := ["body"]
def b_check_body : SemS := (sIfS (sNot (sTruth (sCall [.v] F_is_body (mV (sVar 0) mNil)))) sStuck sNx)
def F_check_body : Fn := fnOf 1 [.v] b_check_body
/-! ### locks_of -/
abbrev N_locks_of : List Str := ["body"]
def b_locks_of : SemS := (sSeq (sExpr (sCall [.v] F_check_body (mV (sVar 0) mNil))) (sRet (sCall [.v] F_set_of (mV (sCall [.v, .v] (F_named_in 45) (mV (sVar 0) (mV (sC (.str "hold")) mNil))) mNil))))
def F_locks_of : Fn := fnOf 1 [.v] b_locks_of
/-! ### actions_of -/
abbrev N_actions_of : List Str := ["body"]
def b_actions_of : SemS := (sSeq (sExpr (sCall [.v] F_check_body (mV (sVar 0) mNil))) (sRet (sCall [.v] F_set_of (mV (sCall [.v, .v] (F_named_in 45) (mV (sVar 0) (mV (sC (.str "do")) mNil))) mNil))))
def F_actions_of : Fn := fnOf 1 [.v] b_actions_of
/-! ### without_holds -/
abbrev N_without_holds : List Str := ["body", "lock", "parts", "part"]
def b_without_holds (self_ : Fn) : SemS := (sSeq (sSet 2 (sLc (gN 3) sYes (sCall [.v, .v] self_ (mV (sVar 3) (mV (sVar 1) mNil))) [3] (iOf walkOf (sCall [.v] F_members (mV (sVar 0) mNil))))) (sRet (sIf (sAnd (sTest (sOp eqF (sOp ixG (sVar 0) (sC (.int 0))) (sC (.str "hold")))) (sTest (sOp eqF (sOp ixG (sVar 0) (sC (.int 1))) (sVar 1)))) (sOp ixG (sVar 2) (sC (.int 0))) (sCall [.v, .v] F_with_members (mV (sVar 0) (mV (sVar 2) mNil))))))
def F_without_holds : Nat → Fn
  | 0 => fnNone
  | n + 1 => fnOf 4 [.v, .v] (b_without_holds (F_without_holds n))
/-! ### without -/
abbrev N_without : List Str := ["body", "lock"]
def b_without : SemS := (sSeq (sExpr (sCall [.v] F_check_body (mV (sVar 0) mNil))) (sSeq (sExpr (sCall [.v] F_check_name (mV (sVar 1) mNil))) (sRet (sCall [.v, .v] (F_without_holds 45) (mV (sVar 0) (mV (sVar 1) mNil))))))
def F_without : Fn := fnOf 2 [.v, .v] b_without
end Pv.Pg
end
section
set_option Elab.async false
set_option linter.all false
set_option maxRecDepth 100000
set_option maxHeartbeats 1000000
/-! PxB: a list comprehension whose names stand for something already: that comes back behind it. -/
namespace Pv
open PySem PySem.Spec PyProof.Rows L2 PySem.W
/-- the slots vs hold plain data or nothing -/
def okAt (ρ : Ro) (vs : List Nat) : Bool := vs.all fun i => match ρ[i]? with
  | some (some (.val _)) => true
  | some (some _) => false
  | _ => true
theorem ok_at {ρ : Ro} {vs : List Nat} (h : okAt ρ vs = true) {i : Nat} {c : Cell} (hi : i ∈ vs) (e : ρ[i]? = some (some c)) : ∃ d, c = .val d := by
  unfold okAt at h
  have := List.all_eq_true.mp h i hi
  rw [e] at this
  cases c with
  | val d => exact ⟨d, rfl⟩
  | own d => cases this
  | byr d => cases this
  | scr d => cases this
def backR (ρ0 ρ : Ro) : List Nat → Ro
  | [] => ρ
  | v :: vs => (backR ρ0 ρ vs).set v (ρ0[v]?.getD none)
theorem backR_len (ρ0 ρ : Ro) : ∀ vs, (backR ρ0 ρ vs).length = ρ.length
  | [] => rfl
  | v :: vs => by unfold backR; rw [List.length_set, backR_len ρ0 ρ vs]
theorem backR_in {ρ0 ρ : Ro} {i : Nat} {c : Cell} : ∀ {vs : List Nat}, (backR ρ0 ρ vs)[i]? = some (some c) → (i ∈ vs ∧ ρ0[i]? = some (some c)) ∨ ρ[i]? = some (some c)
  | [], h => .inr h
  | v :: vs, h => by
    unfold backR at h
    by_cases hv : v = i
    · subst hv
      left
      refine ⟨List.mem_cons_self, ?_⟩
      by_cases hl : v < (backR ρ0 ρ vs).length
      · rw [List.getElem?_set_self hl] at h
        injection h with h
        cases h0 : ρ0[v]? with
        | none => rw [h0] at h; cases h
        | some o => rw [h0] at h; simp only [Option.getD_some] at h; rw [h]
      · rw [List.getElem?_eq_none (by rw [List.length_set]; omega)] at h; cases h
    · rw [List.getElem?_set_ne hv] at h
      rcases backR_in h with ⟨a, b⟩ | b
      · exact .inl ⟨List.mem_cons_of_mem _ a, b⟩
      · exact .inr b
theorem backR_off {ρ0 ρ : Ro} {i : Nat} : ∀ {vs : List Nat}, i ∉ vs → (backR ρ0 ρ vs)[i]? = ρ[i]?
  | [], _ => rfl
  | v :: vs, h => by
    unfold backR
    rw [List.getElem?_set_ne (fun z => h (by rw [z]; exact List.mem_cons_self)), backR_off (fun z => h (List.mem_cons_of_mem _ z))]
section
variable {K : Fr'} {P : List (Nat × Addr)} {W F H F' H' : Hp} {σ : St} {ρ ρ2 : Ro} {vs : List Nat}
theorem pin_offS (R : Rel K P W F H σ ρ) (h : okAt ρ vs = true) : ∀ p ∈ P, p.1 ∉ vs := fun p hp hi => by
  obtain ⟨_, d, e⟩ := R.pin p hp
  obtain ⟨_, z⟩ := ok_at h hi e
  cases z
theorem Rel.back (R : Rel K P W F H σ ρ) (h : okAt ρ vs = true) (x : Ext W F F') (R2 : Rel K P W F' H' σ ρ2) : Rel K P W F' H' σ (backR ρ ρ2 vs) where
  fh := R2.fh
  wh := R2.wh
  len := R2.len.trans (backR_len _ _ _).symm
  cell := fun i c e => by
    rcases backR_in e with ⟨hi, e1⟩ | e1
    · obtain ⟨d, rfl⟩ := ok_at h hi e1
      obtain ⟨v, hv, hk⟩ := R.cell i _ e1
      exact ⟨v, hv, Rp.mono (Le.of x.same) hk⟩
    · exact R2.cell i c e1
  inj := fun j k c e b hjk h1 h2 o1 o2 s1 s2 => by
    have g : ∀ (i : Nat) (c : Cell), (backR ρ ρ2 vs)[i]? = some (some c) → c.owned = true → ρ2[i]? = some (some c) := fun i c e o => by
      rcases backR_in e with ⟨hi, e1⟩ | e1
      · obtain ⟨d, rfl⟩ := ok_at h hi e1
        cases o
      · exact e1
    exact R2.inj j k c e b hjk (g j c h1 o1) (g k e h2 o2) o1 o2 s1 s2
  pin := fun p q => by
    obtain ⟨h1, d', h2⟩ := R2.pin p q
    exact ⟨h1, d', by rw [backR_off (pin_offS R h p q)]; exact h2⟩
  dis := R2.dis
end
def iW (vs : List Nat) (it : SemI) : SemI := fun ρ => (it ρ).bind fun x => if okAt x.2 vs = true then some (x.1, wipeR x.2 vs) else none
theorem di_iW {X : Cx} {tg iter : Expr} {it : SemI} {vs : List Nat} (hi : DI X tg iter it) : DI X tg iter (iW vs it) := by
  refine ⟨hi.pi.pvi fun σ H R q => ?_⟩
  obtain ⟨P, W, F, ρ, ds, ρ', R0, e, q⟩ := q
  simp only [iW, Option.bind_eq_some_iff, Prod.exists] at e
  obtain ⟨ds1, ρ1, e1, e2⟩ := e
  split at e2
  case isFalse => cases e2
  rename_i hok
  cases e2
  refine ⟨P, W, F, ρ, _, ρ1, R0, e1, fun J H' W' F' sw x R1 w => q J H' W' F' sw x ?_ w⟩
  exact R1.fewer (wipeR_len _ _) (fun i c e => (wipeR_in e).2) fun p hp => wipeR_off (pin_offS R1 hok p hp)
def sLcS (g : SemG) (t : SemT) (el : SemE) (vs : List Nat) (it : SemI) : SemE := fun ρ => if okAt ρ vs = true then (sLc g t el vs (iW vs it) ρ).bind fun x => some (x.1, backR ρ x.2 vs) else none
section
variable {X : Cx}
theorem de_lcS {elt tg iter : Expr} {ifs : List Expr} {scope : Scope} {own : List (Str × Nat)} {pos : Pos} {it : SemI} {g : SemG} {t : SemT} {el : SemE} {us : List Nat} (hi : DI X tg iter it) (ok : BlkOk X.N X.env.scope scope own)
    (hg : ∀ (s : Shared) (H : Hp) (C : Addr) (cl : List (Str × Addr)) (fp : List Addr), DG (X.blk s H scope (compEnvC scope cl C X.env) fp) tg us g) (ht : ∀ (s : Shared) (H : Hp) (C : Addr) (cl : List (Str × Addr)) (fp : List Addr), DTs (X.blk s H scope (compEnvC scope cl C X.env) fp) ifs t)
    (he : ∀ (s : Shared) (H : Hp) (C : Addr) (cl : List (Str × Addr)) (fp : List Addr), DE (X.blk s H scope (compEnvC scope cl C X.env) fp) elt el) (hu : ∀ i ∈ us, i ∈ own.map (·.2)) (hc : X.calm = true) (hN : X.N.Nodup) (hs : ∀ x, foldedSetIterable iter X.env x = pure x := by intro _; rfl) :
    DE X (.ListComp elt [⟨tg, iter, ifs, 0⟩] scope pos) (sLcS g t el (own.map (·.2)) it) := by
  refine ⟨(de_lc (di_iW (vs := own.map (·.2)) hi) ok hg ht he hu hc hN hs).pe.pvi fun σ H Q q => ?_⟩
  obtain ⟨P, W, F, ρ, r, ρ', R, e, q⟩ := q
  simp only [sLcS] at e
  split at e
  case isFalse => cases e
  rename_i hok
  simp only [Option.bind_eq_some_iff, Prod.exists] at e
  obtain ⟨r1, ρ2, e1, e2⟩ := e
  cases e2
  refine ⟨P, W, F, ρ, _, ρ2, R, e1, fun v H' F' x R' o => q v H' F' x (R.back hok x R') ?_⟩
  have e1' := e1
  simp only [sLc, Option.bind_eq_some_iff, Prod.exists] at e1'
  obtain ⟨ds, ρ3, _, e4⟩ := e1'
  split at e4
  case isFalse => cases e4
  simp only [Option.bind_eq_some_iff, Prod.exists] at e4
  obtain ⟨zs, ρ4, _, e5⟩ := e4
  cases e5
  refine ⟨o.1, fun i c e ow => ?_⟩
  rcases backR_in e with ⟨hi, e6⟩ | e6
  · obtain ⟨d, rfl⟩ := ok_at hok hi e6
    cases ow
  · exact o.2 i c e6 ow
end
end Pv
end
section
set_option Elab.async false
set_option linter.all false
set_option maxRecDepth 100000
set_option maxHeartbeats 1000000
/-! PxC: the truth of a dict. -/
namespace Pv
open PySem PySem.Spec PyProof.Rows L2 PySem.W
section
variable {X : Cx}
def dictE : D → Option Bool
  | .dict es => some (!es.isEmpty)
  | _ => none
def sTruthD (f : SemE) : SemT := fun ρ => (f ρ).bind fun x => (look x.2 x.1).bind fun d => (dictE d).bind fun b => some (b, x.2)
theorem RpD.isEmpty {K : Fr'} {F : Hp} {kvs : List (Key × V)} {es : List (D × D)} (r : RpD K F kvs es) : kvs.isEmpty = es.isEmpty := by cases r <;> rfl
theorem tru_rd : TruR X (fun x H Q => ∃ a kvs, x = .ref a ∧ Rd H a (.dK kvs) ∧ Q (!kvs.isEmpty) H) := by
  intro pins s σ H x v Q I rx h
  obtain ⟨p, kvs, rfl, ha, q⟩ := h
  cases rx
  have hl := line63
  have hs : sizeLine = 16777216 := sizeLine_eq
  obtain ⟨hz, hS, vs, r, m⟩ := dk_rd I.hok ha
  have hlen : kvs.length = vs.length := Paired.length r
  exact wpAny_truthy_dict hS m (by omega) ⟨H, I.tok _, by rw [isEmpty_kv r]; exact q⟩
theorem dt_truthD {a : Expr} {f : SemE} (ha : DE X a f) (he : ∀ whole, isTrue a X.env whole = (do let v ← whole; standAt a.pos; holding [v] (truthy v)) := by intro _; rfl) : DT X a (sTruthD f) := by
  refine ⟨(pt_truthR ha.pe tru_rd he).pvi fun σ H Q q => ?_⟩
  obtain ⟨P, W, F, ρ, b, ρ', R, e, q⟩ := q
  simp only [sTruthD, Option.bind_eq_some_iff] at e
  obtain ⟨⟨r, ρ1⟩, e1, d, e2, k, e3, e4⟩ := e
  cases e4
  refine ⟨P, W, F, ρ, r, _, R, e1, fun v H1 F1 x1 R1 o1 => ?_⟩
  have lk := R1.lk o1 e2
  unfold dictE at e3
  split at e3
  case h_2 => cases e3
  cases e3
  obtain ⟨p, kvs, rfl, hr, rp⟩ := lk.dict R1.fh
  refine ⟨p, kvs, rfl, hr, ?_⟩
  rw [rp.isEmpty]
  exact q H1 F1 x1 R1
end
end Pv
end
section
set_option Elab.async false
set_option linter.all false
set_option maxRecDepth 100000
set_option maxHeartbeats 1000000
/-! PxD: y = {k: v for ..} on one line. -/
namespace Pv
open PySem PySem.Spec PyProof.Rows L2 PySem.W
theorem sDc_ok {K : Fr'} {it : SemI} {g : SemG} {t : SemT} {kf vf : SemE} {us vs : List Nat} (hu : ∀ i ∈ us, i ∈ vs) {σ : St} {H : Hp} {Q : VK} (q : tD K (sDc g t kf vf vs it) σ H Q) : tDc (tDI K it) (tDG K us g) (tDT K t) (tD K kf) (tD K vf) vs σ H Q := by
  obtain ⟨P, W, F, ρ, r, ρ', R, e, q⟩ := q
  simp only [sDc, Option.bind_eq_some_iff, Prod.exists] at e
  obtain ⟨ds, ρ1, e1, e2⟩ := e
  split at e2
  case isFalse => cases e2
  rename_i hclr
  simp only [Option.bind_eq_some_iff, Prod.exists] at e2
  obtain ⟨zs, ρ2, e2, e3⟩ := e2
  cases e3
  refine ⟨P, W, F, ρ, ds, ρ1, R, e1, fun J H1 W1 F1 sw x1 R1 w => ?_⟩
  intro D hD
  obtain ⟨G, Y, w, hG, hY⟩ := w.ex
  have hWD : W1 D = none := by
    cases e : W1 D with
    | none => rfl
    | some u => have := R1.wh D u e; rw [hD] at this; cases this
  have hFD := R1.fh.none hD
  have hp := pin_off R1 hclr
  refine walk_it w (step := fun x H' Nx => tDG K us g x (wipe σ vs) H' fun σ2 H2 => wipe σ2 vs = wipe σ vs ∧ tDT K t σ2 H2 fun b H3 => _)
    (fun i H => ∃ F2 ρ2 es kvs, Ext W1 F1 F2 ∧ Rel K P (upd W1 D (.dK kvs)) F2 H σ ρ2 ∧ F2 D = none ∧ clearAt ρ2 vs = true ∧ RpD K F2 kvs es ∧ dcL g t kf vf vs (ds.drop i) es ρ2 = some (zs, ρ')) ?_ ?_ ?_ ?_
  · refine ⟨F1, ρ1, [], [], Ext.refl _ _, ?_, hFD, hclr, .nil, by simpa using e2⟩
    have R2 := R1.grow (Grow.heap R1.fh hD (.dK []))
    refine R2.protect upd_same hFD fun i c e ow es => ?_
    obtain ⟨v, hv, hk⟩ := R1.cell i c e
    rw [es] at hv; cases hv
    cases c with
    | val d => cases ow
    | own d => obtain ⟨b, eb, _, _, o⟩ := hk; cases eb; rw [hD] at o; exact o
    | byr d => obtain ⟨b, eb, _, _, o⟩ := hk; cases eb; rw [hD] at o; exact o
    | scr ds => cases ow
  · rintro i H hi ⟨F2, ρ2, es, kvs, x2, R2, _⟩
    exact hG F2 H x2.same R2.fh (fun b o u e => R2.wh b _ (by rw [upd_ne (ne_of_none e hWD)]; exact e))
  · rintro i x H H' hi ⟨F2, ρ2, es, kvs, x2, R2, hFD2, hclr2, rxs, e3⟩ y
    have hd : ds[i]? = some ds[i] := List.getElem?_eq_getElem hi
    obtain ⟨F3, g3, rp⟩ := hY i _ F2 H H' x x2.same R2.fh hd y
    rw [List.drop_eq_getElem_cons hi] at e3
    simp only [dcL, Option.bind_eq_some_iff, Prod.exists] at e3
    obtain ⟨ρ3, e4, b, ρ4, e5, e6⟩ := e3
    have R3 := (R2.grow g3).toWipe hclr2
    have x3 := g3.ext R2.wh
    refine ⟨P, _, F3, ρ2, ds[i], ρ3, R3, rp, e4, fun σ4 H4 F4 x4 R4 of4 => ?_⟩
    have hw4 : wipe σ4 vs = wipe σ vs := (wipe_eq of4 hu).trans wipe_wipe
    refine ⟨hw4, P, _, F4, ρ3, b, ρ4, R4, e5, fun H5 F5 x5 R5 => ?_⟩
    cases b with
    | false =>
      simp only [Bool.false_eq_true, if_false] at e6 ⊢
      have x25 := (x3.trans x4).trans x5
      refine ⟨F5, wipeR ρ4 vs, es, kvs, (x2.trans x25.un), R5.wiped hw4 hp, ?_, clear_wipeR, rxs.mono (Le.of x25.same), e6⟩
      rw [x25.off D (by rw [upd_same]; exact fun z => nomatch z)]; exact hFD2
    | true =>
      simp only [if_true, Option.bind_eq_some_iff, Prod.exists] at e6 ⊢
      obtain ⟨r, ρ5, e7, kd, ρ6, e8, k, e9, r2, ρ7, e10, z, ρ8, e11, e12⟩ := e6
      split at e12
      case isFalse => cases e12
      rename_i hlen
      refine ⟨P, _, F5, ρ4, r, ρ5, R5, e7, fun y H6 F6 x6 R6 o6 => ?_⟩
      obtain ⟨F7, x7, R7, rp7⟩ := R6.frz o6 e8
      refine ⟨P, _, F7, ρ6, r2, ρ7, R7, e10, fun v H8 F8 x8 R8 o8 => ?_⟩
      obtain ⟨F9, x9, R9, rp9⟩ := R8.frz o8 e11
      have x29 := (((((x3.trans x4).trans x5).trans x6).trans x7).trans x8).trans x9
      have hF9 : F9 D = none := by rw [x29.off D (by rw [upd_same]; exact fun z => nomatch z)]; exact hFD2
      have rk := rxs.mono (Le.of x29.same)
      exact ⟨kvs, k, keyOf_kV (F := F7) (H := H6) (.inl rp7) e9, R9.wh D _ upd_same, by rw [rk.length]; exact hlen, F9, wipeR ρ8 vs, dput es k z, putK kvs k v, x2.trans x29.un, (R9.kept hF9).wiped hw4 hp, hF9, clear_wipeR, rk.put rp9, e12⟩
  · rintro H ⟨F2, ρ2, es, kvs, x2, R2, hFD2, hclr2, rxs, e3⟩
    rw [List.drop_length] at e3
    cases e3
    have own : OwnO K F2 (H D) (.dict zs) := by
      rw [R2.wh D _ upd_same]
      exact rxs
    exact q _ H F2 (x1.trans (x2.less sw)) ((R2.unprotect hWD).lessW sw) (RvOk.lessW sw (r := .fr _) ⟨⟨D, rfl, hWD, hFD2, own⟩, R2.noown⟩)
section
variable {X : Cx}
theorem ps_setDc {i : Nat} {y : Str} {py : Pos} {kx vx tg iter : Expr} {ifs : List Expr} {scope : Scope} {own : List (Str × Nat)} {pos spos : Pos} {wi : TI} {g : TG} {tt : TT} {tk tv : TE} (hc : X.calm = true) (hN : X.N.Nodup) (hy : X.N[i]? = some y) (hyl : X.env.scope.names.lookup y = some .local)
    (hsw : swapsWith (.DictComp kx vx [⟨tg, iter, ifs, 0⟩] scope pos) (some (.Name y py)) spos.line X.env = pure true) (hi : PI X tg iter wi) (ok : BlkOk X.N X.env.scope scope own)
    (hg : ∀ (s : Shared) (H : Hp) (C : Addr) (cl : List (Str × Addr)) (fp : List Addr), PG (X.blk s H scope (compEnvC scope cl C X.env) fp) tg g) (ht : ∀ (s : Shared) (H : Hp) (C : Addr) (cl : List (Str × Addr)) (fp : List Addr), PTs (X.blk s H scope (compEnvC scope cl C X.env) fp) ifs tt)
    (hk : ∀ (s : Shared) (H : Hp) (C : Addr) (cl : List (Str × Addr)) (fp : List Addr), PE (X.blk s H scope (compEnvC scope cl C X.env) fp) kx tk)
    (he : ∀ (s : Shared) (H : Hp) (C : Addr) (cl : List (Str × Addr)) (fp : List Addr), PE (X.blk s H scope (compEnvC scope cl C X.env) fp) vx tv) (hs : ∀ x, foldedSetIterable iter X.env x = pure x := by intro _; rfl) :
    PS X (.Assign [.Name y py] (.DictComp kx vx [⟨tg, iter, ifs, 0⟩] scope pos) spos) (tAsg (tDc wi g tt tk tv (own.map (·.2))) (gName i)) := by
  refine ⟨fun pins s σ H D I h => ?_⟩
  rw [exec_Assign_Name_used _ _ _ _ hsw]
  refine wpAny_bind (wpAny_standAt (wpAny_bind ?_))
  show wpAny _ X.A (do let _ ← comprehension (.DictComp kx vx [⟨tg, iter, ifs, 0⟩] scope pos) scope X.env (firstIterPos [⟨tg, iter, ifs, 0⟩] pos) newDict false (eval iter X.env) (some (assign (.Name y py) X.env))) _ _ s
  have h : tDc wi g tt tk tv (own.map (·.2)) σ H (fun x H1 => gName i x σ H1 D.nx) := h
  refine wpAny_bind (thn (dc_core (Qf := fun _ s' => SP X pins D .next s') hc hN I hi ok hg ht hk he hs h fun L C s' m H' I' q hn f => ?_) fun _ s' hq => wpAny_pure (wpAny_pure hq))
  show wpAny _ _ (assign (.Name y py) X.env (.ref L)) _ _ _
  refine wpAny_assign_Name (store_ok2 (v := V.ref L) I' hN hy (.inl hyl) rfl (fun s2 I2 ⟨a, sb, ha⟩ => ?_) (.inr hyl))
  obtain ⟨f0, f1, f2, f3, f4, f5⟩ := f
  have haC : C ≠ a := by
    rcases ha with z | z
    · rw [z]; exact f1
    · exact fun e => f4 y a z e.symm
  refine ⟨m, hn.sameBut sb haC, fun h3 sb3 => ?_⟩
  exact ⟨_, H', I2.turned (t' := s2.toks) (fun b o hb e => (sb3.2 b hb).trans e) f0 f1 f3 f4 f5, q⟩
theorem swd_true {kx vx : Expr} {gs : List Comprehension} {scope : Scope} {pos py : Pos} {y : Str} {l : Nat} {env : Env} (hk : env.scope.kind = .function) (hy : env.scope.names.lookup y = some .local) (hl : (py.line == pos.line) = true)
    (ha : (scope.names.any fun (n, k) => n == y && (k == .local || k == .cell)) = false) : swapsWith (.DictComp kx vx gs scope pos) (some (.Name y py)) l env = pure true := by
  have ky : env.kindOf y = some .local := hy
  have hb : env.blockKind = .function := by unfold Env.blockKind; rw [hk]; rfl
  unfold swapsWith
  simp only [hb, ky, ha, Expr.pos, hl]
  rfl
theorem ds_setDc {i : Nat} {y : Str} {py : Pos} {kx vx tg iter : Expr} {ifs : List Expr} {scope : Scope} {own : List (Str × Nat)} {pos spos : Pos} {it : SemI} {g : SemG} {t : SemT} {kf vf : SemE} {us : List Nat} (hy : X.N[i]? = some y) (hyl : X.env.scope.names.lookup y = some .local)
    (hsw : swapsWith (.DictComp kx vx [⟨tg, iter, ifs, 0⟩] scope pos) (some (.Name y py)) spos.line X.env = pure true) (hi : DI X tg iter it) (ok : BlkOk X.N X.env.scope scope own)
    (hg : ∀ (s : Shared) (H : Hp) (C : Addr) (cl : List (Str × Addr)) (fp : List Addr), DG (X.blk s H scope (compEnvC scope cl C X.env) fp) tg us g) (ht : ∀ (s : Shared) (H : Hp) (C : Addr) (cl : List (Str × Addr)) (fp : List Addr), DTs (X.blk s H scope (compEnvC scope cl C X.env) fp) ifs t)
    (hk : ∀ (s : Shared) (H : Hp) (C : Addr) (cl : List (Str × Addr)) (fp : List Addr), DE (X.blk s H scope (compEnvC scope cl C X.env) fp) kx kf) (he : ∀ (s : Shared) (H : Hp) (C : Addr) (cl : List (Str × Addr)) (fp : List Addr), DE (X.blk s H scope (compEnvC scope cl C X.env) fp) vx vf)
    (hu : ∀ i ∈ us, i ∈ own.map (·.2)) (hc : X.calm = true) (hN : X.N.Nodup) (hs : ∀ x, foldedSetIterable iter X.env x = pure x := by intro _; rfl) :
    DS X (.Assign [.Name y py] (.DictComp kx vx [⟨tg, iter, ifs, 0⟩] scope pos) spos) (sSet i (sDc g t kf vf (own.map (·.2)) it)) :=
  ⟨(ps_setDc (g := tDG X.K us g) (tt := tDT X.K t) (tk := tD X.K kf) (tv := tD X.K vf) hc hN hy hyl hsw hi.pi ok (fun s H C cl fp => (hg s H C cl fp).pg) (fun s H C cl fp => (ht s H C cl fp).pt) (fun s H C cl fp => (hk s H C cl fp).pe) (fun s H C cl fp => (he s H C cl fp).pe) hs).pvi fun D σ H q => sDc_ok hu (sSet_ok q)⟩
end
end Pv
end
section
set_option Elab.async false
set_option linter.all false
set_option maxRecDepth 100000
set_option maxHeartbeats 1000000
/-! PxE: dict of a list of pairs. -/
namespace Pv
open PySem PySem.Spec PyProof.Rows L2 PySem.W
section
variable {X : Cx}
/-- the pairs of a list -/
def pairsD : List D → Option (List (Key × D))
  | [] => some []
  | .tuple [k, v] :: ds => (keyOf k).bind fun k => (pairsD ds).map fun t => (k, v) :: t
  | _ => none
def putAll : List (D × D) → List (Key × D) → List (D × D)
  | es, [] => es
  | es, (k, v) :: t => putAll (dput es k v) t
def dictF2 : OpN
  | [.list ds] => (pairsD ds).map fun ps => (.dict (putAll [] ps), true)
  | _ => none
theorem pairs_rp {K : Fr'} {F : Hp} : ∀ {xs : List V} {ds : List D} {ps : List (Key × D)}, RpA K F xs ds → pairsD ds = some ps → ∃ (as : List Addr) (kvs : List (Key × V)), xs = as.map V.ref ∧ Paired (fun p kv => SqT K F p [kV kv.1, kv.2]) as kvs ∧ Paired (fun (kv : Key × V) (p : Key × D) => kv.1 = p.1 ∧ Rp K F kv.2 p.2) kvs ps
  | _, _, _, .nil, e => by cases e; exact ⟨[], [], rfl, .nil, .nil⟩
  | _, _, ps, .cons (v := x) (d := d) r t, e => by
    unfold pairsD at e
    split at e
    · cases ‹_ :: _ = ([] : List D)›
    · rename_i k v ds h
      cases h
      simp only [Option.bind_eq_some_iff, Option.map_eq_some_iff] at e
      obtain ⟨k', ek, t', et, rfl⟩ := e
      obtain ⟨as, kvs, h1, h2, h3⟩ := pairs_rp t et
      cases r with
      | @tup a xs _ sq ra =>
        cases ra with
        | cons r1 ra =>
          cases ra with
          | cons r2 ra =>
            cases ra
            cases keyOf_D ek
            have ex : _ = kV k' := keyOf_kV (F := F) (H := F) (.inl r1) ek
            subst ex
            exact ⟨a :: as, (k', _) :: kvs, by rw [h1]; rfl, .cons sq h2, .cons ⟨rfl, r2⟩ h3⟩
    · cases e
theorem put_rp {K : Fr'} {F : Hp} {kvs : List (Key × V)} {ps : List (Key × D)} (h : Paired (fun (kv : Key × V) (p : Key × D) => kv.1 = p.1 ∧ Rp K F kv.2 p.2) kvs ps) : ∀ {ls : List (Key × V)} {es : List (D × D)}, RpD K F ls es → RpD K F (mergeK ls kvs) (putAll es ps) := by
  induction h with
  | nil => intro ls es r; exact r
  | @cons kv p ks ps h t ih =>
    intro ls es r
    obtain ⟨k, v⟩ := kv
    obtain ⟨k2, d⟩ := p
    obtain ⟨h1, h2⟩ := h
    have h1 : k = k2 := h1
    subst h1
    exact ih (r.put h2)
theorem cr_dictD2 (hc : X.calm = true) : CallR X (.type "dict") (rCS X.K dictF2) := by
  intro pins s σ H xs us Q I r h
  obtain ⟨F, ds, zb, l, ls, e, q⟩ := h
  match ds, ls, e with
  | [.list ds], .cons lk .nil, e =>
    simp only [dictF2, Option.map_eq_some_iff] at e
    obtain ⟨ps, ep, rfl⟩ := e
    obtain ⟨a, vs, rfl, ha, rp⟩ := lk.list l
    obtain ⟨as, kvs, rfl, h2, h3⟩ := pairs_rp rp ep
    refine call_dictP hc pins s σ H _ us Q I r ⟨a, as, kvs, rfl, .inl (.inl ha), ?_, q.dct l (put_rp h3 .nil)⟩
    exact L2.Paired.mapP h2 fun p kv z => l.sqt z
end
end Pv
end
section
set_option Elab.async false
set_option linter.all false
set_option maxRecDepth 100000
set_option maxHeartbeats 1000000
/-! PxF: a, b, .. = a list. -/
namespace Pv
open PySem PySem.Spec PyProof.Rows L2 PySem.W
def gL (n : Nat) (g : SemGs) : SemG := fun d ρ => match d with
  | .list ds => if ds.length = n then g ds ρ else none
  | _ => none
section
variable {X : Cx}
theorem dg_lst {es : List Expr} {k n : Nat} {g : SemGs} {vs : List Nat} {pos : Pos} (h : DGs X es vs g) (hc : X.calm = true) (hn : (assignEach es X.env).length = n := by rfl) (hst : (assignEach es X.env).findIdx? (·.1) = none := by rfl) : DG X (.Tuple es k pos) vs (gL n g) := by
  refine ⟨(pg_unl hc h.pg hn hst).pvi fun v σ H Q q => ?_⟩
  obtain ⟨P, W, F, ρ, d, ρ', R, rp, e, q⟩ := q
  unfold gL at e
  split at e
  · rename_i ds
    split at e
    · rename_i hl
      cases rp with
      | lst s r => exact ⟨_, _, rfl, .inl (.inl (R.fh.lst s)), by rw [r.length]; exact hl, P, W, F, ρ, ds, ρ', R, r, e, q⟩
    · cases e
  · cases e
end
namespace Ev
@[scoped simp] theorem gL_u (n : Nat) (g : SemGs) (ds : List D) (ρ : Ro) : gL n g (.list ds) ρ = if ds.length = n then g ds ρ else none := rfl
end Ev
end Pv
end
section
set_option Elab.async false
set_option linter.all false
set_option maxRecDepth 100000
set_option maxHeartbeats 2000000
/-! PgR: the meanings of profiles.py, printed by gen.py. -/
namespace Pv.Pg
open PySem Pv
/-! ### is_set -/
def b_is_set : SemS := (sSeq (sIfS (sOr (sNot (sTruth (sIsi "tuple" (sVar 0)))) (sNot (sTruth (sCB allF (pCons (sLc (gN 3) sYes (sCall [.v] F_is_name (mV (sVar 3) mNil)) [3] (iOf walkOf (sVar 0))) pNil))))) (sRet (sC (.bool false))) sNx) (sRet (sCB allF (pCons (sLc (gT 2 (gsCons (gN 1) (gsCons (gN 2) gsNil))) sYes (sOp ltF (sVar 1) (sVar 2)) [1, 2] (iZp (sCons (sVar 0) (sCons (sSl slF (sVar 0) (oSome (sC (.int 1))) oNone) sNil)))) pNil))))
def F_is_set : Fn := fnOf 4 [.v] b_is_set
/-! ### is_profile -/
def b_is_profile : SemS := (sSeq (sIfS (sOr (sNot (sTruth (sIsi "tuple" (sVar 0)))) (sOr (sTest (sOp eqF (sOp modF (sCB lenF (pCons (sVar 0) pNil)) (sC (.int 2))) (sC (.int 1)))) (sTest (sOp gtF (sCB lenF (pCons (sVar 0) pNil)) (sOp mulF (sC (.int 2)) (sC (.int 8))))))) (sRet (sC (.bool false))) sNx) (sSeq (sIfS (sOr (sNot (sTruth (sCB allF (pCons (sLc (gN 2) sYes (sCall [.v] F_is_set (mV (sVar 2) mNil)) [2] (iOf walkOf (sVar 0))) pNil)))) (sTest (sOp inF (sTup sNil) (sSl slF (sVar 0) oNone (oSome (sNeg (sC (.int 1)))))))) (sRet (sC (.bool false))) sNx) (sSeq (sSet 1 (sLc2 (gN 2) sYes (iOf walkOf (sVar 2)) (gN 3) sYes (sVar 3) [2, 3] [3] (iOf walkOf (sVar 0)))) (sRet (sAndV (sOp leF (sCB lenF (pCons (sVar 1) pNil)) (sC (.int 8))) (sOp eqF (sLenSet (sVar 1)) (sCB lenF (pCons (sVar 1) pNil))))))))
def F_is_profile : Fn := fnOf 4 [.v] b_is_profile
/-! ### check_profile -/
def b_check_profile : SemS := (sIfS (sNot (sTruth (sCall [.v] F_is_profile (mV (sVar 0) mNil)))) sStuck sNx)
def F_check_profile : Fn := fnOf 1 [.v] b_check_profile
/-! ### check_locks -/
def b_check_locks : SemS := (sIfS (sOr (sNot (sTruth (sCall [.v] F_is_set (mV (sVar 0) mNil)))) (sOr (sTest (sOp gtF (sCB lenF (pCons (sVar 0) pNil)) (sVar 1))) (sNot (sTruth (sCB allF (pCons (sLc (gN 3) sYes (sOp inF (sVar 3) (sVar 0)) [3] (iOf walkOf (sVar 2))) pNil)))))) sStuck sNx)
def F_check_locks : Fn := fnOf 4 [.v, .v, .v] b_check_locks
/-! ### together -/
def b_together : SemS := (sRet (sCB tupleF2 (pCons (sSortSet (sOp addF (sVar 0) (sVar 1))) pNil)))
def F_together : Fn := fnOf 2 [.v, .v] b_together
/-! ### without_names -/
def b_without_names : SemS := (sRet (sCB tupleF2 (pCons (sLc (gN 2) (sTest (sOp notInF (sVar 2) (sVar 1))) (sVar 2) [2] (iOf walkOf (sVar 0))) pNil)))
def F_without_names : Fn := fnOf 3 [.v, .v] b_without_names
/-! ### rows_of -/
def b_rows_of : SemS := (sSeq (sPar 1 2 (mV (sTup sNil) (mR sDct0 mNil))) (sSeq (sFor (iR3 (pCons (sOp subF (sCB lenF (pCons (sVar 0) pNil)) (sC (.int 2))) (pCons (sNeg (sC (.int 1))) (pCons (sNeg (sC (.int 2))) pNil)))) (gN 3) (sSeq (sSet 1 (sCall [.v, .v] F_together (mV (sVar 1) (mV (sOp ixG (sVar 0) (sOp addF (sVar 3) (sC (.int 1)))) mNil)))) (sExpr (sMut "dict" 2 updateM (sCons (sDc (gN 4) sYes (sVar 4) (sVar 1) [4] (iOf walkOf (sOp ixG (sVar 0) (sVar 3)))) sNil))))) (sRet (sVar 2))))
def F_rows_of : Fn := fnOf 5 [.v] b_rows_of
/-! ### made -/
def b_made : SemS := (sSeq (sPar 1 2 (mR (sLst sNil) (mR (sCB dictF (pCons (sVar 0) pNil)) mNil))) (sSeq (sWhile (sTruthD (sVar 2)) (sSeq (sSet 3 (sCB maxF (pCons (sLcS (gN 5) sYes (sCB lenF (pCons (sVar 5) pNil)) [5] (iOf valsOf (sVar 2))) pNil))) (sSeq (sSet 4 (sCB tupleF2 (pCons (sCB sortedF2 (pCons (sLcS (gT 2 (gsCons (gN 7) (gsCons (gN 5) gsNil))) (sTest (sOp eqF (sCB lenF (pCons (sVar 5) pNil)) (sVar 3))) (sVar 7) [7, 5] (iOf itemsOf (sVar 2))) pNil)) pNil))) (sSeq (sSet 5 (sOp ixG (sVar 2) (sOp ixG (sVar 4) (sC (.int 0))))) (sSeq (sSet 2 (sDc (gT 2 (gsCons (gN 7) (gsCons (gN 8) gsNil))) (sTest (sOp notInF (sVar 7) (sVar 4))) (sVar 7) (sVar 8) [7, 8] (iOf itemsOf (sVar 2)))) (sSeq (sSet 6 (sLc2 (gN 8) sYes (iOf walkOf (sVar 8)) (gN 9) sYes (sVar 9) [8, 9] [9] (iOf valsOf (sVar 2)))) (sSet 1 (sOp addF (sVar 1) (sLst (sCons (sVar 4) (sCons (sCall [.v, .v] F_without_names (mV (sVar 5) (mV (sVar 6) mNil))) sNil)))))))))) 1000000) (sRet (sCB tupleF2 (pCons (sVar 1) pNil)))))
def F_made : Fn := fnOf 10 [.v] b_made
/-! ### is_below -/
def b_is_below : SemS := (sSeq (sIfS (sNot (sTruth (sCB allF (pCons (sLc (gN 2) sYes (sOp inF (sVar 2) (sVar 1)) [2] (iOf walkOf (sVar 0))) pNil)))) (sRet (sC (.bool false))) sNx) (sRet (sCB allF (pCons (sLc2 (gT 2 (gsCons (gN 2) (gsCons (gN 3) gsNil))) sYes (iOf walkOf (sVar 3)) (gN 4) sYes (sOrV (sOp inF (sVar 4) (sVar 1)) (sOp inF (sVar 4) (sOp ixG (sVar 1) (sVar 2)))) [2, 3, 4] [4] (iOf itemsOf (sVar 0))) pNil))))
def F_is_below : Fn := fnOf 5 [.v, .v] b_is_below
/-! ### names_in -/
def b_names_in : SemS := (sRet (sLc2 (gN 1) sYes (iOf walkOf (sVar 1)) (gN 2) sYes (sVar 2) [1, 2] [2] (iOf walkOf (sVar 0))))
def F_names_in : Fn := fnOf 3 [.v] b_names_in
/-! ### below -/
def b_below : SemS := (sSeq (sExpr (sCall [.v] F_check_profile (mV (sVar 0) mNil))) (sSeq (sExpr (sCall [.v] F_check_profile (mV (sVar 1) mNil))) (sRet (sCall [.v, .v] F_is_below (mV (sCall [.v] F_rows_of (mV (sVar 0) mNil)) (mV (sCall [.v] F_rows_of (mV (sVar 1) mNil)) mNil))))))
def F_below : Fn := fnOf 2 [.v, .v] b_below
/-! ### do_fit -/
def b_do_fit : SemS := (sSeq (sIfS (sTruth (sCB anyF (pCons (sLc (gN 2) sYes (sOp inF (sVar 2) (sVar 1)) [2] (iOf walkOf (sVar 0))) pNil))) (sRet (sC (.bool false))) sNx) (sRet (sNotV (sCB anyF (pCons (sLc2 (gT 2 (gsCons (gN 2) (gsCons (gN 3) gsNil))) sYes (iOf walkOf (sVar 3)) (gN 4) (sTest (sOp inF (sVar 4) (sVar 1))) (sOp inF (sVar 2) (sOp ixG (sVar 1) (sVar 4))) [2, 3, 4] [4] (iOf itemsOf (sVar 0))) pNil)))))
def F_do_fit : Fn := fnOf 5 [.v, .v] b_do_fit
/-! ### fit -/
def b_fit : SemS := (sSeq (sExpr (sCall [.v] F_check_profile (mV (sVar 0) mNil))) (sSeq (sExpr (sCall [.v] F_check_profile (mV (sVar 1) mNil))) (sRet (sCall [.v, .v] F_do_fit (mV (sCall [.v] F_rows_of (mV (sVar 0) mNil)) (mV (sCall [.v] F_rows_of (mV (sVar 1) mNil)) mNil))))))
def F_fit : Fn := fnOf 2 [.v, .v] b_fit
/-! ### partner_rows -/
def b_partner_rows : SemS := (sSeq (sSet 2 (sLc (gN 3) (sTest (sOp notInF (sVar 3) (sVar 0))) (sVar 3) [3] (iOf walkOf (sVar 1)))) (sRet (sDc (gN 4) sYes (sVar 4) (sCB tupleF2 (pCons (sCB sortedF2 (pCons (sLc (gT 2 (gsCons (gN 3) (gsCons (gN 5) gsNil))) (sTest (sOp notInF (sVar 4) (sVar 5))) (sVar 3) [3, 5] (iOf itemsOf (sVar 0))) pNil)) pNil)) [4] (iOf walkOf (sVar 2)))))
def F_partner_rows : Fn := fnOf 6 [.v, .v] b_partner_rows
/-! ### partner -/
def b_partner : SemS := (sSeq (sExpr (sCall [.v] F_check_profile (mV (sVar 0) mNil))) (sSeq (sExpr (sCall [.v, .v, .v] F_check_locks (mV (sVar 1) (mV (sC (.int 5)) (mV (sCall [.v] F_names_in (mV (sVar 0) mNil)) mNil))))) (sRet (sCall [.v] F_made (mV (sCall [.v, .v] F_partner_rows (mV (sCall [.v] F_rows_of (mV (sVar 0) mNil)) (mV (sVar 1) mNil))) mNil)))))
def F_partner : Fn := fnOf 2 [.v, .v] b_partner
end Pv.Pg
end
section
set_option Elab.async false
set_option linter.all false
set_option maxRecDepth 100000
set_option maxHeartbeats 1000000
/-! PvR: the end of a law. -/
namespace Pv
open PySem PySem.Spec PyProof.Rows L2 PySem.W

def scriptH (a : Addr) (vs : List Value) (ns : List Int) : Hp := fun b => if b = a then some (.frz { cls := .type "list", data := .seq vs.toArray } (.lst (ns.map V.int))) else none
theorem rp_ints {K : Fr'} {F : Hp} : ∀ ns : List Int, RpA K F (ns.map V.int) (ns.map PyData.int)
  | [] => .nil
  | n :: ns => .cons (.int n) (rp_ints ns)
/-- the law's promise, from its meaning -/
theorem sp_script {K : Fr'} {H : Hp} {a : Addr} {ns : List Int} {fn : Fn} (hS : SqL K H a (ns.map V.int)) (h : fn [.list (ns.map PyData.int)] = some ((.bool true, false), [])) : spF K [.s] fn [.ref a] H (fun v _ => v = .bl true) fun _ _ _ => False := by
  have w0 : Same (fun _ => Option.none) H := fun b o e => nomatch (show (Option.none : Option HO) = some o from e)
  refine ⟨fun _ => Option.none, H, [.list (ns.map PyData.int)], (.bool true, false), [], Le.refl H, w0, fun b e => absurd rfl e, ⟨⟨_, a, _, rfl, rfl, hS, rp_ints ns⟩, trivial⟩, h, fun v H' F' x l s p r => ?_⟩
  cases r
  rfl
/-- the law called with the script, its def by FnG -/
theorem law_callG {P : Program} {w : World} {K : Fr'} {mg mb : Str → Option Value} {k : Nat} {fa a : Addr} {x nm : Str} {fn : Fn} {s₁ : Shared} {vs : List Value} {ns : List Int}
    (KX : K.In s₁.heap) (hns : s₁.heap.Ns mainGlobals mg) (hb : s₁.heap.Ns builtinsNs mb) (hbb : ∀ x : Str, x ≠ "__name__" → mb x = bootBuiltins x) (hlim : s₁.heap.NoLimit) (hg : s₁.gens = #[])
    (ha : s₁.heap.get? a = some { cls := .type "list", data := .seq vs.toArray }) (hi : IntsAre vs ns) (hl : ns.length ≤ sizeLine) (hr : Room k callerA)
    (C : ∀ base : Heap, K.In base → base.Ns mainGlobals mg → Cal P w K mg base nm k [x] [.s] fn) (hm : mg nm = some (.ref fa)) (hfn : fn [.list (ns.map PyData.int)] = some ((.bool true, false), [])) :
    codeAny (model P w) callerA (.call (.ref fa) ⟨[.ref a], []⟩) (fun r s' => r = .ok (.ret (.bool true)) ∧ OldK s₁.heap s'.heap ∧ s'.os = s₁.os ∧ AllBare s'.gens) s₁ := by
  have rv := vals_ints hi
  have body : ∀ H : Hp, (∀ b, H b = none ∨ ∃ o xs, H b = some (.frz o (.lst xs))) → SqL K H a (ns.map V.int) → HOk P w H s₁.heap → (∀ b, H b ≠ none → b = a ∧ K.lookup a = none) →
      codeAny (model P w) callerA (.call (.ref fa) ⟨[.ref a], []⟩) (fun r s' => r = .ok (.ret (.bool true)) ∧ OldK s₁.heap s'.heap ∧ s'.os = s₁.os ∧ AllBare s'.gens) s₁ := by
    intro H hO hS hok hA
    have dictFree : ∀ {b : Addr} {o : Obj} {es : Array DictEntry} {ep : Nat}, s₁.heap.get? b = some o → o.data = .dict es ep → H b = none := by
      intro b o es ep e d
      cases q : H b with
      | none => rfl
      | some u =>
        have e' := (hA b (by rw [q]; exact fun z => nomatch z)).1
        rw [e', ha] at e
        cases e
        exact nomatch (show Data.seq vs.toArray _ = Data.dict es ep from d)
    have nsOf : ∀ {b : Addr} {m : Str → Option Value}, s₁.heap.Ns b m → (hidT s₁.heap H).Ns b m := by
      intro b m ⟨o, es, ep, e, d, r⟩
      exact ⟨o, es, ep, hidT_get e (dictFree e d), d, r⟩
    have kin : K.In (hidT s₁.heap H) := by
      intro b o e
      refine hidT_get (KX b o e) ?_
      cases q : H b with
      | none => rfl
      | some u =>
        obtain ⟨e1, e2⟩ := hA b (by rw [q]; exact fun z => nomatch z)
        rw [e1, e2] at e
        cases e
    have md : Mod K mg (hidT s₁.heap H) := ⟨kin, nsOf hns, ⟨mb, nsOf hb, hbb⟩, by obtain ⟨mc, h1, h2⟩ := hlim; exact ⟨mc, nsOf h1, h2⟩⟩
    have env : Env0 P w K mg (hidT s₁.heap H) callerA [] s₁ H := ⟨rfl, md, fun b o e => of_hidT e, Nat.le_of_eq (hidT_size _ _), trivial, fun b hb => absurd hb List.not_mem_nil, hok, .of_eq hg⟩
    obtain ⟨f, fd, F, bd, _, hm'⟩ := (C _ kin (nsOf hns)).ex
    rw [hm] at hm'
    cases hm'
    refine codeAny_mono (F.run callerA [] s₁ H ⟨[.ref a], []⟩ [.ref a] [.ref a] _ (fun _ _ _ => False) hr rfl env (by have := bd s₁ [.ref a] KX rfl; simpa using this) (.cons rfl .nil) (sp_script hS hfn)) fun r s' h => ?_
    cases r with
    | error e => exact h.elim
    | ok fl =>
      cases fl with
      | next => exact h.elim
      | brk => exact h.elim
      | cont => exact h.elim
      | ret u =>
        obtain ⟨v, H', os, bare, un, hok', r', q⟩ := h
        subst q
        cases r'
        refine ⟨rfl, OldK.of_keep fun b o e => ?_, os, bare⟩
        rcases hO b with z | ⟨ob, xs, z⟩
        · exact un.keep b o e z List.not_mem_nil List.not_mem_nil
        · have z2 := un.frzs b ob _ z
          obtain ⟨e1, _⟩ := hok b _ z
          obtain ⟨e2, _⟩ := hok' b _ z2
          rw [e] at e1
          cases e1
          exact e2
  cases hk : K.lookup a with
  | some o =>
    have e := KX a o hk
    rw [ha] at e
    cases e
    exact body (fun _ => none) (fun _ => .inl rfl) (.inr ⟨_, vs.toArray, _, hk, rfl, rfl, rfl, by rw [List.size_toArray, hi.length]; exact hl, by simpa using rv⟩) (fun b u z => nomatch (show (none : Option HO) = some u from z)) fun b z => absurd rfl z
  | none =>
    have at_ : scriptH a vs ns a = some (.frz { cls := .type "list", data := .seq vs.toArray } (.lst (ns.map V.int))) := if_pos rfl
    have off : ∀ b, b ≠ a → scriptH a vs ns b = none := fun b hb => if_neg hb
    refine body (scriptH a vs ns) (fun b => ?_) (.inl (.inr ⟨_, at_⟩)) (fun b u z => ?_) fun b z => ⟨?_, hk⟩
    · by_cases e : b = a
      · rw [e]; exact .inr ⟨_, _, at_⟩
      · exact .inl (off b e)
    · by_cases e : b = a
      · subst e
        rw [at_] at z
        cases z
        exact ⟨ha, by rw [List.length_map]; exact hl, vs, _, rv, ha⟩
      · rw [off b e] at z
        cases z
    · exact Classical.byContradiction fun e => z (off b e)
/-- the goal that k_head leaves, from the law's meaning -/
theorem walk_ofG {l : PySem.W.OpenLaw} {n k : Nat} {q : Program} {loose : List Str} {XP : (Str → Option Value) → Heap → Prop} {YP : World → Heap → Prop} {d : DefRec} {K : Params → PySem.W.Frag} {fn : Fn} {x : Str}
    (hn : l.most = some n) (hn2 : n ≤ sizeLine) (hdf : d.params.defaults = []) (hr : Room k callerA) (hY : ∀ (w : World) (h : Heap), YP w h → (K w.params).In h)
    (F : ∀ (w : World) (mg : Str → Option Value) (h : Heap), (K w.params).In h → h.Ns mainGlobals mg → ∀ base : Heap, (K w.params).In base → base.Ns mainGlobals mg → Cal l.prog w (K w.params) mg base d.name k [x] [.s] fn)
    (hfn : ∀ ns : List Int, ns.length ≤ n → (∀ z ∈ ns, Builtin.Int.intBits z ≤ 1048576) → fn [.list (ns.map PyData.int)] = some ((.bool true, false), [])) :
    PySem.W.WalkO q loose XP YP l.row.toRowW d [] (fun f vs => PySem.call f vs) := by
  refine Att.attach_callB hn hdf fun w s₀ s₁ mg mb fa o pm cd doc a vs ns G Y ho hd hcd hmg hobj hints hlen hbits hg => ?_
  have KX := hY w _ Y
  exact law_callG KX G.T.g G.T.b G.T.builtins G.T.nolimit hg hobj hints (Nat.le_trans hlen hn2) hr (F w mg _ KX G.T.g) hmg (hfn ns hlen hbits)
end Pv
end
section
set_option Elab.async false
set_option linter.all false
set_option maxRecDepth 100000
set_option maxHeartbeats 1000000
/-! PwA: counting with the meanings: loops and comprehensions in plain words. -/
namespace Pv
open PySem

section
variable {g : SemG} {t : SemT} {el : SemE} {vs : List Nat} {ρ : Ro}
/-- a comprehension that keeps each item -/
theorem lcL_map {h : D → D} : ∀ {ds : List D} {n : Nat}, (∀ d ∈ ds, ∃ ρ1 r, g d ρ = some ρ1 ∧ t ρ1 = some (true, ρ1) ∧ el ρ1 = some (r, ρ1) ∧ frz ρ1 r = some (h d, ρ1) ∧ wipeR ρ1 vs = ρ) → n + ds.length ≤ sizeLine → lcL g t el vs ds n ρ = some (ds.map h, ρ)
  | [], _, _, _ => rfl
  | d :: ds, n, k, hz => by
    obtain ⟨ρ1, r, e1, e2, e3, e4, e5⟩ := k d List.mem_cons_self
    have lt : n < sizeLine := by rw [List.length_cons] at hz; omega
    simp only [lcL, e1, e2, e3, e4, e5, Option.bind_some, if_pos, lt]
    rw [lcL_map (fun x hx => k x (List.mem_cons_of_mem _ hx)) (by rw [List.length_cons] at hz; omega)]
    rfl
/-- a comprehension that asks -/
theorem lcL_filter {h : D → D} {p : D → Bool} : ∀ {ds : List D} {n : Nat}, (∀ d ∈ ds, ∃ ρ1 r, g d ρ = some ρ1 ∧ t ρ1 = some (p d, ρ1) ∧ el ρ1 = some (r, ρ1) ∧ frz ρ1 r = some (h d, ρ1) ∧ wipeR ρ1 vs = ρ) → n + ds.length ≤ sizeLine →
    lcL g t el vs ds n ρ = some ((ds.filter p).map h, ρ)
  | [], _, _, _ => rfl
  | d :: ds, n, k, hz => by
    obtain ⟨ρ1, r, e1, e2, e3, e4, e5⟩ := k d List.mem_cons_self
    rw [List.length_cons] at hz
    have lt : n < sizeLine := by omega
    cases hp : p d with
    | true =>
      simp only [lcL, e1, e2, hp, e3, e4, e5, Option.bind_some, if_pos, lt]
      rw [lcL_filter (fun x hx => k x (List.mem_cons_of_mem _ hx)) (by omega), List.filter_cons_of_pos hp]
      rfl
    | false =>
      simp only [lcL, e1, e2, hp, e5, Option.bind_some, Bool.false_eq_true, if_false]
      rw [lcL_filter (fun x hx => k x (List.mem_cons_of_mem _ hx)) (by omega), List.filter_cons_of_neg (by rw [hp]; exact Bool.false_ne_true)]
/-- a dict comprehension that keeps each item -/
theorem dcL_map {kf vf : SemE} {hk : D → L2.Key} {h : D → D} : ∀ {ds : List D} {es : List (D × D)}, (∀ d ∈ ds, ∃ ρ1 r r2, g d ρ = some ρ1 ∧ t ρ1 = some (true, ρ1) ∧ kf ρ1 = some (r, ρ1) ∧ frz ρ1 r = some (keyD (hk d), ρ1) ∧ vf ρ1 = some (r2, ρ1) ∧ frz ρ1 r2 = some (h d, ρ1) ∧ wipeR ρ1 vs = ρ) →
    (∀ (a b : List D), ds = a ++ b → (a.foldl (fun es d => dput es (hk d) (h d)) es).length < sizeLine) → dcL g t kf vf vs ds es ρ = some (ds.foldl (fun es d => dput es (hk d) (h d)) es, ρ)
  | [], _, _, _ => rfl
  | d :: ds, es, k, hz => by
    obtain ⟨ρ1, r, r2, e1, e2, e3, e4, e5, e6, e7⟩ := k d List.mem_cons_self
    have lt : es.length < sizeLine := hz [] (d :: ds) rfl
    simp only [dcL, e1, e2, e3, e4, keyOf_keyD, e5, e6, e7, Option.bind_some, if_pos, lt]
    exact dcL_map (fun x hx => k x (List.mem_cons_of_mem _ hx)) fun a b e => hz (d :: a) b (by rw [e]; rfl)
end
/-- a loop that goes on, its frame told by what has been walked -/
theorem forL_fold {g : SemG} {b : SemS} {σ : Type} (fr : σ → Ro) (step : σ → D → σ) : ∀ (ds : List D) (s : σ), (∀ (a : List D) (d : D) (c : List D), ds = a ++ d :: c → ∃ ρ1 ρ2, g d (fr (a.foldl step s)) = some ρ1 ∧ b ρ1 = some (.nx ρ2) ∧ ρ2 = fr (step (a.foldl step s) d)) →
    forL g b ds (fr s) = some (.nx (fr (ds.foldl step s)))
  | [], _, _ => rfl
  | d :: ds, s, h => by
    obtain ⟨ρ1, ρ2, e1, e2, e3⟩ := h [] d ds rfl
    simp only [forL, List.foldl_nil] at e1 e3 ⊢
    simp only [e1, e2, Option.bind_some]
    rw [e3, List.foldl_cons]
    exact forL_fold fr step ds _ fun a x c e => by
      have := h (d :: a) x c (by rw [e]; rfl)
      simpa using this
theorem asBls_map {α : Type} (f : α → Bool) : ∀ xs : List α, asBls (xs.map fun x => PyData.bool (f x)) = some (xs.map f)
  | [] => rfl
  | x :: r => by simp only [List.map_cons, asBls, asBls_map f r, Option.map_some]
theorem asInts_map {α : Type} (f : α → Int) : ∀ xs : List α, asInts (xs.map fun x => PyData.int (f x)) = some (xs.map f)
  | [] => rfl
  | x :: r => by simp only [List.map_cons, asInts, asInts_map f r, Option.map_some]
end Pv
end
section
set_option Elab.async false
set_option linter.all false
set_option maxRecDepth 100000
set_option maxHeartbeats 1000000
/-! PwB: comprehensions of two clauses in plain words. -/
namespace Pv
open PySem
theorem lc2L_map {g g1 : SemG} {t t1 : SemT} {it1 : SemI} {el : SemE} {vs vs1 : List Nat} {ρ : Ro} {inner : D → List D} : ∀ {ds : List D} {n : Nat},
    (∀ d ∈ ds, ∃ ρ1 ds1 ρ3, g d ρ = some ρ1 ∧ t ρ1 = some (true, ρ1) ∧ it1 ρ1 = some (ds1, ρ3) ∧ clearAt ρ3 vs1 = true ∧ (∀ m, m + (inner d).length ≤ sizeLine → lcL g1 t1 el vs1 ds1 m ρ3 = some (inner d, ρ3)) ∧ wipeR ρ3 vs = ρ) →
    n + (ds.flatMap inner).length ≤ sizeLine → lc2L g t it1 g1 t1 el vs vs1 ds n ρ = some (ds.flatMap inner, ρ)
  | [], _, _, _ => rfl
  | d :: ds, n, k, hz => by
    obtain ⟨ρ1, ds1, ρ3, e1, e2, e3, e4, e5, e6⟩ := k d List.mem_cons_self
    rw [List.flatMap_cons, List.length_append] at hz
    have e5' := e5 n (by omega)
    simp only [lc2L, e1, e2, e3, e4, e5', e6, Option.bind_some, if_true]
    rw [lc2L_map (fun x hx => k x (List.mem_cons_of_mem _ hx)) (by omega)]
    rw [List.flatMap_cons]
    rfl
end Pv
end
section
set_option Elab.async false
set_option linter.all false
set_option autoImplicit false
set_option maxRecDepth 100000
set_option maxHeartbeats 1000000
/-! PwS: the meanings, step by step, for simp (names of Pv.Ev are scoped). -/
namespace Pv.Ev
open PySem Pv L2
structure Tg {α β : Type} (f : α → Option β) : Type where
/-- a bind into whose function simp does not look -/
def Bd {α β : Type} (f : α → Option β) (a : Option α) (t : Tg f) : Option β := a.bind f
def bd {α β : Type} (a : Option α) (f : α → Option β) : Option β := Bd f a ⟨⟩
@[scoped simp ↓] theorem bd_u {α β : Type} (a : Option α) (f : α → Option β) : bd a f = Bd f a ⟨⟩ := rfl
@[scoped simp ↓] theorem Bd_pre {α β : Type} (x : α) (f : α → Option β) (t : Tg f) : Bd f (some x) t = f x := rfl
@[scoped simp] theorem Bd_some {α β : Type} (x : α) (f : α → Option β) (t : Tg f) : Bd f (some x) t = f x := rfl
@[scoped simp] theorem Bd_none {α β : Type} (f : α → Option β) (t : Tg f) : Bd f none t = none := rfl
def varC (i : Nat) (ρ : Ro) : Option (Option Cell) → Option (Rv × Ro)
  | some (some (.val d)) => some (.val d, ρ)
  | some (some (.own _)) => some (.at i, ρ)
  | some (some (.byr _)) => some (.at i, ρ)
  | _ => none
def lookC : Option (Option Cell) → Option D
  | some (some (.val d)) => some d
  | some (some (.own d)) => some d
  | some (some (.byr d)) => some d
  | _ => none
def frzC (i : Nat) (ρ : Ro) : Option (Option Cell) → Option (D × Ro)
  | some (some (.val d)) => some (d, ρ)
  | some (some (.own d)) => some (d, ρ.set i (some (.val d)))
  | _ => none
def slotC : Option (Option Cell) → Bool
  | none => false
  | some (some (.byr _)) => false
  | some (some (.scr _)) => false
  | _ => true
def retC (i : Nat) (ρ : Ro) : Option (Option Cell) → Option Out
  | some (some (.own d)) => some (.rt (.fr d) (ρ.set i none))
  | some (some (.val d)) => some (.rt (.val d) ρ)
  | _ => none
def retR (ρ : Ro) : Rv → Option Out
  | .at i => retC i ρ ρ[i]?
  | r => some (.rt r ρ)
def ownC : Option (Option Cell) → Option D
  | some (some (.own d)) => some d
  | some (some (.byr d)) => some d
  | _ => none
def putC (i : Nat) (d : D) (ρ : Ro) : Option (Option Cell) → Ro
  | some (some c) => ρ.set i (some (c.put d))
  | _ => ρ
def clearC : Option (Option Cell) → Bool
  | some (some _) => false
  | _ => true
def scrC : Option (Option Cell) → Option (List D)
  | some (some (.scr ds)) => some ds
  | _ => none
section
variable (i : Nat) (ρ : Ro) (d : D)
@[scoped simp] theorem varC1 : varC i ρ (some (some (.val d))) = some (.val d, ρ) := rfl
@[scoped simp] theorem varC2 : varC i ρ (some (some (.own d))) = some (.at i, ρ) := rfl
@[scoped simp] theorem varC3 : varC i ρ (some (some (.byr d))) = some (.at i, ρ) := rfl
@[scoped simp] theorem varC4 : varC i ρ (some none) = none := rfl
@[scoped simp] theorem lookC1 : lookC (some (some (.val d))) = some d := rfl
@[scoped simp] theorem lookC2 : lookC (some (some (.own d))) = some d := rfl
@[scoped simp] theorem lookC3 : lookC (some (some (.byr d))) = some d := rfl
@[scoped simp] theorem frzC1 : frzC i ρ (some (some (.val d))) = some (d, ρ) := rfl
@[scoped simp] theorem frzC2 : frzC i ρ (some (some (.own d))) = some (d, ρ.set i (some (.val d))) := rfl
@[scoped simp] theorem slotC1 : slotC (some none) = true := rfl
@[scoped simp] theorem slotC2 : slotC (some (some (.val d))) = true := rfl
@[scoped simp] theorem slotC3 : slotC (some (some (.own d))) = true := rfl
@[scoped simp] theorem retC1 : retC i ρ (some (some (.own d))) = some (.rt (.fr d) (ρ.set i none)) := rfl
@[scoped simp] theorem retC2 : retC i ρ (some (some (.val d))) = some (.rt (.val d) ρ) := rfl
@[scoped simp] theorem retR1 : retR ρ (.val d) = some (.rt (.val d) ρ) := rfl
@[scoped simp] theorem retR2 : retR ρ (.fr d) = some (.rt (.fr d) ρ) := rfl
@[scoped simp] theorem retR3 : retR ρ (.at i) = retC i ρ ρ[i]? := rfl
@[scoped simp] theorem ownC1 : ownC (some (some (.own d))) = some d := rfl
@[scoped simp] theorem ownC2 : ownC (some (some (.byr d))) = some d := rfl
@[scoped simp] theorem putC1 (e : D) : putC i d ρ (some (some (.own e))) = ρ.set i (some (.own d)) := rfl
@[scoped simp] theorem putC2 (e : D) : putC i d ρ (some (some (.byr e))) = ρ.set i (some (.byr d)) := rfl
@[scoped simp] theorem clearC1 : clearC (some none) = true := rfl
@[scoped simp] theorem clearC2 (c : Cell) : clearC (some (some c)) = false := rfl
@[scoped simp] theorem clearC3 : clearC none = true := rfl
@[scoped simp] theorem scrC1 (ds : List D) : scrC (some (some (.scr ds))) = some ds := rfl
@[scoped simp] theorem sVar_u : sVar i ρ = varC i ρ ρ[i]? := rfl
@[scoped simp] theorem sC_u : sC d ρ = some (.val d, ρ) := rfl
@[scoped simp] theorem look_v : look ρ (.val d) = some d := rfl
@[scoped simp] theorem look_f : look ρ (.fr d) = some d := rfl
@[scoped simp] theorem look_a : look ρ (.at i) = lookC ρ[i]? := rfl
@[scoped simp] theorem settle_v : settle (.val d) = .val d := rfl
@[scoped simp] theorem settle_f : settle (.fr d) = .val d := rfl
@[scoped simp] theorem settle_a : settle (.at i) = .at i := rfl
@[scoped simp] theorem frz_v : frz ρ (.val d) = some (d, ρ) := rfl
@[scoped simp] theorem frz_f : frz ρ (.fr d) = some (d, ρ) := rfl
@[scoped simp] theorem frz_a : frz ρ (.at i) = frzC i ρ ρ[i]? := rfl
@[scoped simp] theorem mkR_v : mkR (d, false) = .val d := rfl
@[scoped simp] theorem mkR_f : mkR (d, true) = .fr d := rfl
@[scoped simp] theorem slotOk_u : slotOk ρ i = slotC ρ[i]? := rfl
@[scoped simp] theorem store_v : store i (.val d) ρ = if slotC ρ[i]? = true then some (ρ.set i (some (.val d))) else none := rfl
@[scoped simp] theorem store_f : store i (.fr d) ρ = if slotC ρ[i]? = true then some (ρ.set i (some (.own d))) else none := rfl
@[scoped simp] theorem store_a (j : Nat) : store i (.at j) ρ = if slotC ρ[i]? = true then bd (frzC j ρ ρ[j]?) fun z => some (z.2.set i (some (.val z.1))) else none := rfl
@[scoped simp] theorem ownAt_u : ownAt ρ i = ownC ρ[i]? := rfl
@[scoped simp] theorem putAt_u : putAt ρ i d = putC i d ρ ρ[i]? := rfl
@[scoped simp] theorem clearAt_n : clearAt ρ [] = true := rfl
@[scoped simp] theorem clearAt_c (v : Nat) (vs : List Nat) : clearAt ρ (v :: vs) = (clearC ρ[v]? && clearAt ρ vs) := rfl
@[scoped simp] theorem wipeR_n : wipeR ρ [] = ρ := rfl
@[scoped simp] theorem wipeR_c (v : Nat) (vs : List Nat) : wipeR ρ (v :: vs) = (wipeR ρ vs).set v none := rfl
@[scoped simp] theorem scrAt_u : scrAt ρ i = scrC ρ[i]? := rfl
end
section
variable (ρ : Ro) (f g h : SemE) (a : SemA) (p : SemP) (c c2 : SemT) (s s2 : SemS)
@[scoped simp] theorem sNil_u : sNil ρ = some ([], ρ) := rfl
@[scoped simp] theorem sCons_u : sCons f a ρ = bd (f ρ) fun x => bd (frz x.2 x.1) fun y => bd (a y.2) fun z => some (y.1 :: z.1, z.2) := rfl
@[scoped simp] theorem pNil_u : pNil ρ = some ([], ρ) := rfl
@[scoped simp] theorem pCons_u : pCons f p ρ = bd (f ρ) fun x => bd (p x.2) fun z => some (settle x.1 :: z.1, z.2) := rfl
@[scoped simp] theorem sTup_u : sTup a ρ = bd (a ρ) fun x => if x.1.length ≤ sizeLine then some (.val (.tuple x.1), x.2) else none := rfl
@[scoped simp] theorem sLst_u : sLst a ρ = bd (a ρ) fun x => if x.1.length ≤ sizeLine then some (.fr (.list x.1), x.2) else none := rfl
@[scoped simp] theorem sOp_u (o : Op2) : sOp o f g ρ = bd (f ρ) fun x => bd (g x.2) fun y => bd (look y.2 (settle x.1)) fun d => bd (look y.2 (settle y.1)) fun e => bd (o d e) fun z => some (mkR z, y.2) := rfl
@[scoped simp] theorem asB_u (b : Bool) : asB (.bool b) = some b := rfl
@[scoped simp] theorem sTest_u : sTest f ρ = bd (f ρ) fun x => bd (look x.2 x.1) fun d => bd (asB d) fun b => some (b, x.2) := rfl
@[scoped simp] theorem sChain_u (o o2 : Op2) : sChain o o2 f g h ρ = bd (f ρ) fun x => bd (g x.2) fun y => bd (look y.2 (settle x.1)) fun d => bd (look y.2 (settle y.1)) fun e => bd (o d e) fun z => bd (asB z.1) fun k => if z.2 = true then none else if k = true then bd (h y.2) fun u => bd (look u.2 (settle y.1)) fun e' => bd (look u.2 (settle u.1)) fun w => bd (o2 e' w) fun z' => some (mkR z', u.2) else some (.val (.bool false), y.2) := rfl
@[scoped simp] theorem truth_n : truth .none = some false := rfl
@[scoped simp] theorem truth_b (b : Bool) : truth (.bool b) = some b := rfl
@[scoped simp] theorem truth_i (i : Int) : truth (.int i) = some (i != 0) := rfl
@[scoped simp] theorem truth_s (x : Str) : truth (.str x) = if x.length ≤ sizeLine then some ((x.length : Int) != 0) else none := rfl
@[scoped simp] theorem truth_l (ds : List D) : truth (.list ds) = some (!ds.isEmpty) := rfl
@[scoped simp] theorem truth_t (ds : List D) : truth (.tuple ds) = some (!ds.isEmpty) := rfl
@[scoped simp] theorem sTruth_u : sTruth f ρ = bd (f ρ) fun x => bd (look x.2 x.1) fun d => bd (truth d) fun b => some (b, x.2) := rfl
@[scoped simp] theorem sAnd_u : sAnd c c2 ρ = bd (c ρ) fun x => if x.1 = true then c2 x.2 else some (false, x.2) := rfl
@[scoped simp] theorem sOr_u : sOr c c2 ρ = bd (c ρ) fun x => if x.1 = true then some (true, x.2) else c2 x.2 := rfl
@[scoped simp] theorem sNot_u : sNot c ρ = bd (c ρ) fun x => some (!x.1, x.2) := rfl
@[scoped simp] theorem sIf_u : sIf c f g ρ = bd (c ρ) fun x => if x.1 = true then f x.2 else g x.2 := rfl
@[scoped simp] theorem sAndV_u : sAndV f g ρ = bd (sTest f ρ) fun x => if x.1 = true then g x.2 else some (.val (.bool false), x.2) := rfl
@[scoped simp] theorem sOrV_u : sOrV f g ρ = bd (sTest f ρ) fun x => if x.1 = true then some (.val (.bool true), x.2) else g x.2 := rfl
@[scoped simp] theorem sNotV_u : sNotV f ρ = bd (sTest f ρ) fun x => some (.val (.bool !x.1), x.2) := rfl
@[scoped simp] theorem asI_u (i : Int) : asI (.int i) = some i := rfl
@[scoped simp] theorem oNone_u : oNone ρ = some (none, ρ) := rfl
@[scoped simp] theorem oSome_u : oSome f ρ = bd (f ρ) fun x => bd (look x.2 x.1) fun d => bd (asI d) fun i => some (some i, x.2) := rfl
@[scoped simp] theorem sSl_u (o : D → Option Int → Option Int → Option (D × Bool)) (l h : Ro → Option (Option Int × Ro)) : sSl o f l h ρ = bd (f ρ) fun x => bd (l x.2) fun y => bd (h y.2) fun z => bd (look z.2 (settle x.1)) fun d => bd (o d y.1 z.1) fun zb => some (mkR zb, z.2) := rfl
@[scoped simp] theorem looks_n : looks ρ [] = some [] := rfl
@[scoped simp] theorem looks_c (r : Rv) (rs : List Rv) : looks ρ (r :: rs) = bd (look ρ r) fun d => bd (looks ρ rs) fun ds => some (d :: ds) := rfl
@[scoped simp] theorem sCB_u (o : OpN) : sCB o p ρ = bd (p ρ) fun x => bd (looks x.2 x.1) fun ds => bd (o ds) fun zb => some (mkR zb, x.2) := rfl
@[scoped simp] theorem sNx_u : sNx ρ = some (.nx ρ) := rfl
@[scoped simp] theorem sStuck_u : sStuck ρ = none := rfl
@[scoped simp] theorem thenS_n : thenS (.nx ρ) s = s ρ := rfl
@[scoped simp] theorem thenS_r (r : Rv) : thenS (.rt r ρ) s = some (.rt r ρ) := rfl
@[scoped simp] theorem sSeq_u : sSeq s s2 ρ = bd (s ρ) fun o => thenS o s2 := rfl
@[scoped simp] theorem sSet_u (i : Nat) : sSet i f ρ = bd (f ρ) fun x => bd (store i x.1 x.2) fun ρ2 => some (.nx ρ2) := rfl
@[scoped simp] theorem gN_u (i : Nat) (d : D) : gN i d ρ = store i (.val d) ρ := rfl
@[scoped simp] theorem gsNil_u : gsNil [] ρ = some ρ := rfl
@[scoped simp] theorem gsCons_u (g : SemG) (h : SemGs) (d : D) (ds : List D) : gsCons g h (d :: ds) ρ = bd (g d ρ) fun ρ1 => h ds ρ1 := rfl
@[scoped simp] theorem gT_u (n : Nat) (g : SemGs) (ds : List D) : gT n g (.tuple ds) ρ = if ds.length = n then g ds ρ else none := rfl
@[scoped simp] theorem sAsg_u (g : SemG) : sAsg f g ρ = bd (f ρ) fun x => bd (frz x.2 x.1) fun y => bd (g y.1 y.2) fun ρ3 => some (.nx ρ3) := rfl
theorem sRet_u : sRet f ρ = (f ρ).bind fun x => retR x.2 x.1 := by
  unfold sRet
  apply congrArg
  funext x
  obtain ⟨r, ρ1⟩ := x
  cases r <;> rfl
@[scoped simp] theorem sRet_u' : sRet f ρ = bd (f ρ) fun x => retR x.2 x.1 := sRet_u ρ f
@[scoped simp] theorem sRetN_u : sRetN ρ = some (.rt (.val .none) ρ) := rfl
@[scoped simp] theorem sExpr_u : sExpr f ρ = bd (f ρ) fun x => some (.nx x.2) := rfl
@[scoped simp] theorem sIfS_u : sIfS c s s2 ρ = bd (c ρ) fun x => if x.1 = true then s x.2 else s2 x.2 := rfl
@[scoped simp] theorem sFor_u (it : SemI) (g : SemG) : sFor it g s ρ = bd (it ρ) fun x => forL g s x.1 x.2 := rfl
@[scoped simp] theorem iOf_u (w : D → Option (List D)) : iOf w f ρ = bd (f ρ) fun x => bd (frz x.2 x.1) fun y => bd (w y.1) fun ds => some (ds, y.2) := rfl
@[scoped simp] theorem walk_l (ds : List D) : walkOf (.list ds) = some ds := rfl
@[scoped simp] theorem walk_t (ds : List D) : walkOf (.tuple ds) = some ds := rfl
@[scoped simp] theorem walk_s (x : Str) : walkOf (.str x) = some (charsD x) := rfl
@[scoped simp] theorem walk_d (es : List (D × D)) : walkOf (.dict es) = some (es.map (·.1)) := rfl
@[scoped simp] theorem items_d (es : List (D × D)) : itemsOf (.dict es) = some (es.map pairD) := rfl
@[scoped simp] theorem vals_d (es : List (D × D)) : valsOf (.dict es) = some (es.map (·.2)) := rfl
def r1C (ρ : Ro) : List D → Option (List D × Ro)
  | [.int j] => if small62 j = true then some (rng 0 j.toNat, ρ) else none
  | _ => none
def r2C (ρ : Ro) : List D → Option (List D × Ro)
  | [.int i, .int j] => if (small62 i && small62 j) = true then some (rng i (j - i).toNat, ρ) else none
  | _ => none
def r3C (ρ : Ro) : List D → Option (List D × Ro)
  | [.int i, .int j, .int c] => if c ≠ 0 ∧ c.natAbs < 1073741824 ∧ Builtin.Range.small i j c = true ∧ 0 ≤ Builtin.Range.rangeSize i j c then some (rng3 i c (Builtin.Range.rangeSize i j c).toNat, ρ) else none
  | _ => none
def enC (ρ : Ro) : List D → Option (List D × Ro)
  | [.list xs] => some (enumD xs, ρ)
  | [.tuple xs] => some (enumD xs, ρ)
  | _ => none
def zpC (ρ : Ro) : List D → Option (List D × Ro)
  | [.list xs, .list ys] => some (zipD xs ys, ρ)
  | [.tuple xs, .tuple ys] => some (zipD xs ys, ρ)
  | _ => none
@[scoped simp] theorem iR1_u : iR1 p ρ = bd (p ρ) fun x => bd (looks x.2 x.1) fun ds => r1C x.2 ds := by
  unfold iR1 bd Bd; congr 1
@[scoped simp] theorem iR2_u : iR2 p ρ = bd (p ρ) fun x => bd (looks x.2 x.1) fun ds => r2C x.2 ds := by
  unfold iR2 bd Bd; congr 1
@[scoped simp] theorem iR3_u : iR3 p ρ = bd (p ρ) fun x => bd (looks x.2 x.1) fun ds => r3C x.2 ds := by
  unfold iR3 bd Bd; congr 1
@[scoped simp] theorem iEn_u : iEn a ρ = bd (a ρ) fun x => enC x.2 x.1 := by
  unfold iEn bd Bd; congr 1
@[scoped simp] theorem iZp_u : iZp a ρ = bd (a ρ) fun x => zpC x.2 x.1 := by
  unfold iZp bd Bd; congr 1
@[scoped simp] theorem r1C_u (j : Int) : r1C ρ [.int j] = if small62 j = true then some (rng 0 j.toNat, ρ) else none := rfl
@[scoped simp] theorem r2C_u (i j : Int) : r2C ρ [.int i, .int j] = if (small62 i && small62 j) = true then some (rng i (j - i).toNat, ρ) else none := rfl
@[scoped simp] theorem r3C_u (i j c : Int) : r3C ρ [.int i, .int j, .int c] = if c ≠ 0 ∧ c.natAbs < 1073741824 ∧ Builtin.Range.small i j c = true ∧ 0 ≤ Builtin.Range.rangeSize i j c then some (rng3 i c (Builtin.Range.rangeSize i j c).toNat, ρ) else none := rfl
@[scoped simp] theorem enC_l (xs : List D) : enC ρ [.list xs] = some (enumD xs, ρ) := rfl
@[scoped simp] theorem enC_t (xs : List D) : enC ρ [.tuple xs] = some (enumD xs, ρ) := rfl
@[scoped simp] theorem zpC_l (xs ys : List D) : zpC ρ [.list xs, .list ys] = some (zipD xs ys, ρ) := rfl
@[scoped simp] theorem zpC_t (xs ys : List D) : zpC ρ [.tuple xs, .tuple ys] = some (zipD xs ys, ρ) := rfl
@[scoped simp] theorem sLc_u (g : SemG) (t : SemT) (el : SemE) (vs : List Nat) (it : SemI) : sLc g t el vs it ρ = bd (it ρ) fun x => if clearAt x.2 vs = true then bd (lcL g t el vs x.1 0 x.2) fun y => some (.fr (.list y.1), y.2) else none := rfl
@[scoped simp] theorem sLc2_u (g : SemG) (t : SemT) (it1 : SemI) (g1 : SemG) (t1 : SemT) (el : SemE) (vs vs1 : List Nat) (it : SemI) : sLc2 g t it1 g1 t1 el vs vs1 it ρ = bd (it ρ) fun x => if clearAt x.2 vs = true then bd (lc2L g t it1 g1 t1 el vs vs1 x.1 0 x.2) fun y => some (.fr (.list y.1), y.2) else none := rfl
@[scoped simp] theorem sDc_u (g : SemG) (t : SemT) (kf vf : SemE) (vs : List Nat) (it : SemI) : sDc g t kf vf vs it ρ = bd (it ρ) fun x => if clearAt x.2 vs = true then bd (dcL g t kf vf vs x.1 [] x.2) fun y => some (.fr (.dict y.1), y.2) else none := rfl
@[scoped simp] theorem sYes_u : sYes ρ = some (true, ρ) := rfl
@[scoped simp] theorem sDct0_u : sDct0 ρ = some (.fr (.dict []), ρ) := rfl
def parC (i j : Nat) (ρ : Ro) : List Rv → Option Out
  | [.val a, .val b] => (store i (.val a) ρ).bind fun ρ2 => (store j (.val b) ρ2).bind fun ρ3 => some (.nx ρ3)
  | [.val a, .fr b] => (store i (.val a) ρ).bind fun ρ2 => (store j (.fr b) ρ2).bind fun ρ3 => some (.nx ρ3)
  | [.fr a, .val b] => (store i (.fr a) ρ).bind fun ρ2 => (store j (.val b) ρ2).bind fun ρ3 => some (.nx ρ3)
  | [.fr a, .fr b] => (store i (.fr a) ρ).bind fun ρ2 => (store j (.fr b) ρ2).bind fun ρ3 => some (.nx ρ3)
  | _ => none
@[scoped simp] theorem sPar_u (i j : Nat) (f : SemM) : sPar i j f ρ = bd (f ρ) fun x => parC i j x.2 x.1 := by
  unfold sPar bd Bd; congr 1
@[scoped simp] theorem parC1 (i j : Nat) (a b : D) : parC i j ρ [.val a, .val b] = bd (store i (.val a) ρ) fun ρ2 => bd (store j (.val b) ρ2) fun ρ3 => some (.nx ρ3) := rfl
@[scoped simp] theorem parC2 (i j : Nat) (a b : D) : parC i j ρ [.val a, .fr b] = bd (store i (.val a) ρ) fun ρ2 => bd (store j (.fr b) ρ2) fun ρ3 => some (.nx ρ3) := rfl
@[scoped simp] theorem parC3 (i j : Nat) (a b : D) : parC i j ρ [.fr a, .val b] = bd (store i (.fr a) ρ) fun ρ2 => bd (store j (.val b) ρ2) fun ρ3 => some (.nx ρ3) := rfl
@[scoped simp] theorem parC4 (i j : Nat) (a b : D) : parC i j ρ [.fr a, .fr b] = bd (store i (.fr a) ρ) fun ρ2 => bd (store j (.fr b) ρ2) fun ρ3 => some (.nx ρ3) := rfl
@[scoped simp] theorem forL_n (g : SemG) : forL g s [] ρ = some (.nx ρ) := rfl
end
section
variable (ρ : Ro) (f : SemE) (m : SemM) (ms : List Md)
@[scoped simp] theorem mNil_u : mNil ρ = some ([], ρ) := rfl
@[scoped simp] theorem mV_u : mV f m ρ = bd (f ρ) fun x => bd (frz x.2 x.1) fun y => bd (m y.2) fun z => some (.val y.1 :: z.1, z.2) := rfl
theorem sCall_u (fn : Fn) : sCall ms fn m ρ = (m ρ).bind fun x => if (mIdx ms x.1).Nodup then (mData x.2 ms x.1).bind fun ds => (fn ds).bind fun z => some (mkR z.1, mBack x.2 ms x.1 z.2) else none := rfl
@[scoped simp] theorem sCall_u' (fn : Fn) : sCall ms fn m ρ = bd (m ρ) fun x => if (mIdx ms x.1).Nodup then bd (mData x.2 ms x.1) fun ds => bd (fn ds) fun z => some (mkR z.1, mBack x.2 ms x.1 z.2) else none := rfl
@[scoped simp] theorem sMut_u (T : String) (i : Nat) (o : OpM) (a : SemA) : sMut T i o a ρ = bd (ownAt ρ i) fun d0 => if kindB T d0 = true then bd (a ρ) fun x => bd (ownAt x.2 i) fun d => bd (o d x.1) fun z => some (.val z.2, putAt x.2 i z.1) else none := rfl
@[scoped simp] theorem kind_l (ds : List D) : kindB "list" (.list ds) = true := rfl
@[scoped simp] theorem kind_d (ds : List (D × D)) : kindB "dict" (.dict ds) = true := rfl
@[scoped simp] theorem sSub_u (i : Nat) (g f : SemE) : sSub i g f ρ = bd (f ρ) fun x => bd (frz x.2 x.1) fun y => bd (ownAt y.2 i) fun _ => bd (g y.2) fun z => bd (look z.2 z.1) fun ix => bd (ownAt z.2 i) fun d => bd (setM d ix y.1) fun d' => some (.nx (putAt z.2 i d')) := rfl
@[scoped simp] theorem sMeth_u (T : String) (o : OpL) (a : SemA) : sMeth T o f a ρ = bd (f ρ) fun x => bd (look x.2 (settle x.1)) fun d0 => if kindB T d0 = true then bd (a x.2) fun y => bd (look y.2 (settle x.1)) fun d => bd (o d y.1) fun zb => some (mkR zb, y.2) else none := rfl
@[scoped simp] theorem sOfSet_u (g : List Str → Rv) : sOfSet g f ρ = bd (f ρ) fun x => bd (look x.2 (settle x.1)) fun d => bd (strsOf d) fun ys => if ys.length + 1 < scanBound then some (g ys, x.2) else none := rfl
@[scoped simp] theorem strsOf_l (ds : List D) : strsOf (.list ds) = asStrs ds := rfl
@[scoped simp] theorem strsOf_t (ds : List D) : strsOf (.tuple ds) = asStrs ds := rfl
@[scoped simp] theorem sRev_u : sRev f ρ = bd (f ρ) fun x => bd (look x.2 (settle x.1)) fun d => bd (revF d) fun zb => some (mkR zb, x.2) := rfl
@[scoped simp] theorem revF_t (ds : List D) : revF (.tuple ds) = some (.tuple ds.reverse, false) := rfl
@[scoped simp] theorem revF_l (ds : List D) : revF (.list ds) = some (.list ds.reverse, true) := rfl
@[scoped simp] theorem sLenScr_u (i : Nat) : sLenScr i ρ = bd (scrAt ρ i) fun ds => some (.val (.int ds.length), ρ) := rfl
@[scoped simp] theorem sIxScr_u (i : Nat) : sIxScr i f ρ = bd (scrAt ρ i) fun _ => bd (f ρ) fun x => bd (look x.2 x.1) fun d => bd (asI d) fun k => bd (scrAt x.2 i) fun ds => bd (atI ds k) fun z => some (.val z, x.2) := rfl
@[scoped simp] theorem sNeg_u : sNeg f ρ = bd (f ρ) fun x => bd (look x.2 (settle x.1)) fun d => bd (asI d) fun i => some (.val (.int (-i)), x.2) := rfl
@[scoped simp] theorem sIsi_u (T : String) : sIsi T f ρ = bd (f ρ) fun x => bd (look x.2 (settle x.1)) fun d => some (.val (.bool (isiD T d)), x.2) := rfl
end
end Pv.Ev
namespace Pv.Ev
open PySem Pv L2
def mRC (g : SemM) (ρ : Ro) : Rv → Option (List Rv × Ro)
  | .val _ => none
  | r => (g ρ).bind fun x => some (r :: x.1, x.2)
def mSC (i : Nat) (g : SemM) (ρ : Ro) : Option (Option Cell) → Option (List Rv × Ro)
  | some (some (.scr _)) => (g ρ).bind fun x => some (.at i :: x.1, x.2)
  | _ => none
def setC (i : Nat) (b : D) (ρ : Ro) : Option (Option Cell) → Ro
  | some (some (.own _)) => ρ.set i (some (.own b))
  | some (some (.byr _)) => ρ.set i (some (.byr b))
  | _ => ρ
section
variable (ρ : Ro) (f : SemE) (g : SemM) (ms : List Md) (rs : List Rv) (i : Nat) (d b : D) (bs : List D)
@[scoped simp] theorem mR_u : mR f g ρ = bd (f ρ) fun x => mRC g x.2 x.1 := by
  unfold mR bd Bd; apply congrArg; funext x; obtain ⟨r, ρ1⟩ := x; cases r <;> rfl
@[scoped simp] theorem mRC_f : mRC g ρ (.fr d) = bd (g ρ) fun x => some (.fr d :: x.1, x.2) := rfl
@[scoped simp] theorem mRC_a : mRC g ρ (.at i) = bd (g ρ) fun x => some (.at i :: x.1, x.2) := rfl
@[scoped simp] theorem mS_u : mS i g ρ = mSC i g ρ ρ[i]? := rfl
@[scoped simp] theorem mSC_u (ds : List D) : mSC i g ρ (some (some (.scr ds))) = bd (g ρ) fun x => some (.at i :: x.1, x.2) := rfl
@[scoped simp] theorem mD_n : mData ρ [] [] = some [] := rfl
@[scoped simp] theorem mD_v : mData ρ (.v :: ms) (.val d :: rs) = (mData ρ ms rs).map (d :: ·) := rfl
@[scoped simp] theorem mD_rf : mData ρ (.r :: ms) (.fr d :: rs) = (mData ρ ms rs).map (d :: ·) := rfl
@[scoped simp] theorem mD_ra : mData ρ (.r :: ms) (.at i :: rs) = bd (ownC ρ[i]?) fun d => (mData ρ ms rs).map (d :: ·) := by
  simp only [mData]
  rcases ρ[i]? with _ | _ | (_ | _ | _ | _) <;> rfl
@[scoped simp] theorem mD_s : mData ρ (.s :: ms) (.at i :: rs) = bd (scrC ρ[i]?) fun es => (mData ρ ms rs).map (.list es :: ·) := by
  simp only [mData]
  rcases ρ[i]? with _ | _ | (_ | _ | _ | _) <;> rfl
@[scoped simp] theorem mI_n : mIdx [] [] = [] := rfl
@[scoped simp] theorem mI_ra : mIdx (.r :: ms) (.at i :: rs) = i :: mIdx ms rs := rfl
@[scoped simp] theorem mI_rf : mIdx (.r :: ms) (.fr d :: rs) = mIdx ms rs := rfl
@[scoped simp] theorem mI_v (r : Rv) : mIdx (.v :: ms) (r :: rs) = mIdx ms rs := rfl
@[scoped simp] theorem mI_s (r : Rv) : mIdx (.s :: ms) (r :: rs) = mIdx ms rs := rfl
@[scoped simp] theorem mB_n : mBack ρ [] [] bs = ρ := rfl
@[scoped simp] theorem mB_ra : mBack ρ (.r :: ms) (.at i :: rs) (b :: bs) = setD (mBack ρ ms rs bs) i b := rfl
@[scoped simp] theorem mB_rf : mBack ρ (.r :: ms) (.fr d :: rs) (b :: bs) = mBack ρ ms rs bs := rfl
@[scoped simp] theorem mB_v (r : Rv) : mBack ρ (.v :: ms) (r :: rs) bs = mBack ρ ms rs bs := by cases bs <;> rfl
@[scoped simp] theorem mB_s (r : Rv) : mBack ρ (.s :: ms) (r :: rs) bs = mBack ρ ms rs bs := by cases bs <;> rfl
@[scoped simp] theorem setD_u : setD ρ i b = setC i b ρ ρ[i]? := rfl
@[scoped simp] theorem setC1 : setC i b ρ (some (some (.own d))) = ρ.set i (some (.own b)) := rfl
@[scoped simp] theorem setC2 : setC i b ρ (some (some (.byr d))) = ρ.set i (some (.byr b)) := rfl
@[scoped simp] theorem cells_n : cells [] [] = some [] := rfl
@[scoped simp] theorem cells_v (ds : List D) : cells (.v :: ms) (d :: ds) = (cells ms ds).map (some (.val d) :: ·) := rfl
@[scoped simp] theorem cells_r (ds : List D) : cells (.r :: ms) (d :: ds) = (cells ms ds).map (some (.byr d) :: ·) := rfl
@[scoped simp] theorem cells_s (ds es : List D) : cells (.s :: ms) (.list es :: ds) = (cells ms ds).map (some (.scr es) :: ·) := rfl
@[scoped simp] theorem backs_n : backsOf [] ρ = some [] := rfl
@[scoped simp] theorem backs_v (c : Option Cell) : backsOf (.v :: ms) (c :: ρ) = backsOf ms ρ := rfl
@[scoped simp] theorem backs_s (c : Option Cell) : backsOf (.s :: ms) (c :: ρ) = backsOf ms ρ := rfl
@[scoped simp] theorem backs_r : backsOf (.r :: ms) (some (.byr d) :: ρ) = (backsOf ms ρ).map (d :: ·) := rfl
@[scoped simp] theorem resOf_v : resOf (.val d) = some (d, false) := rfl
@[scoped simp] theorem resOf_f : resOf (.fr d) = some (d, true) := rfl
@[scoped simp] theorem endOf_r (r : Rv) : endOf ms (.rt r ρ) = bd (resOf r) fun z => bd (backsOf ms ρ) fun bs => some (z, bs) := rfl
@[scoped simp] theorem endOf_n : endOf ms (.nx ρ) = bd (backsOf ms ρ) fun bs => some ((.none, false), bs) := rfl
@[scoped simp] theorem fnOf_u (n : Nat) (s : SemS) (ds : List D) : fnOf n ms s ds = bd (cells ms ds) fun cs => bd (s (cs ++ List.replicate (n - ms.length) none)) (endOf ms) := rfl
end
/-! operations -/
section
variable (i j : Int) (x y : Str) (ds es : List D) (b c : Bool)
@[scoped simp] theorem add_i : addF (.int i) (.int j) = some (.int (i + j), false) := rfl
@[scoped simp] theorem add_s : addF (.str x) (.str y) = if x.length + y.length ≤ sizeLine then some (.str (x ++ y), false) else none := rfl
@[scoped simp] theorem add_l : addF (.list ds) (.list es) = if ds.length + es.length ≤ sizeLine then some (.list (ds ++ es), true) else none := rfl
@[scoped simp] theorem add_t : addF (.tuple ds) (.tuple es) = if ds.length + es.length ≤ sizeLine then some (.tuple (ds ++ es), false) else none := rfl
@[scoped simp] theorem sub_i : subF (.int i) (.int j) = some (.int (i - j), false) := rfl
@[scoped simp] theorem mul_i : mulF (.int i) (.int j) = if mulOk i j = true then some (.int (i * j), false) else none := rfl
@[scoped simp] theorem div_i : divF (.int i) (.int j) = if 0 < j ∧ j.natAbs.log2 < 9000 then some (.int (i / j), false) else none := rfl
@[scoped simp] theorem mod_i : modF (.int i) (.int j) = if 0 < j then some (.int (i % j), false) else none := rfl
@[scoped simp] theorem lt_i : ltF (.int i) (.int j) = some (.bool (decide (i < j)), false) := rfl
@[scoped simp] theorem lt_s : ltF (.str x) (.str y) = some (.bool (decide (x.cps.toList < y.cps.toList)), false) := rfl
@[scoped simp] theorem le_i : leF (.int i) (.int j) = some (.bool (decide (i ≤ j)), false) := rfl
@[scoped simp] theorem gt_i : gtF (.int i) (.int j) = some (.bool (decide (j < i)), false) := rfl
@[scoped simp] theorem ge_i : geF (.int i) (.int j) = some (.bool (decide (j ≤ i)), false) := rfl
theorem shaped_i : SeqAt.shaped (.int i) = true := rfl
theorem shaped_b : SeqAt.shaped (.bool b) = true := rfl
theorem shaped_n : SeqAt.shaped .none = true := rfl
theorem shaped_s (h : PyData.strOk x = true) : SeqAt.shaped (.str x) = true := by
  simp only [SeqAt.shaped, PyData.canLay0, h, Bool.true_and]; rfl
theorem eqF_of {d e : D} (h : SeqAt.shaped d = true) (h2 : SeqAt.shaped e = true) : eqF d e = some (.bool (PyData.eqv d e), false) := by
  unfold eqF
  split
  · simp only [PyData.eqv, eqS_beq0]
  · exact absurd h (by simp [SeqAt.shaped, PyData.canLay0])
  · rw [h, h2]; rfl
theorem neF_of {d e : D} (h : SeqAt.shaped d = true) (h2 : SeqAt.shaped e = true) : neF d e = some (.bool (!PyData.eqv d e), false) := by
  unfold neF
  split
  · simp only [PyData.eqv, eqS_beq0]
  · rw [h, h2]; rfl
@[scoped simp] theorem eq_i : eqF (.int i) (.int j) = some (.bool (i == j), false) := by
  rw [eqF_of (shaped_i i) (shaped_i j)]; simp [PyData.eqv]
@[scoped simp] theorem ne_i : neF (.int i) (.int j) = some (.bool (!(i == j)), false) := by
  rw [neF_of (shaped_i i) (shaped_i j)]; simp [PyData.eqv]
@[scoped simp] theorem eq_b : eqF (.bool b) (.bool c) = some (.bool (b == c), false) := by
  rw [eqF_of (shaped_b b) (shaped_b c)]; simp [PyData.eqv]
@[scoped simp] theorem ne_b : neF (.bool b) (.bool c) = some (.bool (!(b == c)), false) := by
  rw [neF_of (shaped_b b) (shaped_b c)]; simp [PyData.eqv]
@[scoped simp] theorem eq_s : eqF (.str x) (.str y) = some (.bool (x == y), false) := by
  rw [eqS_beq0]; rfl
@[scoped simp] theorem ne_s : neF (.str x) (.str y) = some (.bool (!(x == y)), false) := by
  rw [eqS_beq0]; rfl
@[scoped simp] theorem len_l : lenF [.list ds] = some (.int ds.length, false) := rfl
@[scoped simp] theorem len_t : lenF [.tuple ds] = some (.int ds.length, false) := rfl
@[scoped simp] theorem len_d (es : List (D × D)) : lenF [.dict es] = some (.int es.length, false) := rfl
@[scoped simp] theorem len_s : lenF [.str x] = if x.length ≤ sizeLine then some (.int x.length, false) else none := rfl
@[scoped simp] theorem int_i : intF [.int i] = some (.int i, false) := rfl
@[scoped simp] theorem max_2 : maxF [.int i, .int j] = some (.int (if j > i then j else i), false) := rfl
@[scoped simp] theorem min_2 : minF [.int i, .int j] = some (.int (if j < i then j else i), false) := rfl
@[scoped simp] theorem all_l : allF [.list ds] = bd (asBls ds) fun ns => some (.bool (ns.all id), false) := rfl
@[scoped simp] theorem any_l : anyF [.list ds] = bd (asBls ds) fun ns => some (.bool (ns.any id), false) := rfl
@[scoped simp] theorem tuple_l : tupleF2 [.list ds] = some (.tuple ds, false) := rfl
@[scoped simp] theorem tuple_t : tupleF2 [.tuple ds] = some (.tuple ds, false) := rfl
@[scoped simp] theorem list_l : listF [.list ds] = some (.list ds, true) := rfl
@[scoped simp] theorem list_t : listF [.tuple ds] = some (.list ds, true) := rfl
@[scoped simp] theorem list_d (es : List (D × D)) : listF [.dict es] = some (.list (es.map (·.1)), true) := rfl
@[scoped simp] theorem dict_d (es : List (D × D)) : dictF [.dict es] = some (.dict es, true) := rfl
@[scoped simp] theorem append_u (d : D) : appendM (.list ds) [d] = if ds.length < sizeLine then some (.list (ds ++ [d]), .none) else none := rfl
@[scoped simp] theorem pop_u : popM (.list ds) [] = (ds[ds.length - 1]?).map fun z => (.list ds.dropLast, z) := rfl
@[scoped simp] theorem pop_i : popM (.list ds) [.int i] = if -(2 ^ 63) ≤ i ∧ i < 2 ^ 63 then bd (seqIndex? i ds.length) fun k => (ds[k]?).map fun z => (.list (ds.eraseIdx k), z) else none := rfl
@[scoped simp] theorem sl_l (lo hi : Option Int) : slF (.list ds) lo hi = some (.list (cutD ds lo hi), true) := rfl
@[scoped simp] theorem sl_t (lo hi : Option Int) : slF (.tuple ds) lo hi = some (.tuple (cutD ds lo hi), false) := rfl
@[scoped simp] theorem ix_t : ixG (.tuple ds) (.int i) = (atI ds i).map fun d => (d, false) := rfl
@[scoped simp] theorem ix_l : ixG (.list ds) (.int i) = (atI ds i).map fun d => (d, false) := rfl
@[scoped simp] theorem ix_d (es : List (D × D)) (d : D) : ixG (.dict es) d = bd (keyOf d) fun k => (dget es k).map fun z => (z, false) := rfl
@[scoped simp] theorem set_d (es : List (D × D)) (d z : D) : setM (.dict es) d z = bd (keyOf d) fun k => if es.length < sizeLine then some (.dict (dput es k z)) else none := rfl
@[scoped simp] theorem set_l (k : Int) (z : D) : setM (.list ds) (.int k) z = (ixN ds.length k).map fun j => .list (ds.set j z) := rfl
@[scoped simp] theorem key_s : keyOf (.str x) = some (.inr x) := rfl
@[scoped simp] theorem key_i : keyOf (.int i) = some (.inl i) := rfl
@[scoped simp] theorem upd_d (es fs : List (D × D)) : updateM (.dict es) [.dict fs] = if es.length + fs.length ≤ sizeLine then (dmerge es fs).map fun gs => (.dict gs, .none) else none := rfl
@[scoped simp] theorem in_u (d e : D) : inF d e = (inB d e).map fun b => (.bool b, false) := rfl
@[scoped simp] theorem notIn_u (d e : D) : notInF d e = (inB d e).map fun b => (.bool (!b), false) := rfl
theorem inB_t {d : D} (h1 : SeqAt.shaped d = true) (h2 : SeqAt.shaped (.tuple ds) = true) : inB d (.tuple ds) = some (ds.any fun z => PyData.eqv z d) := by
  have h : (SeqAt.shaped d && SeqAt.shaped (.tuple ds)) = true := by rw [h1, h2]; rfl
  cases d <;> simp only [inB, if_pos h]
theorem inB_l {d : D} (h1 : SeqAt.shaped d = true) (h2 : SeqAt.shaped (.list ds) = true) : inB d (.list ds) = some (ds.any fun z => PyData.eqv z d) := by
  have h : (SeqAt.shaped d && SeqAt.shaped (.list ds)) = true := by rw [h1, h2]; rfl
  cases d <;> simp only [inB, if_pos h]
@[scoped simp] theorem inB_d (d : D) (es : List (D × D)) : inB d (.dict es) = (keyOf d).map fun k => (dget es k).isSome := by
  cases d <;> rfl
@[scoped simp] theorem asBls_m {α : Type} (f : α → Bool) (xs : List α) : asBls (xs.map fun x => PyData.bool (f x)) = some (xs.map f) := asBls_map f xs
@[scoped simp] theorem asInts_m {α : Type} (f : α → Int) (xs : List α) : asInts (xs.map fun x => PyData.int (f x)) = some (xs.map f) := asInts_map f xs
@[scoped simp] theorem asStrs_m : ∀ xs : List Str, asStrs (xs.map PyData.str) = some xs
  | [] => rfl
  | x :: r => by simp only [List.map_cons, asStrs, asStrs_m r, Option.map_some]
end
end Pv.Ev
end
section
set_option Elab.async false
set_option linter.all false
set_option maxRecDepth 100000
set_option maxHeartbeats 1000000
/-! PwT: lists, texts, loops that may end early: plain lemmas. -/
namespace Pv
open PySem L2 PyProof.Rows PySem.W
/-! ### data by members -/
theorem plainA_iff : ∀ {ds : List D}, plainA ds = true ↔ ∀ d ∈ ds, plain d = true
  | [] => by simp [plainA]
  | d :: ds => by simp [plainA, plainA_iff (ds := ds)]
theorem canLayAll_iff : ∀ {ds : List D}, PyData.canLayAll0 ds = true ↔ ∀ d ∈ ds, d.canLay0 = true
  | [] => by simp [PyData.canLayAll0]
  | d :: ds => by simp [PyData.canLayAll0, canLayAll_iff (ds := ds)]
theorem depthAll_iff {k : Nat} : ∀ {ds : List D}, PyData.depthAll ds ≤ k ↔ ∀ d ∈ ds, d.depth ≤ k
  | [] => by simp [PyData.depthAll]
  | d :: ds => by simp only [PyData.depthAll, Nat.max_le, depthAll_iff (ds := ds), List.forall_mem_cons]
theorem showableAll_iff : ∀ {ds : List D}, PyData.showableAll ds = true ↔ ∀ d ∈ ds, d.showable = true
  | [] => by simp [PyData.showableAll]
  | d :: ds => by simp [PyData.showableAll, showableAll_iff (ds := ds)]
theorem intsShortAll_iff {k : Nat} : ∀ {ds : List D}, PyData.intsShortAll k ds = true ↔ ∀ d ∈ ds, d.intsShort k = true
  | [] => by simp [PyData.intsShortAll]
  | d :: ds => by simp [PyData.intsShortAll, intsShortAll_iff (ds := ds)]
theorem weightAll_le {k : Nat} : ∀ {ds : List D}, (∀ d ∈ ds, d.weight ≤ k) → PyData.weightAll ds ≤ ds.length * (k + 1)
  | [], _ => by simp [PyData.weightAll]
  | d :: ds, h => by
    have h1 := h d List.mem_cons_self
    have h2 := weightAll_le (ds := ds) fun e he => h e (List.mem_cons_of_mem _ he)
    simp only [PyData.weightAll, List.length_cons, Nat.succ_mul]
    omega
theorem weightAll_mem : ∀ {ds : List D} {d : D}, d ∈ ds → d.weight + 1 ≤ PyData.weightAll ds
  | e :: ds, d, h => by
    simp only [PyData.weightAll]
    rcases List.mem_cons.mp h with rfl | h
    · omega
    · have := weightAll_mem h; omega
theorem weightAll_len : ∀ {ds : List D}, ds.length ≤ PyData.weightAll ds
  | [] => by simp
  | d :: ds => by
    have := weightAll_len (ds := ds)
    simp only [PyData.weightAll, List.length_cons]
    omega
/-- values that can be shown and compared -/
structure OkV (v : D) : Prop where
  pl : plain v = true
  lay : v.canLay0 = true
  dep : v.depth ≤ 64
  wt : v.weight ≤ 4000
  ish : v.intsShort 13 = true
  shw : v.showable = true
def okVB (v : D) : Bool := plain v && v.canLay0 && decide (v.depth ≤ 64) && decide (v.weight ≤ 4000) && v.intsShort 13 && v.showable
theorem OkV.ofB {v : D} (h : okVB v = true) : OkV v := by
  simp only [okVB, Bool.and_eq_true, decide_eq_true_eq] at h
  exact ⟨h.1.1.1.1.1, h.1.1.1.1.2, h.1.1.1.2, h.1.1.2, h.1.2, h.2⟩
theorem OkV.shaped {v : D} (h : OkV v) : SeqAt.shaped v = true := by
  simp only [SeqAt.shaped, h.lay, h.dep, decide_true, Bool.and_self]
theorem OkV.shown {v : D} (h : OkV v) : showOk v = true := by
  have e : v.shown.length ≤ 15728653 := shown_le13 (by simp only [PyData.layable0, h.lay, h.dep, decide_true, Bool.true_and, decide_eq_true_eq]; exact Nat.le_trans h.wt (by decide)) h.ish
  have e2 : v.shown.length ≤ sizeLine := Nat.le_trans e (by decide)
  simp only [showOk, h.pl, h.shw, e2, h.dep, decide_true, Bool.true_or, Bool.and_self]
theorem OkV.mem {ds : List D} {d : D} (h : OkV (.tuple ds)) (hd : d ∈ ds) : OkV d where
  pl := plainA_iff.mp (by simpa [plain] using h.pl) d hd
  lay := canLayAll_iff.mp (by simpa [PyData.canLay0] using h.lay) d hd
  dep := by
    have := h.dep
    simp only [PyData.depth] at this
    have := depthAll_iff.mp (Nat.le_refl (PyData.depthAll ds)) d hd
    omega
  wt := by
    have := h.wt
    simp only [PyData.weight] at this
    have := weightAll_mem hd
    omega
  ish := intsShortAll_iff.mp (by simpa [PyData.intsShort] using h.ish) d hd
  shw := showableAll_iff.mp (by simpa [PyData.showable] using h.shw) d hd
theorem OkV.len {ds : List D} (h : OkV (.tuple ds)) : ds.length ≤ 4000 := by
  have := h.wt
  simp only [PyData.weight] at this
  have := weightAll_len (ds := ds)
  omega
theorem OkV.txt {x : Str} (h : OkV (.str x)) : x.length ≤ 4000 := by
  have := h.wt
  simpa [PyData.weight, Str.length] using this
theorem OkV.mk_ {ds : List D} {k : Nat} (h : ∀ d ∈ ds, OkV d ∧ d.depth ≤ 63 ∧ d.weight ≤ k) (hn : ds.length * (k + 1) ≤ 4000) : OkV (.tuple ds) where
  pl := by simp only [plain]; exact plainA_iff.mpr fun d hd => (h d hd).1.pl
  lay := by simp only [PyData.canLay0]; exact canLayAll_iff.mpr fun d hd => (h d hd).1.lay
  dep := by simp only [PyData.depth]; have := depthAll_iff.mpr fun d hd => (h d hd).2.1; exact Nat.succ_le_succ this
  wt := by simp only [PyData.weight]; exact Nat.le_trans (weightAll_le fun d hd => (h d hd).2.2) hn
  ish := by simp only [PyData.intsShort]; exact intsShortAll_iff.mpr fun d hd => (h d hd).1.ish
  shw := by simp only [PyData.showable]; exact showableAll_iff.mpr fun d hd => (h d hd).1.shw
theorem OkV.mkL {ds : List D} (h : OkV (.tuple ds)) : OkV (.list ds) := ⟨by simpa [plain] using h.pl, by simpa [PyData.canLay0] using h.lay, by simpa [PyData.depth] using h.dep, by simpa [PyData.weight] using h.wt, by simpa [PyData.intsShort] using h.ish, by simpa [PyData.showable] using h.shw⟩
theorem shaped_tup {ds : List D} (h : ∀ d ∈ ds, d.canLay0 = true ∧ d.depth ≤ 63) : SeqAt.shaped (.tuple ds) = true := by
  have h1 := canLayAll_iff.mpr fun d hd => (h d hd).1
  have h2 := depthAll_iff.mpr fun d hd => (h d hd).2
  simp only [SeqAt.shaped, PyData.canLay0, PyData.depth, h1, Bool.true_and, decide_eq_true_eq]
  exact decide_eq_true (Nat.succ_le_succ h2)
theorem OkV.sub {ds es : List D} (h : OkV (.tuple ds)) (hs : ∀ d ∈ es, d ∈ ds) : SeqAt.shaped (.tuple es) = true := by
  have hd := h.dep
  simp only [PyData.depth] at hd
  have hd' := depthAll_iff.mp (Nat.le_refl (PyData.depthAll ds))
  exact shaped_tup fun d h' => ⟨(h.mem (hs d h')).lay, by have := hd' d (hs d h'); omega⟩
/-! ### the order of texts -/
def ltS (a b : Str) : Bool := decide (a.cps.toList < b.cps.toList)
theorem ltS_le {a b : Str} (h : ltS a b = true) : leS a b = true := by
  simp only [leS, ltS, decide_eq_true_eq] at *
  exact List.le_of_lt h
theorem ltS_ne {a b : Str} (h : ltS a b = true) : a ≠ b := by
  rintro rfl
  simp only [ltS, decide_eq_true_eq] at h
  exact List.lt_irrefl _ h
theorem ltS_of {a b : Str} (h : leS a b = true) (hn : a ≠ b) : ltS a b = true := by
  simp only [leS, ltS, decide_eq_true_eq] at *
  exact Classical.byContradiction fun h2 => hn (str_of_cps (List.le_antisymm h h2))
theorem ltS_trans {a b c : Str} (h1 : ltS a b = true) (h2 : ltS b c = true) : ltS a c = true := by
  simp only [ltS, decide_eq_true_eq] at *
  exact List.lt_trans h1 h2
theorem sortS_sorted (xs : List Str) : (sortS xs).Pairwise fun a b => leS a b = true := isort_sorted leS leS_trans leS_total xs
theorem sorted_unique : ∀ {l m : List Str}, l.Perm m → l.Pairwise (fun a b => leS a b = true) → m.Pairwise (fun a b => leS a b = true) → l = m
  | [], m, p, _, _ => (List.nil_perm.mp p).symm
  | x :: l, [], p, _, _ => absurd p.length_eq (by simp)
  | x :: l, y :: m, p, h1, h2 => by
    have hx := List.pairwise_cons.mp h1
    have hy := List.pairwise_cons.mp h2
    have e : x = y := by
      rcases List.mem_cons.mp (p.mem_iff.mp (List.mem_cons_self (a := x) (l := l))) with e | e
      · exact e
      · rcases List.mem_cons.mp (p.mem_iff.mpr (List.mem_cons_self (a := y) (l := m))) with e2 | e2
        · exact e2.symm
        · exact leS_antisymm _ _ (hx.1 y e2) (hy.1 x e)
    subst e
    rw [sorted_unique (List.perm_cons x |>.mp p) hx.2 hy.2]
theorem sortS_perm_eq {l m : List Str} (p : l.Perm m) : sortS l = sortS m :=
  sorted_unique (((isort_perm leS l).trans p).trans (isort_perm leS m).symm) (sortS_sorted l) (sortS_sorted m)
theorem sortS_of_sorted {l : List Str} (h : l.Pairwise fun a b => leS a b = true) : sortS l = l :=
  sorted_unique (isort_perm leS l) (sortS_sorted l) h
theorem sortS_idem (l : List Str) : sortS (sortS l) = sortS l := sortS_of_sorted (sortS_sorted l)
theorem dedupS_nodup : ∀ {xs : List Str}, xs.Nodup → dedupS xs = xs
  | [], _ => rfl
  | x :: r, h => by
    have h' := List.nodup_cons.mp h
    have : hasS r x = false := Bool.eq_false_iff.mpr fun e => h'.1 (hasS_iff.mp e)
    simp only [dedupS, this, Bool.false_eq_true, if_false, dedupS_nodup h'.2]
theorem dedupS_len : ∀ {xs : List Str}, (dedupS xs).length ≤ xs.length
  | [] => Nat.le_refl _
  | x :: r => by
    have := dedupS_len (xs := r)
    simp only [dedupS]
    split
    · simp only [List.length_cons]; omega
    · simp only [List.length_cons]; omega
theorem dedupS_len_iff : ∀ {xs : List Str}, (dedupS xs).length = xs.length ↔ xs.Nodup
  | [] => by simp [dedupS]
  | x :: r => by
    have l := dedupS_len (xs := r)
    simp only [dedupS, List.nodup_cons]
    by_cases h : hasS r x = true
    · rw [if_pos h, List.length_cons]
      constructor
      · intro e; omega
      · intro e; exact absurd (hasS_iff.mp h) e.1
    · rw [if_neg h, List.length_cons, List.length_cons, Nat.add_right_cancel_iff, dedupS_len_iff (xs := r)]
      constructor
      · intro e; exact ⟨fun m => h (hasS_iff.mpr m), e⟩
      · intro e; exact e.2
theorem uniqS_nodup {xs : List Str} (h : xs.Nodup) : uniqS xs = sortS xs := by rw [uniqS, dedupS_nodup h]
theorem nodup_perm' {l m : List Str} (p : l.Perm m) (h : l.Nodup) : m.Nodup := p.nodup_iff.mp h
theorem sortS_nodup {xs : List Str} (h : xs.Nodup) : (sortS xs).Nodup := ((isort_perm leS xs).nodup_iff).mpr h
theorem mem_sortS {xs : List Str} {x : Str} : x ∈ sortS xs ↔ x ∈ xs := (isort_perm leS xs).mem_iff
theorem mem_uniqS {xs : List Str} {x : Str} : x ∈ uniqS xs ↔ x ∈ xs := by rw [uniqS, mem_sortS, mem_dedupS]
theorem uniqS_nd (xs : List Str) : (uniqS xs).Nodup := sortS_nodup (nodup_dedupS xs)
/-- strictly ascending -/
def Asc (xs : List Str) : Prop := xs.Pairwise fun a b => ltS a b = true
theorem uniqS_asc (xs : List Str) : Asc (uniqS xs) := by
  have h1 := sortS_sorted (dedupS xs)
  have h2 := uniqS_nd xs
  exact (h1.and h2).imp fun ⟨a, b⟩ => ltS_of a b
theorem Asc.nodup {xs : List Str} (h : Asc xs) : xs.Nodup := h.imp ltS_ne
theorem Asc.sorted {xs : List Str} (h : Asc xs) : xs.Pairwise fun a b => leS a b = true := h.imp ltS_le
theorem Asc.uniq {xs : List Str} (h : Asc xs) : uniqS xs = xs := by rw [uniqS_nodup h.nodup, sortS_of_sorted h.sorted]
theorem uniqS_iff {xs : List Str} : uniqS xs = xs ↔ Asc xs := ⟨fun h => h ▸ uniqS_asc xs, fun h => h.uniq⟩
theorem uniqS_ext {xs ys : List Str} (h : ∀ z, z ∈ xs ↔ z ∈ ys) : uniqS xs = uniqS ys :=
  sortS_perm_eq (nodup_perm (nodup_dedupS xs) (nodup_dedupS ys) fun z => by rw [mem_dedupS, mem_dedupS, h])
/-! ### loops that may end early -/
theorem forL_try {g : SemG} {b : SemS} {σ : Type} (fr : σ → Ro) (step : σ → D → σ) (ok : D → Bool) (z : Rv) (P : Ro → Prop) : ∀ (ds : List D) (s : σ),
    (∀ (a : List D) (d : D) (c : List D), ds = a ++ d :: c → a.all ok = true → ∃ ρ1, g d (fr (a.foldl step s)) = some ρ1 ∧ (if ok d = true then b ρ1 = some (.nx (fr (step (a.foldl step s) d))) else ∃ ρ2, b ρ1 = some (.rt z ρ2) ∧ P ρ2)) →
    (ds.all ok = true → forL g b ds (fr s) = some (.nx (fr (ds.foldl step s)))) ∧ (ds.all ok = false → ∃ ρ2, forL g b ds (fr s) = some (.rt z ρ2) ∧ P ρ2)
  | [], s, _ => ⟨fun _ => rfl, fun h => by cases h⟩
  | d :: ds, s, h => by
    obtain ⟨ρ1, e1, e2⟩ := h [] d ds rfl rfl
    simp only [forL, List.foldl_nil, List.all_cons, List.foldl_cons] at e1 e2 ⊢
    by_cases hk : ok d = true
    · rw [if_pos hk] at e2
      simp only [e1, e2, hk, Option.bind_some, Bool.true_and]
      exact forL_try fr step ok z P ds (step s d) fun a x c e hall => by
        have := h (d :: a) x c (by rw [e]; rfl) (by simp [hk, hall])
        simpa using this
    · rw [if_neg hk] at e2
      obtain ⟨ρ2, e2, p2⟩ := e2
      refine ⟨fun h => absurd h (by simp [hk]), fun _ => ⟨ρ2, ?_, p2⟩⟩
      simp only [e1, e2, Option.bind_some]
theorem enumD_split {xs : List D} {a c : List D} {d : D} (h : enumD xs = a ++ d :: c) : ∃ x, xs[a.length]? = some x ∧ d = .tuple [.int (a.length : Nat), x] := by
  have e : (enumD xs)[a.length]? = some d := by rw [h]; simp
  simp only [enumD, List.getElem?_mapIdx, Option.map_eq_some_iff] at e
  obtain ⟨x, e1, e2⟩ := e
  exact ⟨x, e1, e2.symm⟩
end Pv
end
section
set_option Elab.async false
set_option linter.all false
set_option autoImplicit false
set_option maxRecDepth 100000
set_option maxHeartbeats 1000000
/-! PwU: loops by an invariant, dicts with texts as keys, sorting texts. -/
namespace Pv
open PySem L2 PySem.W Pv.Ev
theorem forL_inv {g : SemG} {b : SemS} (I : Nat → Ro → Prop) : ∀ (ds : List D) (k : Nat) (ρ : Ro), I k ρ → (∀ (j : Nat) (d : D) (ρ : Ro), ds[j]? = some d → I (k + j) ρ → ∃ ρ1 ρ2, g d ρ = some ρ1 ∧ b ρ1 = some (.nx ρ2) ∧ I (k + j + 1) ρ2) →
    ∃ ρ', forL g b ds ρ = some (.nx ρ') ∧ I (k + ds.length) ρ'
  | [], k, ρ, h, _ => ⟨ρ, rfl, h⟩
  | d :: ds, k, ρ, h, s => by
    obtain ⟨ρ1, ρ2, e1, e2, h2⟩ := s 0 d ρ rfl h
    obtain ⟨ρ', e3, h3⟩ := forL_inv I ds (k + 1) ρ2 h2 fun j d ρ hd hI => by
      have := s (j + 1) d ρ hd (by rw [show k + (j + 1) = k + 1 + j by omega]; exact hI)
      rw [show k + (j + 1) + 1 = k + 1 + j + 1 by omega] at this
      exact this
    refine ⟨ρ', ?_, by rw [List.length_cons, show k + (ds.length + 1) = k + 1 + ds.length by omega]; exact h3⟩
    simp only [forL, e1, e2, Option.bind_some, e3]
@[scoped simp] theorem Ev.slot_map (c : Option D) : slotC (some (c.map Cell.val)) = true := by cases c <;> rfl
@[scoped simp] theorem Ev.slot_mapO (c : Option D) : slotC (some (c.map Cell.own)) = true := by cases c <;> rfl
@[scoped simp] theorem Ev.sz_le (n : Nat) (h : n ≤ 100000) : (n ≤ sizeLine) = True := eq_true (Nat.le_trans h (by decide))
@[scoped simp] theorem Ev.sz_lt (n : Nat) (h : n ≤ 100000) : (n < sizeLine) = True := eq_true (Nat.lt_of_le_of_lt h (by decide))
/-! dicts with texts as keys -/
def rowD (p : Str × D) : D × D := (.str p.1, p.2)
theorem dkey_s (x y : Str) : dkey (.str x) (.inr y) = decide (x = y) := by
  unfold dkey; simp only [keyOf, eqS_dec]
theorem dput_new {ks : List (Str × D)} {l : Str} {z : D} (h : l ∉ ks.map (·.1)) : dput (ks.map rowD) (.inr l) z = (ks ++ [(l, z)]).map rowD := by
  unfold dput
  rw [if_neg]
  · simp [keyD, rowD]
  · intro hh
    simp only [List.any_map, List.any_eq_true, Function.comp, rowD, dkey_s, decide_eq_true_eq] at hh
    obtain ⟨p, hp, rfl⟩ := hh
    exact h (List.mem_map_of_mem hp)
theorem dputs_new {α : Type} (f : α → Str) (v : α → D) : ∀ (xs : List α) (ks : List (Str × D)), (ks.map (·.1) ++ xs.map f).Nodup → xs.foldl (fun es x => dput es (.inr (f x)) (v x)) (ks.map rowD) = (ks ++ xs.map fun x => (f x, v x)).map rowD
  | [], ks, _ => by simp
  | x :: xs, ks, h => by
    have hx : f x ∉ ks.map (·.1) := fun m => by
      have := (List.nodup_append.mp h).2.2 _ m _ (by simp : f x ∈ (x :: xs).map f)
      exact this rfl
    rw [List.foldl_cons, dput_new hx, dputs_new f v xs (ks ++ [(f x, v x)]) (by simpa using h)]
    simp
theorem dmerge_new : ∀ (fs ks : List (Str × D)), (ks.map (·.1) ++ fs.map (·.1)).Nodup → dmerge (ks.map rowD) (fs.map rowD) = some ((ks ++ fs).map rowD)
  | [], ks, _ => by simp [dmerge]
  | (l, z) :: fs, ks, h => by
    have hx : l ∉ ks.map (·.1) := fun m => by
      have := (List.nodup_append.mp h).2.2 _ m l (by simp)
      exact this rfl
    have e : ((l, z) :: fs).map rowD = (.str l, z) :: fs.map rowD := rfl
    rw [e]
    simp only [dmerge, keyOf, Option.bind_some]
    rw [dput_new hx, dmerge_new fs (ks ++ [(l, z)]) (by simpa using h)]
    simp
theorem dget_row : ∀ {ks : List (Str × D)} {l : Str} {z : D}, (ks.map (·.1)).Nodup → (l, z) ∈ ks → dget (ks.map rowD) (.inr l) = some z
  | (m, y) :: ks, l, z, h, hm => by
    have ec : ((m, y) :: ks).map rowD = (.str m, y) :: ks.map rowD := rfl
    simp only [dget, ec, List.find?_cons, dkey_s]
    by_cases e : m = l
    · subst e
      rcases List.mem_cons.mp hm with e2 | e2
      · cases e2; simp
      · exact absurd (List.mem_map_of_mem (f := (·.1)) e2) (List.nodup_cons.mp h).1
    · rcases List.mem_cons.mp hm with e2 | e2
      · cases e2; exact absurd rfl e
      · have := dget_row (List.nodup_cons.mp h).2 e2
        simp only [dget] at this
        simp only [e, decide_false]
        exact this
theorem dget_none {ks : List (Str × D)} {l : Str} (h : l ∉ ks.map (·.1)) : dget (ks.map rowD) (.inr l) = none := by
  simp only [dget, Option.map_eq_none_iff, List.find?_eq_none, List.mem_map, forall_exists_index, and_imp, forall_apply_eq_imp_iff₂, rowD, dkey_s, decide_eq_true_eq]
  exact fun p hp e => h (e ▸ List.mem_map_of_mem hp)
theorem keys_rows (ks : List (Str × D)) : (ks.map rowD).map (·.1) = (ks.map (·.1)).map PyData.str := by
  simp [rowD, Function.comp_def]
/-! sorting texts -/
theorem sortOk_strs (ks : List Str) (h : ks.length ≤ sizeLine) : sortOk (ks.map PyData.str) = true := by
  simp only [sortOk, Bool.and_eq_true, decide_eq_true_eq, List.length_map, h, and_true]
  refine ⟨⟨?_, ?_⟩, ?_⟩
  · simp only [alikeB, List.all_eq_true, List.mem_map, forall_exists_index, and_imp, forall_apply_eq_imp_iff₂]
    intro a _ b _; rfl
  · simp only [sortB, Bool.or_eq_true]
    right
    simp only [List.all_eq_true, List.mem_map, forall_exists_index, and_imp, forall_apply_eq_imp_iff₂]
    intro a _; trivial
  · simp only [List.all_eq_true, List.mem_map, forall_exists_index, and_imp, forall_apply_eq_imp_iff₂]
    intro a _; rfl
theorem sorted_strs_l (ks : List Str) (h : ks.length ≤ sizeLine) : sortedF2 [.list (ks.map PyData.str)] = some (.list ((sortS ks).map PyData.str), true) := by
  show sortedF [.list (ks.map PyData.str)] = _
  simp only [sortedF, if_pos (sortOk_strs ks h), sortD_str]
theorem sorted_strs_t (ks : List Str) (h : ks.length ≤ sizeLine) : sortedF2 [.tuple (ks.map PyData.str)] = some (.list ((sortS ks).map PyData.str), true) := by
  show sortedF [.tuple (ks.map PyData.str)] = _
  simp only [sortedF, if_pos (sortOk_strs ks h), sortD_str]
theorem sorted_dict (ks : List (Str × D)) (h : ks.length < 64) : sortedF2 [.dict (ks.map rowD)] = some (.list ((sortS (ks.map (·.1))).map PyData.str), true) := by
  simp only [sortedF2, keys_rows, asStrs_m, Option.bind_some, List.length_map, if_pos h, sortD_str]
theorem sortS_len (ks : List Str) : (sortS ks).length = ks.length := isort_len _ _
end Pv
end
section
set_option Elab.async false
set_option linter.all false
set_option autoImplicit false
set_option maxRecDepth 100000
set_option maxHeartbeats 1000000
/-! PwV: comprehensions that change what they walk beside; popping drawn members. -/
namespace Pv
open PySem L2 PySem.W Pv.Ev
theorem lcL_inv {g : SemG} {t : SemT} {el : SemE} {vs : List Nat} (I : Nat → List D → Ro → Prop) : ∀ (ds : List D) (k n : Nat) (zs0 : List D) (ρ : Ro), I k zs0 ρ → n + ds.length ≤ sizeLine →
    (∀ (j : Nat) (d : D) (zs : List D) (ρ : Ro), ds[j]? = some d → I (k + j) zs ρ → ∃ ρ1 r ρ3 z ρ4, g d ρ = some ρ1 ∧ t ρ1 = some (true, ρ1) ∧ el ρ1 = some (r, ρ3) ∧ frz ρ3 r = some (z, ρ4) ∧ I (k + j + 1) (zs ++ [z]) (wipeR ρ4 vs)) →
    ∃ zs ρ', lcL g t el vs ds n ρ = some (zs, ρ') ∧ I (k + ds.length) (zs0 ++ zs) ρ'
  | [], k, n, zs0, ρ, h, _, _ => ⟨[], ρ, rfl, by simpa using h⟩
  | d :: ds, k, n, zs0, ρ, h, hz, s => by
    obtain ⟨ρ1, r, ρ3, z, ρ4, e1, e2, e3, e4, h2⟩ := s 0 d zs0 ρ rfl h
    rw [List.length_cons] at hz
    obtain ⟨zs, ρ', e5, h3⟩ := lcL_inv I ds (k + 1) (n + 1) (zs0 ++ [z]) (wipeR ρ4 vs) h2 (by omega) fun j d zs ρ hd hI => by
      have := s (j + 1) d zs ρ hd (by rw [show k + (j + 1) = k + 1 + j by omega]; exact hI)
      rw [show k + (j + 1) + 1 = k + 1 + j + 1 by omega] at this
      exact this
    refine ⟨z :: zs, ρ', ?_, by rw [List.length_cons, show k + (ds.length + 1) = k + 1 + ds.length by omega]; simpa using h3⟩
    have lt : n < sizeLine := by omega
    simp only [lcL, e1, e2, e3, e4, Option.bind_some, if_true, if_pos lt, e5]
/-- a comprehension that asks; the item is looked at only if the answer is yes -/
theorem lcL_filter2 {g : SemG} {t : SemT} {el : SemE} {vs : List Nat} {ρ : Ro} {h : D → D} {p : D → Bool} : ∀ {ds : List D} {n : Nat}, (∀ d ∈ ds, ∃ ρ1, g d ρ = some ρ1 ∧ t ρ1 = some (p d, ρ1) ∧ wipeR ρ1 vs = ρ ∧ (p d = true → ∃ r, el ρ1 = some (r, ρ1) ∧ frz ρ1 r = some (h d, ρ1))) → n + ds.length ≤ sizeLine →
    lcL g t el vs ds n ρ = some ((ds.filter p).map h, ρ)
  | [], _, _, _ => rfl
  | d :: ds, n, k, hz => by
    obtain ⟨ρ1, e1, e2, e5, e6⟩ := k d List.mem_cons_self
    rw [List.length_cons] at hz
    have lt : n < sizeLine := by omega
    cases hp : p d with
    | true =>
      obtain ⟨r, e3, e4⟩ := e6 hp
      simp only [lcL, e1, e2, hp, e3, e4, e5, Option.bind_some, if_pos, lt]
      rw [lcL_filter2 (fun x hx => k x (List.mem_cons_of_mem _ hx)) (by omega), List.filter_cons_of_pos hp]
      rfl
    | false =>
      simp only [lcL, e1, e2, hp, e5, Option.bind_some, Bool.false_eq_true, if_false]
      rw [lcL_filter2 (fun x hx => k x (List.mem_cons_of_mem _ hx)) (by omega), List.filter_cons_of_neg (by rw [hp]; exact Bool.false_ne_true)]
theorem seqIx {n : Nat} {i : Int} (h0 : 0 ≤ i) (h1 : i < n) : seqIndex? i n = some i.toNat := by
  unfold seqIndex?
  have : ¬ i < 0 := by omega
  simp [this, h0, h1]
theorem map_erase {α β : Type} (f : α → β) : ∀ (l : List α) (i : Nat), (l.map f).eraseIdx i = (l.eraseIdx i).map f
  | [], _ => by simp
  | x :: l, 0 => by simp
  | x :: l, i + 1 => by simp [map_erase f l i]
theorem perm_erase {α : Type} : ∀ (l : List α) (i : Nat) (h : i < l.length), (l[i] :: l.eraseIdx i).Perm l
  | x :: l, 0, _ => by simp
  | x :: l, i + 1, h => by
    have := perm_erase l i (by simpa using h)
    simp only [List.getElem_cons_succ, List.eraseIdx_cons_succ]
    exact (List.Perm.swap _ _ _).trans (this.cons x)
/-- pop by a drawn digit -/
theorem pop_drawn {α : Type} (f : α → D) (rem : List α) (x : Int) (h : 0 < rem.length) (hl : rem.length ≤ 1000000) : ∃ l rem', (l :: rem').Perm rem ∧ rem'.Sublist rem ∧ popM (.list (rem.map f)) [.int (x % rem.length)] = some (.list (rem'.map f), f l) := by
  have h0 := Int.emod_nonneg x (show (rem.length : Int) ≠ 0 by omega)
  have h1 := Int.emod_lt_of_pos x (show (0 : Int) < rem.length by omega)
  have hj : (x % rem.length).toNat < rem.length := by omega
  refine ⟨rem[(x % rem.length).toNat], rem.eraseIdx (x % rem.length).toNat, perm_erase _ _ hj, List.eraseIdx_sublist _ _, ?_⟩
  have s := seqIx (n := (rem.map f).length) h0 (by simpa using h1)
  have c : -(2 ^ 63) ≤ x % (rem.length : Int) ∧ x % (rem.length : Int) < 2 ^ 63 := ⟨by omega, by omega⟩
  simp only [popM, if_pos c, s, Option.bind_some, List.getElem?_map, List.getElem?_eq_getElem hj, Option.map_some, map_erase]
/-- an item by a drawn digit -/
theorem at_drawn {α : Type} (xs : List α) (x : Int) (h : 0 < xs.length) : ∃ z, z ∈ xs ∧ atI xs (x % xs.length) = some z := by
  have h0 := Int.emod_nonneg x (show (xs.length : Int) ≠ 0 by omega)
  have h1 := Int.emod_lt_of_pos x (show (0 : Int) < xs.length by omega)
  have hj : (x % xs.length).toNat < xs.length := by omega
  refine ⟨xs[(x % xs.length).toNat], List.getElem_mem hj, ?_⟩
  unfold atI ixN
  rw [if_pos h0, if_pos h1]
  simp [List.getElem?_eq_getElem hj]
theorem sIx_nat (n d i : Nat) : HT.sIx n d (some (i : Int)) = min i n := by
  unfold HT.sIx
  have : ¬ ((i : Int) < 0) := by omega
  simp [this]
theorem cutD_take (ds : List D) (i : Nat) : cutD ds none (some (i : Int)) = ds.take i := by
  unfold cutD
  have a : HT.sIx ds.length 0 none = 0 := rfl
  rw [a, sIx_nat, List.drop_zero, Nat.sub_zero]
  simp
theorem cutD_drop (ds : List D) (i : Nat) : cutD ds (some (i : Int)) none = ds.drop i := by
  unfold cutD
  have a : HT.sIx ds.length ds.length none = ds.length := rfl
  rw [a, sIx_nat]
  by_cases h : i ≤ ds.length
  · rw [Nat.min_eq_left h, List.take_of_length_le (by simp)]
  · rw [Nat.min_eq_right (by omega), List.drop_eq_nil_of_le (by omega : ds.length ≤ i)]
    simp
theorem small_of (N : Nat) (h : N ≤ 1000000) : small62 (N : Int) = true := by
  have e : (2 : Int) ^ 62 = 4611686018427387904 := rfl
  simp only [small62, e, Bool.and_eq_true, decide_eq_true_eq]
  omega
end Pv
end
section
set_option Elab.async false
set_option linter.all false
set_option autoImplicit false
set_option maxRecDepth 100000
set_option maxHeartbeats 1000000
/-! PgN: names. -/
namespace Pv.Pg
open PySem Pv
abbrev letters : Str := "abcdefghijklmnopqrstuvwxyz"
def letterB (c : Nat) : Bool := decide (c ∈ chars letters)
def nameB (x : Str) : Bool := decide (1 ≤ (x.length : Int)) && (decide ((x.length : Int) ≤ 8) && x.cps.toList.all letterB)
theorem name_loop (x : Str) (hz : x.length ≤ sizeLine) : (sLc (gN 1) sYes (sOp inF (sVar 1) (sC (.str "abcdefghijklmnopqrstuvwxyz"))) [1] (iOf walkOf (sVar 0))) [some (.val (.str x)), none] = some (.fr (.list (x.cps.toList.map fun c => .bool (letterB c))), [some (.val (.str x)), none]) := by
  have e : lcL (gN 1) sYes (sOp inF (sVar 1) (sC (.str "abcdefghijklmnopqrstuvwxyz"))) [1] (charsD x) 0 [some (.val (.str x)), none] = some ((charsD x).map (fun d => match d with | .str y => .bool (match chars y with | [c] => letterB c | _ => false) | _ => .none), [some (.val (.str x)), none]) := by
    refine lcL_map (fun d hd => ?_) (by rw [charsD, List.length_map, Array.length_toList]; simpa [Str.length] using hz)
    obtain ⟨c, hc, rfl⟩ := List.mem_map.mp hd
    exact ⟨[some (.val (.str x)), some (.val (.str ⟨#[c]⟩))], _, rfl, rfl, rfl, rfl, rfl⟩
  simp only [sLc, iOf, sVar, walkOf, frz, clearAt, List.getElem?_cons_zero, Option.bind_some, List.all_cons, List.getElem?_cons_succ, List.all_nil, Bool.and_self, if_true, e]
  simp only [charsD, List.map_map]
  rfl
theorem is_name_str (x : Str) (hz : x.length ≤ sizeLine) : F_is_name [.str x] = some ((.bool (nameB x), false), []) := by
  have l := name_loop x hz
  have e : b_is_name [some (.val (.str x)), none] = some (.rt (.val (.bool (nameB x))) [some (.val (.str x)), none]) := by
    unfold b_is_name nameB
    have hl : lenF [.str x] = some (.int x.length, false) := by simp only [lenF, if_pos hz]
    simp only [sRet, sAndV, sTest, sIsi, sVar, sChain, sC, sCB, pCons, pNil, look, looks, settle, isiD, tyName, asB, leF, mkR, List.getElem?_cons_zero, Option.bind_some, hl, l, allF, asBls_map, List.all_map]
    by_cases h1 : 1 ≤ (x.length : Int)
    · by_cases h2 : (x.length : Int) ≤ 8
      · simp [h1, h2, l, looks, look, settle, asBls_map, Function.comp_def]
      · simp [h1, h2]
    · simp [h1]
  unfold F_is_name fnOf
  simp only [cells, Option.map_some, Option.bind_some, List.length_cons, List.length_nil]
  show (b_is_name [some (.val (.str x)), none]).bind (endOf [.v]) = _
  rw [e]
  rfl
theorem is_name_other (d : PyData) (h : isiD "str" d = false) : F_is_name [d] = some ((.bool false, false), []) := by
  have e : b_is_name [some (.val d), none] = some (.rt (.val (.bool false)) [some (.val d), none]) := by
    unfold b_is_name
    simp [sRet, sAndV, sTest, sIsi, sVar, look, settle, asB, h]
  unfold F_is_name fnOf
  show (b_is_name [some (.val d), none]).bind (endOf [.v]) = _
  rw [e]
  rfl
/-- a value's answer as a name -/
def nameD : PyData → Bool
  | .str x => nameB x
  | _ => false
/-- texts of a length that can be told -/
def shortD : PyData → Bool
  | .str x => decide (x.length ≤ sizeLine)
  | _ => true
theorem is_name_D (d : PyData) (h : shortD d = true) : F_is_name [d] = some ((.bool (nameD d), false), []) := by
  cases d with
  | str x => exact is_name_str x (of_decide_eq_true h)
  | none => exact is_name_other _ rfl
  | bool _ => exact is_name_other _ rfl
  | int _ => exact is_name_other _ rfl
  | list _ => exact is_name_other _ rfl
  | tuple _ => exact is_name_other _ rfl
  | dict _ => exact is_name_other _ rfl
theorem _root_.Pv.OkV.shortP {ds : List D} (h : OkV (.tuple ds)) : ∀ d ∈ ds, shortD d = true := fun x hx => by
  have h3 := h.mem hx
  cases x with
  | str x => exact decide_eq_true (Nat.le_trans h3.txt (by decide))
  | _ => rfl
end Pv.Pg
end
section
set_option Elab.async false
set_option linter.all false
set_option autoImplicit false
set_option maxRecDepth 100000
set_option maxHeartbeats 2000000
/-! PgS: is_set, is_profile. -/
namespace Pv.Pg
open PySem Pv
theorem names_loop (ds : List PyData) (hs : ∀ d ∈ ds, shortD d = true) (hz : ds.length ≤ sizeLine) : (sLc (gN 3) sYes (sCall [.v] F_is_name (mV (sVar 3) mNil)) [3] (iOf walkOf (sVar 0))) [some (.val (.tuple ds)), none, none, none] = some (.fr (.list (ds.map fun d => .bool (nameD d))), [some (.val (.tuple ds)), none, none, none]) := by
  have e : lcL (gN 3) sYes (sCall [.v] F_is_name (mV (sVar 3) mNil)) [3] ds 0 [some (.val (.tuple ds)), none, none, none] = some (ds.map (fun d => .bool (nameD d)), [some (.val (.tuple ds)), none, none, none]) := by
    refine lcL_map (fun d hd => ?_) (by omega)
    refine ⟨[some (.val (.tuple ds)), none, none, some (.val d)], .val (.bool (nameD d)), rfl, rfl, ?_, rfl, rfl⟩
    have := is_name_D d (hs d hd)
    simp [sCall, mV, mNil, sVar, frz, mIdx, mData, mBack, mkR, this]
  simp only [sLc, iOf, sVar, walkOf, frz, clearAt, List.getElem?_cons_zero, Option.bind_some, List.all_cons, List.getElem?_cons_succ, List.all_nil, Bool.and_self, if_true, e]
def ltD : PyData → PyData → Bool
  | .str a, .str b => decide (a.cps.toList < b.cps.toList)
  | _, _ => false
def pairLt : PyData → PyData
  | .tuple [a, b] => .bool (ltD a b)
  | _ => .none
theorem nm_str {d : PyData} (h : nameD d = true) : ∃ x, d = .str x := by
  cases d with
  | str x => exact ⟨x, rfl⟩
  | _ => cases h
theorem cut_tail (ds : List PyData) : cutD ds (some 1) none = ds.drop 1 := by
  unfold cutD
  have a : HT.sIx ds.length 0 (some 1) = min 1 ds.length := by unfold HT.sIx; simp
  have b : HT.sIx ds.length ds.length none = ds.length := rfl
  rw [a, b]
  cases ds with
  | nil => rfl
  | cons x r => simp
theorem mem_zipD : ∀ {xs ys : List PyData} {p : PyData}, p ∈ zipD xs ys → ∃ a b, a ∈ xs ∧ b ∈ ys ∧ p = .tuple [a, b]
  | [], _, _, h => by simp [zipD] at h
  | _ :: _, [], _, h => by simp [zipD] at h
  | x :: xs, y :: ys, p, h => by
    rcases List.mem_cons.mp (show p ∈ .tuple [x, y] :: zipD xs ys from h) with e | e
    · exact ⟨x, y, List.mem_cons_self, List.mem_cons_self, e⟩
    · obtain ⟨a, b, h1, h2, h3⟩ := mem_zipD e
      exact ⟨a, b, List.mem_cons_of_mem _ h1, List.mem_cons_of_mem _ h2, h3⟩
theorem rise_loop (ds : List PyData) (hs : ∀ d ∈ ds, nameD d = true) (hz : ds.length ≤ sizeLine) :
    (sLc (gT 2 (gsCons (gN 1) (gsCons (gN 2) gsNil))) sYes (sOp ltF (sVar 1) (sVar 2)) [1, 2] (iZp (sCons (sVar 0) (sCons (sSl slF (sVar 0) (oSome (sC (.int 1))) oNone) sNil)))) [some (.val (.tuple ds)), none, none, none] =
      some (.fr (.list ((zipD ds (ds.drop 1)).map pairLt)), [some (.val (.tuple ds)), none, none, none]) := by
  have e : lcL (gT 2 (gsCons (gN 1) (gsCons (gN 2) gsNil))) sYes (sOp ltF (sVar 1) (sVar 2)) [1, 2] (zipD ds (ds.drop 1)) 0 [some (.val (.tuple ds)), none, none, none] = some ((zipD ds (ds.drop 1)).map pairLt, [some (.val (.tuple ds)), none, none, none]) := by
    refine lcL_map (fun p hp => ?_) (by rw [zipD_len, List.length_drop]; omega)
    obtain ⟨a, b, ha, hb, rfl⟩ := mem_zipD hp
    obtain ⟨x, rfl⟩ := nm_str (hs a ha)
    obtain ⟨y, rfl⟩ := nm_str (hs b (List.mem_of_mem_drop hb))
    exact ⟨[some (.val (.tuple ds)), some (.val (.str x)), some (.val (.str y)), none], _, rfl, rfl, rfl, rfl, rfl⟩
  rw [List.drop_one] at e ⊢
  simp [sLc, iZp, sCons, sNil, sSl, sVar, sC, oSome, oNone, asI, slF, look, settle, frz, mkR, clearAt, cut_tail, e]
def pairB : PyData → Bool
  | .tuple [a, b] => ltD a b
  | _ => false
def risesB (ds : List PyData) : Bool := (zipD ds (ds.drop 1)).all pairB
def setB : PyData → Bool
  | .tuple ds => ds.all nameD && risesB ds
  | _ => false
theorem asBls_pairs : ∀ ps : List PyData, (∀ p ∈ ps, ∃ a b, p = .tuple [a, b]) → asBls (ps.map pairLt) = some (ps.map pairB)
  | [], _ => rfl
  | p :: r, h => by
    obtain ⟨a, b, rfl⟩ := h p List.mem_cons_self
    simp only [List.map_cons, pairLt, pairB, asBls, asBls_pairs r fun q hq => h q (List.mem_cons_of_mem _ hq), Option.map_some]
theorem is_set_D (d : PyData) (hs : ∀ ds, d = .tuple ds → (∀ x ∈ ds, shortD x = true) ∧ ds.length ≤ sizeLine) : F_is_set [d] = some ((.bool (setB d), false), []) := by
  have fin : ∀ b : Bool, b_is_set [some (.val d), none, none, none] = some (.rt (.val (.bool b)) [some (.val d), none, none, none]) → b = setB d → F_is_set [d] = some ((.bool (setB d), false), []) := by
    intro b e1 e2
    unfold F_is_set fnOf
    show (b_is_set [some (.val d), none, none, none]).bind (endOf [.v]) = _
    rw [e1, e2]
    rfl
  by_cases ht : isiD "tuple" d = true
  · cases d with
    | tuple ds =>
      obtain ⟨h1, h2⟩ := hs ds rfl
      have l1 := names_loop ds h1 h2
      by_cases hn : ds.all nameD = true
      · have l2 := rise_loop ds (fun d hd => List.all_eq_true.mp hn d hd) h2
        have l3 := asBls_pairs (zipD ds (ds.drop 1)) fun p hp => by obtain ⟨a, b, _, _, e⟩ := mem_zipD hp; exact ⟨a, b, e⟩
        refine fin (risesB ds) ?_ (by simp only [setB, hn, Bool.true_and])
        unfold b_is_set risesB
        have a1 : ((ds.map nameD).all id) = true := by rw [List.all_map]; exact hn
        rw [sSeq, sIfS]
        simp only [sSeq, sIfS, sOr, sNot, sTruth, thenS, truth, sNx, sRet, sIsi, sCB, pCons, pNil, sVar, sC, look, looks, settle, isiD, tyName, mkR, allF, asBls_map, List.getElem?_cons_zero, Option.bind_some, l1, a1]
        rw [List.drop_one] at l2 l3
        simp [sRet, l2, l3, sCB, pCons, pNil, looks, look, settle, allF, mkR, Function.comp_def]
      · have a1 : ((ds.map nameD).all id) = false := by rw [List.all_map]; exact Bool.eq_false_iff.mpr hn
        refine fin false ?_ (by simp only [setB, Bool.eq_false_iff.mpr hn, Bool.false_and])
        unfold b_is_set
        simp only [sSeq, sIfS, sOr, sNot, sTruth, thenS, truth, sNx, sRet, sIsi, sCB, pCons, pNil, sVar, sC, look, looks, settle, isiD, tyName, mkR, allF, asBls_map, List.getElem?_cons_zero, Option.bind_some, l1, a1]
        simp
    | _ => cases ht
  · have ht' : isiD "tuple" d = false := Bool.eq_false_iff.mpr ht
    refine fin false ?_ ?_
    · unfold b_is_set
      simp [sSeq, sIfS, sOr, sNot, sTruth, thenS, truth, sRet, sIsi, sVar, sC, look, settle, ht']
    · cases d with
      | tuple ds => cases ht'
      | _ => rfl
open L2 Pv.Ev
def isE (d : D) : Bool := PyData.eqv d (.tuple [])
theorem isE_iff {d : D} : isE d = true ↔ d = .tuple [] := by
  constructor
  · intro h
    cases d with
    | tuple ds => cases ds with
      | nil => rfl
      | cons x r => simp [isE, PyData.eqv, PyData.eqvAll] at h
    | _ => simp [isE, PyData.eqv] at h
  · rintro rfl; rfl
def strOf : D → Option Str
  | .str x => some x
  | _ => none
def namesL : D → List Str
  | .tuple ds => ds.filterMap strOf
  | _ => []
def allNames (xs : List D) : List Str := xs.flatMap namesL
def profB : D → Bool
  | .tuple xs => decide (xs.length % 2 = 0) && (xs.all setB && (!(xs.dropLast.any isE) && (decide ((allNames xs).length ≤ 8) && decide ((dedupS (allNames xs)).length = (allNames xs).length))))
  | _ => false
theorem set_tuple {d : D} (h : setB d = true) : ∃ ds, d = .tuple ds ∧ ds.all nameD = true ∧ risesB ds = true := by
  cases d with
  | tuple ds => simp only [setB, Bool.and_eq_true] at h; exact ⟨ds, rfl, h⟩
  | _ => simp [setB] at h
theorem names_eq : ∀ {ds : List D}, ds.all nameD = true → ds = (ds.filterMap strOf).map PyData.str
  | [], _ => rfl
  | d :: ds, h => by
    simp only [List.all_cons, Bool.and_eq_true] at h
    obtain ⟨x, rfl⟩ := nm_str h.1
    have := names_eq h.2
    simp only [List.filterMap_cons, strOf, List.map_cons]
    rw [← this]
theorem set_names {d : D} (h : setB d = true) : d = .tuple ((namesL d).map PyData.str) := by
  obtain ⟨ds, rfl, h1, _⟩ := set_tuple h
  simp only [namesL]
  rw [← names_eq h1]
theorem many_names : ∀ {xs : List D}, xs.all setB = true → xs.any isE = false → xs.length ≤ (allNames xs).length
  | [], _, _ => Nat.le_refl _
  | d :: ds, h, k => by
    simp only [List.all_cons, Bool.and_eq_true] at h
    simp only [List.any_cons, Bool.or_eq_false_iff] at k
    have := many_names h.2 k.2
    have e := set_names h.1
    have : 1 ≤ (namesL d).length := by
      cases hn : namesL d with
      | nil => rw [hn] at e; rw [e] at k; simp [isE, PyData.eqv, PyData.eqvAll] at k
      | cons x r => simp
    simp only [allNames, List.flatMap_cons, List.length_append, List.length_cons] at *
    omega
theorem too_long {xs : List D} (h : 16 < xs.length) : profB (.tuple xs) = false := by
  apply Bool.eq_false_iff.mpr
  intro hp
  simp only [profB, Bool.and_eq_true, decide_eq_true_eq, Bool.not_eq_true'] at hp
  obtain ⟨_, h1, h2, h3, _⟩ := hp
  have h1' : xs.dropLast.all setB = true := List.all_eq_true.mpr fun d hd => List.all_eq_true.mp h1 d ((List.dropLast_sublist xs).subset hd)
  have h4 := many_names h1' h2
  have h5 : (allNames xs.dropLast).length ≤ (allNames xs).length := by
    cases xs with
    | nil => simp
    | cons x r =>
      conv => rhs; rw [← List.dropLast_concat_getLast (List.cons_ne_nil x r)]
      simp [allNames]
  rw [List.length_dropLast] at h4
  omega
theorem sets_loop {xs : List D} (h : OkV (.tuple xs)) (c : Option Cell) (c3 : Option Cell) : lcL (gN 2) sYes (sCall [.v] F_is_set (mV (sVar 2) mNil)) [2] xs 0 [some (.val (.tuple xs)), c, none, c3] = some (xs.map fun d => .bool (setB d), [some (.val (.tuple xs)), c, none, c3]) := by
  refine lcL_map (fun d hd => ?_) (by rw [Nat.zero_add]; exact Nat.le_trans h.len (by decide))
  refine ⟨[some (.val (.tuple xs)), c, some (.val d), c3], .val (.bool (setB d)), by simp, by simp, ?_, rfl, by simp⟩
  have := is_set_D d (fun ds e => by
    subst e
    have h2 := h.mem hd
    refine ⟨fun x hx => ?_, Nat.le_trans h2.len (by decide)⟩
    have h3 := h2.mem hx
    cases x with
    | str x => exact decide_eq_true (Nat.le_trans h3.txt (by decide))
    | _ => rfl)
  simp [this]
theorem cut_last (xs : List D) : cutD xs none (some (-1)) = xs.dropLast := by
  unfold cutD
  have a : HT.sIx xs.length 0 none = 0 := rfl
  have b : HT.sIx xs.length xs.length (some (-1)) = xs.length - 1 := by
    unfold HT.sIx
    simp
    omega
  rw [a, b, List.dropLast_eq_take]
  simp
theorem flat_loop {xs : List D} (h : xs.all setB = true) (hz : (allNames xs).length ≤ sizeLine) (c c1 : Option Cell) : lc2L (gN 2) sYes (iOf walkOf (sVar 2)) (gN 3) sYes (sVar 3) [2, 3] [3] xs 0 [c, c1, none, none] = some ((allNames xs).map PyData.str, [c, c1, none, none]) := by
  have e : (allNames xs).map PyData.str = xs.flatMap fun d => (namesL d).map PyData.str := by
    simp [allNames, List.map_flatMap]
  rw [e]
  refine lc2L_map (inner := fun d => (namesL d).map PyData.str) (fun d hd => ?_) (by rw [← e, List.length_map]; omega)
  have hs := List.all_eq_true.mp h d hd
  have hn := set_names hs
  refine ⟨[c, c1, some (.val d), none], (namesL d).map PyData.str, [c, c1, some (.val d), none], by simp, by simp, ?_, by simp, fun m hm => ?_, by simp⟩
  · conv => lhs; rw [hn]
    simp
    exact hn.symm
  · have := lcL_map (g := gN 3) (t := sYes) (el := sVar 3) (vs := [3]) (ρ := [c, c1, some (.val d), none]) (h := id) (ds := (namesL d).map PyData.str) (n := m) (fun y hy => ⟨[c, c1, some (.val d), some (.val y)], .val y, by simp, by simp, by simp, by simp, by simp⟩) hm
    simpa using this
theorem names_few {xs : List D} (h : OkV (.tuple xs)) : (allNames xs).length ≤ 4000 := by
  have hw := h.wt
  simp only [PyData.weight] at hw
  refine Nat.le_trans ?_ hw
  clear h hw
  induction xs with
  | nil => simp [allNames]
  | cons d r ih =>
    have : (namesL d).length ≤ d.weight := by
      cases d with
      | tuple ds =>
        simp only [namesL, PyData.weight]
        exact Nat.le_trans (List.length_filterMap_le _ _) weightAll_len
      | _ => simp [namesL]
    simp only [allNames, List.flatMap_cons, List.length_append, PyData.weightAll] at *
    omega
theorem decInt (a b : Nat) : ((a : Int) == (b : Int)) = decide (a = b) := by
  by_cases h : a = b
  · subst h; simp
  · simp [h]; omega
theorem F_is_profile_D (v : D) (h : OkV v) : F_is_profile [v] = some ((.bool (profB v), false), []) := by
  cases v with
  | tuple xs =>
    have hz : xs.length ≤ sizeLine := Nat.le_trans h.len (by decide)
    have l1 := sets_loop h none none
    have m1 : mulOk 2 8 = true := by decide +kernel
    unfold F_is_profile b_is_profile
    by_cases h1 : xs.length % 2 = 0
    · have g1 : (xs.length : Int) % 2 = 0 := by omega
      by_cases h2 : 16 < xs.length
      · have g2 : (16 : Int) < xs.length := by omega
        rw [too_long h2]
        simp [isiD, tyName, g1, g2, m1]
      · have g2 : ¬ (16 : Int) < xs.length := by omega
        by_cases h3 : xs.all setB = true
        · have i1 : inB (.tuple []) (.tuple xs.dropLast) = some (xs.dropLast.any isE) := inB_t _ rfl (h.sub fun d hd => (List.dropLast_sublist xs).subset hd)
          by_cases h4 : xs.dropLast.any isE = true
          · simp [isiD, tyName, g1, g2, m1, l1, Function.comp_def, h3, cut_last, i1, h4, profB]
          · have h4' : xs.dropLast.any isE = false := Bool.eq_false_iff.mpr h4
            have hn : (allNames xs).length ≤ sizeLine := Nat.le_trans (names_few h) (by decide)
            have l2 := flat_loop h3 hn (some (.val (.tuple xs))) none
            by_cases h5 : (allNames xs).length ≤ 8
            · have g5 : ((allNames xs).length : Int) ≤ 8 := by omega
              have g6 : (allNames xs).length + 1 < scanBound := Nat.lt_of_le_of_lt (Nat.succ_le_succ h5) (by decide)
              simp [isiD, tyName, g1, h1, g2, m1, l1, Function.comp_def, h3, cut_last, i1, h4', l2, g5, h5, g6, profB, decInt]
            · have g5 : ¬ ((allNames xs).length : Int) ≤ 8 := by omega
              simp [isiD, tyName, g1, g2, m1, l1, Function.comp_def, h3, cut_last, i1, h4', l2, g5, h5, profB]
        · have h3' : xs.all setB = false := Bool.eq_false_iff.mpr h3
          simp [isiD, tyName, g1, g2, m1, l1, Function.comp_def, h3', profB]
    · have g1 : (xs.length : Int) % 2 = 1 := by omega
      simp [isiD, tyName, g1, h1, profB]
  | _ =>
    unfold F_is_profile b_is_profile
    simp [isiD, tyName, profB]
theorem shaped_lst {ds : List D} (h : ∀ d ∈ ds, d.canLay0 = true ∧ d.depth ≤ 63) : SeqAt.shaped (.list ds) = true := by
  have h1 := canLayAll_iff.mpr fun d hd => (h d hd).1
  have h2 := depthAll_iff.mpr fun d hd => (h d hd).2
  simp only [SeqAt.shaped, PyData.canLay0, PyData.depth, h1, Bool.true_and, decide_eq_true_eq]
  exact decide_eq_true (Nat.succ_le_succ h2)
theorem eqvAll_str : ∀ {xs ys : List Str}, PyData.eqvAll (xs.map PyData.str) (ys.map PyData.str) = decide (xs = ys)
  | [], [] => rfl
  | x :: xs, [] => by simp [PyData.eqvAll]
  | [], y :: ys => by simp [PyData.eqvAll]
  | x :: xs, y :: ys => by
    simp only [List.map_cons, PyData.eqvAll, PyData.eqv, eqvAll_str (xs := xs) (ys := ys), List.cons.injEq]
    by_cases h : x = y
    · subst h; simp
    · simp [h]
theorem rises_iff : ∀ {ns : List Str}, risesB (ns.map PyData.str) = true ↔ Asc ns
  | [] => by simp [risesB, zipD, Asc]
  | [x] => by simp [risesB, zipD, Asc]
  | x :: y :: r => by
    have ih := rises_iff (ns := y :: r)
    have e : risesB ((x :: y :: r).map PyData.str) = (ltS x y && risesB ((y :: r).map PyData.str)) := rfl
    rw [e, Bool.and_eq_true, ih]
    simp only [Asc, List.pairwise_cons, List.mem_cons, forall_eq_or_imp]
    constructor
    · rintro ⟨h1, h2, h3⟩
      exact ⟨⟨h1, fun z hz => ltS_trans h1 (h2 z hz)⟩, h2, h3⟩
    · rintro ⟨⟨h1, _⟩, h2, h3⟩
      exact ⟨h1, h2, h3⟩
end Pv.Pg
end
section
set_option Elab.async false
set_option linter.all false
set_option autoImplicit false
set_option maxRecDepth 100000
set_option maxHeartbeats 2000000
/-! PgT: the rows of a profile. -/
namespace Pv.Pg
open PySem L2 Pv Pv.Ev
/-- what stands behind place 2 (m - k): names used, and the held ones with what is used behind them -/
def accS (ns : List (List Str)) (m : Nat) : Nat → List Str × List (Str × List Str)
  | 0 => ([], [])
  | k + 1 => ((accS ns m k).1 ++ ns.getD (2 * (m - 1 - k) + 1) [], (accS ns m k).2 ++ (ns.getD (2 * (m - 1 - k)) []).map fun l => (l, sortS ((accS ns m k).1 ++ ns.getD (2 * (m - 1 - k) + 1) [])))
theorem drop_two (ns : List (List Str)) (j : Nat) (h : j + 1 < ns.length) : ns.drop j = ns.getD j [] :: ns.getD (j + 1) [] :: ns.drop (j + 2) := by
  rw [List.drop_eq_getElem_cons (by omega), List.drop_eq_getElem_cons (by omega : j + 1 < ns.length)]
  simp [List.getD_eq_getElem?_getD, List.getElem?_eq_getElem (by omega : j < ns.length), List.getElem?_eq_getElem h]
theorem acc_perm (ns : List (List Str)) (m : Nat) (hm : ns.length = 2 * m) : ∀ k, k ≤ m → ((accS ns m k).1 ++ (accS ns m k).2.map (·.1)).Perm (ns.drop (2 * (m - k))).flatten
  | 0, _ => by
    have : ns.drop (2 * (m - 0)) = [] := List.drop_eq_nil_of_le (by omega)
    rw [this]; exact .refl _
  | k + 1, h => by
    have ih := acc_perm ns m hm k (by omega)
    have e : 2 * (m - 1 - k) + 2 = 2 * (m - k) := by omega
    have e2 : 2 * (m - (k + 1)) = 2 * (m - 1 - k) := by omega
    rw [e2, drop_two ns _ (by omega), e, List.flatten_cons, List.flatten_cons]
    simp only [accS, List.map_append, List.map_map, Function.comp_def, List.map_id']
    generalize ns.getD (2 * (m - 1 - k)) [] = h0
    generalize ns.getD (2 * (m - 1 - k) + 1) [] = u0
    refine List.Perm.trans ?_ ((ih.append_left u0).append_left h0)
    refine (List.perm_iff_count.mpr fun a => ?_)
    simp only [List.count_append]
    omega
theorem acc_nodup (ns : List (List Str)) (m : Nat) (hm : ns.length = 2 * m) (hn : ns.flatten.Nodup) (k : Nat) (hk : k ≤ m) : ((accS ns m k).1 ++ (accS ns m k).2.map (·.1)).Nodup := by
  refine (acc_perm ns m hm k hk).nodup_iff.mpr ?_
  have : (ns.drop (2 * (m - k))).flatten.Sublist ns.flatten := by
    conv => rhs; rw [← List.take_append_drop (2 * (m - k)) ns]
    rw [List.flatten_append]
    exact List.sublist_append_right _ _
  exact this.nodup hn
theorem acc_len (ns : List (List Str)) (m : Nat) (hm : ns.length = 2 * m) (k : Nat) (hk : k ≤ m) : (accS ns m k).1.length + (accS ns m k).2.length ≤ ns.flatten.length := by
  have h := (acc_perm ns m hm k hk).length_eq
  have : (ns.drop (2 * (m - k))).flatten.Sublist ns.flatten := by
    conv => rhs; rw [← List.take_append_drop (2 * (m - k)) ns]
    rw [List.flatten_append]
    exact List.sublist_append_right _ _
  have := this.length_le
  simp only [List.length_append, List.length_map] at h
  omega
def valT (p : Str × List Str) : Str × D := (p.1, .tuple (p.2.map .str))
def valL (p : Str × List Str) : Str × D := (p.1, .list (p.2.map .str))
def setsD (ns : List (List Str)) : D := .tuple (ns.map fun n => .tuple (n.map .str))
theorem together_D (xs ys : List Str) (h : xs.length + ys.length ≤ 1000) : F_together [.tuple (xs.map .str), .tuple (ys.map .str)] = some ((.tuple ((uniqS (xs ++ ys)).map .str), false), []) := by
  unfold F_together b_together
  have g1 : xs.length + ys.length ≤ sizeLine := Nat.le_trans h (by decide)
  have g2 : xs.length + ys.length + 1 < scanBound := Nat.lt_of_le_of_lt (Nat.succ_le_succ h) (by decide)
  have g3 : asStrs (xs.map PyData.str ++ ys.map PyData.str) = some (xs ++ ys) := by rw [← List.map_append, asStrs_m]
  simp [g1, g3, g2]
theorem range_ok : ∀ n : Nat, n < 17 → n % 2 = 0 → (Builtin.Range.small ((n : Int) - 2) (-1) (-2) = true ∧ 0 ≤ Builtin.Range.rangeSize ((n : Int) - 2) (-1) (-2) ∧ (Builtin.Range.rangeSize ((n : Int) - 2) (-1) (-2)).toNat = n / 2) := by decide +kernel
theorem at_set {ns : List (List Str)} {j : Nat} (h : j < ns.length) : (ns.map fun n => PyData.tuple (n.map .str))[j]? = some (.tuple ((ns.getD j []).map .str)) := by
  simp [List.getElem?_eq_getElem h, List.getD_eq_getElem?_getD]
theorem atI_nat {α : Type} {xs : List α} {j : Nat} {i : Int} {x : α} (h : xs[j]? = some x) (e : i = (j : Nat)) : atI xs i = some x := by
  subst e
  have hj : j < xs.length := (List.getElem?_eq_some_iff.mp h).1
  unfold atI ixN
  rw [if_pos (by omega), if_pos (by omega)]
  simpa using h
theorem dput_len (es : List (D × D)) (k : Key) (z : D) : (dput es k z).length ≤ es.length + 1 := by
  unfold dput; split <;> simp
theorem dputs_len {α : Type} (hk : α → Key) (v : α → D) : ∀ (a : List α) (es : List (D × D)), (a.foldl (fun es d => dput es (hk d) (v d)) es).length ≤ es.length + a.length
  | [], es => by simp
  | x :: a, es => by
    have h1 := dputs_len hk v a (dput es (hk x) (v x))
    have h2 := dput_len es (hk x) (v x)
    simp only [List.foldl_cons, List.length_cons]
    omega
def keyG (d : D) : Key := (keyOf d).getD (.inl 0)
theorem same_loop (c0 c2 c3 : Option Cell) (z : D) (hs : List Str) (hn : hs.Nodup) (hl : hs.length ≤ 1000) : dcL (gN 4) sYes (sVar 4) (sVar 1) [4] (hs.map .str) [] [c0, some (.val z), c2, c3, none] = some ((hs.map fun l => (l, z)).map rowD, [c0, some (.val z), c2, c3, none]) := by
  have := dcL_map (g := gN 4) (t := sYes) (kf := sVar 4) (vf := sVar 1) (vs := [4]) (ρ := [c0, some (.val z), c2, c3, none]) (hk := keyG) (h := fun _ => z) (ds := hs.map .str) (es := []) (fun d hd => by
    obtain ⟨x, hx, rfl⟩ := List.mem_map.mp hd
    exact ⟨[c0, some (.val z), c2, c3, some (.val (.str x))], .val (.str x), .val z, by simp, by simp, by simp, by simp [keyG, keyD], by simp, by simp, by simp⟩) (fun a b e => by
      have h1 := dputs_len keyG (fun _ => z) a []
      have h2 : a.length ≤ hs.length := by
        have := congrArg List.length e
        simp at this; omega
      exact Nat.lt_of_le_of_lt h1 (Nat.lt_of_le_of_lt (by simp; omega) (by decide : 1000 < sizeLine)))
  rw [this, List.foldl_map]
  have e := dputs_new (α := Str) id (fun _ => z) hs [] (by simpa using hn)
  simp only [List.map_nil, List.nil_append] at e
  simp only [keyG, keyOf, Option.getD_some, id] at e ⊢
  rw [e]
abbrev body_rows : SemS := (sSeq (sSet 1 (sCall [.v, .v] F_together (mV (sVar 1) (mV (sOp ixG (sVar 0) (sOp addF (sVar 3) (sC (.int 1)))) mNil)))) (sExpr (sMut "dict" 2 updateM (sCons (sDc (gN 4) sYes (sVar 4) (sVar 1) [4] (iOf walkOf (sOp ixG (sVar 0) (sVar 3)))) sNil))))
/-- what is known of the names of a profile -/
structure Good (ns : List (List Str)) (m : Nat) : Prop where
  len : ns.length = 2 * m
  few : m ≤ 8
  nd : ns.flatten.Nodup
  small : ns.flatten.length ≤ 8
theorem Good.parts {ns : List (List Str)} {m : Nat} (G : Good ns m) {k : Nat} (hk : k < m) :
    (accS ns m k).1.length + (ns.getD (2 * (m - 1 - k) + 1) []).length ≤ 8 ∧ (accS ns m k).2.length + (ns.getD (2 * (m - 1 - k)) []).length ≤ 8 ∧ ((accS ns m k).1 ++ ns.getD (2 * (m - 1 - k) + 1) []).Nodup ∧
    ((accS ns m k).2.map (·.1) ++ ns.getD (2 * (m - 1 - k)) []).Nodup := by
  have h1 := acc_nodup ns m G.len G.nd (k + 1) (by omega)
  have h2 := acc_len ns m G.len (k + 1) (by omega)
  have h3 := G.small
  simp only [accS, List.length_append, List.length_map, List.map_append, List.map_map, Function.comp_def, List.map_id'] at h1 h2
  have h4 := List.nodup_append.mp h1
  exact ⟨by omega, by omega, h4.1, h4.2.1⟩
theorem rows_step (t : List D) (V u h : List Str) (E : List (Str × D)) (i : Int) (a1 : atI t i = some (.tuple (h.map .str))) (a2 : atI t (i + 1) = some (.tuple (u.map .str)))
    (p1 : V.length + u.length ≤ 8) (p2 : E.length + h.length ≤ 8) (p3 : (V ++ u).Nodup) (p4 : (E.map (·.1) ++ h).Nodup) :
    body_rows [some (.val (.tuple t)), some (.val (.tuple ((sortS V).map .str))), some (.own (.dict (E.map rowD))), some (.val (.int i)), none] =
      some (.nx [some (.val (.tuple t)), some (.val (.tuple ((sortS (V ++ u)).map .str))), some (.own (.dict ((E ++ h.map fun l => (l, PyData.tuple ((sortS (V ++ u)).map .str))).map rowD))), some (.val (.int i)), none]) := by
  have t1 := together_D (sortS V) u (by rw [sortS_len]; omega)
  have t2 : uniqS (sortS V ++ u) = sortS (V ++ u) := by
    rw [← uniqS_nodup p3]
    exact uniqS_ext fun z => by simp [mem_sortS]
  rw [t2] at t1
  generalize (sortS (V ++ u)).map PyData.str = U at *
  have t3 := same_loop (some (.val (.tuple t))) (some (.own (.dict (E.map rowD)))) (some (.val (.int i))) (.tuple U) h (List.nodup_append.mp p4).2.1 (by omega)
  have t4 := dmerge_new (h.map fun l => (l, PyData.tuple U)) E (by simpa [Function.comp_def] using p4)
  have t5 : E.length + h.length ≤ sizeLine := Nat.le_trans p2 (by decide)
  generalize hE : h.map (fun l => (l, PyData.tuple U)) = E2 at *
  have t6 : E2.length = h.length := by rw [← hE]; simp
  have t7 : E.length + E2.length ≤ sizeLine := by omega
  simp [a1, a2, t1, t3, t4, t7]
theorem rows_of_D (ns : List (List Str)) (m : Nat) (G : Good ns m) : F_rows_of [setsD ns] = some ((.dict (((accS ns m m).2.map valT).map rowD), true), []) := by
  have hlen := G.len
  have hfew := G.few
  have R := range_ok ns.length (by omega) (by omega)
  obtain ⟨ρ', L, hI⟩ := forL_inv (g := gN 3) (b := body_rows) (fun k ρ => k ≤ m → ∃ c3 : Option D, ρ = [some (.val (setsD ns)), some (.val (.tuple ((sortS (accS ns m k).1).map .str))), some (.own (.dict (((accS ns m k).2.map valT).map rowD))), c3.map .val, none])
    (rng3 ((ns.length : Int) - 2) (-2) (ns.length / 2)) 0 [some (.val (setsD ns)), some (.val (.tuple [])), some (.own (.dict [])), none, none] (fun _ => ⟨none, rfl⟩) (fun k d ρ hd hI => by
      simp only [Nat.zero_add] at hI ⊢
      simp only [rng3, List.getElem?_map, Option.map_eq_some_iff, List.getElem?_range] at hd
      obtain ⟨k', hk', rfl⟩ := hd
      obtain ⟨hk1, hk2⟩ := List.getElem?_eq_some_iff.mp hk'
      simp only [List.getElem_range] at hk2
      subst hk2
      simp only [List.length_range] at hk1
      have hk : k < m := by omega
      obtain ⟨c3, rfl⟩ := hI (by omega)
      obtain ⟨p1, p2, p3, p4⟩ := G.parts hk
      have st := rows_step (ns.map fun n => PyData.tuple (n.map .str)) (accS ns m k).1 (ns.getD (2 * (m - 1 - k) + 1) []) (ns.getD (2 * (m - 1 - k)) []) ((accS ns m k).2.map valT) ((ns.length : Int) - 2 + (k : Nat) * -2)
        (atI_nat (at_set (by omega)) (by omega)) (atI_nat (at_set (by omega)) (by omega)) p1 (by simpa using p2) p3 (by simpa [valT, Function.comp_def] using p4)
      refine ⟨[some (.val (setsD ns)), some (.val (.tuple ((sortS (accS ns m k).1).map .str))), some (.own (.dict (((accS ns m k).2.map valT).map rowD))), some (.val (.int ((ns.length : Int) - 2 + (k : Nat) * -2))), none], _, by simp, st, fun _ => ⟨some (.int ((ns.length : Int) - 2 + (k : Nat) * -2)), ?_⟩⟩
      simp only [accS, List.map_append, List.map_map]
      rfl)
  obtain ⟨c3, rfl⟩ := hI (by simp [rng3]; omega)
  have e : 0 + (rng3 ((ns.length : Int) - 2) (-2) (ns.length / 2)).length = m := by simp [rng3]; omega
  rw [e] at L
  unfold F_rows_of b_rows_of
  generalize (((accS ns m m).2.map valT).map rowD) = E at *
  unfold setsD at L ⊢
  simp [R, L]
theorem good_of {v : D} (h : OkV v) (hp : profB v = true) : ∃ ns m, v = setsD ns ∧ Good ns m ∧ (∀ n ∈ ns, ∀ l ∈ n, nameB l = true ∧ PyData.strOk l = true) := by
  cases v with
  | tuple xs =>
    have hl : ¬ 16 < xs.length := fun k => by rw [too_long k] at hp; cases hp
    simp only [profB, Bool.and_eq_true, decide_eq_true_eq, Bool.not_eq_true'] at hp
    obtain ⟨h1, h2, h3, h4, h5⟩ := hp
    have hx : ∀ x ∈ xs, x = .tuple ((namesL x).map .str) := fun x hx => set_names (List.all_eq_true.mp h2 x hx)
    refine ⟨xs.map namesL, xs.length / 2, ?_, ⟨by simp; omega, by omega, ?_, ?_⟩, ?_⟩
    · simp only [setsD, List.map_map]
      congr 1
      conv => lhs; rw [← List.map_id xs]
      exact List.map_congr_left fun x m => hx x m
    · have := dedupS_len_iff.mp h5
      simpa [allNames, List.flatMap] using this
    · simpa [allNames, List.flatMap] using h4
    · intro n hn l hl
      obtain ⟨x, hm, rfl⟩ := List.mem_map.mp hn
      have e := hx x hm
      have ok := h.mem hm
      rw [e] at ok
      have ok2 := ok.mem (List.mem_map_of_mem (f := PyData.str) hl)
      obtain ⟨ds, e2, e3, _⟩ := set_tuple (List.all_eq_true.mp h2 x hm)
      rw [e] at e2
      cases e2
      have := List.all_eq_true.mp e3 _ (List.mem_map_of_mem (f := PyData.str) hl)
      exact ⟨this, by simpa [PyData.canLay0] using ok2.lay⟩
  | _ => simp [profB] at hp
theorem check_D {v : D} (h : OkV v) (hp : profB v = true) : F_check_profile [v] = some ((.none, false), []) := by
  unfold F_check_profile b_check_profile
  simp [F_is_profile_D v h, hp]
theorem check_name_D {l : Str} (h : nameB l = true) (hz : l.length ≤ sizeLine) : F_check_name [.str l] = some ((.none, false), []) := by
  unfold F_check_name b_check_name
  simp [is_name_str l hz, h]
theorem name_short {l : Str} (h : nameB l = true) : l.length ≤ sizeLine := by
  simp only [nameB, Bool.and_eq_true, decide_eq_true_eq] at h
  have : l.length ≤ 8 := by omega
  exact Nat.le_trans this (by decide)
theorem shaped_names {n : List Str} (h : ∀ l ∈ n, PyData.strOk l = true) : SeqAt.shaped (.tuple (n.map .str)) = true := shaped_tup fun d hd => by
  obtain ⟨l, hl, rfl⟩ := List.mem_map.mp hd
  exact ⟨by simpa [PyData.canLay0] using h l hl, by simp [PyData.depth]⟩
theorem eq_names {n : List Str} (h : ∀ l ∈ n, PyData.strOk l = true) : eqF (.tuple (n.map .str)) (.tuple (n.map .str)) = some (.bool true, false) := by
  rw [eqF_of (shaped_names h) (shaped_names h)]
  simp [PyData.eqv, eqvAll_str]
theorem ne_names {n : List Str} (h : ∀ l ∈ n, PyData.strOk l = true) : neF (.tuple (n.map .str)) (.tuple (n.map .str)) = some (.bool false, false) := by
  rw [neF_of (shaped_names h) (shaped_names h)]
  simp [PyData.eqv, eqvAll_str]
/-- every text in the table is a name of the profile -/
theorem acc_mem (ns : List (List Str)) (m : Nat) : ∀ k, (∀ l ∈ (accS ns m k).1, ∃ n ∈ ns, l ∈ n) ∧ (∀ p ∈ (accS ns m k).2, (∃ n ∈ ns, p.1 ∈ n) ∧ ∀ l ∈ p.2, ∃ n ∈ ns, l ∈ n)
  | 0 => by simp [accS]
  | k + 1 => by
    obtain ⟨h1, h2⟩ := acc_mem ns m k
    have g : ∀ (j : Nat) (l : Str), l ∈ ns.getD j [] → ∃ n ∈ ns, l ∈ n := fun j l hl => by
      by_cases hj : j < ns.length
      · refine ⟨ns[j], List.getElem_mem hj, ?_⟩
        simpa [List.getD_eq_getElem?_getD, List.getElem?_eq_getElem hj] using hl
      · rw [List.getD_eq_getElem?_getD, List.getElem?_eq_none (by omega)] at hl
        simp at hl
    have h3 : ∀ l ∈ (accS ns m k).1 ++ ns.getD (2 * (m - 1 - k) + 1) [], ∃ n ∈ ns, l ∈ n := fun l hl => by
      rcases List.mem_append.mp hl with e | e
      · exact h1 l e
      · exact g _ l e
    refine ⟨h3, fun p hp => ?_⟩
    rcases List.mem_append.mp hp with e | e
    · exact h2 p e
    · obtain ⟨l, hl, rfl⟩ := List.mem_map.mp e
      exact ⟨g _ l hl, fun z hz => h3 z (mem_sortS.mp hz)⟩
theorem keysT (ks : List (Str × List Str)) : (ks.map valT).map (·.1) = ks.map (·.1) := by simp [valT, Function.comp_def]
theorem keysL (ks : List (Str × List Str)) : (ks.map valL).map (·.1) = ks.map (·.1) := by simp [valL, Function.comp_def]
theorem acc_sorted (ns : List (List Str)) (m : Nat) : ∀ k, ∀ p ∈ (accS ns m k).2, sortS p.2 = p.2
  | 0 => by simp [accS]
  | k + 1 => fun p hp => by
    rcases List.mem_append.mp hp with e | e
    · exact acc_sorted ns m k p e
    · obtain ⟨l, hl, rfl⟩ := List.mem_map.mp e
      exact sortS_idem _
theorem acc_small (ns : List (List Str)) (m : Nat) (G : Good ns m) : ∀ k, k ≤ m → ∀ p ∈ (accS ns m k).2, p.2.length ≤ 8
  | 0, _ => by simp [accS]
  | k + 1, hk => fun p hp => by
    rcases List.mem_append.mp hp with e | e
    · exact acc_small ns m G k (by omega) p e
    · obtain ⟨l, hl, rfl⟩ := List.mem_map.mp e
      have := (G.parts (k := k) (by omega)).1
      simpa [sortS_len] using this
end Pv.Pg
end
section
set_option Elab.async false
set_option linter.all false
set_option autoImplicit false
set_option maxRecDepth 100000
set_option maxHeartbeats 2000000
/-! PgU: blocks of a profile, their rows; dict comprehensions that ask. -/
namespace Pv.Ev
open PySem L2 Pv
def okC : Option (Option Cell) → Bool
  | some (some (.val _)) => true
  | some (some _) => false
  | _ => true
section
variable (i : Nat) (ρ ρ0 : Ro) (d : D) (vs : List Nat)
@[scoped simp] theorem okC1 : okC (some (some (.val d))) = true := rfl
@[scoped simp] theorem okC2 : okC (some none) = true := rfl
@[scoped simp] theorem okC3 (c : Option D) : okC (some (c.map Cell.val)) = true := by cases c <;> rfl
@[scoped simp] theorem okAt_n : okAt ρ [] = true := rfl
@[scoped simp] theorem okAt_c (v : Nat) : okAt ρ (v :: vs) = (okC ρ[v]? && okAt ρ vs) := rfl
@[scoped simp] theorem backR_n : backR ρ0 ρ [] = ρ := rfl
@[scoped simp] theorem backR_c (v : Nat) : backR ρ0 ρ (v :: vs) = (backR ρ0 ρ vs).set v (ρ0[v]?.getD none) := rfl
@[scoped simp] theorem iW_u (it : SemI) : iW vs it ρ = bd (it ρ) fun x => if okAt x.2 vs = true then some (x.1, wipeR x.2 vs) else none := rfl
@[scoped simp] theorem sLcS_u (g : SemG) (t : SemT) (el : SemE) (it : SemI) : sLcS g t el vs it ρ = if okAt ρ vs = true then bd (sLc g t el vs (iW vs it) ρ) fun x => some (x.1, backR ρ x.2 vs) else none := rfl
@[scoped simp] theorem dictE_u (es : List (D × D)) : dictE (.dict es) = some (!es.isEmpty) := rfl
@[scoped simp] theorem sTruthD_u (f : SemE) : sTruthD f ρ = bd (f ρ) fun x => bd (look x.2 x.1) fun d => bd (dictE d) fun b => some (b, x.2) := rfl
end
end Pv.Ev
namespace Pv
open PySem L2 Pv.Ev
theorem dcL_filter {g : SemG} {t : SemT} {kf vf : SemE} {vs : List Nat} {ρ : Ro} {hk : D → L2.Key} {h : D → D} {p : D → Bool} : ∀ {ds : List D} {es : List (D × D)}, (∀ d ∈ ds, ∃ ρ1, g d ρ = some ρ1 ∧ t ρ1 = some (p d, ρ1) ∧ wipeR ρ1 vs = ρ ∧ (p d = true → ∃ r r2, kf ρ1 = some (r, ρ1) ∧ frz ρ1 r = some (keyD (hk d), ρ1) ∧ vf ρ1 = some (r2, ρ1) ∧ frz ρ1 r2 = some (h d, ρ1))) →
    es.length + ds.length ≤ 100000 → dcL g t kf vf vs ds es ρ = some ((ds.filter p).foldl (fun es d => dput es (hk d) (h d)) es, ρ)
  | [], _, _, _ => rfl
  | d :: ds, es, k, hz => by
    obtain ⟨ρ1, e1, e2, e7, e8⟩ := k d List.mem_cons_self
    rw [List.length_cons] at hz
    have lt : es.length < sizeLine := Nat.lt_of_le_of_lt (by omega : es.length ≤ 100000) (by decide)
    have kr : ∀ x ∈ ds, _ := fun x hx => k x (List.mem_cons_of_mem _ hx)
    cases hp : p d with
    | true =>
      obtain ⟨r, r2, e3, e4, e5, e6⟩ := e8 hp
      have hl : (dput es (hk d) (h d)).length ≤ es.length + 1 := by unfold dput; split <;> simp
      simp only [dcL, e1, e2, hp, e3, e4, keyOf_keyD, e5, e6, e7, Option.bind_some, if_pos, lt]
      rw [dcL_filter kr (by omega), List.filter_cons_of_pos hp]
      rfl
    | false =>
      simp only [dcL, e1, e2, hp, e7, Option.bind_some, Bool.false_eq_true, if_false]
      rw [dcL_filter kr (by omega), List.filter_cons_of_neg (by rw [hp]; exact Bool.false_ne_true)]
end Pv
namespace Pv.Pg
open PySem L2 Pv Pv.Ev
abbrev Blk := List Str × List Str
def flatP (ps : List Blk) : List (List Str) := ps.flatMap fun b => [b.1, b.2]
def heldP (ps : List Blk) : List Str := ps.flatMap (·.1)
def usedP (ps : List Blk) : List Str := ps.flatMap (·.2)
/-- used behind a held one -/
def UB : List Blk → Str → List Str
  | [], _ => []
  | b :: ps, l => if l ∈ b.1 then usedP (b :: ps) else UB ps l
structure VP (ps : List Blk) : Prop where
  asc : ∀ b ∈ ps, Asc b.1 ∧ Asc b.2
  ne1 : ∀ b ∈ ps, b.1 ≠ []
  ne2 : ∀ b ∈ ps.dropLast, b.2 ≠ []
  nd : (heldP ps ++ usedP ps).Nodup
theorem VP.tail {b : Blk} {ps : List Blk} (h : VP (b :: ps)) : VP ps where
  asc := fun c hc => h.asc c (List.mem_cons_of_mem _ hc)
  ne1 := fun c hc => h.ne1 c (List.mem_cons_of_mem _ hc)
  ne2 := fun c hc => h.ne2 c (by
    cases ps with
    | nil => cases hc
    | cons d r => exact List.mem_cons_of_mem _ hc)
  nd := by
    have := h.nd
    simp only [heldP, usedP, List.flatMap_cons] at this ⊢
    refine List.Sublist.nodup (List.Sublist.append (List.sublist_append_right _ _) (List.sublist_append_right _ _)) this
theorem VP.used_ne {b : Blk} {ps : List Blk} (h : VP (b :: ps)) (hp : ps ≠ []) : b.2 ≠ [] := h.ne2 b (by
  cases ps with
  | nil => exact absurd rfl hp
  | cons d r => exact List.mem_cons_self)
theorem UB_used (ps : List Blk) (l : Str) : ∀ x ∈ UB ps l, x ∈ usedP ps := by
  induction ps with
  | nil => intro x hx; cases hx
  | cons b ps ih =>
    intro x hx
    simp only [UB] at hx
    split at hx
    · exact hx
    · simp only [usedP, List.flatMap_cons, List.mem_append]
      exact .inr (ih x hx)
/-- a dict is the rows of these blocks -/
structure RowsOf (R : List (Str × List Str)) (ps : List Blk) : Prop where
  nd : (R.map (·.1)).Nodup
  keys : ∀ l, l ∈ R.map (·.1) ↔ l ∈ heldP ps
  vals : ∀ p ∈ R, Asc p.2 ∧ ∀ x, x ∈ p.2 ↔ x ∈ UB ps p.1
def dictR (R : List (Str × List Str)) : D := .dict ((R.map valT).map rowD)
theorem asc_unique {a b : List Str} (ha : Asc a) (hb : Asc b) (h : ∀ x, x ∈ a ↔ x ∈ b) : a = b :=
  sorted_unique (nodup_perm ha.nodup hb.nodup h) ha.sorted hb.sorted
theorem nodup_len {a b : List Str} (ha : a.Nodup) (hb : b.Nodup) (h : ∀ x, x ∈ a ↔ x ∈ b) : a.length = b.length := (nodup_perm ha hb h).length_eq
theorem sub_len {a b : List Str} (ha : a.Nodup) (h : ∀ x ∈ a, x ∈ b) : a.length ≤ b.length := List.Nodup.length_le_of_subset ha h
end Pv.Pg
end
section
set_option Elab.async false
set_option linter.all false
set_option maxRecDepth 100000
set_option maxHeartbeats 1000000
/-! PxG: what a comprehension will hand on is frozen ahead of it. -/
namespace Pv
open PySem PySem.Spec PyProof.Rows L2 PySem.W
def fzC (i : Nat) (ρ : Ro) : Option (Option Cell) → Ro
  | some (some (.own d)) => ρ.set i (some (.val d))
  | _ => ρ
def sFz (i : Nat) (f : SemE) : SemE := fun ρ => f (fzC i ρ ρ[i]?)
def sFzS (i : Nat) (f : SemS) : SemS := fun ρ => f (fzC i ρ ρ[i]?)
theorem Rel.fz {K : Fr'} {P : List (Nat × Addr)} {W F H : Hp} {σ : St} {ρ : Ro} (R : Rel K P W F H σ ρ) (i : Nat) : ∃ F', Ext W F F' ∧ Rel K P W F' H σ (fzC i ρ ρ[i]?) := by
  cases e : ρ[i]? with
  | none => exact ⟨F, Ext.refl _ _, R⟩
  | some o =>
    cases o with
    | none => exact ⟨F, Ext.refl _ _, R⟩
    | some c =>
      cases c with
      | own d =>
        obtain ⟨v, hv, _⟩ := R.cell i _ e
        obtain ⟨F', x, R', _⟩ := R.cellFrz e hv
        exact ⟨F', x, R'⟩
      | val d => exact ⟨F, Ext.refl _ _, R⟩
      | byr d => exact ⟨F, Ext.refl _ _, R⟩
      | scr ds => exact ⟨F, Ext.refl _ _, R⟩
section
variable {X : Cx}
theorem de_fz (i : Nat) {e : Expr} {f : SemE} (h : DE X e f) : DE X e (sFz i f) := by
  refine ⟨h.pe.pvi fun σ H Q q => ?_⟩
  obtain ⟨P, W, F, ρ, r, ρ', R, e, q⟩ := q
  obtain ⟨F2, x2, R2⟩ := R.fz i
  exact ⟨P, W, F2, _, r, ρ', R2, e, fun v H' F' x R' o => q v H' F' (x2.trans x) R' o⟩
theorem ds_fz (i : Nat) {st : Stmt} {f : SemS} (h : DS X st f) : DS X st (sFzS i f) := by
  refine ⟨h.ps.pvi fun D σ H q => ?_⟩
  obtain ⟨P, W, F, ρ, o, R, e, q⟩ := q
  obtain ⟨F2, x2, R2⟩ := R.fz i
  exact ⟨P, W, F2, _, o, R2, e, q.ext x2⟩
end
namespace Ev
section
variable (i : Nat) (ρ : Ro) (d : D)
@[scoped simp] theorem sFz_u (f : SemE) : sFz i f ρ = f (fzC i ρ ρ[i]?) := rfl
@[scoped simp] theorem sFzS_u (f : SemS) : sFzS i f ρ = f (fzC i ρ ρ[i]?) := rfl
@[scoped simp] theorem fzC1 : fzC i ρ (some (some (.own d))) = ρ.set i (some (.val d)) := rfl
@[scoped simp] theorem fzC2 : fzC i ρ (some (some (.val d))) = ρ := rfl
@[scoped simp] theorem fzC3 : fzC i ρ (some (some (.byr d))) = ρ := rfl
@[scoped simp] theorem fzC4 : fzC i ρ (some none) = ρ := rfl
@[scoped simp] theorem fzC5 (ds : List D) : fzC i ρ (some (some (.scr ds))) = ρ := rfl
end
end Ev
end Pv
end
section
set_option Elab.async false
set_option linter.all false
set_option maxRecDepth 100000
set_option maxHeartbeats 1000000
/-! PxH: tuple(range(..)), d.get(k, x), d.pop(k). -/
namespace Pv
open PySem PySem.Spec PyProof.Rows L2 PySem.W
section
variable {X : Cx}
/-! tuple(range(n)), tuple(range(m, n)), list(..) of these -/
theorem rgV_rp {K : Fr'} {F : Hp} (a b : Int) : RpA K F (rgV a b) (rng a (b - a).toNat) := by
  unfold rgV rng
  induction List.range (b - a).toNat with
  | nil => exact .nil
  | cons i r ih => exact .cons (.int _) ih
def rgOkB (a b : Int) : Bool := decide (0 ≤ a ∧ a ≤ 16777216 ∧ 0 ≤ b ∧ b ≤ 16777216)
theorem rgOk_of {a b : Int} (h : rgOkB a b = true) : RgOk a b := by
  have h := of_decide_eq_true h
  exact RgOk.of_le h.1 h.2.2.2 h.2.1 h.2.2.1
def sTupRg1 (f : SemE) : SemE := fun ρ => (f ρ).bind fun (r, ρ1) => (look ρ1 r).bind fun d => (asI d).bind fun n => if rgOkB 0 n = true then some (.val (.tuple (rng 0 n.toNat)), ρ1) else none
def sLstRg1 (f : SemE) : SemE := fun ρ => (f ρ).bind fun (r, ρ1) => (look ρ1 r).bind fun d => (asI d).bind fun n => if rgOkB 0 n = true then some (.fr (.list (rng 0 n.toNat)), ρ1) else none
theorem de_tupRg1 {a : Expr} {f : SemE} {p pos p2 pos2 : Pos} (hc : X.calm = true) (hg : Gl X "tuple") (hm : X.mg "tuple" = none) (hg2 : Gl X "range") (hm2 : X.mg "range" = none) (ha : DE X a f)
    (na : starEach [a] X.env = (false, eval a X.env) :: starEach [] X.env := by rfl) (nb : starEach [.Call (.Name "range" p2) [a] [] pos2] X.env = (false, eval (.Call (.Name "range" p2) [a] [] pos2) X.env) :: starEach [] X.env := by rfl) :
    DE X (.Call (.Name "tuple" p) [.Call (.Name "range" p2) [a] [] pos2] [] pos) (sTupRg1 f) := by
  refine ⟨(pe_tupRg hc hg hm (prg_1 hg2 hm2 ha.pe na) nb).pvi fun σ H Q q => ?_⟩
  obtain ⟨P, W, F, ρ, r, ρ', R, e, q⟩ := q
  simp only [sTupRg1, Option.bind_eq_some_iff, Prod.exists] at e
  obtain ⟨r1, ρ1, e1, d, e2, n, e3, e4⟩ := e
  split at e4
  · next hz =>
    cases e4
    refine ⟨P, W, F, ρ, r1, _, R, e1, fun v H1 F1 x1 R1 o1 => ?_⟩
    have l := R1.lk o1 e2
    rw [asI_eq e3] at l
    refine ⟨n, l.int, rgOk_of hz, fun p hp => ?_⟩
    have rp : RpA X.K F1 (rgV 0 n) (rng 0 n.toNat) := by
      have := rgV_rp (K := X.K) (F := F1) 0 n
      rwa [Int.sub_zero] at this
    exact (post_of (zb := (.tuple (rng 0 n.toNat), false)) R1 fun v H' F' x R' o => q v H' F' (x1.trans x) R' o).tup R1.fh rp p hp
  · cases e4
theorem de_lstRg1 {a : Expr} {f : SemE} {p pos p2 pos2 : Pos} (hc : X.calm = true) (hg : Gl X "list") (hm : X.mg "list" = none) (hg2 : Gl X "range") (hm2 : X.mg "range" = none) (ha : DE X a f)
    (na : starEach [a] X.env = (false, eval a X.env) :: starEach [] X.env := by rfl) (nb : starEach [.Call (.Name "range" p2) [a] [] pos2] X.env = (false, eval (.Call (.Name "range" p2) [a] [] pos2) X.env) :: starEach [] X.env := by rfl) :
    DE X (.Call (.Name "list" p) [.Call (.Name "range" p2) [a] [] pos2] [] pos) (sLstRg1 f) := by
  refine ⟨(pe_listRg hc hg hm (prg_1 hg2 hm2 ha.pe na) nb).pvi fun σ H Q q => ?_⟩
  obtain ⟨P, W, F, ρ, r, ρ', R, e, q⟩ := q
  simp only [sLstRg1, Option.bind_eq_some_iff, Prod.exists] at e
  obtain ⟨r1, ρ1, e1, d, e2, n, e3, e4⟩ := e
  split at e4
  · next hz =>
    cases e4
    refine ⟨P, W, F, ρ, r1, _, R, e1, fun v H1 F1 x1 R1 o1 => ?_⟩
    have l := R1.lk o1 e2
    rw [asI_eq e3] at l
    refine ⟨n, l.int, rgOk_of hz, fun p hp => ?_⟩
    have rp : RpA X.K F1 (rgV 0 n) (rng 0 n.toNat) := by
      have := rgV_rp (K := X.K) (F := F1) 0 n
      rwa [Int.sub_zero] at this
    exact (post_of (zb := (.list (rng 0 n.toNat), true)) R1 fun v H' F' x R' o => q v H' F' (x1.trans x) R' o).lst R1.fh rp p hp
  · cases e4
/-! d.get(k, x) -/
def isDic : D → Bool
  | .dict _ => true
  | _ => false
def get2 (d : D) (k : Key) (r : Rv) : Option Rv := match d with
  | .dict es => (match dget es k with
    | some z => some (.val z)
    | none => some r)
  | _ => none
def sGet2 (f g h : SemE) : SemE := fun ρ => (f ρ).bind fun (r, ρ1) => (look ρ1 (settle r)).bind fun d0 => if isDic d0 = true then (g ρ1).bind fun (rk, ρ2) => (look ρ2 (settle rk)).bind fun kd => (keyOf kd).bind fun k => (h ρ2).bind fun (rx, ρ3) => (look ρ3 (settle r)).bind fun d => (get2 d k rx).bind fun z => some (z, ρ3) else none
theorem de_get2 {o e x : Expr} {f g h : SemE} {apos cpos : Pos} (hu : X.A.units + 64 < cLine) (ho : DE X o f) (he : DE X e g) (hx : DE X x h)
    (m : M2 X o "get" apos e x cpos := by exact ⟨rfl, rfl, rfl, rfl⟩) : DE X (.Call (.Attribute o "get" apos) [e, x] [] cpos) (sGet2 f g h) := by
  refine ⟨(pe_dget2 (by omega) ho.pe he.pe hx.pe m).pvi fun σ H Q q => ?_⟩
  obtain ⟨P, W, F, ρ, r, ρ', R, ev, q⟩ := q
  simp only [sGet2, Option.bind_eq_some_iff, Prod.exists] at ev
  obtain ⟨r1, ρ1, e1, d0, e2, ev⟩ := ev
  split at ev
  · next hd =>
    simp only [Option.bind_eq_some_iff, Prod.exists] at ev
    obtain ⟨rk, ρ2, e3, kd, e4, k, e5, rx, ρ3, e6, d, e7, z, e8, e9⟩ := ev
    cases e9
    refine ⟨P, W, F, ρ, r1, ρ1, R, e1, fun v H1 F1 x1 R1 o1 => ?_⟩
    obtain ⟨F2, x2, R2, o2⟩ := R1.settle o1
    obtain ⟨es0, hd⟩ : ∃ es, d0 = .dict es := by
      cases d0 <;> first | exact ⟨_, rfl⟩ | (simp [isDic] at hd)
    have l := R2.lk o2 e2
    rw [hd] at l
    obtain ⟨a, kvs0, rfl, rd0, _⟩ := l.dict R2.fh
    refine ⟨a, rfl, .inl ⟨kvs0, rd0⟩, P, W, F2, ρ1, rk, ρ2, R2, e3, fun y H3 F3 x3 R3 o3 => ?_⟩
    obtain ⟨F4, x4, R4, o4⟩ := R3.settle o3
    refine ⟨P, W, F4, ρ2, rx, _, R4, e6, fun w H5 F5 x5 R5 o5 => ?_⟩
    have ld : Lk X.K F5 H5 (.ref a) d := lk_later o2 ((x3.trans x4).trans x5).same R5 d e7
    have ek := keyOf_kV (R4.lk o4 e4) e5
    subst ek
    unfold get2 at e8
    split at e8
    · rename_i es
      obtain ⟨b, kvs, eb, rd, rp⟩ := ld.dict R5.fh
      cases eb
      refine ⟨valV kvs k, .inl ⟨kvs, k, rd, rfl, rfl⟩, ?_⟩
      have x := ((((x1.trans x2).trans x3).trans x4).trans x5)
      rcases rp.get k with ⟨h1, h2⟩ | ⟨v', d', h1, h2, h3⟩
      · rw [h2] at e8
        cases e8
        rw [h1]
        exact q w H5 F5 x R5 o5
      · rw [h2] at e8
        cases e8
        rw [h1]
        exact q v' H5 F5 x R5 h3
    · cases e8
  · cases ev
/-! d.pop(k) -/
def ddrop (es : List (D × D)) (k : Key) : List (D × D) := es.filter fun p => !dkey p.1 k
theorem RpD.drop {K : Fr'} {F : Hp} {kvs : List (Key × V)} {es : List (D × D)} (r : RpD K F kvs es) (k : Key) : RpD K F (dropK kvs k) (ddrop es k) := by
  induction kvs generalizing es with
  | nil => cases r; exact .nil
  | cons p kvs ih =>
    cases r with
    | @cons k0 v0 _ d0 es r t =>
      unfold dropK ddrop
      by_cases h : k0 = k
      · rw [List.filter_cons_of_neg (by simpa using h), List.filter_cons_of_neg (by rw [dkey_keyD]; simpa using h)]
        exact ih t
      · rw [List.filter_cons_of_pos (by simpa using h), List.filter_cons_of_pos (by rw [dkey_keyD]; simpa using h)]
        exact .cons r (ih t)
def dpopM : OpM
  | .dict es, [kd] => (keyOf kd).bind fun k => (dget es k).map fun z => (.dict (ddrop es k), z)
  | _, _ => none
theorem mt_dpopD : MtR X "dict.pop" (rM X.K dpopM) := by
  intro pins s σ H x xs v us Q I rx rs h
  obtain ⟨F, a, d, ds, d', z, rfl, l, fa, q1, rp, e, q⟩ := h
  unfold dpopM at e
  split at e
  · rename_i es kd
    simp only [Option.bind_eq_some_iff, Option.map_eq_some_iff] at e
    obtain ⟨k, e0, z0, e1, e2⟩ := e
    cases e2
    obtain ⟨kvs, hH, ry⟩ := q1.dctE
    cases rp with | cons r0 rn =>
    cases rn
    have ek := keyOf_kV (H := H) (F := F) (.inl r0) e0
    subst ek
    cases rx
    cases rs with | cons ru rn =>
    cases rn
    rcases ry.get k with ⟨h1, h2⟩ | ⟨v', d', h1, h2, h3⟩
    · rw [h2] at e1; cases e1
    · rw [h2] at e1
      cases e1
      exact d_pop I hH ru h1 (.inl rfl) fun w' s3 I3 rw' => ⟨v', _, I3, rw', q _ _ (ry.drop k) h3⟩
  · cases e
end
namespace Ev
section
variable (ρ : Ro) (f g h : SemE)
@[scoped simp] theorem sTupRg1_u : sTupRg1 f ρ = bd (f ρ) fun x => bd (look x.2 x.1) fun d => bd (asI d) fun n => if rgOkB 0 n = true then some (.val (.tuple (rng 0 n.toNat)), x.2) else none := rfl
@[scoped simp] theorem sLstRg1_u : sLstRg1 f ρ = bd (f ρ) fun x => bd (look x.2 x.1) fun d => bd (asI d) fun n => if rgOkB 0 n = true then some (.fr (.list (rng 0 n.toNat)), x.2) else none := rfl
@[scoped simp] theorem sGet2_u : sGet2 f g h ρ = bd (f ρ) fun x => bd (look x.2 (settle x.1)) fun d0 => if isDic d0 = true then bd (g x.2) fun y => bd (look y.2 (settle y.1)) fun kd => bd (keyOf kd) fun k => bd (h y.2) fun w => bd (look w.2 (settle x.1)) fun d => bd (get2 d k w.1) fun z => some (z, w.2) else none := rfl
@[scoped simp] theorem isDic_d (es : List (D × D)) : isDic (.dict es) = true := rfl
@[scoped simp] theorem dpop_u (es : List (D × D)) (d : D) : dpopM (.dict es) [d] = bd (keyOf d) fun k => (dget es k).map fun z => (.dict (ddrop es k), z) := rfl
theorem get2_some {es : List (D × D)} {k : Key} {z : D} (r : Rv) (e : dget es k = some z) : get2 (.dict es) k r = some (.val z) := by simp [get2, e]
theorem get2_none {es : List (D × D)} {k : Key} (r : Rv) (e : dget es k = none) : get2 (.dict es) k r = some r := by simp [get2, e]
end
end Ev
end Pv
end
section
set_option Elab.async false
set_option linter.all false
set_option maxRecDepth 100000
set_option maxHeartbeats 2000000
/-! PxI: dict comprehensions of two clauses. -/
namespace Pv
open PySem PySem.Spec PyProof.Rows L2 PySem.W
/-- the comprehension -/
abbrev dc2 (kx vx ta ia tb ib : Expr) (fa fb : List Expr) (sc : Scope) (at_ : Pos) : Expr := .DictComp kx vx [⟨ta, ia, fa, 0⟩, ⟨tb, ib, fb, 0⟩] sc at_
/-- the tests of a clause, one after another -/
abbrev testsOf (fs : List Expr) (env : Env) : Sem Bool := forIn fs true fun c r => if r = true then do let ok ← isTrue c env (eval c env); pure (ForInStep.yield ok) else pure (ForInStep.yield r)
section
variable {prog : Program} {w : World} {A : Around} {R : Result → Shared → Prop} {s : Shared} {kx vx ta ia tb ib : Expr} {fa fb : List Expr} {sc : Scope} {at_ : Pos} {it : Value} {D : Addr} {env : Env}
theorem turnA : compTurn (dc2 kx vx ta ia tb ib fa fb sc at_) 0 it (.ref D) env = (do
    standAt ia.pos
    let r ← pyNext it
    match r with
    | none => pure (.done .next)
    | some v => do
      letOwnedTupleGo ta it v; assign ta env v
      let ok ← testsOf fa env
      if ok = true then do
        let x ← eval ib env
        standAt ib.pos; let x ← foldedSetIterable ib env x
        let j ← holding [x] (pyIter x)
        let _ ← runOwn (.compStart (dc2 kx vx ta ia tb ib fa fb sc at_) 1 j (.ref D) env) env
        again (.compLoop (dc2 kx vx ta ia tb ib fa fb sc at_) 0 it (.ref D) env)
      else again (.compLoop (dc2 kx vx ta ia tb ib fa fb sc at_) 0 it (.ref D) env)) := by rfl
theorem turnB : compTurn (dc2 kx vx ta ia tb ib fa fb sc at_) 1 it (.ref D) env = (do
    standAt ib.pos
    let r ← pyNext it
    match r with
    | none => pure (.done .next)
    | some v => do
      letOwnedTupleGo tb it v; assign tb env v
      let ok ← testsOf fb env
      if ok = true then do
        (do let kv ← eval kx env; let vv ← holding [kv] (eval vx env); standAt { kx.pos with endLine := vx.pos.endLine, endCol := vx.pos.endCol }; holding [kv, vv] (dictSet D kv vv))
        again (.compLoop (dc2 kx vx ta ia tb ib fa fb sc at_) 1 it (.ref D) env)
      else again (.compLoop (dc2 kx vx ta ia tb ib fa fb sc at_) 1 it (.ref D) env)) := by rfl
section
variable (N : Value → Shared → Prop) (hN : N = notedBy (model prog w) A env fun e t => R (.error e) t) (I : Nat → Shared → Prop)
include hN
/-- the outer loop -/
theorem loopA (hs : ∀ x, foldedSetIterable ib env x = pure x)
    (turn : ∀ n u, I n u → wpAny (model prog w) A (pyNext it) (fun r u1 => match r with
      | none => R (.ok .next) u1
      | some v => wpAny (model prog w) A (letOwnedTupleGo ta it v) (fun _ u2 => wpAny (model prog w) A (assign ta env v) (fun _ u3 => wpAny (model prog w) A (testsOf fa env) (fun ok u4 =>
          if ok = true then wpAny (model prog w) A (eval ib env) (fun x u5 => wpAny (model prog w) A (pyIter x) (fun j u6 => codeAny (model prog w) A (.compStart (dc2 kx vx ta ia tb ib fa fb sc at_) 1 j (.ref D) env)
            (fun q t => match q with
              | .ok _ => ∃ m, m < n ∧ I m t
              | .error _ => False) u6) N u5) N u4
          else ∃ m, m < n ∧ I m u4) N u3) N u2) N u1) N u) (n : Nat) (h : I n s) :
    codeAny (model prog w) A (.compLoop (dc2 kx vx ta ia tb ib fa fb sc at_) 0 it (.ref D) env) R s := by
  subst hN
  refine codeAny_loop rfl I (fun n u hI => ?_) n h
  change wpAny _ A ((compTurn (dc2 kx vx ta ia tb ib fa fb sc at_) 0 it (.ref D) env).onRaise _) _ _ u
  refine wpAny_noted ?_
  rw [turnA]
  refine wpAny_bind (wpAny_standAt (wpAny_bind (wpAny_mono (turn n u hI) ?_ fun _ _ e => e)))
  rintro (_ | v) u1 k1
  · exact wpAny_pure k1
  · refine wpAny_bind (wpAny_mono k1 (fun _ u2 k2 => wpAny_bind (wpAny_mono k2 (fun _ u3 k3 => wpAny_bind (wpAny_mono k3 ?_ fun _ _ e => e)) fun _ _ e => e)) fun _ _ e => e)
    rintro (_ | _) u4 k4
    · exact wpAny_pure ⟨rfl, k4⟩
    · refine wpAny_bind (wpAny_mono k4 (fun x u5 k5 => wpAny_bind (wpAny_standAt (wpAny_bind (wpAny_of_eq (hs x) (wpAny_bind (wpAny_holding (wpAny_mono k5 ?_ fun _ _ e => e))))))) fun _ _ e => e)
      intro j u6 k6
      refine wpAny_bind (wpAny_runOwn ?_)
      rw [Around.mark_none]
      refine codeAny_mono k6 ?_
      rintro (e | f) t kt
      · exact kt.elim
      · exact wpAny_pure ⟨rfl, kt⟩
/-- the inner loop -/
theorem loopB
    (turn : ∀ n u, I n u → wpAny (model prog w) A (pyNext it) (fun r u1 => match r with
      | none => R (.ok .next) u1
      | some v => wpAny (model prog w) A (letOwnedTupleGo tb it v) (fun _ u2 => wpAny (model prog w) A (assign tb env v) (fun _ u3 => wpAny (model prog w) A (testsOf fb env) (fun ok u4 =>
          if ok = true then wpAny (model prog w) A (eval kx env) (fun kv u5 => wpAny (model prog w) A (eval vx env) (fun vv u6 => wpAny (model prog w) A (dictSet D kv vv) (fun _ t => ∃ m, m < n ∧ I m t) N u6) N u5) N u4
          else ∃ m, m < n ∧ I m u4) N u3) N u2) N u1) N u) (n : Nat) (h : I n s) :
    codeAny (model prog w) A (.compLoop (dc2 kx vx ta ia tb ib fa fb sc at_) 1 it (.ref D) env) R s := by
  subst hN
  refine codeAny_loop rfl I (fun n u hI => ?_) n h
  change wpAny _ A ((compTurn (dc2 kx vx ta ia tb ib fa fb sc at_) 1 it (.ref D) env).onRaise _) _ _ u
  refine wpAny_noted ?_
  rw [turnB]
  refine wpAny_bind (wpAny_standAt (wpAny_bind (wpAny_mono (turn n u hI) ?_ fun _ _ e => e)))
  rintro (_ | v) u1 k1
  · exact wpAny_pure k1
  · refine wpAny_bind (wpAny_mono k1 (fun _ u2 k2 => wpAny_bind (wpAny_mono k2 (fun _ u3 k3 => wpAny_bind (wpAny_mono k3 ?_ fun _ _ e => e)) fun _ _ e => e)) fun _ _ e => e)
    rintro (_ | _) u4 k4
    · exact wpAny_pure ⟨rfl, k4⟩
    · refine wpAny_bind (wpAny_bind (wpAny_mono k4 (fun kv u5 k5 => wpAny_bind (wpAny_holding (wpAny_mono k5 (fun vv u6 k6 => wpAny_bind (wpAny_standAt (wpAny_holding (wpAny_mono k6 (fun _ t kt => wpAny_pure ⟨rfl, kt⟩) fun _ _ e => e)))) fun _ _ e => e))) fun _ _ e => e))
end
/-- the second clause begins -/
theorem startB {j : Value} (h0 : codeAny (model prog w) A (.compLoop (dc2 kx vx ta ia tb ib fa fb sc at_) 1 j (.ref D) env) R s)
    (h : wpAny (model prog w) A (pyIter j) (fun j' t => codeAny (model prog w) A (.compLoop (dc2 kx vx ta ia tb ib fa fb sc at_) 1 j' (.ref D) env) R t) (notedBy (model prog w) A env fun e t => R (.error e) t) s) :
    codeAny (model prog w) A (.compStart (dc2 kx vx ta ia tb ib fa fb sc at_) 1 j (.ref D) env) R s := by
  refine codeAny_of_tree ?_
  change wpAny _ _ ((compStart (dc2 kx vx ta ia tb ib fa fb sc at_) 1 j (.ref D) env).onRaise _) _ _ s
  refine wpAny_notedAt ?_
  unfold compStart
  change wpAny _ _ (ask >>= _) _ _ s
  refine wpAny_bind (wpAny_askSetting (wpAny_ite ?_))
  split
  · exact wpAny_pure ⟨rfl, h0⟩
  · exact wpAny_bind (wpAny_rule (wpAny_bind (wpAny_standAt (wpAny_bind (wpAny_mono h (fun j' t k => wpAny_pure ⟨rfl, k⟩) fun _ _ e => e)))))
end
end Pv
namespace Pv
open PySem PySem.Spec PyProof.Rows L2 PySem.W
section
variable {X : Cx}
/-- what holds within a comprehension's block -/
abbrev InB (X : Cx) (sc : Scope) (p : Cx → Prop) : Prop := ∀ (s : Shared) (H : Hp) (C : Addr) (cl : List (Str × Addr)) (fp : List Addr), p (X.blk s H sc (compEnvC sc cl C X.env) fp)
/-- what is asked of the inner walk: it ends in Nx -/
def inWalk (g1 : TG) (tt1 : TT) (tk tv : TE) (vs1 : List Nat) (D : Addr) (σ2 : St) (Nx : Hp → Prop) (J1 : It) (H4 : Hp) : Prop := ∃ W1 : Nat → Nat → Hp → Prop, (∃ m, W1 0 m H4) ∧ ∀ j k G, W1 j k G →
  (J1.stop j G ∧ Nx G) ∨ (J1.go j G ∧ ∃ Ny : Hp → Prop, (∀ G', Ny G' → ∃ k', k' < k ∧ W1 (j + 1) k' G') ∧ ∀ x G', J1.yld j G x G' → g1 x (wipe σ2 vs1) G' fun σ3 H5 => wipe σ3 vs1 = wipe σ2 vs1 ∧ tt1 σ3 H5 fun b H6 =>
    if b = true then tk σ3 H6 fun y H7 => tv σ3 H7 fun z H8 => ∃ kvs k, y = kV k ∧ H8 D = some (.dK kvs) ∧ kvs.length < sizeLine ∧ Ny (upd H8 D (.dK (putK kvs k z))) else Ny H6)
def tDc2 (wi : TI) (g : TG) (tt : TT) (wi1 : TI) (g1 : TG) (tt1 : TT) (tk tv : TE) (vs vs1 : List Nat) : TE := fun σ H Q => wi σ H fun J H1 => ∀ D, H1 D = none → ∃ W : Nat → Nat → Hp → Prop, (∃ m, W 0 m (upd H1 D (.dK []))) ∧ ∀ i m G, W i m G →
  (J.stop i G ∧ Q (.ref D) G) ∨ (J.go i G ∧ ∃ Nx : Hp → Prop, (∀ G', Nx G' → ∃ m', m' < m ∧ W (i + 1) m' G') ∧ ∀ x G', J.yld i G x G' → g x (wipe σ vs) G' fun σ2 H2 => wipe σ2 vs = wipe σ vs ∧ tt σ2 H2 fun b H3 =>
    if b = true then wi1 σ2 H3 (inWalk g1 tt1 tk tv vs1 D σ2 Nx) else Nx H3)
theorem dc2_core {pins : List (Addr × Obj)} {s : Shared} {σ : St} {H : Hp} {Q : VK} {kx vx ta ia tb ib : Expr} {fa fb : List Expr} {sc : Scope} {own : List (Str × Nat)} {vs1 : List Nat} {pos pos' : Pos} {wi wi1 : TI} {g g1 : TG} {tt tt1 : TT} {tk tv : TE} {use : Option (Value → Sem Unit)} {Qf : Value → Shared → Prop}
    (hc : X.calm = true) (hN : X.N.Nodup) (I : Inv X pins σ H s) (hi : PI X ta ia wi) (ok : BlkOk X.N X.env.scope sc own) (hv : ∀ i ∈ vs1, i ∈ own.map (·.2))
    (hg : InB X sc fun Y => PG Y ta g) (ht : InB X sc fun Y => PTs Y fa tt) (hi1 : InB X sc fun Y => PI Y tb ib wi1) (hg1 : InB X sc fun Y => PG Y tb g1) (ht1 : InB X sc fun Y => PTs Y fb tt1) (hk : InB X sc fun Y => PE Y kx tk) (he : InB X sc fun Y => PE Y vx tv)
    (hs : ∀ x, foldedSetIterable ia X.env x = pure x) (hs1 : ∀ env x, foldedSetIterable ib env x = pure x) (h : tDc2 wi g tt wi1 g1 tt1 tk tv (own.map (·.2)) vs1 σ H Q)
    (fin0 : ∀ D C s' m H', Inv X pins σ H' s' → Q (.ref D) H' → s'.heap.Ns C m → FpOk X pins H' C → compPost (model X.prog X.w) X.A X.xe use Qf (.ref D) C (.ok .next) s') :
    wpAny (model X.prog X.w) X.A (comprehension (dc2 kx vx ta ia tb ib fa fb sc pos) sc X.env pos' newDict false (eval ia X.env) use) Qf X.xe s := by
  have free : ∀ y ∈ sc.names, y.2 = .free → ∃ c, X.env.cells.lookup y.1 = some c := fun y hy e => (ok.free y hy e).elim (fun k => I.ok.has _ (.inl k)) fun k => I.ok.has _ (.inr k)
  refine wpAny_comprehension_free (use := use) rfl hs (closure_ok free) ok.kind (fun y hy e => by rw [ok.uniq y hy, e]) (thn (hi.run pins s σ H _ I h) fun xv s1 hx => thn hx ?_)
  rintro itv s2 ⟨it, fp, tn, J, H2, rfl, I2, T, st2, f2, q⟩
  refine wpAny_newObj_type (newEnv_comp ?_)
  generalize eD : s2.heap.objs.size = D
  obtain ⟨W, ⟨m0, w0⟩, turn⟩ := q D (I2.hok.fresh (Nat.le_of_eq eD))
  -- a dict is laid
  generalize e3 : ({ s2 with heap := s2.heap.push { cls := .type "dict", data := .dict #[] } } : Shared) = s3
  have hp3 : s3.heap = s2.heap.push { cls := .type "dict", data := .dict #[] } := by rw [← e3]
  have I3 : Inv X pins σ (upd H2 D (.dK [])) s3 := by
    subst e3; subst eD
    exact I2.laid (t' := s2.toks) (fun b o e => Heap.get?_push_of_some _ e) (Nat.le_refl _) (dk_empty s2.heap I2.big)
  have f3 : ∀ b ∈ fp, FpOk X pins (upd H2 D (.dK [])) b ∧ b < s3.heap.objs.size := fun b hb => by
    obtain ⟨o, e, _⟩ := T.obj _ _ st2 b hb
    have lt := Heap.lt_size e
    refine ⟨⟨?_, (f2 b hb).2⟩, by rw [hp3, Heap.size_push]; exact Nat.lt_succ_of_lt lt⟩
    rw [upd_ne (by rw [← eD]; exact Nat.ne_of_lt lt)]
    exact (f2 b hb).1
  have st3 : tn 0 s3.heap := T.keep _ _ _ st2 fun b _ o e => by rw [hp3]; exact Heap.get?_push_of_some _ e
  have I4 := block_start I3 ok hN f3
  generalize eC : s3.heap.objs.size = C at I4
  generalize ecl : cellsFrom (C + 1) sc.names (cloFrom X.env.cells sc.names []) = cl at I4
  have pg := hg s3 (upd H2 D (.dK [])) C cl fp
  have pt := ht s3 (upd H2 D (.dK [])) C cl fp
  have pi1 := hi1 s3 (upd H2 D (.dK [])) C cl fp
  have pg1 := hg1 s3 (upd H2 D (.dK [])) C cl fp
  have pt1 := ht1 s3 (upd H2 D (.dK [])) C cl fp
  have pk := hk s3 (upd H2 D (.dK [])) C cl fp
  have pe := he s3 (upd H2 D (.dK [])) C cl fp
  have nfp : ∀ b ∈ fp, (upd H2 D (.dK [])) b = none := fun b hb => (f3 b hb).1.1
  generalize ece : compEnvC sc cl C X.env = ce at I4 pg pt pi1 pg1 pt1 pk pe
  have cL : ce.locals = C := by subst ece; rfl
  change codeAny _ _ (.compStart (dc2 kx vx ta ia tb ib fa fb sc pos) 0 (.ref it) (.ref D) (compEnvC sc cl C X.env)) (compPost (model X.prog X.w) X.A X.xe use Qf (.ref D) C) ({ s3 with heap := pushCells (s3.heap.push { cls := .type "dict", data := .dict #[] }) sc.names } : Shared)
  rw [ece]
  generalize eH3 : upd H2 D (.dK []) = H3 at I3 I4 pg pt pi1 pg1 pt1 pk pe w0 nfp f3
  generalize e4 : ({ s3 with heap := pushCells (s3.heap.push { cls := .type "dict", data := .dict #[] }) sc.names } : Shared) = s4 at I4 ⊢
  have st4 : tn 0 s4.heap := T.keep _ _ _ st3 fun b _ o e => by rw [← e4]; exact pushCells_keeps _ _ _ _ (Heap.get?_push_of_some _ e)
  have stay : ∀ {σ' : St} {G : Hp} {t : Shared}, Inv (X.blk s3 H3 sc ce fp) [] σ' G t → (∀ b ∈ fp, G b = none) → ∀ b ∈ fp, FpOk (X.blk s3 H3 sc ce fp) [] G b := fun {σ' G t} K n b hb =>
    ⟨n b hb, (K.ok.exf b hb).1, K.ok.exfs b hb, .inl hb, fun x c e => (K.ok.exf b hb).2 x c e, fun p hp => absurd (show p ∈ ([] : List (Addr × Obj)) ++ [] from hp) (by simp)⟩
  have outer : codeAny (model X.prog X.w) X.A (.compLoop (dc2 kx vx ta ia tb ib fa fb sc pos) 0 (.ref it) (.ref D) ce) (compPost (model X.prog X.w) X.A X.xe use Qf (.ref D) C) s4 := by
    refine loopA _ rfl (fun n t => ∃ i G, Inv (X.blk s3 H3 sc ce fp) [] (wipe σ (own.map (·.2))) G t ∧ tn i t.heap ∧ (∀ b ∈ fp, G b = none) ∧ W i n G) (hs1 ce) ?_ m0 ⟨0, H3, I4, st4, nfp, w0⟩
    rintro n s5 ⟨i, H5, I5, st5, n5, w5⟩
    rcases turn i n H5 w5 with ⟨stop, qq⟩ | ⟨go, Nx, hNx, step⟩
    · refine thnF (T.done (X.blk s3 H3 sc ce fp) rfl rfl rfl hc i [] s5 _ H5 (fun _ _ => False) I5 (stay I5 n5) st5 stop) ?_
      rintro r s6 ⟨rfl, I6⟩
      have I7 : Inv X pins σ H5 s6 := I3.call' (ch := fp) I6.os I6.base I6.hok I6.bare fun b hb => let z := (f3 b hb).1.2; ⟨z.2.2.1, z.1, z.2.2.2.1, z.2.2.2.2⟩
      obtain ⟨m, hn, _⟩ := I6.loc
      have hn : s6.heap.Ns ce.locals m := hn
      have nC : H5 ce.locals = none := I6.free
      rw [cL] at hn nC
      exact fin0 D C s6 m H5 I7 qq hn (I3.fpOk (Nat.le_of_eq eC) nC)
    · refine thnF (T.item (X.blk s3 H3 sc ce fp) rfl rfl rfl hc i [] s5 _ H5 (fun _ _ => False) I5 (stay I5 n5) st5 go) ?_
      rintro r s6 ⟨u, rfl, h6⟩
      refine thnF h6 ?_
      rintro _ s7 ⟨x, H7, I7, r7, y7, st7, n7⟩
      refine thnF (pg.run _ s7 _ H7 x u _ (I7.pinned (stay I7 n7) (T.obj _ _ st7)) r7 (step x H7 y7)) ?_
      rintro _ s8 ⟨σ8, H8, I8, hw8, q8⟩
      refine thnF (pt.run _ s8 σ8 H8 _ I8 q8) ?_
      rintro b s9 ⟨H9, I9, q9⟩
      -- how a pass ends
      have over : ∀ {σ9 : St} {t : Shared} {G : Hp}, Inv (X.blk s3 H3 sc ce fp) ([] ++ pinsAt fp s7.heap) σ9 G t → (wipe σ (own.map (·.2))).length = σ9.length → (∀ (j : Nat) v, (wipe σ (own.map (·.2)))[j]? = some (some v) → σ9[j]? = some (some v)) → Nx G →
          ∃ m, m < n ∧ ∃ i G, Inv (X.blk s3 H3 sc ce fp) [] (wipe σ (own.map (·.2))) G t ∧ tn i t.heap ∧ (∀ b ∈ fp, G b = none) ∧ W i m G := fun {σ9 t G} K hl hk nx => by
        obtain ⟨m', hm, w'⟩ := hNx G nx
        have pin' : ∀ b ∈ fp, ∀ o, s7.heap.get? b = some o → t.heap.get? b = some o ∧ G b = none := fun b hb o e => (K.pin (b, o) (List.mem_append_right _ (List.mem_append_right _ (mem_pinsAt hb e)))).imp id And.left
        refine ⟨m', hm, i + 1, G, (K.unpinned (pins := [])).weak hl hk, T.keep _ _ _ st7 fun b hb o e => (pin' b hb o e).1, fun b hb => ?_, w'⟩
        obtain ⟨o, e, _⟩ := T.obj _ _ st7 b hb
        exact (pin' b hb o e).2
      have hl8 : (wipe σ (own.map (·.2))).length = σ8.length := by rw [← hw8, wipe_length]
      have hk8 : ∀ (j : Nat) v, (wipe σ (own.map (·.2)))[j]? = some (some v) → σ8[j]? = some (some v) := fun j v e => by
        rw [← hw8] at e
        exact (wipe_some e).1
      have hk9 : ∀ (j : Nat) v, (wipe σ (own.map (·.2)))[j]? = some (some v) → (wipe σ8 vs1)[j]? = some (some v) := fun j v e => by
        rw [← hw8] at e
        obtain ⟨a1, a2⟩ := wipe_some e
        rw [wipe_out fun z => a2 (hv j z)]
        exact a1
      cases b with
      | false =>
        rw [if_neg Bool.false_ne_true] at q9 ⊢
        exact over I9 hl8 hk8 q9
      | true =>
        rw [if_pos rfl] at q9 ⊢
        refine thnF (pi1.run _ s9 σ8 H9 _ I9 q9) fun xv s10 hx => thnF hx ?_
        rintro itv s11 ⟨it1, fp1, tn1, J1, H11, rfl, I11, T1, st11, f11, W1, ⟨m1, w1⟩, turn1⟩
        have stay1 : ∀ {G : Hp}, (∀ b ∈ fp1, G b = none) → ∀ b ∈ fp1, FpOk (X.blk s3 H3 sc ce fp) ([] ++ pinsAt fp s7.heap) G b := fun n b hb => ⟨n b hb, (f11 b hb).2⟩
        have inner : codeAny (model X.prog X.w) X.A (.compLoop (dc2 kx vx ta ia tb ib fa fb sc pos) 1 (.ref it1) (.ref D) ce)
            (fun r t => match r with
              | .ok _ => ∃ m, m < n ∧ ∃ i G, Inv (X.blk s3 H3 sc ce fp) [] (wipe σ (own.map (·.2))) G t ∧ tn i t.heap ∧ (∀ b ∈ fp, G b = none) ∧ W i m G
              | .error _ => False) s11 := by
          refine loopB _ rfl (fun k t => ∃ j G, Inv (X.blk s3 H3 sc ce fp) ([] ++ pinsAt fp s7.heap) (wipe σ8 vs1) G t ∧ tn1 j t.heap ∧ (∀ b ∈ fp1, G b = none) ∧ W1 j k G) ?_ m1 ⟨0, H11, I11.weak (wipe_length _ _) (fun j v e => (wipe_some e).1), st11, fun b hb => (f11 b hb).1, w1⟩
          rintro k s12 ⟨j, H12, I12, st12, n12, w12⟩
          rcases turn1 j k H12 w12 with ⟨stop1, nx1⟩ | ⟨go1, Ny, hNy, step1⟩
          · refine thnF (T1.done (X.blk s3 H3 sc ce fp) rfl rfl rfl hc j _ s12 (wipe σ8 vs1) H12 (fun _ _ => False) I12 (stay1 n12) st12 stop1) ?_
            rintro r s13 ⟨rfl, I13⟩
            exact over I13 (hl8.trans (wipe_length σ8 vs1).symm) hk9 nx1
          · refine thnF (T1.item (X.blk s3 H3 sc ce fp) rfl rfl rfl hc j _ s12 (wipe σ8 vs1) H12 (fun _ _ => False) I12 (stay1 n12) st12 go1) ?_
            rintro r s13 ⟨u1, rfl, h13⟩
            refine thnF h13 ?_
            rintro _ s14 ⟨x1, H14, I14, r14, y14, st14, n14⟩
            refine thnF (pg1.run _ s14 (wipe σ8 vs1) H14 x1 u1 _ (I14.pinned (stay1 n14) (T1.obj _ _ st14)) r14 (step1 x1 H14 y14)) ?_
            rintro _ s15 ⟨σ15, H15, I15, hw15, q15⟩
            refine thnF (pt1.run _ s15 σ15 H15 _ I15 q15) ?_
            rintro b1 s16 ⟨H16, I16, q16⟩
            have over1 : ∀ {t : Shared} {G : Hp}, Inv (X.blk s3 H3 sc ce fp) (([] ++ pinsAt fp s7.heap) ++ pinsAt fp1 s14.heap) σ15 G t → Ny G → ∃ m, m < k ∧ ∃ j G, Inv (X.blk s3 H3 sc ce fp) ([] ++ pinsAt fp s7.heap) (wipe σ8 vs1) G t ∧ tn1 j t.heap ∧ (∀ b ∈ fp1, G b = none) ∧ W1 j m G := fun {t G} K nx => by
              obtain ⟨m', hm, w'⟩ := hNy G nx
              have pin' : ∀ b ∈ fp1, ∀ o, s14.heap.get? b = some o → t.heap.get? b = some o ∧ G b = none := fun b hb o e => (K.pin (b, o) (List.mem_append_right _ (List.mem_append_right _ (mem_pinsAt hb e)))).imp id And.left
              refine ⟨m', hm, j + 1, G, K.unpinned.weak (by rw [← hw15, wipe_length]) (fun j v e => by rw [← hw15] at e; exact (wipe_some e).1), T1.keep _ _ _ st14 fun b hb o e => (pin' b hb o e).1, fun b hb => ?_, w'⟩
              obtain ⟨o, e, _⟩ := T1.obj _ _ st14 b hb
              exact (pin' b hb o e).2
            cases b1 with
            | false =>
              rw [if_neg Bool.false_ne_true] at q16 ⊢
              exact over1 I16 q16
            | true =>
              rw [if_pos rfl] at q16 ⊢
              refine thnF (pk.run _ s16 σ15 H16 _ I16 q16) ?_
              rintro kv s17 ⟨yk, H17, I17, r17, q17⟩
              refine thnF (pe.run _ s17 σ15 H17 _ I17 q17) ?_
              rintro vv s18 ⟨yv, H18, I18, r18, kvs, kk, rfl, hD, hz, nx⟩
              exact d_dictSet (X := X.blk s3 H3 sc ce fp) I18 hD hz r17 r18 fun s19 I19 => over1 I19 nx
        exact startB inner (T1.self X.A 0 _ _ _ st11 inner)
  exact codeAny_compStart_dict outer (T.self X.A 0 _ _ _ st4 outer)
end
end Pv
end
section
set_option Elab.async false
set_option linter.all false
set_option maxRecDepth 100000
set_option maxHeartbeats 2000000
/-! PxJ: dict comprehensions of two clauses, in the layer. -/
namespace Pv
open PySem PySem.Spec PyProof.Rows L2 PySem.W
section
variable {X : Cx}
theorem pe_dc2 {kx vx ta ia tb ib : Expr} {fa fb : List Expr} {sc : Scope} {own : List (Str × Nat)} {vs1 : List Nat} {pos : Pos} {wi wi1 : TI} {g g1 : TG} {tt tt1 : TT} {tk tv : TE}
    (hc : X.calm = true) (hN : X.N.Nodup) (hi : PI X ta ia wi) (ok : BlkOk X.N X.env.scope sc own) (hv : ∀ i ∈ vs1, i ∈ own.map (·.2))
    (hg : InB X sc fun Y => PG Y ta g) (ht : InB X sc fun Y => PTs Y fa tt) (hi1 : InB X sc fun Y => PI Y tb ib wi1) (hg1 : InB X sc fun Y => PG Y tb g1) (ht1 : InB X sc fun Y => PTs Y fb tt1) (hk : InB X sc fun Y => PE Y kx tk) (he : InB X sc fun Y => PE Y vx tv)
    (hs : ∀ x, foldedSetIterable ia X.env x = pure x) (hs1 : ∀ env x, foldedSetIterable ib env x = pure x) : PE X (dc2 kx vx ta ia tb ib fa fb sc pos) (tDc2 wi g tt wi1 g1 tt1 tk tv (own.map (·.2)) vs1) := by
  refine ⟨fun pins s σ H Q I h => ?_⟩
  rw [arm_eval_DictComp]
  refine dc2_core hc hN I hi ok hv hg ht hi1 hg1 ht1 hk he hs hs1 h fun D C s' m H' I' q hn f => ⟨m, hn, fun h'' sb => ?_⟩
  obtain ⟨c0, c1, c2, c3, c4, c5⟩ := f
  exact ⟨.ref D, H', I'.turned (t' := s'.toks) (fun b o ne e => (sb.2 b ne).trans e) c0 c1 c3 c4 c5, rfl, q⟩
end
/-! ### in the layer -/
section
variable (g : SemG) (t : SemT) (it1 : SemI) (g1 : SemG) (t1 : SemT) (kf vf : SemE) (vs vs1 : List Nat)
def dc2L : List D → List (D × D) → Ro → Option (List (D × D) × Ro)
  | [], es, ρ => some (es, ρ)
  | d :: ds, es, ρ => (g d ρ).bind fun ρ1 => (t ρ1).bind fun (b, ρ2) => if b = true then (it1 ρ2).bind fun (ds1, ρ3) => if clearAt ρ3 vs1 = true then (dcL g1 t1 kf vf vs1 ds1 es ρ3).bind fun (fs, ρ4) => dc2L ds fs (wipeR ρ4 vs) else none
    else dc2L ds es (wipeR ρ2 vs)
def sDc2 (it : SemI) : SemE := fun ρ => (it ρ).bind fun (ds, ρ1) => if clearAt ρ1 vs = true then (dc2L g t it1 g1 t1 kf vf vs vs1 ds [] ρ1).bind fun (es, ρ2) => some (.fr (.dict es), ρ2) else none
end
section
variable {K : Fr'} {g g1 : SemG} {t t1 : SemT} {it1 : SemI} {kf vf : SemE} {vs vs1 us us1 : List Nat}
/-- the inner loop, the dict stands already -/
theorem dcl_it {P : List (Nat × Addr)} {W F H : Hp} {σ : St} {ρ ρ' : Ro} {ds : List D} {es0 fs : List (D × D)} {kvs0 : List (Key × V)} {D : Addr} {J : It} {Qd : Hp → Prop} (w : WalkD K W F J ds) (R : Rel K P W F H σ ρ) (hWD : W D = some (.dK kvs0)) (hFD : F D = none) (hclr : clearAt ρ vs = true)
    (r0 : RpD K F kvs0 es0) (e : dcL g t kf vf vs ds es0 ρ = some (fs, ρ')) (hu : ∀ i ∈ us, i ∈ vs)
    (hd : ∀ H F2 kvs, Ext W F F2 → Rel K P (upd W D (.dK kvs)) F2 H σ ρ' → F2 D = none → RpD K F2 kvs fs → Qd H) : inWalk (tDG K us g) (tDT K t) (tD K kf) (tD K vf) vs D σ Qd J H := by
  obtain ⟨G, Y, w, hG, hY⟩ := w.ex
  have hp := pin_off R hclr
  have hWf : ∀ xs b o u, W b = some (.frz o u) → upd W D (.dK xs) b = some (.frz o u) := fun xs b o u e => by
    rw [upd_ne (fun z => by rw [z, hWD] at e; cases e)]; exact e
  have hEx : ∀ {xs : List (Key × V)} {F1 F2 : Hp}, Ext (upd W D (.dK xs)) F1 F2 → Ext W F1 F2 := fun x => ⟨x.same, fun b e => x.off b (by
    by_cases hb : b = D
    · subst hb; rw [upd_same]; exact fun z => nomatch z
    · rw [upd_ne hb]; exact e)⟩
  refine walk_it w (step := fun x H' Nx => tDG K us g x (wipe σ vs) H' fun σ2 H2 => wipe σ2 vs = wipe σ vs ∧ tDT K t σ2 H2 fun b H3 => _)
    (fun i H => ∃ F2 ρ2 es kvs, Ext W F F2 ∧ Rel K P (upd W D (.dK kvs)) F2 H σ ρ2 ∧ F2 D = none ∧ clearAt ρ2 vs = true ∧ RpD K F2 kvs es ∧ dcL g t kf vf vs (ds.drop i) es ρ2 = some (fs, ρ')) ?_ ?_ ?_ ?_
  · refine ⟨F, ρ, es0, kvs0, Ext.refl _ _, ?_, hFD, hclr, r0, by simpa using e⟩
    rw [upd_self hWD]
    exact R
  · rintro i H hi ⟨F2, ρ2, es, kvs, x2, R2, _⟩
    exact hG F2 H x2.same R2.fh fun b o u e => R2.wh b _ (hWf _ b o u e)
  · rintro i x H H' hi ⟨F2, ρ2, es, kvs, x2, R2, hFD2, hclr2, rxs, e3⟩ y
    have hdi : ds[i]? = some ds[i] := List.getElem?_eq_getElem hi
    obtain ⟨F3, g3, rp⟩ := hY i _ F2 H H' x x2.same R2.fh hdi y
    rw [List.drop_eq_getElem_cons hi] at e3
    simp only [dcL, Option.bind_eq_some_iff, Prod.exists] at e3
    obtain ⟨ρ3, e4, b, ρ4, e5, e6⟩ := e3
    have R3 := (R2.grow g3).toWipe hclr2
    have x3 := g3.ext R2.wh
    refine ⟨P, _, F3, ρ2, ds[i], ρ3, R3, rp, e4, fun σ4 H4 F4 x4 R4 of4 => ?_⟩
    have hw4 : wipe σ4 vs = wipe σ vs := (wipe_eq of4 hu).trans wipe_wipe
    refine ⟨hw4, P, _, F4, ρ3, b, ρ4, R4, e5, fun H5 F5 x5 R5 => ?_⟩
    cases b with
    | false =>
      simp only [Bool.false_eq_true, if_false] at e6 ⊢
      have x25 := (x3.trans x4).trans x5
      refine ⟨F5, wipeR ρ4 vs, es, kvs, x2.trans (hEx x25), R5.wiped hw4 hp, ?_, clear_wipeR, rxs.mono (Le.of x25.same), e6⟩
      rw [x25.off D (by rw [upd_same]; exact fun z => nomatch z)]; exact hFD2
    | true =>
      simp only [if_true, Option.bind_eq_some_iff, Prod.exists] at e6 ⊢
      obtain ⟨r, ρ5, e7, kd, ρ6, e8, k, e9, r2, ρ7, e10, z, ρ8, e11, e12⟩ := e6
      split at e12
      case isFalse => cases e12
      rename_i hlen
      refine ⟨P, _, F5, ρ4, r, ρ5, R5, e7, fun y H6 F6 x6 R6 o6 => ?_⟩
      obtain ⟨F7, x7, R7, rp7⟩ := R6.frz o6 e8
      refine ⟨P, _, F7, ρ6, r2, ρ7, R7, e10, fun v H8 F8 x8 R8 o8 => ?_⟩
      obtain ⟨F9, x9, R9, rp9⟩ := R8.frz o8 e11
      have x29 := (((((x3.trans x4).trans x5).trans x6).trans x7).trans x8).trans x9
      have hF9 : F9 D = none := by rw [x29.off D (by rw [upd_same]; exact fun z => nomatch z)]; exact hFD2
      have rk := rxs.mono (Le.of x29.same)
      exact ⟨kvs, k, keyOf_kV (F := F7) (H := H6) (.inl rp7) e9, R9.wh D _ upd_same, by rw [rk.length]; exact hlen, F9, wipeR ρ8 vs, dput es k z, putK kvs k v, x2.trans (hEx x29), (R9.kept hF9).wiped hw4 hp, hF9, clear_wipeR, rk.put rp9, e12⟩
  · rintro H ⟨F2, ρ2, es, kvs, x2, R2, hFD2, hclr2, rxs, e3⟩
    rw [List.drop_length] at e3
    cases e3
    exact hd H F2 kvs x2 R2 hFD2 rxs
theorem sDc2_ok {it : SemI} (hu : ∀ i ∈ us, i ∈ vs) (hu1 : ∀ i ∈ us1, i ∈ vs1) {σ : St} {H : Hp} {Q : VK} (q : tD K (sDc2 g t it1 g1 t1 kf vf vs vs1 it) σ H Q) : tDc2 (tDI K it) (tDG K us g) (tDT K t) (tDI K it1) (tDG K us1 g1) (tDT K t1) (tD K kf) (tD K vf) vs vs1 σ H Q := by
  obtain ⟨P, W, F, ρ, r, ρ', R, e, q⟩ := q
  simp only [sDc2, Option.bind_eq_some_iff, Prod.exists] at e
  obtain ⟨ds, ρ1, e1, e2⟩ := e
  split at e2
  case isFalse => cases e2
  rename_i hclr
  simp only [Option.bind_eq_some_iff, Prod.exists] at e2
  obtain ⟨zs, ρ2, e2, e3⟩ := e2
  cases e3
  refine ⟨P, W, F, ρ, ds, ρ1, R, e1, fun J H1 W1 F1 sw x1 R1 w => ?_⟩
  intro D hD
  obtain ⟨G, Y, w, hG, hY⟩ := w.ex
  have hWD : W1 D = none := by
    cases e : W1 D with
    | none => rfl
    | some u => have := R1.wh D u e; rw [hD] at this; cases this
  have hFD := R1.fh.none hD
  have hp := pin_off R1 hclr
  refine walk_it w (step := fun x H' Nx => tDG K us g x (wipe σ vs) H' fun σ2 H2 => wipe σ2 vs = wipe σ vs ∧ tDT K t σ2 H2 fun b H3 => _)
    (fun i H => ∃ F2 ρ2 es kvs, Ext W1 F1 F2 ∧ Rel K P (upd W1 D (.dK kvs)) F2 H σ ρ2 ∧ F2 D = none ∧ clearAt ρ2 vs = true ∧ RpD K F2 kvs es ∧ dc2L g t it1 g1 t1 kf vf vs vs1 (ds.drop i) es ρ2 = some (zs, ρ')) ?_ ?_ ?_ ?_
  · refine ⟨F1, ρ1, [], [], Ext.refl _ _, ?_, hFD, hclr, .nil, by simpa using e2⟩
    have R2 := R1.grow (Grow.heap R1.fh hD (.dK []))
    refine R2.protect upd_same hFD fun i c e ow es => ?_
    obtain ⟨v, hv, hk⟩ := R1.cell i c e
    rw [es] at hv; cases hv
    cases c with
    | val d => cases ow
    | own d => obtain ⟨b, eb, _, _, o⟩ := hk; cases eb; rw [hD] at o; exact o
    | byr d => obtain ⟨b, eb, _, _, o⟩ := hk; cases eb; rw [hD] at o; exact o
    | scr ds => cases ow
  · rintro i H hi ⟨F2, ρ2, es, kvs, x2, R2, _⟩
    exact hG F2 H x2.same R2.fh (fun b o u e => R2.wh b _ (by rw [upd_ne (ne_of_none e hWD)]; exact e))
  · rintro i x H H' hi ⟨F2, ρ2, es, kvs, x2, R2, hFD2, hclr2, rxs, e3⟩ y
    have hd : ds[i]? = some ds[i] := List.getElem?_eq_getElem hi
    obtain ⟨F3, g3, rp⟩ := hY i _ F2 H H' x x2.same R2.fh hd y
    rw [List.drop_eq_getElem_cons hi] at e3
    simp only [dc2L, Option.bind_eq_some_iff, Prod.exists] at e3
    obtain ⟨ρ3, e4, b, ρ4, e5, e6⟩ := e3
    have R3 := (R2.grow g3).toWipe hclr2
    have x3 := g3.ext R2.wh
    refine ⟨P, _, F3, ρ2, ds[i], ρ3, R3, rp, e4, fun σ4 H4 F4 x4 R4 of4 => ?_⟩
    have hw4 : wipe σ4 vs = wipe σ vs := (wipe_eq of4 hu).trans wipe_wipe
    refine ⟨hw4, P, _, F4, ρ3, b, ρ4, R4, e5, fun H5 F5 x5 R5 => ?_⟩
    have x25 := (x3.trans x4).trans x5
    have hF5 : F5 D = none := by rw [x25.off D (by rw [upd_same]; exact fun z => nomatch z)]; exact hFD2
    cases b with
    | false =>
      simp only [Bool.false_eq_true, if_false] at e6 ⊢
      exact ⟨F5, wipeR ρ4 vs, es, kvs, (x2.trans x25.un), R5.wiped hw4 hp, hF5, clear_wipeR, rxs.mono (Le.of x25.same), e6⟩
    | true =>
      simp only [if_true, Option.bind_eq_some_iff, Prod.exists] at e6 ⊢
      obtain ⟨ds1, ρ5, e7, e8⟩ := e6
      split at e8
      case isFalse => cases e8
      rename_i hclr1
      simp only [Option.bind_eq_some_iff, Prod.exists] at e8
      obtain ⟨fs, ρ6, e9, e10⟩ := e8
      refine ⟨P, _, F5, ρ4, ds1, ρ5, R5, e7, fun J1 H6 W6 F6 sw6 x6 R6 w6 => ?_⟩
      have hW6 : W6 D = some (.dK kvs) := sw6 D _ upd_same
      have hF6 : F6 D = none := by rw [x6.off D (by rw [upd_same]; exact fun z => nomatch z)]; exact hF5
      refine dcl_it w6 R6 hW6 hF6 hclr1 (rxs.mono (Le.of (x25.trans x6).same)) e9 hu1 fun H8 F8 xs8 x8 R8 hF8 r8 => ?_
      have sw8 : Same (upd W1 D (.dK xs8)) (upd W6 D (.dK xs8)) := fun b u e => by
        by_cases hb : b = D
        · subst hb; rw [upd_same] at e ⊢; exact e
        · rw [upd_ne hb] at e ⊢; exact sw6 b u (by rw [upd_ne hb]; exact e)
      have x58 : Ext W1 F5 F8 := x6.un.trans ⟨x8.same, fun b e => x8.off b (by
        have : upd W1 D (.dK kvs) b ≠ none := by
          by_cases hb : b = D
          · subst hb; rw [upd_same]; exact fun z => nomatch z
          · rw [upd_ne hb]; exact e
        exact Same.ne sw6 this)⟩
      exact ⟨F8, wipeR ρ6 vs, fs, xs8, (x2.trans x25.un).trans x58, (R8.lessW sw8).wiped hw4 hp, hF8, clear_wipeR, r8, e10⟩
  · rintro H ⟨F2, ρ2, es, kvs, x2, R2, hFD2, hclr2, rxs, e3⟩
    rw [List.drop_length] at e3
    cases e3
    have own : OwnO K F2 (H D) (.dict zs) := by
      rw [R2.wh D _ upd_same]
      exact rxs
    exact q _ H F2 (x1.trans (x2.less sw)) ((R2.unprotect hWD).lessW sw) (RvOk.lessW sw (r := .fr _) ⟨⟨D, rfl, hWD, hFD2, own⟩, R2.noown⟩)
end
section
variable {X : Cx}
theorem de_dc2 {kx vx ta ia tb ib : Expr} {fa fb : List Expr} {sc : Scope} {own : List (Str × Nat)} {vs1 : List Nat} {pos : Pos} {it it1 : SemI} {g g1 : SemG} {t t1 : SemT} {kf vf : SemE} {us us1 : List Nat} (hi : DI X ta ia it) (ok : BlkOk X.N X.env.scope sc own)
    (hg : InB X sc fun Y => DG Y ta us g) (ht : InB X sc fun Y => DTs Y fa t) (hi1 : InB X sc fun Y => DI Y tb ib it1) (hg1 : InB X sc fun Y => DG Y tb us1 g1) (ht1 : InB X sc fun Y => DTs Y fb t1) (hk : InB X sc fun Y => DE Y kx kf) (he : InB X sc fun Y => DE Y vx vf)
    (hu : ∀ i ∈ us, i ∈ own.map (·.2)) (hu1 : ∀ i ∈ us1, i ∈ vs1) (hv : ∀ i ∈ vs1, i ∈ own.map (·.2)) (hc : X.calm = true) (hN : X.N.Nodup)
    (hs : ∀ x, foldedSetIterable ia X.env x = pure x := by intro _; rfl) (hs1 : ∀ env x, foldedSetIterable ib env x = pure x := by intro _ _; rfl) :
    DE X (.DictComp kx vx [⟨ta, ia, fa, 0⟩, ⟨tb, ib, fb, 0⟩] sc pos) (sDc2 g t it1 g1 t1 kf vf (own.map (·.2)) vs1 it) := by
  refine ⟨(pe_dc2 (g := tDG X.K us g) (tt := tDT X.K t) (wi1 := tDI X.K it1) (g1 := tDG X.K us1 g1) (tt1 := tDT X.K t1) (tk := tD X.K kf) (tv := tD X.K vf) hc hN hi.pi ok hv (fun s H C cl fp => (hg s H C cl fp).pg) (fun s H C cl fp => (ht s H C cl fp).pt) (fun s H C cl fp => (hi1 s H C cl fp).pi)
    (fun s H C cl fp => (hg1 s H C cl fp).pg) (fun s H C cl fp => (ht1 s H C cl fp).pt) (fun s H C cl fp => (hk s H C cl fp).pe) (fun s H C cl fp => (he s H C cl fp).pe) hs hs1).pvi fun σ H Q q => sDc2_ok hu hu1 q⟩
end
section
variable {X : Cx}
theorem ps_setDc2 {i : Nat} {y : Str} {py : Pos} {kx vx ta ia tb ib : Expr} {fa fb : List Expr} {sc : Scope} {own : List (Str × Nat)} {vs1 : List Nat} {pos spos : Pos} {wi wi1 : TI} {g g1 : TG} {tt tt1 : TT} {tk tv : TE} (hc : X.calm = true) (hN : X.N.Nodup) (hy : X.N[i]? = some y) (hyl : X.env.scope.names.lookup y = some .local)
    (hsw : swapsWith (dc2 kx vx ta ia tb ib fa fb sc pos) (some (.Name y py)) spos.line X.env = pure true) (hi : PI X ta ia wi) (ok : BlkOk X.N X.env.scope sc own) (hv : ∀ i ∈ vs1, i ∈ own.map (·.2))
    (hg : InB X sc fun Y => PG Y ta g) (ht : InB X sc fun Y => PTs Y fa tt) (hi1 : InB X sc fun Y => PI Y tb ib wi1) (hg1 : InB X sc fun Y => PG Y tb g1) (ht1 : InB X sc fun Y => PTs Y fb tt1) (hk : InB X sc fun Y => PE Y kx tk) (he : InB X sc fun Y => PE Y vx tv)
    (hs : ∀ x, foldedSetIterable ia X.env x = pure x) (hs1 : ∀ env x, foldedSetIterable ib env x = pure x) : PS X (.Assign [.Name y py] (dc2 kx vx ta ia tb ib fa fb sc pos) spos) (tAsg (tDc2 wi g tt wi1 g1 tt1 tk tv (own.map (·.2)) vs1) (gName i)) := by
  refine ⟨fun pins s σ H D I h => ?_⟩
  rw [exec_Assign_Name_used _ _ _ _ hsw]
  refine wpAny_bind (wpAny_standAt (wpAny_bind ?_))
  change wpAny _ X.A (do let _ ← comprehension (dc2 kx vx ta ia tb ib fa fb sc pos) sc X.env (firstIterPos [⟨ta, ia, fa, 0⟩, ⟨tb, ib, fb, 0⟩] pos) newDict false (eval ia X.env) (some (assign (.Name y py) X.env))) _ _ s
  have h : tDc2 wi g tt wi1 g1 tt1 tk tv (own.map (·.2)) vs1 σ H (fun x H1 => gName i x σ H1 D.nx) := h
  refine wpAny_bind (thn (dc2_core (Qf := fun _ t => SP X pins D .next t) hc hN I hi ok hv hg ht hi1 hg1 ht1 hk he hs hs1 h fun L C t m G K q hn f => ?_) fun _ t ht => wpAny_pure (wpAny_pure ht))
  obtain ⟨c0, c1, c2, c3, c4, c5⟩ := f
  refine wpAny_assign_Name (store_ok2 (v := V.ref L) K hN hy (.inl hyl) rfl ?_ (.inr hyl))
  rintro t2 K2 ⟨a, sb, ha⟩
  have ne : C ≠ a := by
    rcases ha with rfl | z
    · exact c1
    · exact fun e => c4 y a z e.symm
  exact ⟨m, hn.sameBut sb ne, fun h3 sb3 => ⟨_, G, K2.turned (t' := t2.toks) (fun b o hb e => (sb3.2 b hb).trans e) c0 c1 c3 c4 c5, q⟩⟩
theorem ds_setDc2 {i : Nat} {y : Str} {py : Pos} {kx vx ta ia tb ib : Expr} {fa fb : List Expr} {sc : Scope} {own : List (Str × Nat)} {vs1 : List Nat} {pos spos : Pos} {it it1 : SemI} {g g1 : SemG} {t t1 : SemT} {kf vf : SemE} {us us1 : List Nat} (hy : X.N[i]? = some y) (hyl : X.env.scope.names.lookup y = some .local)
    (hsw : swapsWith (dc2 kx vx ta ia tb ib fa fb sc pos) (some (.Name y py)) spos.line X.env = pure true) (hi : DI X ta ia it) (ok : BlkOk X.N X.env.scope sc own)
    (hg : InB X sc fun Y => DG Y ta us g) (ht : InB X sc fun Y => DTs Y fa t) (hi1 : InB X sc fun Y => DI Y tb ib it1) (hg1 : InB X sc fun Y => DG Y tb us1 g1) (ht1 : InB X sc fun Y => DTs Y fb t1) (hk : InB X sc fun Y => DE Y kx kf) (he : InB X sc fun Y => DE Y vx vf)
    (hu : ∀ i ∈ us, i ∈ own.map (·.2)) (hu1 : ∀ i ∈ us1, i ∈ vs1) (hv : ∀ i ∈ vs1, i ∈ own.map (·.2)) (hc : X.calm = true) (hN : X.N.Nodup)
    (hs : ∀ x, foldedSetIterable ia X.env x = pure x := by intro _; rfl) (hs1 : ∀ env x, foldedSetIterable ib env x = pure x := by intro _ _; rfl) :
    DS X (.Assign [.Name y py] (.DictComp kx vx [⟨ta, ia, fa, 0⟩, ⟨tb, ib, fb, 0⟩] sc pos) spos) (sSet i (sDc2 g t it1 g1 t1 kf vf (own.map (·.2)) vs1 it)) := by
  refine ⟨(ps_setDc2 (g := tDG X.K us g) (tt := tDT X.K t) (wi1 := tDI X.K it1) (g1 := tDG X.K us1 g1) (tt1 := tDT X.K t1) (tk := tD X.K kf) (tv := tD X.K vf) hc hN hy hyl hsw hi.pi ok hv (fun s H C cl fp => (hg s H C cl fp).pg) (fun s H C cl fp => (ht s H C cl fp).pt) (fun s H C cl fp => (hi1 s H C cl fp).pi)
    (fun s H C cl fp => (hg1 s H C cl fp).pg) (fun s H C cl fp => (ht1 s H C cl fp).pt) (fun s H C cl fp => (hk s H C cl fp).pe) (fun s H C cl fp => (he s H C cl fp).pe) hs hs1).pvi fun D σ H q => sDc2_ok hu hu1 (sSet_ok q)⟩
end
namespace Ev
@[scoped simp] theorem sDc2_u (ρ : Ro) (g : SemG) (t : SemT) (it1 : SemI) (g1 : SemG) (t1 : SemT) (kf vf : SemE) (vs vs1 : List Nat) (it : SemI) : sDc2 g t it1 g1 t1 kf vf vs vs1 it ρ = bd (it ρ) fun x => if clearAt x.2 vs = true then bd (dc2L g t it1 g1 t1 kf vf vs vs1 x.1 [] x.2) fun y => some (.fr (.dict y.1), y.2) else none := rfl
end Ev
end Pv
end
section
set_option Elab.async false
set_option linter.all false
set_option maxRecDepth 100000
set_option maxHeartbeats 1000000
/-! PxK: a, b = a text of two signs. -/
namespace Pv
open PySem PySem.Spec PyProof.Rows L2 PySem.W
section
variable {P : Program} {w : World} {A : Around} {E : Value → Shared → Prop} {s : Shared}
theorem unpack_text2 {x : Str} {tk : Tok} {c d : Nat} {Q : List Value → Shared → Prop} (hh : A.handled = none) (hx : x.cps.toList = [c, d])
    (hQ : ∀ (u v : Tok) (s' : Shared), (∀ b o, s.heap.get? b = some o → s'.heap.get? b = some o) → s'.gens = s.gens → s'.os = s.os → Q [.str ⟨#[c]⟩ u, .str ⟨#[d]⟩ v] s') : wpAny (model P w) A (unpackItems (.str x tk) 2 none) Q E s := by
  have hT : s.TypeIs (.str x tk) "str" := rfl
  have hs : x.cps.size = 2 := by rw [← Array.length_toList, hx]; rfl
  have e0 : x.cps[0]? = some c := by rw [← Array.getElem?_toList, hx]; rfl
  have e1 : x.cps[1]? = some d := by rw [← Array.getElem?_toList, hx]; rfl
  unfold unpackItems
  refine wpAny_bind ?_
  unfold notIterableAtAll
  refine wpAny_bind (wpAny_specialOf hT F.slot_str_iter.lookup ?_)
  refine wpAny_pure ?_
  simp only [Bool.false_eq_true, if_false]
  refine wpAny_bind (wpAny_holding (wpAny_pyIter_str fun o St W st0 => ?_))
  have Wa := W A hh
  rw [hs] at Wa
  have nI : ∀ b u, s.heap.get? b = some u → b ∉ [s.heap.objs.size] := fun b u e z => by
    rw [List.mem_singleton.mp z] at e
    exact absurd (Heap.lt_size e) (Nat.lt_irrefl _)
  refine wpAny_bind (wpAny_holding ?_)
  show wpAny _ _ (pyNext _ >>= _) _ _ _
  refine wpAny_bind (Wa.item 0 _ _ _ (by decide) st0 fun v1 h1 t1 p1 st1 k1 => ?_)
  obtain ⟨c', u, ec, rfl⟩ := p1
  rw [e0] at ec
  cases ec
  dsimp only
  refine wpAny_bind (wpAny_holding ?_)
  show wpAny _ _ (pyNext _ >>= _) _ _ _
  refine wpAny_bind (Wa.item 1 _ _ _ (by decide) st1 fun v2 h2 t2 p2 st2 k2 => ?_)
  obtain ⟨d', v, ed, rfl⟩ := p2
  rw [e1] at ed
  cases ed
  dsimp only
  refine wpAny_bind (wpAny_holding ?_)
  show wpAny _ _ (pure []) _ _ _
  refine wpAny_pure (wpAny_pure (wpAny_pure ?_))
  rw [if_neg (by simp)]
  refine wpAny_bind (wpAny_holding (Wa.done { s with heap := h2, toks := t2 } _ _ st2 fun h4 t4 k4 => ?_))
  simp only [Option.isSome_none, Bool.false_eq_true, if_false]
  exact wpAny_pure (hQ u v _ (fun b o e => k4 b o (nI b o e) (k2 b o (nI b o e) (k1 b o (nI b o e) (Heap.get?_push_of_some _ e)))) rfl rfl)
end
def gS2 (g : SemGs) : SemG := fun d ρ => match d with
  | .str x => (match x.cps.toList with
    | [c, d] => g [.str ⟨#[c]⟩, .str ⟨#[d]⟩] ρ
    | _ => none)
  | _ => none
section
variable {X : Cx} {pos : Pos}
theorem dg_str2 {es : List Expr} {k : Nat} {g : SemGs} {vs : List Nat} (h : DGs X es vs g) (hc : X.calm = true) (hn : (assignEach es X.env).length = 2 := by rfl) (hst : (assignEach es X.env).findIdx? (·.1) = none := by rfl) : DG X (.Tuple es k pos) vs (gS2 g) := by
  refine ⟨⟨fun pins s σ H v u Q I r hw => ?_⟩⟩
  obtain ⟨P, W, F, ρ, d, ρ', R, rp, e, q⟩ := hw
  unfold gS2 at e
  split at e
  · rename_i x
    split at e
    · rename_i c d hx
      cases rp
      obtain ⟨tk, rfl⟩ := (show ∃ t, u = Value.str x t from r)
      rw [PyProof.Rows.assign_Tuple]
      refine wpAny_bind (wpAny_standAt ?_)
      unfold unpack
      rw [hn, hst]
      refine wpAny_bind (wpAny_holding (unpack_text2 (I.ok.hd hc) hx fun a b s' kk hg ho => ?_))
      have I' : Inv X pins σ H s' := I.call' (ch := []) ho (Un.kept kk) (I.hok.kept kk) (by rw [hg]; exact I.bare) (fun _ z => nomatch z)
      exact h.pg.run pins s' σ H [.str ⟨#[c]⟩, .str ⟨#[d]⟩] _ Q I' (.cons ⟨a, rfl⟩ (.cons ⟨b, rfl⟩ .nil)) ⟨P, W, F, ρ, _, ρ', R, .cons (.str _) (.cons (.str _) .nil), e, q⟩
    · cases e
  · cases e
end
namespace Ev
@[scoped simp] theorem gS2_u (g : SemGs) (x : Str) (c d : Nat) (ρ : Ro) (h : x.cps.toList = [c, d]) : gS2 g (.str x) ρ = g [.str ⟨#[c]⟩, .str ⟨#[d]⟩] ρ := by simp [gS2, h]
end Ev
end Pv
end
section
set_option Elab.async false
set_option linter.all false
set_option maxRecDepth 100000
set_option maxHeartbeats 1000000
/-! PxL: a dict of one's own that is read while an expression runs, and one's own again behind it. -/
namespace Pv
open PySem PySem.Spec PyProof.Rows L2 PySem.W
/-! ### a dict is locked for the time of an expression -/
def tGh (te : TE) : TE := fun σ H Q => ∃ a kvs, H a = some (.dK kvs) ∧ ∀ od, te σ (upd H a (.frz od (.dK kvs))) fun v H1 => H1 a = some (.frz od (.dK kvs)) ∧ Q v (upd H1 a (.dK kvs))
section
variable {X : Cx}
theorem pe_gh {e : Expr} {te : TE} (h : PE X e te) : PE X e (tGh te) := by
  refine ⟨fun pins s σ H Q I q => ?_⟩
  obtain ⟨a, kvs, ha, q⟩ := q
  obtain ⟨od, I1⟩ := I.lock ha trivial
  have hn := I.nofrz ha trivial
  refine thn (h.run pins s σ _ _ I1 (q od)) fun u s1 ⟨v, H1, I2, r, h1, q1⟩ => ?_
  exact ⟨v, _, I2.unlock h1 hn, r, q1⟩
theorem ps_gh {st : Stmt} {te : TE} {i : Nat} (h : PS X st (tAsg te (gName i))) : PS X st (tAsg (tGh te) (gName i)) := by
  refine ⟨fun pins s σ H D I q => ?_⟩
  obtain ⟨a, kvs, ha, q⟩ := q
  obtain ⟨od, I1⟩ := I.lock ha trivial
  have hn := I.nofrz ha trivial
  refine thn (h.run pins s σ _ { nx := fun σ2 H2 => H2 a = some (.frz od (.dK kvs)) ∧ D.nx σ2 (upd H2 a (.dK kvs)), rt := fun _ _ => False } I1 (q od)) fun f s1 hf => ?_
  cases f with
  | next =>
    obtain ⟨σ1, H1, I2, h1, q1⟩ := hf
    exact ⟨σ1, _, I2.unlock h1 hn, q1⟩
  | brk => obtain ⟨σ1, H1, I2, h1⟩ := hf; exact h1.elim
  | cont => obtain ⟨σ1, H1, I2, h1⟩ := hf; exact h1.elim
  | ret u => obtain ⟨v, σ1, H1, I2, r, h1⟩ := hf; exact h1.elim
end
/-! ### no dict is reached from plain data -/
def cutF (F : Hp) (a : Addr) : Hp := fun b => if b = a then Option.none else F b
theorem cutF_same {F : Hp} {a : Addr} : cutF F a a = Option.none := by unfold cutF; rw [if_pos rfl]
theorem cutF_ne {F : Hp} {a b : Addr} (h : b ≠ a) : cutF F a b = F b := by unfold cutF; rw [if_neg h]
section
variable {K : Fr'} {F : Hp} {a : Addr} {kvs : List (Key × V)}
theorem cut_sqt (hF : F a = some (.dK kvs)) {b : Addr} {xs : List V} (h : SqT K F b xs) : SqT K (cutF F a) b xs := by
  rcases h with (h | ⟨o, h⟩) | h
  · exact .inl (.inl (by rw [cutF_ne (fun z => by rw [z, hF] at h; cases h)]; exact h))
  · exact .inl (.inr ⟨o, by rw [cutF_ne (fun z => by rw [z, hF] at h; cases h)]; exact h⟩)
  · exact .inr h
mutual
theorem Rp.cutP (hF : F a = some (.dK kvs)) : ∀ {v : V} {d : D}, Rp K F v d → plain d = true → Rp K (cutF F a) v d
  | _, _, .non, _ => .non
  | _, _, .bl b, _ => .bl b
  | _, _, .int i, _ => .int i
  | _, _, .str x, _ => .str x
  | _, _, .lst s r, h => .lst (by rw [cutF_ne (fun z => by rw [z, hF] at s; cases s)]; exact s) (RpA.cutP hF r (by simpa [plain] using h))
  | _, _, .tup s r, h => .tup (cut_sqt hF s) (RpA.cutP hF r (by simpa [plain] using h))
  | _, _, .dic s r, h => by simp [plain] at h
theorem RpA.cutP (hF : F a = some (.dK kvs)) : ∀ {vs : List V} {ds : List D}, RpA K F vs ds → plainA ds = true → RpA K (cutF F a) vs ds
  | _, _, .nil, _ => .nil
  | _, _, .cons r t, h => by
    simp only [plainA, Bool.and_eq_true] at h
    exact .cons (Rp.cutP hF r h.1) (RpA.cutP hF t h.2)
end
theorem OwnO.cutP (hF : F a = some (.dK kvs)) {o : Option HO} {d : D} (q : OwnO K F o d) (h : plain d = true) : OwnO K (cutF F a) o d := by
  unfold OwnO at q ⊢
  split at q
  · exact q.cutP hF (by simpa [plain] using h)
  · simp [plain] at h
  · exact q.elim
end
/-! ### the borrow -/
/-- what stands in a slot behind it: an old value as it was, else plain things only -/
def resto : Option Cell → Option Cell → Option (Option Cell)
  | some (.val d), _ => some (some (.val d))
  | _, none => some none
  | _, some (.val d) => if plain d = true then some (some (.val d)) else none
  | _, some (.own d) => if plain d = true then some (some (.own d)) else none
  | _, some (.byr d) => if plain d = true then some (some (.byr d)) else none
  | some (.scr es), some (.scr _) => some (some (.scr es))
  | _, some (.scr _) => none
def restoL : Ro → Ro → Option Ro
  | [], [] => some []
  | c :: cs, e :: es => (resto c e).bind fun x => (restoL cs es).map (x :: ·)
  | _, _ => none
def outP : Rv → Bool
  | .val d => plain d
  | .fr d => plain d
  | .at _ => false
def borC (i : Nat) (f : SemE) (ρ : Ro) : Option (Option Cell) → Option (Rv × Ro)
  | some (some (.own (.dict es))) => (f (ρ.set i (some (.val (.dict es))))).bind fun x =>
    if outP x.1 = true then (restoL (ρ.set i none) (x.2.set i none)).map fun ρ3 => (x.1, ρ3.set i (some (.own (.dict es)))) else none
  | _ => none
def sBor (i : Nat) (f : SemE) : SemE := fun ρ => borC i f ρ ρ[i]?
theorem resto_val {c e x : Option Cell} {d : Cell} (h : resto c e = some x) (hx : x = some d) : (∃ z, c = some (.val z) ∧ d = .val z) ∨ (e = some d ∧ ((∃ z, d = .val z ∧ plain z = true) ∨ (∃ z, d = .own z ∧ plain z = true) ∨ ∃ z, d = .byr z ∧ plain z = true)) ∨ ∃ es, c = some (.scr es) ∧ d = .scr es := by
  unfold resto at h
  split at h
  · rename_i z; cases h; cases hx; exact .inl ⟨_, rfl, rfl⟩
  · cases h; cases hx
  · split at h
    · rename_i hp; cases h; cases hx; exact .inr (.inl ⟨rfl, .inl ⟨_, rfl, hp⟩⟩)
    · cases h
  · split at h
    · rename_i hp; cases h; cases hx; exact .inr (.inl ⟨rfl, .inr (.inl ⟨_, rfl, hp⟩)⟩)
    · cases h
  · split at h
    · rename_i hp; cases h; cases hx; exact .inr (.inl ⟨rfl, .inr (.inr ⟨_, rfl, hp⟩)⟩)
    · cases h
  · cases h; cases hx; exact .inr (.inr ⟨_, rfl, rfl⟩)
  · cases h
theorem resto_byr {d d0 : D} {x : Option Cell} (h : resto (some (.byr d0)) (some (.byr d)) = some x) : x = some (.byr d) := by
  unfold resto at h
  simp only at h
  split at h
  · cases h; rfl
  · cases h
theorem restoL_len : ∀ {cs es xs : Ro}, restoL cs es = some xs → xs.length = es.length ∧ xs.length = cs.length
  | [], [], xs, h => by cases h; exact ⟨rfl, rfl⟩
  | c :: cs, e :: es, xs, h => by
    simp only [restoL, Option.bind_eq_some_iff, Option.map_eq_some_iff] at h
    obtain ⟨x, _, ys, h2, rfl⟩ := h
    obtain ⟨h3, h4⟩ := restoL_len h2
    exact ⟨by simp [h3], by simp [h4]⟩
  | [], _ :: _, _, h => by cases h
  | _ :: _, [], _, h => by cases h
theorem restoL_get : ∀ {cs es xs : Ro}, restoL cs es = some xs → ∀ (i : Nat) (x : Option Cell), xs[i]? = some x → ∃ c e, cs[i]? = some c ∧ es[i]? = some e ∧ resto c e = some x
  | [], [], xs, h, i, x, hx => by cases h; simp at hx
  | c :: cs, e :: es, xs, h, i, x, hx => by
    simp only [restoL, Option.bind_eq_some_iff, Option.map_eq_some_iff] at h
    obtain ⟨y, h1, ys, h2, rfl⟩ := h
    cases i with
    | zero => simp at hx; subst hx; exact ⟨c, e, rfl, rfl, h1⟩
    | succ i =>
      obtain ⟨c', e', q1, q2, q3⟩ := restoL_get h2 i x (by simpa using hx)
      exact ⟨c', e', by simpa using q1, by simpa using q2, q3⟩
  | [], _ :: _, _, h, _, _, _ => by cases h
  | _ :: _, [], _, h, _, _, _ => by cases h
theorem restoL_at {ρ ρ2 ρ3 : Ro} {i : Nat} (h : restoL (ρ.set i none) (ρ2.set i none) = some ρ3) (j : Nat) (hj : j ≠ i) (x : Option Cell) (hx : ρ3[j]? = some x) : ∃ c e, ρ[j]? = some c ∧ ρ2[j]? = some e ∧ resto c e = some x := by
  obtain ⟨c, e, h1, h2, h3⟩ := restoL_get h j x hx
  rw [List.getElem?_set_ne (fun z => hj z.symm)] at h1 h2
  exact ⟨c, e, h1, h2, h3⟩
theorem sBor_ok {K : Fr'} {i : Nat} {f : SemE} {σ : St} {H : Hp} {Q : VK} (q : tD K (sBor i f) σ H Q) : tGh (tD K f) σ H Q := by
  obtain ⟨P, W, F, ρ, r, ρ', R, e, q⟩ := q
  unfold sBor borC at e
  split at e
  case h_2 => cases e
  rename_i es hi
  simp only [Option.bind_eq_some_iff, Prod.exists] at e
  obtain ⟨rv, ρ2, e1, e2⟩ := e
  split at e2
  case isFalse => cases e2
  rename_i hout
  simp only [Option.map_eq_some_iff] at e2
  obtain ⟨ρ3, e3, e4⟩ := e2
  cases e4
  obtain ⟨v0, hv0, a, ea, hWa, hFa, ow⟩ := R.cell i _ hi
  subst ea
  have hk : ∃ kvs, H a = some (.dK kvs) ∧ RpD K F kvs es := by
    unfold OwnO at ow
    split at ow
    · rename_i hq; cases hq
    · rename_i kvs es' e5 hq; cases hq; exact ⟨kvs, e5, ow⟩
    · exact ow.elim
  obtain ⟨kvs, hHa, rd⟩ := hk
  have il : i < ρ.length := (List.getElem?_eq_some_iff.mp hi).1
  refine ⟨a, kvs, hHa, fun od => ?_⟩
  have noa : ∀ (j : Nat) (c : Cell), j ≠ i → ρ[j]? = some (some c) → c.owned = true → σ[j]? ≠ some (some (.ref a)) := fun j c hj e5 o s => R.inj j i c _ a hj e5 hi o rfl s hv0
  have sF : Same F (upd F a (.dK kvs)) := fun b u e5 => by rw [upd_ne (fun z => by rw [z, hFa] at e5; cases e5)]; exact e5
  have R1 : Rel K P (upd W a (.frz od (.dK kvs))) (upd F a (.dK kvs)) (upd H a (.frz od (.dK kvs))) σ (ρ.set i (some (.val (.dict es)))) := by
    refine ⟨fun b u e5 => ?_, fun b u e5 => ?_, by rw [List.length_set]; exact R.len, fun j c e5 => ?_, fun j k c e5 b hjk h1 h2 o1 o2 s1 s2 => ?_, fun p hp => ?_, fun b hb => ?_⟩
    · by_cases hb : b = a
      · subst hb; rw [upd_same] at e5 ⊢; cases e5; exact .inr ⟨trivial, od, rfl⟩
      · rw [upd_ne hb] at e5 ⊢; exact R.fh b u e5
    · by_cases hb : b = a
      · subst hb; rw [upd_same] at e5 ⊢; exact e5
      · rw [upd_ne hb] at e5 ⊢; exact R.wh b u e5
    · rcases set_get e5 with ⟨rfl, z⟩ | ⟨hj, z⟩
      · cases z; exact ⟨_, hv0, .dic (.inl upd_same) (rd.mono (Le.of sF))⟩
      · obtain ⟨v, hv, hk⟩ := R.cell j c z
        refine ⟨v, hv, ?_⟩
        cases c with
        | val d => exact Rp.mono (Le.of sF) hk
        | own d =>
          obtain ⟨b, eb, h1, h2, h3⟩ := hk
          have hb : b ≠ a := fun y => noa j _ hj z rfl (by rw [hv, eb, y])
          exact ⟨b, eb, by rw [upd_ne hb]; exact h1, by rw [upd_ne hb]; exact h2, by rw [upd_ne hb]; exact h3.mono (Le.of sF)⟩
        | byr d =>
          obtain ⟨b, eb, h1, h2, h3⟩ := hk
          have hb : b ≠ a := fun y => noa j _ hj z rfl (by rw [hv, eb, y])
          exact ⟨b, eb, by rw [upd_ne hb]; exact h1, by rw [upd_ne hb]; exact h2, by rw [upd_ne hb]; exact h3.mono (Le.of sF)⟩
        | scr ds => obtain ⟨b, xs, eb, s, r⟩ := hk; exact ⟨b, xs, eb, (Le.of sF).sql s, r.mono (Le.of sF)⟩
    · rcases set_get h1 with ⟨rfl, z⟩ | ⟨hj, z⟩
      · cases z; cases o1
      · rcases set_get h2 with ⟨rfl, z2⟩ | ⟨hk, z2⟩
        · cases z2; cases o2
        · exact R.inj j k c e5 b hjk z z2 o1 o2 s1 s2
    · obtain ⟨h1, d, h2⟩ := R.pin p hp
      have : p.1 ≠ i := fun z => by rw [z, hi] at h2; cases h2
      exact ⟨h1, d, by rw [List.getElem?_set_ne (fun y => this y.symm)]; exact h2⟩
    · by_cases hba : b = a
      · subst hba; exact .inr ⟨od, _, upd_same⟩
      · rw [upd_ne hba] at hb ⊢; rw [upd_ne hba]; exact R.dis b hb
  refine ⟨P, _, _, _, r, ρ2, R1, e1, fun v H1 F1 x1 R2 o2 => ?_⟩
  have hH1 : H1 a = some (.frz od (.dK kvs)) := R2.wh a _ upd_same
  have hF1 : F1 a = some (.dK kvs) := x1.same a _ upd_same
  have hW1 : ∀ b, (upd W a (.frz od (.dK kvs))) b = Option.none → b ≠ a ∧ W b = Option.none := fun b hb => by
    have : b ≠ a := fun z => by rw [z, upd_same] at hb; cases hb
    exact ⟨this, by rw [upd_ne this] at hb; exact hb⟩
  have sC : Same F (cutF F1 a) := fun b u e5 => by
    have hb : b ≠ a := fun z => by rw [z, hFa] at e5; cases e5
    rw [cutF_ne hb]; exact x1.same b u (sF b u e5)
  have xc : Ext W F (cutF F1 a) := ⟨sC, fun b hb => by
    have hba : b ≠ a := fun z => hb (by rw [z]; exact hWa)
    rw [cutF_ne hba, x1.off b (by rw [upd_ne hba]; exact hb), upd_ne hba]⟩
  have l3 : ρ3.length = ρ2.length ∧ ρ3.length = ρ.length := by
    have := restoL_len e3
    rwa [List.length_set, List.length_set] at this
  have own3 : ∀ (j : Nat) (c : Cell), j ≠ i → ρ3[j]? = some (some c) → c.owned = true → ρ2[j]? = some (some c) ∧ plain c.d = true := fun j c hj e5 o => by
    obtain ⟨c0, c1, q1, q2, q3⟩ := restoL_at e3 j hj _ e5
    rcases resto_val q3 rfl with ⟨z, _, rfl⟩ | ⟨h1, h2⟩ | ⟨es, _, rfl⟩
    · cases o
    · refine ⟨by rw [q2, h1], ?_⟩
      rcases h2 with ⟨z, rfl, hp⟩ | ⟨z, rfl, hp⟩ | ⟨z, rfl, hp⟩ <;> exact hp
    · cases o
  have own2 : ∀ (j : Nat) (c : Cell) (b : Addr), ρ2[j]? = some (some c) → c.owned = true → σ[j]? = some (some (.ref b)) → b ≠ a := fun j c b e5 o s z => by
    obtain ⟨v', hv', hk⟩ := R2.cell j c e5
    rw [s] at hv'
    cases hv'
    cases c with
    | val d => cases o
    | own d => obtain ⟨b', eb, h1, _⟩ := hk; cases eb; exact (hW1 _ h1).1 z
    | byr d => obtain ⟨b', eb, h1, _⟩ := hk; cases eb; exact (hW1 _ h1).1 z
    | scr d => cases o
  have cutO : ∀ {b : Addr} {d : D}, OwnV K (upd W a (.frz od (.dK kvs))) F1 H1 (.ref b) d → plain d = true → OwnV K W (cutF F1 a) (upd H1 a (.dK kvs)) (.ref b) d := fun {b d} hk hp => by
    obtain ⟨b', eb, h1, h2, h3⟩ := hk
    cases eb
    obtain ⟨hb, hw⟩ := hW1 _ h1
    exact ⟨b, rfl, hw, by rw [cutF_ne hb]; exact h2, by rw [upd_ne hb]; exact h3.cutP hF1 hp⟩
  refine ⟨hH1, q v _ _ xc ⟨fun b u e5 => ?_, fun b u e5 => ?_, by rw [List.length_set, l3.2]; exact R.len, fun j c e5 => ?_, fun j k c e5 b hjk h1 h2 o1 o2 s1 s2 => ?_, fun p hp => ?_, fun b hb => ?_⟩ ?_⟩
  · have hb : b ≠ a := fun z => by rw [z, cutF_same] at e5; cases e5
    rw [cutF_ne hb] at e5
    rw [upd_ne hb]; exact R2.fh b u e5
  · have hb : b ≠ a := fun z => by rw [z, hWa] at e5; cases e5
    rw [upd_ne hb]; exact R2.wh b u (by rw [upd_ne hb]; exact e5)
  · rcases set_get e5 with ⟨rfl, z⟩ | ⟨hj, z⟩
    · cases z
      exact ⟨_, hv0, a, rfl, hWa, cutF_same, by rw [upd_same]; exact rd.mono (Le.of sC)⟩
    · obtain ⟨c0, c1, q1, q2, q3⟩ := restoL_at e3 j hj _ z
      rcases resto_val q3 rfl with ⟨d, rfl, rfl⟩ | ⟨rfl, h2⟩ | ⟨es', rfl, rfl⟩
      · obtain ⟨v', hv', hk⟩ := R.cell j _ q1
        exact ⟨v', hv', Rp.mono (Le.of sC) hk⟩
      · obtain ⟨v', hv', hk⟩ := R2.cell j _ q2
        refine ⟨v', hv', ?_⟩
        rcases h2 with ⟨d, rfl, hp⟩ | ⟨d, rfl, hp⟩ | ⟨d, rfl, hp⟩
        · exact Rp.cutP hF1 hk hp
        · obtain ⟨b, eb, h1⟩ := hk
          subst eb
          exact cutO ⟨b, rfl, h1⟩ hp
        · obtain ⟨b, eb, h1⟩ := hk
          subst eb
          exact cutO ⟨b, rfl, h1⟩ hp
      · obtain ⟨v', hv', b, xs, eb, s, r⟩ := R.cell j _ q1
        exact ⟨v', hv', b, xs, eb, (Le.of sC).sql s, r.mono (Le.of sC)⟩
  · rcases set_get h1 with ⟨rfl, z⟩ | ⟨hj, z⟩
    · rcases set_get h2 with ⟨rfl, z2⟩ | ⟨hk, z2⟩
      · exact hjk rfl
      · rw [hv0] at s1; cases s1
        exact own2 k _ _ (own3 k _ hk z2 o2).1 o2 s2 rfl
    · rcases set_get h2 with ⟨rfl, z2⟩ | ⟨hk, z2⟩
      · rw [hv0] at s2; cases s2
        exact own2 j _ _ (own3 j _ hj z o1).1 o1 s1 rfl
      · exact R2.inj j k c e5 b hjk (own3 j _ hj z o1).1 (own3 k _ hk z2 o2).1 o1 o2 s1 s2
  · obtain ⟨h1, d, h2⟩ := R2.pin p hp
    obtain ⟨_, d0, h0⟩ := R.pin p hp
    have hpi : p.1 ≠ i := fun z => by rw [z, hi] at h0; cases h0
    have lt : p.1 < ρ3.length := by rw [l3.1]; exact (List.getElem?_eq_some_iff.mp h2).1
    obtain ⟨c0, c1, q1, q2, q3⟩ := restoL_at e3 p.1 hpi _ (List.getElem?_eq_getElem lt)
    rw [h0] at q1
    rw [h2] at q2
    cases q1; cases q2
    refine ⟨h1, d, ?_⟩
    rw [List.getElem?_set_ne (fun y => hpi y.symm), List.getElem?_eq_getElem lt, resto_byr q3]
  · have hba : b ≠ a := fun z => hb (by rw [z]; exact hWa)
    have := R2.dis b (by rw [upd_ne hba]; exact hb)
    rw [upd_ne hba] at this
    rw [cutF_ne hba]
    exact this
  · cases r with
    | val d => exact Rp.cutP hF1 o2 hout
    | «at» j => cases hout
    | fr d =>
      obtain ⟨⟨b, eb, h1⟩, h2⟩ := o2
      subst eb
      have hb := (hW1 _ h1.1).1
      refine ⟨cutO ⟨b, rfl, h1⟩ hout, fun j c e5 o s => ?_⟩
      rcases set_get e5 with ⟨rfl, z⟩ | ⟨hj, z⟩
      · rw [hv0] at s; cases s; exact hb rfl
      · exact h2 j c (own3 j c hj z o).1 o s
section
variable {X : Cx}
theorem de_bor (i : Nat) {e : Expr} {f : SemE} (h : DE X e f) : DE X e (sBor i f) := ⟨(pe_gh h.pe).pvi fun _ _ _ => sBor_ok⟩
theorem ds_borA (b : Nat) {i : Nat} {st : Stmt} {f : SemE} (h : PS X st (tAsg (tD X.K f) (gName i))) : PS X st (tAsg (tD X.K (sBor b f)) (gName i)) := (ps_gh h).pvi fun _ _ _ => sBor_ok
theorem sLcS_ok {K : Fr'} {g : SemG} {t : SemT} {el : SemE} {vs : List Nat} {it : SemI} {σ : St} {H : Hp} {Q : VK} (q : tD K (sLcS g t el vs it) σ H Q) : tD K (sLc g t el vs (iW vs it)) σ H Q := by
  obtain ⟨P, W, F, ρ, r, ρ', R, e, q⟩ := q
  simp only [sLcS] at e
  split at e
  case isFalse => cases e
  rename_i hok
  simp only [Option.bind_eq_some_iff, Prod.exists] at e
  obtain ⟨r1, ρ2, e1, e2⟩ := e
  cases e2
  refine ⟨P, W, F, ρ, _, ρ2, R, e1, fun v H' F' x R' o => q v H' F' x (R.back hok x R') ?_⟩
  have e1' := e1
  simp only [sLc, Option.bind_eq_some_iff, Prod.exists] at e1'
  obtain ⟨ds, ρ3, _, e4⟩ := e1'
  split at e4
  case isFalse => cases e4
  simp only [Option.bind_eq_some_iff, Prod.exists] at e4
  obtain ⟨zs, ρ4, _, e5⟩ := e4
  cases e5
  refine ⟨o.1, fun i c e ow => ?_⟩
  rcases backR_in e with ⟨hi, e6⟩ | e6
  · obtain ⟨d, rfl⟩ := ok_at hok hi e6
    cases ow
  · exact o.2 i c e6 ow
/-- `y = [.. for x in d ..]`, where x stands for something and d is one's own dict -/
theorem ds_setLcSB (b : Nat) {i : Nat} {y : Str} {py : Pos} {elt tg iter : Expr} {ifs : List Expr} {scope : Scope} {own : List (Str × Nat)} {pos spos : Pos} {it : SemI} {g : SemG} {t : SemT} {el : SemE} {us : List Nat} (hy : X.N[i]? = some y) (hyl : X.env.scope.names.lookup y = some .local)
    (hsw : swapsWith (.ListComp elt [⟨tg, iter, ifs, 0⟩] scope pos) (some (.Name y py)) spos.line X.env = pure true) (hi : DI X tg iter it) (ok : BlkOk X.N X.env.scope scope own)
    (hg : ∀ (s : Shared) (H : Hp) (C : Addr) (cl : List (Str × Addr)) (fp : List Addr), DG (X.blk s H scope (compEnvC scope cl C X.env) fp) tg us g) (ht : ∀ (s : Shared) (H : Hp) (C : Addr) (cl : List (Str × Addr)) (fp : List Addr), DTs (X.blk s H scope (compEnvC scope cl C X.env) fp) ifs t)
    (he : ∀ (s : Shared) (H : Hp) (C : Addr) (cl : List (Str × Addr)) (fp : List Addr), DE (X.blk s H scope (compEnvC scope cl C X.env) fp) elt el) (hu : ∀ i ∈ us, i ∈ own.map (·.2)) (hc : X.calm = true) (hN : X.N.Nodup) (hs : ∀ x, foldedSetIterable iter X.env x = pure x := by intro _; rfl) :
    DS X (.Assign [.Name y py] (.ListComp elt [⟨tg, iter, ifs, 0⟩] scope pos) spos) (sSet i (sBor b (sLcS g t el (own.map (·.2)) it))) :=
  ds_set (ds_borA b ((ps_setLc (g := tDG X.K us g) (tt := tDT X.K t) (te := tD X.K el) hc hN hy hyl hsw (di_iW (vs := own.map (·.2)) hi).pi ok (fun s H C cl fp => (hg s H C cl fp).pg) (fun s H C cl fp => (ht s H C cl fp).pt) (fun s H C cl fp => (he s H C cl fp).pe) hs).pvi fun D σ H q => sLc_ok hu (sLcS_ok q)))
end
namespace Ev
section
variable (i : Nat) (ρ : Ro) (f : SemE) (d : D) (c : Option Cell)
@[scoped simp] theorem sBor_u : sBor i f ρ = borC i f ρ ρ[i]? := rfl
@[scoped simp] theorem borC_u (es : List (D × D)) : borC i f ρ (some (some (.own (.dict es)))) = bd (f (ρ.set i (some (.val (.dict es))))) fun x =>
    if outP x.1 = true then bd (restoL (ρ.set i none) (x.2.set i none)) fun ρ3 => some (x.1, ρ3.set i (some (.own (.dict es)))) else none := by
  unfold bd Bd
  simp only [borC, Option.map_eq_bind]
  rfl
@[scoped simp] theorem outP1 : outP (.val d) = plain d := rfl
@[scoped simp] theorem outP2 : outP (.fr d) = plain d := rfl
@[scoped simp] theorem restoL0 : restoL [] [] = some [] := rfl
@[scoped simp] theorem restoL1 (c e : Option Cell) (cs es : Ro) : restoL (c :: cs) (e :: es) = bd (resto c e) fun x => bd (restoL cs es) fun y => some (x :: y) := by
  unfold bd Bd
  simp only [restoL, Option.map_eq_bind]
  rfl
@[scoped simp] theorem resto1 : resto (some (.val d)) c = some (some (.val d)) := by cases c <;> rfl
@[scoped simp] theorem resto2 : resto none none = some none := rfl
@[scoped simp] theorem resto3 (es : D) : resto (some (.own es)) (some (.own d)) = if plain d = true then some (some (.own d)) else none := rfl
@[scoped simp] theorem resto4 : resto none (some (.val d)) = if plain d = true then some (some (.val d)) else none := rfl
@[scoped simp] theorem resto5 (es : D) : resto (some (.own es)) (some (.val d)) = if plain d = true then some (some (.val d)) else none := rfl
@[scoped simp] theorem resto6 (x : Option D) : resto (x.map .val) (x.map .val) = some (x.map .val) := by cases x <;> rfl
@[scoped simp] theorem resto7 (es : D) : resto (some (.byr es)) (some (.byr d)) = if plain d = true then some (some (.byr d)) else none := rfl
end
end Ev
end Pv
end
section
set_option Elab.async false
set_option linter.all false
set_option maxRecDepth 100000
set_option maxHeartbeats 1000000
/-! PxM: what has been is forgotten ahead of the rest of a suite. -/
namespace Pv
open PySem PySem.Spec PyProof.Rows L2 PySem.W
def fgC : Option Cell → Option Cell
  | some (.byr d) => some (.byr d)
  | _ => none
theorem fgC_some {x : Option Cell} {c : Cell} (h : fgC x = some c) : x = some c := by
  unfold fgC at h
  split at h
  · exact h
  · cases h
def sFgt (f : SemS) : SemS := fun ρ => f (ρ.map fgC)
theorem dss_fgt {X : Cx} {sts : List Stmt} {f : SemS} (h : DSs X sts f) : DSs X sts (sFgt f) := by
  refine ⟨h.ps.pvi fun D σ H q => ?_⟩
  obtain ⟨P, W, F, ρ, o, R, e, q⟩ := q
  refine ⟨P, W, F, ρ.map fgC, o, R.fewer (List.length_map _) (fun i c e => ?_) (fun p hp => ?_), e, q⟩
  · rw [List.getElem?_map, Option.map_eq_some_iff] at e
    obtain ⟨x, e1, e2⟩ := e
    rw [e1, fgC_some e2]
  · obtain ⟨_, d, e⟩ := R.pin p hp
    rw [List.getElem?_map, e]
    rfl
namespace Ev
@[scoped simp] theorem sFgt_u (f : SemS) (ρ : Ro) : sFgt f ρ = f (ρ.map fgC) := rfl
@[scoped simp] theorem fgC1 (c : Option D) : fgC (c.map .val) = none := by cases c <;> rfl
@[scoped simp] theorem fgC2 (c : Option D) : fgC (c.map .own) = none := by cases c <;> rfl
@[scoped simp] theorem fgC3 (d : D) : fgC (some (.val d)) = none := rfl
@[scoped simp] theorem fgC4 (d : D) : fgC (some (.own d)) = none := rfl
@[scoped simp] theorem fgC5 (ds : List D) : fgC (some (.scr ds)) = none := rfl
@[scoped simp] theorem fgC6 : fgC none = none := rfl
end Ev
end Pv
end
section
set_option Elab.async false
set_option linter.all false
set_option maxRecDepth 100000
set_option maxHeartbeats 1000000
/-! PxN: tuples of texts of the module, displays of dicts, sep.join(texts). -/
namespace Pv
open PySem PySem.Spec PyProof.Rows L2 PySem.W
/-! ### a name of the module that stands for a tuple of texts -/
def GTup (K : Fr') (mg : Str → Option Value) (x : Str) (ss : List Str) : Prop := ∃ (a : Addr) (o : Obj) (its : Array Value) (n : Nat), mg x = some (.ref a) ∧ K.lookup a = some o ∧ o.cls = .type "tuple" ∧ o.data = .seq its n ∧ its.size ≤ sizeLine ∧ Vals (ss.map V.str) its.toList
section
variable {X : Cx}
theorem de_gtup {x : Str} {pos : Pos} {ss : List Str} (hg : Gl X x) (hm : GTup X.K X.mg x ss) (hd : (x == ("__debug__" : Str)) = false := by decide) : DE X (.Name x pos) (sC (.tuple (ss.map PyData.str))) := by
  obtain ⟨a, o, its, n, hm, hk, hc, hs, hz, rv⟩ := hm
  exact de_c (pe_glob (v := .ref a) hg hm rfl hd) fun F => .tup (.inr ⟨o, its, n, hk, hc, hs, hz, rv⟩) (RpA.ofStrs ss)
end
/-! ### {k: v, ..} -/
def pairL : List (SemE × SemE) → Ro → Option (List (Key × D) × Ro)
  | [], ρ => some ([], ρ)
  | (kf, vf) :: r, ρ => (kf ρ).bind fun (a, ρ1) => (frz ρ1 a).bind fun (kd, ρ2) => (keyOf kd).bind fun k => (vf ρ2).bind fun (b, ρ3) => (frz ρ3 b).bind fun (d, ρ4) => (pairL r ρ4).bind fun (ps, ρ5) => some ((k, d) :: ps, ρ5)
def sDsp (l : List (SemE × SemE)) : SemE := fun ρ => (pairL l ρ).bind fun (ps, ρ1) => some (.fr (.dict (putAll [] ps)), ρ1)
abbrev TPs (K : Fr') (l : List (SemE × SemE)) : List (TE × TE) := l.map fun x => (tD K x.1, tD K x.2)
abbrev PrOk (K : Fr') (F : Hp) (kvs : List (Key × V)) (ps : List (Key × D)) : Prop := Paired (fun (kv : Key × V) (p : Key × D) => kv.1 = p.1 ∧ Rp K F kv.2 p.2) kvs ps
theorem pairL_ok {K : Fr'} {P : List (Nat × Addr)} {W : Hp} {σ : St} : ∀ {l : List (SemE × SemE)} {F H : Hp} {ρ ρ' : Ro} {ps : List (Key × D)} {Qc : List (V × V) → Hp → Prop}, Rel K P W F H σ ρ → pairL l ρ = some (ps, ρ') →
    (∀ kvs H' F', Ext W F F' → Rel K P W F' H' σ ρ' → PrOk K F' kvs ps → Qc (kvs.map fun kv => (kV kv.1, kv.2)) H') → tPairs (TPs K l) σ H Qc
  | [], F, H, ρ, ρ', ps, Qc, R, e, q => by
    cases e
    exact q [] H F (Ext.refl _ _) R .nil
  | (kf, vf) :: r, F, H, ρ, ρ', ps, Qc, R, e, q => by
    simp only [pairL, Option.bind_eq_some_iff, Prod.exists] at e
    obtain ⟨a, ρ1, e1, kd, ρ2, e2, k, e3, b, ρ3, e4, d, ρ4, e5, ps', ρ5, e6, e7⟩ := e
    cases e7
    refine ⟨P, W, F, ρ, a, ρ1, R, e1, fun v H1 F1 x1 R1 o1 => ?_⟩
    obtain ⟨F2, x2, R2, rk⟩ := R1.frz o1 e2
    have hv : v = kV k := keyOf_kV (F := F2) (H := H1) (.inl rk) e3
    subst hv
    refine ⟨P, W, F2, ρ2, b, ρ3, R2, e4, fun u H3 F3 x3 R3 o3 => ?_⟩
    obtain ⟨F4, x4, R4, ru⟩ := R3.frz o3 e5
    refine pairL_ok R4 e6 fun kvs H' F' x R' pr => ?_
    exact q ((k, u) :: kvs) H' F' ((((x1.trans x2).trans x3).trans x4).trans x) R' (.cons ⟨rfl, ru.mono (Le.of x.same)⟩ pr)
theorem pairL_len : ∀ {l : List (SemE × SemE)} {ρ ρ' : Ro} {ps : List (Key × D)}, pairL l ρ = some (ps, ρ') → ps.length = l.length
  | [], ρ, ρ', ps, e => by cases e; rfl
  | (kf, vf) :: r, ρ, ρ', ps, e => by
    simp only [pairL, Option.bind_eq_some_iff, Prod.exists] at e
    obtain ⟨a, ρ1, e1, kd, ρ2, e2, k, e3, b, ρ3, e4, d, ρ4, e5, ps', ρ5, e6, e7⟩ := e
    cases e7
    simp [pairL_len e6]
structure DPs (X : Cx) (pos : Pos) (keys : List (Option Expr)) (values : List Expr) (l : List (SemE × SemE)) : Prop where
  pp : PPs X pos keys values (TPs X.K l)
section
variable {X : Cx} {pos : Pos}
theorem dps_nil : DPs X pos [] [] [] := ⟨pps_nil⟩
theorem dps_cons {k v : Expr} {ks : List (Option Expr)} {vs : List Expr} {f g : SemE} {l : List (SemE × SemE)} (hk : DE X k f) (hv : DE X v g) (hr : DPs X pos ks vs l) : DPs X pos (some k :: ks) (v :: vs) ((f, g) :: l) := ⟨pps_cons hk.pe hv.pe hr.pp⟩
theorem paired_len {α β : Type} {R : α → β → Prop} : ∀ {xs : List α} {ys : List β}, Paired R xs ys → xs.length = ys.length
  | _, _, .nil => rfl
  | _, _, .cons _ t => congrArg (· + 1) (paired_len t)
theorem de_dsp {keys : List (Option Expr)} {values : List Expr} {l : List (SemE × SemE)} (h : DPs X pos keys values l) (h15 : l.length ≤ 15) (hk : keys.length ≤ 15) (hall : keys.all (·.isSome) = true) (hl : keys.length = values.length) (h0 : keys ≠ []) :
    DE X (.Dict keys values pos) (sDsp l) := by
  refine ⟨(pe_disp h.pp hall hl h0 hk).pvi fun σ H Q q => ?_⟩
  obtain ⟨P, W, F, ρ, r, ρ', R, e, q⟩ := q
  simp only [sDsp, Option.bind_eq_some_iff, Prod.exists] at e
  obtain ⟨ps, ρ1, e1, e2⟩ := e
  cases e2
  intro p hp
  have hW : W p = Option.none := by
    cases e : W p with
    | none => rfl
    | some u => have := R.wh p u e; rw [hp] at this; cases this
  have hF := R.fh.none hp
  have R1 := R.grow (Grow.heap R.fh hp (.dK []))
  have R2 : Rel X.K P (upd W p (.dK [])) F (upd H p (.dK [])) σ ρ := by
    refine R1.protect upd_same hF fun i c e ow es => ?_
    obtain ⟨v, hv, hk⟩ := R.cell i c e
    rw [es] at hv; cases hv
    cases c with
    | val d => cases ow
    | own d => obtain ⟨b, eb, _, _, o⟩ := hk; cases eb; rw [hp] at o; exact o
    | byr d => obtain ⟨b, eb, _, _, o⟩ := hk; cases eb; rw [hp] at o; exact o
    | scr ds => cases ow
  refine pairL_ok R2 e1 fun kvs H2 F2 x R3 pr => ?_
  have hF2 : F2 p = Option.none := by rw [x.off p (by rw [upd_same]; exact fun z => nomatch z)]; exact hF
  refine ⟨R3.wh p _ upd_same, kvs, rfl, by rw [paired_len pr, pairL_len e1]; exact h15, ?_⟩
  have R4 := R3.kept (o' := .dK (mergeK [] kvs)) hF2
  have own : OwnO X.K F2 ((upd H2 p (.dK (mergeK [] kvs))) p) (.dict (putAll [] ps)) := by
    rw [upd_same]
    exact put_rp pr .nil
  exact q _ _ F2 x.un (R4.unprotect hW) ⟨⟨p, rfl, hW, hF2, own⟩, R4.noown⟩
end
/-! ### sep.join(texts) -/
def joinF (a : Str) : D → Option D
  | .list ds => (asStrs ds).bind fun ys => if (ys.map (·.length)).sum + ys.length * a.length ≤ 16777216 then some (.str (Txt.join a ys)) else none
  | _ => none
def sJoin (a : Str) (g : SemE) : SemE := fun ρ => (g ρ).bind fun (r, ρ1) => (look ρ1 (settle r)).bind fun d => (joinF a d).bind fun z => some (.val z, ρ1)
theorem de_join {X : Cx} {a : Str} {o e : Expr} {g : SemE} {apos pos : Pos} (ho : DE X o (sC (.str a))) (he : DE X e g) (hs : starEach [e] X.env = [(false, eval e X.env)] := by rfl) (hbase : attributeBase o "join" X.env (eval o X.env) = eval o X.env := by rfl) (hline : (apos.endLine == pos.line) = true := by rfl) :
    DE X (.Call (.Attribute o "join" apos) [e] [] pos) (sJoin a g) := by
  refine ⟨(pe_join ho.pe he.pe hs hbase hline).pvi fun σ H Q q => ?_⟩
  obtain ⟨P, W, F, ρ, r, ρ', R, e, q⟩ := q
  simp only [sJoin, Option.bind_eq_some_iff, Prod.exists] at e
  obtain ⟨r1, ρ1, e1, d, e2, z, e3, e4⟩ := e
  cases e4
  refine ⟨P, W, F, ρ, .val (.str a), ρ, R, rfl, fun v H1 F1 x1 R1 o1 => ?_⟩
  have hv : v = .str a := by cases o1; rfl
  subst hv
  refine ⟨⟨a, rfl⟩, P, W, F1, ρ, r1, _, R1, e1, fun y H2 F2 x2 R2 o2 => ?_⟩
  obtain ⟨F3, x3, R3, o3⟩ := R2.settle o2
  have lk := R3.lk o3 e2
  unfold joinF at e3
  split at e3
  case h_2 => cases e3
  rename_i ds
  simp only [Option.bind_eq_some_iff] at e3
  obtain ⟨ys, ey, e3⟩ := e3
  split at e3
  case isFalse => cases e3
  rename_i hz
  cases e3
  obtain ⟨b, xs, rfl, hb, ra⟩ := lk.list R3.fh
  have ed := asStrs_eq ey
  have exs := RpA.strsOf ra ed
  subst exs
  exact ⟨a, b, ys, rfl, rfl, .inl (.inl (.inl hb)), hz, q _ H2 F3 ((x1.trans x2).trans x3) R3 (.str _)⟩
namespace Ev
section
variable (ρ : Ro) (a : Str) (g : SemE) (ys : List Str)
@[scoped simp] theorem sJoin_u : sJoin a g ρ = bd (g ρ) fun x => bd (look x.2 (settle x.1)) fun d => bd (joinF a d) fun z => some (.val z, x.2) := rfl
theorem joinF_s (h : (ys.map (·.length)).sum + ys.length * a.length ≤ 16777216) : joinF a (.list (ys.map .str)) = some (.str (Txt.join a ys)) := by
  simp only [joinF, asStrs_map, Option.bind_some, if_pos h]
@[scoped simp] theorem sDsp_u (l : List (SemE × SemE)) : sDsp l ρ = bd (pairL l ρ) fun x => some (.fr (.dict (putAll [] x.1)), x.2) := rfl
@[scoped simp] theorem pairL0 : pairL [] ρ = some ([], ρ) := rfl
@[scoped simp] theorem pairL1 (kf vf : SemE) (r : List (SemE × SemE)) : pairL ((kf, vf) :: r) ρ = bd (kf ρ) fun a => bd (frz a.2 a.1) fun kd => bd (keyOf kd.1) fun k => bd (vf kd.2) fun b => bd (frz b.2 b.1) fun d => bd (pairL r d.2) fun y => some ((k, d.1) :: y.1, y.2) := rfl
end
end Ev
end Pv
end
section
set_option Elab.async false
set_option linter.all false
set_option autoImplicit false
set_option maxRecDepth 100000
set_option maxHeartbeats 1000000
/-! PxQ: `y = [.. for x in ..]` on one line, where x stands for something already. -/
namespace Pv
open PySem PySem.Spec PyProof.Rows L2 PySem.W
section
variable {X : Cx}
theorem ds_setLcS {i : Nat} {y : Str} {py : Pos} {elt tg iter : Expr} {ifs : List Expr} {scope : Scope} {own : List (Str × Nat)} {pos spos : Pos} {it : SemI} {g : SemG} {t : SemT} {el : SemE} {us : List Nat} (hy : X.N[i]? = some y) (hyl : X.env.scope.names.lookup y = some .local)
    (hsw : swapsWith (.ListComp elt [⟨tg, iter, ifs, 0⟩] scope pos) (some (.Name y py)) spos.line X.env = pure true) (hi : DI X tg iter it) (ok : BlkOk X.N X.env.scope scope own)
    (hg : ∀ (s : Shared) (H : Hp) (C : Addr) (cl : List (Str × Addr)) (fp : List Addr), DG (X.blk s H scope (compEnvC scope cl C X.env) fp) tg us g) (ht : ∀ (s : Shared) (H : Hp) (C : Addr) (cl : List (Str × Addr)) (fp : List Addr), DTs (X.blk s H scope (compEnvC scope cl C X.env) fp) ifs t)
    (he : ∀ (s : Shared) (H : Hp) (C : Addr) (cl : List (Str × Addr)) (fp : List Addr), DE (X.blk s H scope (compEnvC scope cl C X.env) fp) elt el) (hu : ∀ i ∈ us, i ∈ own.map (·.2)) (hc : X.calm = true) (hN : X.N.Nodup) (hs : ∀ x, foldedSetIterable iter X.env x = pure x := by intro _; rfl) :
    DS X (.Assign [.Name y py] (.ListComp elt [⟨tg, iter, ifs, 0⟩] scope pos) spos) (sSet i (sLcS g t el (own.map (·.2)) it)) :=
  ds_set ((ps_setLc (g := tDG X.K us g) (tt := tDT X.K t) (te := tD X.K el) hc hN hy hyl hsw (di_iW (vs := own.map (·.2)) hi).pi ok (fun s H C cl fp => (hg s H C cl fp).pg) (fun s H C cl fp => (ht s H C cl fp).pt) (fun s H C cl fp => (he s H C cl fp).pe) hs).pvi fun D σ H q => sLc_ok hu (sLcS_ok q))
end
end Pv
end
section
set_option Elab.async false
set_option linter.all false
set_option autoImplicit false
set_option maxRecDepth 100000
set_option maxHeartbeats 1000000
/-! PxR: `a or b` as a value, by truth of any value. -/
namespace Pv
open PySem PySem.Spec PyProof.Rows L2 PySem.W
def sOrG (f g : SemE) : SemE := fun ρ => (f ρ).bind fun x => (look x.2 x.1).bind fun d => (truth d).bind fun b => if b = true then some (x.1, x.2) else g x.2
section
variable {X : Cx}
theorem de_orG {a b : Expr} {rest : List Expr} {f g : SemE} {pos : Pos} (h : DE X a f) (k : DE X (.BoolOp .Or (b :: rest) pos) g) : DE X (.BoolOp .Or (a :: b :: rest) pos) (sOrG f g) := by
  refine ⟨(pe_orT h.pe k.pe).pvi fun σ H Q q => ?_⟩
  obtain ⟨P, W, F, ρ, r, ρ', R, e, q⟩ := q
  simp only [sOrG, Option.bind_eq_some_iff, Prod.exists] at e
  obtain ⟨r1, ρ1, e1, d, e2, b, e3, e4⟩ := e
  refine ⟨P, W, F, ρ, r1, ρ1, R, e1, fun v H1 F1 x1 R1 o1 => ⟨b, tru_lk R1.fh (R1.lk o1 e2) e3, ?_⟩⟩
  cases b with
  | true =>
    simp only [if_true] at e4 ⊢
    cases e4
    exact q v H1 F1 x1 R1 o1
  | false =>
    simp only [Bool.false_eq_true, if_false] at e4 ⊢
    exact ⟨P, W, F1, ρ1, r, ρ', R1, e4, fun v2 H2 F2 x2 R2 o => q v2 H2 F2 (x1.trans x2) R2 o⟩
end
namespace Ev
section
variable (f g : SemE) (ρ : Ro)
@[scoped simp] theorem sOrG_u : sOrG f g ρ = bd (f ρ) fun x => bd (look x.2 x.1) fun d => bd (truth d) fun b => if b = true then some (x.1, x.2) else g x.2 := rfl
end
end Ev
end Pv
end
section
set_option Elab.async false
set_option linter.all false
set_option autoImplicit false
set_option maxRecDepth 100000
set_option maxHeartbeats 1000000
/-! PzA: exceptions: raise, defs that may raise, their calls, try .. except. -/
namespace Pv
open PySem PySem.Spec PyProof.Rows L2 PySem.W
inductive OutX
  | ok (o : Out)
  | er (x : Str) (ρ : Ro)
abbrev SemX := Ro → Option OutX
inductive ROx
  | ok (r : Rv) (ρ : Ro)
  | er (x : Str) (ρ : Ro)
abbrev SemEX := Ro → Option ROx
inductive ResX
  | ok (z : (D × Bool) × List D)
  | er (x : Str)
abbrev FnX := List D → Option ResX
def OutQX (K : Fr') (mg : Str → Option Value) (P : List (Nat × Addr)) (W F : Hp) (D : Ends) (E : WX) : OutX → Prop
  | .ok o => OutQ K P W F D o
  | .er x ρ => ∀ C σ H F', mg x = some (.ref C) → Ext W F F' → Rel K P W F' H σ ρ → E (.ref C) none σ H
theorem OutQX.ext {K : Fr'} {mg : Str → Option Value} {P : List (Nat × Addr)} {W F F1 : Hp} {D : Ends} {E : WX} {o : OutX} (h : OutQX K mg P W F D E o) (x : Ext W F F1) : OutQX K mg P W F1 D E o := by
  cases o with
  | ok o => exact OutQ.ext h x
  | er y ρ => exact fun C σ H F' m e R => h C σ H F' m (x.trans e) R
def tDX (K : Fr') (mg : Str → Option Value) (E : WX) (f : SemX) : TS := fun D σ H => ∃ P W F ρ o, Rel K P W F H σ ρ ∧ f ρ = some o ∧ OutQX K mg P W F D E o
structure DX (X : Cx) (E : WX) (st : Stmt) (f : SemX) : Prop where
  ps : PS X st (tDX X.K X.mg E f)
structure DXs (X : Cx) (E : WX) (st : List Stmt) (f : SemX) : Prop where
  ps : PSs X st (tDX X.K X.mg E f)
def REx (K : Fr') (mg : Str → Option Value) (E : WX) (P : List (Nat × Addr)) (W F : Hp) (σ : St) (Q : VK) : ROx → Prop
  | .ok r ρ' => ∀ v H' F', Ext W F F' → Rel K P W F' H' σ ρ' → RvOk K W F' H' σ ρ' r v → Q v H'
  | .er x ρ' => ∀ C H' F', mg x = some (.ref C) → Ext W F F' → Rel K P W F' H' σ ρ' → E (.ref C) none σ H'
def tDXE (K : Fr') (mg : Str → Option Value) (E : WX) (f : SemEX) : TE := fun σ H Q => ∃ P W F ρ o, Rel K P W F H σ ρ ∧ f ρ = some o ∧ REx K mg E P W F σ Q o
structure DXE (X : Cx) (E : WX) (e : Expr) (f : SemEX) : Prop where
  pe : PE X e (tDXE X.K X.mg E f)
theorem ps_nox {X : Cx} {st : Stmt} {t : TS} (h : PS X.nox st t) : PS X st t := ⟨fun pins s σ H D I hw =>
  wpAny_mono (h.run pins s σ H D (I.wish _) hw) (fun _ _ q => q.unwish) fun _ _ z => False.elim z⟩
section
variable {X : Cx} {E : WX}
/-! ### blocks -/
def xOk (f : SemS) : SemX := fun ρ => (f ρ).bind fun o => some (.ok o)
def thenX : OutX → SemX → Option OutX
  | .ok (.nx ρ), g => g ρ
  | o, _ => some o
def xSeq (f g : SemX) : SemX := fun ρ => (f ρ).bind fun o => thenX o g
def xNx : SemX := fun ρ => some (.ok (.nx ρ))
theorem dx_of {st : Stmt} {f : SemS} (h : DS X.nox st f) : DX X E st (xOk f) := ⟨(ps_nox h.ps).pvi fun D σ H q => by
  obtain ⟨P, W, F, ρ, o, R, e, q⟩ := q
  simp only [xOk, Option.bind_eq_some_iff] at e
  obtain ⟨o1, e1, e2⟩ := e
  cases e2
  exact ⟨P, W, F, ρ, o1, R, e1, q⟩⟩
theorem dxs_nil : DXs X E [] xNx := ⟨pss_nil.pvi fun D σ H ⟨P, W, F, ρ, o, R, e, q⟩ => by cases e; exact q σ H F (Ext.refl _ _) R⟩
theorem dxs_one {st : Stmt} {f : SemX} (h : DX X E st f) : DXs X E [st] f := ⟨pss_one h.ps⟩
theorem dxs_cons {st : Stmt} {rest : List Stmt} {f g : SemX} (h : DX X E st f) (k : DXs X E rest g) : DXs X E (st :: rest) (xSeq f g) := by
  refine ⟨(pss_cons h.ps k.ps).pvi fun D σ H q => ?_⟩
  obtain ⟨P, W, F, ρ, o, R, e, q⟩ := q
  simp only [xSeq, Option.bind_eq_some_iff] at e
  obtain ⟨o1, e1, e2⟩ := e
  refine ⟨P, W, F, ρ, o1, R, e1, ?_⟩
  cases o1 with
  | er y ρ1 => cases e2; exact q
  | ok o1 =>
    cases o1 with
    | nx ρ1 => exact fun σ1 H1 F1 x1 R1 => ⟨P, W, F1, ρ1, o, R1, e2, q.ext x1⟩
    | bk ρ1 => cases e2; exact q
    | ct ρ1 => cases e2; exact q
    | rt r ρ1 => cases e2; exact q
def xIf (c : SemT) (f g : SemX) : SemX := fun ρ => (c ρ).bind fun x => if x.1 = true then f x.2 else g x.2
theorem dx_if {c : Expr} {a b : List Stmt} {h : SemT} {f g : SemX} {pos : Pos} (hc : DT X.nox c h) (ha : DXs X E a f) (hb : DXs X E b g) : DX X E (.If c a b pos) (xIf h f g) := by
  refine ⟨(ps_if hc.pt.nox ha.ps hb.ps).pvi fun D σ H q => ?_⟩
  obtain ⟨P, W, F, ρ, o, R, e, q⟩ := q
  simp only [xIf, Option.bind_eq_some_iff, Prod.exists] at e
  obtain ⟨b, ρ1, e1, e2⟩ := e
  refine ⟨P, W, F, ρ, b, ρ1, R, e1, fun H1 F1 x1 R1 => ?_⟩
  cases b with
  | true =>
    simp only [if_true] at e2 ⊢
    exact ⟨P, W, F1, ρ1, o, R1, e2, q.ext x1⟩
  | false =>
    simp only [Bool.false_eq_true, if_false] at e2 ⊢
    exact ⟨P, W, F1, ρ1, o, R1, e2, q.ext x1⟩
/-! ### raise -/
/-- a class of the program over ValueError, without __init__ -/
structure ClsF (K : Fr') (mg : Str → Option Value) (x : Str) : Prop where
  ex : ∃ C, mg x = some (.ref C) ∧ PySem.W.excIn K C [.type "ValueError", .type "Exception", .type "BaseException", .type "object"] "ValueError.__new__" = true ∧ PySem.W.keepIn K (.ref C) = true ∧
    PySem.W.subIn K (.ref C) (.type "BaseException") = some true ∧ PySem.W.typeIn K (.ref C) = some (.type "type") ∧ PySem.W.exmOne K (.ref C) (.ref C) = some true
def xRaise (x : Str) : SemX := fun ρ => some (.er x ρ)
theorem dx_raise {x m : Str} {j : Nat} {p p2 pos pos2 : Pos} (hc : X.calm = true) (tk : Takes X E) (c : ClsF X.K X.mg x) (hg : Gl X x) (hdb : (x == ("__debug__" : Str)) = false := by decide) :
    DX X E (.Raise (some (.Call (.Name x p) [.Constant (.str m) j p2] [] pos)) none pos2) (xRaise x) := by
  obtain ⟨C, hm, h1, h2, h3, h4, _⟩ := c.ex
  refine ⟨(ps_raise hc tk (pmk_own PySem.F.excBase_ValueError h1 hm h2 (raises_own h3 h4) hg hdb)).pvi fun D σ H q => ?_⟩
  obtain ⟨P, W, F, ρ, o, R, e, q⟩ := q
  cases e
  exact q C σ H F hm (Ext.refl _ _) R
/-! ### what an expression that may raise is for -/
def xSet (i : Nat) (f : SemEX) : SemX := fun ρ => (f ρ).bind fun o => match o with
  | .ok r ρ1 => (store i r ρ1).bind fun ρ2 => some (.ok (.nx ρ2))
  | .er x ρ1 => some (.er x ρ1)
def xExpr (f : SemEX) : SemX := fun ρ => (f ρ).bind fun o => match o with
  | .ok _ ρ1 => some (.ok (.nx ρ1))
  | .er x ρ1 => some (.er x ρ1)
def xRet (f : SemEX) : SemX := fun ρ => (f ρ).bind fun o => match o with
  | .ok r ρ1 => some (.ok (.rt r ρ1))
  | .er x ρ1 => some (.er x ρ1)
theorem dx_set {i : Nat} {x : Str} {e : Expr} {f : SemEX} {pos pos' : Pos} (hN : X.N.Nodup) (hi : X.N[i]? = some x) (hx : Loc X.env.scope x) (he : DXE X E e f) (hs : swapsWith e (some (.Name x pos')) pos.line X.env = pure false := by rfl)
    (hf : X.fn x = true ∨ X.env.scope.names.lookup x = some .local := by first | exact .inl rfl | exact .inr rfl | assumption) : DX X E (.Assign [.Name x pos'] e pos) (xSet i f) := by
  refine ⟨(ps_set hN hi hx he.pe hs hf).pvi fun D σ H q => ?_⟩
  obtain ⟨P, W, F, ρ, o, R, e, q⟩ := q
  simp only [xSet, Option.bind_eq_some_iff] at e
  obtain ⟨o1, e1, e2⟩ := e
  refine ⟨P, W, F, ρ, o1, R, e1, ?_⟩
  cases o1 with
  | er y ρ1 =>
    cases e2
    exact fun C H1 F1 m x1 R1 => q C σ H1 F1 m x1 R1
  | ok r ρ1 =>
    simp only [Option.bind_eq_some_iff] at e2
    obtain ⟨ρ2, e3, e4⟩ := e2
    cases e4
    intro v H1 F1 x1 R1 o1
    obtain ⟨F2, x2, R2⟩ := R1.store o1 e3
    exact q _ H1 F2 (x1.trans x2) R2
theorem dx_expr {e : Expr} {f : SemEX} {pos : Pos} (he : DXE X E e f) (hs : swapsWith e none pos.line X.env = pure false := by rfl) : DX X E (.Expr e pos) (xExpr f) := by
  refine ⟨(ps_expr he.pe hs).pvi fun D σ H q => ?_⟩
  obtain ⟨P, W, F, ρ, o, R, e, q⟩ := q
  simp only [xExpr, Option.bind_eq_some_iff] at e
  obtain ⟨o1, e1, e2⟩ := e
  refine ⟨P, W, F, ρ, o1, R, e1, ?_⟩
  cases o1 with
  | er y ρ1 => cases e2; exact fun C H1 F1 m x1 R1 => q C σ H1 F1 m x1 R1
  | ok r ρ1 => cases e2; exact fun v H1 F1 x1 R1 o1 => q σ H1 F1 x1 R1
theorem dx_ret {e : Expr} {f : SemEX} {pos : Pos} (he : DXE X E e f) : DX X E (.Return (some e) pos) (xRet f) := by
  refine ⟨(ps_ret he.pe).pvi fun D σ H q => ?_⟩
  obtain ⟨P, W, F, ρ, o, R, e, q⟩ := q
  simp only [xRet, Option.bind_eq_some_iff] at e
  obtain ⟨o1, e1, e2⟩ := e
  refine ⟨P, W, F, ρ, o1, R, e1, ?_⟩
  cases o1 with
  | er y ρ1 => cases e2; exact fun C H1 F1 m x1 R1 => q C σ H1 F1 m x1 R1
  | ok r ρ1 => cases e2; exact fun v H1 F1 x1 R1 o1 => q v σ H1 F1 x1 R1 o1
/-! ### try .. except -/
def sTry (b : SemX) (x : Str) (h : SemS) : SemS := fun ρ => (b ρ).bind fun o => match o with
  | .ok o => some o
  | .er y ρ1 => if y = x then h ρ1 else none
theorem takesF : Takes X (fun _ _ _ _ => False) := fun _ _ x => by
  obtain ⟨_, _, _, _, _, _, _, _, _, _, _, _, _, _, _, _, z⟩ := x
  exact z.elim
theorem ds_try {x : Str} {body suite : List Stmt} {b₀ : Stmt} {np pos pos' : Pos} {b : SemX} {h : SemS} (hs : X.stack = X.env :: X.outer) (hf : X.env.frame = some X.env.locals) (c : ClsF X.K X.mg x) (hg : Gl X x)
    (hb : ∀ (E : WX) (pn : List (Addr × Obj)) (xe : Value → Shared → Prop), Takes (X.tr pn xe) E → DXs (X.tr pn xe) E body b)
    (hsu : ∀ (a : Addr) (pn : List (Addr × Obj)), DSs (X.suite a pn) (b₀ :: suite) h) (hdb : (x == ("__debug__" : Str)) = false := by decide) :
    DS X (.Try body [.ExceptHandler (some (.Name x np)) none (b₀ :: suite) pos'] [] [] pos) (sTry b x h) := by
  obtain ⟨C, hm, _, _, _, _, ex⟩ := c.ex
  refine ⟨(ps_try_only (tb := fun W => tDX X.K X.mg W b) (ts := fun _ _ _ => tDS X.K h) hs hf ⟨hg, hdb, .inl hm⟩ takesF (fun W pn xe tk _ => (hb W pn xe tk).ps) fun a oe cls d pn _ _ => (hsu a _).ps).pvi fun D σ H q => ?_⟩
  obtain ⟨P, W, F, ρ, o, R, e, q⟩ := q
  simp only [sTry, Option.bind_eq_some_iff] at e
  obtain ⟨o1, e1, e2⟩ := e
  refine ⟨P, W, F, ρ, o1, R, e1, ?_⟩
  cases o1 with
  | ok o1 => cases e2; exact q
  | er y ρ1 =>
    simp only at e2
    split at e2
    · rename_i hy
      subst hy
      intro C' σ1 H1 F1 m x1 R1
      rw [hm] at m
      cases m
      exact ⟨true, ex, fun _ a ha => ⟨P, W, F1, ρ1, o, R1, e2, q.ext x1⟩, fun z => nomatch z⟩
    · cases e2
end
/-! ### defs that may raise -/
def spX (K : Fr') (mg : Str → Option Value) (ms : List Md) (fn : FnX) : Sp := fun vs H Q E => ∃ W F ds r, Le F H ∧ Same W H ∧ Dis W F ∧ ArgsOk K W F H ms vs ds ∧ fn ds = some r ∧ match r with
  | .ok z => ∀ v H' F', Ext W F F' → Le F' H' → Same W H' → Paired (OwnV K W F' H') (rvals ms vs) z.2 → ResOk K W F' H' (rvals ms vs) z.1 v → Q v H'
  | .er x => ∀ C H' F', mg x = some (.ref C) → Ext W F F' → Le F' H' → Same W H' → E (.ref C) none H'
abbrev FnDX (P : Program) (w : World) (K : Fr') (mg : Str → Option Value) (base : Heap) (k : Nat) (f : Addr) (fd : FuncData) (ps : List Str) (ms : List Md) (fn : FnX) : Prop := FnG P w K mg base (L2.CX P w) k f fd ps (spX K mg ms fn)
structure CalX (P : Program) (w : World) (K : Fr') (mg : Str → Option Value) (base : Heap) (x : Str) (k : Nat) (ps : List Str) (ms : List Md) (fn : FnX) : Prop where
  ex : ∃ f fd, FnDX P w K mg base k f fd ps ms fn ∧ Binds K fd ps [] ∧ PySem.W.keepIn K (.ref f) = true ∧ mg x = some (.ref f)
def endX (ms : List Md) : OutX → Option ResX
  | .ok o => (endOf ms o).bind fun z => some (.ok z)
  | .er x _ => some (.er x)
def fnX (n : Nat) (ms : List Md) (b : SemX) : FnX := fun ds => (cells ms ds).bind fun cs => (b (cs ++ List.replicate (n - ms.length) none)).bind (endX ms)
section
variable {P : Program} {w : World} {K : Fr'} {mg : Str → Option Value} {base : Heap}
theorem fnX_of {x qual : Str} {st : Stmt} {f : Addr} {fd : FuncData} {N ps : List Str} {k : Nat} {ms : List Md} {b : SemX} (F : Fun K x qual st f fd) (S : FnScope N ps (defScope st)) (hl : ps.length = ms.length)
    (hbody : ∀ (cdv : Value) (A : Around) (outer : List Env) (s : Shared) (H : Hp) (E : XK), Room k (A.deeper (envOfC qual (defScope st) s.heap.objs.size f cdv)) → A.guards = some [] →
      DXs (cxOf (L2.CX P w) P w K mg base N qual (defScope st) f cdv A outer s H E) (fun cls d _ H => E cls d H) (defBody st) b) :
    FnDX P w K mg base (k + 1) f fd ps ms (fnX N.length ms b) := by
  refine fnG_of F S (fun vs H Q E h => ?_) (fun cdv A outer s H vs Q E hr gd h => ?_)
  · obtain ⟨W, F', ds, r, _, _, _, a, _⟩ := h
    rw [args_len a, hl]
  refine ⟨_, (hbody cdv A outer s H E hr gd).ps, ?_⟩
  obtain ⟨W, F', ds, r, hF, hW, hD, a, e, q⟩ := h
  simp only [fnX, Option.bind_eq_some_iff] at e
  obtain ⟨cs, e1, o, e2, e3⟩ := e
  have R0 := rel_start (k := N.length - ms.length) hF hW hD a e1
  refine ⟨pinsOf 0 ms vs, W, F', _, o, ?_, e2, ?_⟩
  · show Rel K _ W F' H (L2.start N vs) _
    unfold L2.start
    rw [args_len a]
    exact R0
  · cases o with
    | er y ρ =>
      cases e3
      exact fun C σ H1 F1 m x1 R1 => q C H1 F1 m x1 R1.fh R1.wh
    | ok o =>
      simp only [endX, Option.bind_eq_some_iff] at e3
      obtain ⟨z0, e3, e5⟩ := e3
      cases e5
      cases o with
      | bk ρ => cases e3
      | ct ρ => cases e3
      | nx ρ =>
        simp only [endOf, Option.bind_eq_some_iff] at e3
        obtain ⟨bs', e4, e5⟩ := e3
        cases e5
        exact fun σ H1 F1 x1 R1 => q _ H1 F1 x1 R1.fh R1.wh (backs_ok R1 0 a (fun p hp => hp) e4) .non
      | rt r ρ =>
        simp only [endOf, Option.bind_eq_some_iff] at e3
        obtain ⟨z', e4, bs', e5, e6⟩ := e3
        cases e6
        refine fun v σ H1 F1 x1 R1 o1 => q v H1 F1 x1 R1.fh R1.wh (backs_ok R1 0 a (fun p hp => hp) e5) ?_
        cases r with
        | val d => cases e4; exact o1
        | «at» i => cases e4
        | fr d =>
          cases e4
          refine ⟨o1.1, fun hm => ?_⟩
          obtain ⟨b, i, rfl, hp⟩ := rvals_pin 0 a hm
          obtain ⟨h1, d', h2⟩ := R1.pin _ hp
          exact o1.2 i _ h2 rfl h1
theorem CalX.mk_ {x : Str} {k : Nat} {ps N : List Str} {ms : List Md} {b : SemX} {st : Stmt} (h : Here K mg x st) (S : FnScope N ps (defScope st)) (hl : ps.length = ms.length)
    (hb : ∀ (kV doc pm : Value) (an : Option Addr) (cdv ct : Value) (us : List Value), us.length = ps.length → bindArgs (PySem.W.fnOf x x (defArgs st) (defBody st) (defScope st) .none kV doc pm an cdv ct) ⟨us, []⟩ = pure (ps.zip us))
    (hbody : ∀ (f : Addr) (cdv : Value) (A : Around) (outer : List Env) (s : Shared) (H : Hp) (E : XK), Room k (A.deeper (envOfC x (defScope st) s.heap.objs.size f cdv)) → A.guards = some [] →
      DXs (cxOf (L2.CX P w) P w K mg base N x (defScope st) f cdv A outer s H E) (fun cls d _ H => E cls d H) (defBody st) b) :
    CalX P w K mg base x (k + 1) ps ms (fnX N.length ms b) := by
  obtain ⟨f, fd, F, m⟩ := h.ex
  exact ⟨⟨f, fd, fnX_of F S hl (hbody f), F.binds hb, F.kp, m⟩⟩
end
/-! ### their calls -/
def sCallX (ms : List Md) (fn : FnX) (f : SemM) : SemEX := fun ρ => (f ρ).bind fun x => if (mIdx ms x.1).Nodup then (mData x.2 ms x.1).bind fun ds => (fn ds).bind fun z => match z with
  | .ok z => some (.ok (mkR z.1) (mBack x.2 ms x.1 z.2))
  | .er y => if (ms.all fun m => decide (m = .v)) = true then some (.er y (mBack x.2 ms x.1 [])) else none else none
theorem rvals_nil : ∀ {ms : List Md} {vs : List V}, (ms.all fun m => decide (m = .v)) = true → rvals ms vs = []
  | [], _, _ => by unfold rvals; rfl
  | .v :: ms, [], h => by unfold rvals; rfl
  | .v :: ms, v :: vs, h => by
    simp only [List.all_cons, Bool.and_eq_true] at h
    unfold rvals
    exact rvals_nil h.2
  | .r :: ms, _, h => by simp at h
  | .s :: ms, _, h => by simp at h
theorem sCallX_ok {K : Fr'} {mg : Str → Option Value} {E : WX} {ms : List Md} {fn : FnX} {f : SemM} {σ : St} {H : Hp} {Q : VK} (q : tDXE K mg E (sCallX ms fn f) σ H Q) : tDM K ms f σ H fun vs H1 => spX K mg ms fn (vs ++ []) H1 Q (WE E σ) := by
  obtain ⟨P, W, F, ρ, o, R, e, q⟩ := q
  simp only [sCallX, Option.bind_eq_some_iff, Prod.exists] at e
  obtain ⟨rs, ρ1, e1, e2⟩ := e
  split at e2
  case isFalse => cases e2
  rename_i nd
  simp only [Option.bind_eq_some_iff] at e2
  obtain ⟨ds, e3, z, e4, e5⟩ := e2
  refine ⟨P, W, F, ρ, rs, ρ1, R, e1, fun vs H1 F1 x1 R1 m => ?_⟩
  show spX K mg ms fn (vs ++ []) H1 Q (WE E σ)
  rw [List.append_nil]
  refine ⟨keepW W H1 σ ρ1 (rvals ms vs), F1, ds, z, R1.fh, keepW_same R1.wh, keepW_dis R1, mok_args R1 _ m e3 nd fun a ha => keepW_rv ha, e4, ?_⟩
  cases z with
  | er y =>
    simp only at e5
    split at e5
    case isFalse => cases e5
    rename_i hv
    cases e5
    intro C H' F' hm x l s
    have rn : rvals ms vs = [] := rvals_nil hv
    exact q C H' F' hm (x1.trans (keepW_ext R1.wh x)) (rel_back R1 m e3 nd x l s (by rw [rn]; exact .nil))
  | ok z =>
    obtain ⟨⟨z, b⟩, bs⟩ := z
    cases e5
    intro v H' F' x l s p res
    have R2 := rel_back R1 m e3 nd x l s p
    refine q v H' F' (x1.trans (keepW_ext R1.wh x)) R2 ?_
    cases b with
    | false => exact res
    | true =>
      obtain ⟨⟨a, ea, hw, hf, o⟩, hn⟩ := res
      subst ea
      obtain ⟨h1, h2⟩ := keepW_none R1 hw
      refine ⟨⟨a, rfl, h1, hf, o⟩, fun i c hc ow es => ?_⟩
      have : ∃ c', ρ1[i]? = some (some c') ∧ c'.owned = true := by
        rcases mBack_get m e3 nd p i c hc with ⟨v, b, hj, hv, t, q⟩ | ⟨hj, q⟩
        · rcases q with ⟨_, d, q⟩ | ⟨_, d, q⟩
          · exact ⟨_, q, rfl⟩
          · exact ⟨_, q, rfl⟩
        · exact ⟨c, q, ow⟩
      obtain ⟨c', hc', ow'⟩ := this
      exact hn (h2 ⟨i, c', hc', ow', es⟩)
section
variable {X : Cx} {E : WX}
theorem run_gS {C : CXT} {k : Nat} {f : Addr} {fd : FuncData} {ps : List Str} {sp : Sp} {E0 : XK} {pins : List (Addr × Obj)} {σ : L2.St} {H : Hp} {s : Shared} {Q : VK} {us : List Value} {xs : List V} (F : FnG X.prog X.w X.K X.mg X.base C k f fd ps sp)
    (room : Room k X.A) (gd : X.A.guards = some []) (bnd : Binds X.K fd ps []) (pass : PassesAt C X σ E0) (I : Inv X pins σ H s) (vals : Vals xs us) (prom : sp (xs ++ []) H Q E0) : wpAny (model X.prog X.w) X.A (call (.ref f) us) (EP X pins σ Q) X.xe s := by
  rw [List.append_nil] at prom
  have eqn : us.length = ps.length := (vals.length).symm.trans (F.len _ _ _ _ prom)
  have b := bnd s us I.kIn (by rw [List.append_nil]; exact eqn)
  rw [List.append_nil] at b
  refine wpAny_call (codeAny_mono (F.run X.A X.stack s H ⟨us, []⟩ _ _ Q E0 room gd I.env0 b vals prom) ?_)
  intro r s1 q
  cases r with
  | error e => exact pass pins H s e s1 I q
  | ok fl => cases fl with
    | ret u => exact I.after q
    | next => exact q.elim
    | brk => exact q.elim
    | cont => exact q.elim
theorem dxe_cal {x : Str} {k j : Nat} {ps : List Str} {ms : List Md} {fn : FnX} {e : Expr} {es : List Expr} {g : SemM} {p pos : Pos} (c : CalX X.prog X.w X.K X.mg X.base x j ps ms fn) (hr : Room k X.A) (hj : j ≤ k) (gd : X.A.guards = some []) (hg : Gl X x) (tk : Takes X E) (ha : DM X (e :: es) ms g)
    (hdb : (x == ("__debug__" : Str)) = false := by decide) (he : starEach (e :: es) X.env = (false, eval e X.env) :: starEach es X.env := by rfl) (hpl : (backTo pos (starEach es X.env)).any (·.1) = false := by rfl) : DXE X E (.Call (.Name x p) (e :: es) [] pos) (sCallX ms fn g) := by
  obtain ⟨f, fd, F, b, kp, m⟩ := c.ex
  have F := F.mono hj
  constructor
  constructor
  intro pins s σ H Q I h
  refine wpAny_Call_Name_kw (ld_glob I hg m ?_ hdb)
  refine PySem.W.callWith_K (h₀ := X.base) I.ok.mod.kin kp (thn (ha.pa.run pos pins s σ H _ I (sCallX_ok h)) ?_) he hpl
  rintro us s1 ⟨xs, H1, I1, r, q⟩
  exact ⟨I1.kIn, run_gS F hr gd b (passAt tk σ) I1 r q⟩
end
end Pv
end
section
set_option Elab.async false
set_option linter.all false
set_option autoImplicit false
set_option maxRecDepth 100000
set_option maxHeartbeats 1000000
/-! PzB: l.count(x); the facts of an own class of exceptions. -/
namespace Pv
open PySem PySem.Spec PyProof.Rows L2 PySem.W
section
variable {X : Cx}
def countL : OpL
  | .list ds, [d] => if (SeqAt.shaped (.list ds) && SeqAt.shaped d) = true then some (.int ((ds.countP fun z => PyData.eqv z d : Nat) : Int), false) else none
  | _, _ => none
theorem mt_countL (hu : X.A.units + 65 < cLine) : MtR X "list.count" (rL X.K countL) := by
  intro pins s σ H x xs v us Q I rx rxs h
  obtain ⟨F, d, ds, zb, l, lk, rp, e, q⟩ := h
  unfold countL at e
  split at e
  · next dl dd0 =>
    split at e
    · next hsh =>
      rw [Bool.and_eq_true] at hsh
      cases e
      obtain ⟨a, ys, rfl, ha, ry⟩ := lk.list l
      cases rp with | cons r0 rn =>
      cases rn
      have p1 := plain_canLay _ (SeqAt.canLay_of_shaped hsh.1)
      have p2 := plain_canLay _ (SeqAt.canLay_of_shaped hsh.2)
      have hl : Dp X.K H (V.ref a) (.list dl) := (lk.rp l).dp p1
      have hy := (r0.mono l).dp p2
      have q1 := q.old l (.int _)
      cases rx
      cases rxs with
      | cons ry' rt =>
        rename_i uy ut
        cases rt
        obtain ⟨bs, r1⟩ := Dp.reads I _ _ uy hy ry'
        have hxs : PyData.canLayAll0 dl = true := SeqAt.canLay_of_shaped hsh.1
        have hroom : X.A.units + 1 + min (PyData.depthAll dl) dd0.depth < cLine := room_in_shaped hsh.2 hu
        cases hl with
        | lst hs ha =>
          obtain ⟨its, rv, ⟨⟨cls, dd, data, sls⟩, n, ho, hc, hdn, hdt⟩, hlen⟩ := I.list hs
          simp only at hc hdt
          subst hc hdt
          obtain ⟨as, h4⟩ := Dp.readsAll I dl _ its ha rv
          have hmap : its.map (SeqAt.readOf s.heap) = dl := SeqAt.readsAll_map dl its as hxs h4
          refine call_meets PySem.F.slot_list_count ⟨_, ho, rfl⟩ PySem.F.entry_list_count (PySem.F.args_list_count_2 _ _)
            (SeqAt.list_countAt a its.toArray n dd sls uy (fun u => PyData.eqv (SeqAt.readOf s.heap u) dd0)) ⟨ho, SeqAt.items_eqAt (vs := its.toArray) (show ReadsAll s.heap its.toArray.toList dl as from h4) r1 hxs (SeqAt.canLay_of_shaped hsh.2) hroom, ?_⟩
          have ec : its.toArray.toList.countP (fun u => PyData.eqv (SeqAt.readOf s.heap u) dd0) = dl.countP fun z => PyData.eqv z dd0 := by
            rw [← hmap, List.countP_map]
            rfl
          refine ⟨.int ((dl.countP fun z => PyData.eqv z dd0 : Nat) : Int), H, I.tok _, ⟨s.toks, ?_⟩, q1⟩
          show Value.int ((its.toArray.toList.countP (fun u => PyData.eqv (SeqAt.readOf s.heap u) dd0) : Nat) : Int) s.toks = Value.int ((dl.countP fun z => PyData.eqv z dd0 : Nat) : Int) s.toks
          rw [ec]
    · cases e
  · cases e
end
/-- an error of the class is what the clause of its name takes -/
theorem exm_one_self {K : PySem.W.Frag} {S : Addr} (h1 : PySem.W.subIn K (.ref S) (.type "BaseException") = some true) (h2 : PySem.W.isClsIn K S = true) (h3 : PySem.W.typeIn K (.ref S) = some (.type "type")) (h4 : PySem.W.subIn K (.ref S) (.ref S) = some true) : PySem.W.exmOne K (.ref S) (.ref S) = some true := by
  have h2' : (PySem.W.clsIn K S).isSome = true := h2
  unfold PySem.W.exmOne PySem.W.kitCls
  simp only [h1, h2', h3, h4, beq_self_eq_true, Bool.and_self, if_true]
theorem ClsF.mk_ {K : Fr'} {h : Heap} {mg : Str → Option Value} {x : Str} {C : Addr} (X : K.In h) (G : h.Ns mainGlobals mg) (a : PySem.W.nsIn K mainGlobals x = some (some (.ref C)))
    (e : PySem.W.excIn K C [.type "ValueError", .type "Exception", .type "BaseException", .type "object"] "ValueError.__new__" = true) (k : PySem.W.keepIn K (.ref C) = true)
    (b : PySem.W.subIn K (.ref C) (.type "BaseException") = some true) (i : PySem.W.isClsIn K C = true) (t : PySem.W.typeIn K (.ref C) = some (.type "type")) (s : PySem.W.subIn K (.ref C) (.ref C) = some true) : ClsF K mg x :=
  ⟨⟨C, PySem.W.mg_of X G a, e, k, b, t, exm_one_self b i t s⟩⟩
theorem de_gtupE {X : Cx} {x : Str} {pos : Pos} {ss : List Str} {d : D} (hg : Gl X x) (hm : GTup X.K X.mg x ss) (he : d = .tuple (ss.map PyData.str) := by rfl) (hd : (x == ("__debug__" : Str)) = false := by decide) : DE X (.Name x pos) (sC d) := by
  subst he
  exact de_gtup hg hm hd
namespace Ev
section
variable (f : SemE) (g : SemA) (ρ : Ro)
@[scoped simp] theorem countL_u (ds : List D) (d : D) : countL (.list ds) [d] = if (SeqAt.shaped (.list ds) && SeqAt.shaped d) = true then some (.int ((ds.countP fun z => PyData.eqv z d : Nat) : Int), false) else none := rfl
end
section
variable (f : SemS) (c : SemT) (a b : SemX) (e : SemEX) (ρ : Ro) (x : Str) (h : SemS) (i : Nat)
@[scoped simp] theorem xOk_u : xOk f ρ = bd (f ρ) fun o => some (.ok o) := rfl
@[scoped simp] theorem xSeq_u : xSeq a b ρ = bd (a ρ) fun o => thenX o b := rfl
@[scoped simp] theorem thenX_n : thenX (.ok (.nx ρ)) b = b ρ := rfl
@[scoped simp] theorem thenX_r (r : Rv) : thenX (.ok (.rt r ρ)) b = some (.ok (.rt r ρ)) := rfl
@[scoped simp] theorem thenX_e : thenX (.er x ρ) b = some (.er x ρ) := rfl
@[scoped simp] theorem xNx_u : xNx ρ = some (.ok (.nx ρ)) := rfl
@[scoped simp] theorem xIf_u : xIf c a b ρ = bd (c ρ) fun x => if x.1 = true then a x.2 else b x.2 := rfl
@[scoped simp] theorem xRaise_u : xRaise x ρ = some (.er x ρ) := rfl
def xSetC (i : Nat) : ROx → Option OutX
  | .ok r ρ1 => bd (store i r ρ1) fun ρ2 => some (.ok (.nx ρ2))
  | .er x ρ1 => some (.er x ρ1)
@[scoped simp] theorem xSet_u : xSet i e ρ = bd (e ρ) (xSetC i) := rfl
@[scoped simp] theorem xSetC_o (r : Rv) : xSetC i (.ok r ρ) = bd (store i r ρ) fun ρ2 => some (.ok (.nx ρ2)) := rfl
@[scoped simp] theorem xSetC_e : xSetC i (.er x ρ) = some (.er x ρ) := rfl
def sTryC (x : Str) (h : SemS) : OutX → Option Out
  | .ok o => some o
  | .er y ρ1 => if y = x then h ρ1 else none
@[scoped simp] theorem sTry_u : sTry a x h ρ = bd (a ρ) (sTryC x h) := rfl
@[scoped simp] theorem sTryC_o (o : Out) : sTryC x h (.ok o) = some o := rfl
@[scoped simp] theorem sTryC_e : sTryC x h (.er x ρ) = h ρ := if_pos rfl
def callC (ms : List Md) (rs : List Rv) (ρ : Ro) : ResX → Option ROx
  | .ok z => some (.ok (mkR z.1) (mBack ρ ms rs z.2))
  | .er y => if (ms.all fun m => decide (m = .v)) = true then some (.er y (mBack ρ ms rs [])) else none
@[scoped simp] theorem sCallX_u (ms : List Md) (fn : FnX) (g : SemM) : sCallX ms fn g ρ = bd (g ρ) fun x => if (mIdx ms x.1).Nodup then bd (mData x.2 ms x.1) fun ds => bd (fn ds) (callC ms x.1 x.2) else none := rfl
@[scoped simp] theorem callC_o (ms : List Md) (rs : List Rv) (z : (D × Bool) × List D) : callC ms rs ρ (.ok z) = some (.ok (mkR z.1) (mBack ρ ms rs z.2)) := rfl
@[scoped simp] theorem callC_e (ms : List Md) (rs : List Rv) (y : Str) : callC ms rs ρ (.er y) = if (ms.all fun m => decide (m = .v)) = true then some (.er y (mBack ρ ms rs [])) else none := rfl
end
end Ev
end Pv
end
section
set_option Elab.async false
set_option linter.all false
set_option maxRecDepth 100000
set_option maxHeartbeats 2000000
/-! FrB: meanings, printed by gen.py. -/
namespace Pv.Pg
open PySem Pv
/-! ### holes_in -/
def b_holes_in (self_ : Fn) : SemS := (sRet (sIf (sTest (sOp eqF (sVar 0) (sC (.tuple [.str "hole"])))) (sC (.int 1)) (sCB sumF (pCons (sLc (gN 1) sYes (sCall [.v] self_ (mV (sVar 1) mNil)) [1] (iOf walkOf (sCall [.v] F_members (mV (sVar 0) mNil)))) pNil))))
def F_holes_in : Nat → Fn
  | 0 => fnNone
  | n + 1 => fnOf 2 [.v] (b_holes_in (F_holes_in n))
/-! ### is_frame -/
def b_is_frame : SemS := (sRet (sAndV (sCall [.v, .v] F_is_formed (mV (sVar 0) (mV (sTup (sCons (sC (.str "hole")) sNil)) mNil))) (sOp eqF (sCall [.v] (F_holes_in 45) (mV (sVar 0) mNil)) (sC (.int 1)))))
def F_is_frame : Fn := fnOf 1 [.v] b_is_frame
/-! ### put_in -/
def b_put_in (self_ : Fn) : SemS := (sSeq (sIfS (sTest (sOp eqF (sVar 0) (sC (.tuple [.str "hole"])))) (sRet (sVar 1)) sNx) (sRet (sCall [.v, .v] F_with_members (mV (sVar 0) (mV (sLc (gN 2) sYes (sCall [.v, .v] self_ (mV (sVar 2) (mV (sVar 1) mNil))) [2] (iOf walkOf (sCall [.v] F_members (mV (sVar 0) mNil)))) mNil)))))
def F_put_in : Nat → Fn
  | 0 => fnNone
  | n + 1 => fnOf 3 [.v, .v] (b_put_in (F_put_in n))
/-! ### filled -/
def b_filled : SemX := (xSeq (xIf (sNot (sTruth (sCall [.v] F_is_frame (mV (sVar 0) mNil)))) (xRaise "InvalidFrame") xNx) (xSeq (xOk (sExpr (sCall [.v] F_check_body (mV (sVar 1) mNil)))) (xSeq (xOk (sSet 2 (sCall [.v, .v] (F_put_in 45) (mV (sVar 0) (mV (sVar 1) mNil))))) (xSeq (xIf (sNot (sTruth (sCall [.v] F_is_body (mV (sVar 2) mNil)))) (xRaise "TooLarge") xNx) (xOk (sRet (sVar 2)))))))
def F_filled : FnX := fnX 3 [.v, .v] b_filled
end Pv.Pg
end
section
set_option Elab.async false
set_option linter.all false
set_option autoImplicit false
set_option maxRecDepth 100000
set_option maxHeartbeats 1000000
/-! PwC: what the laws have in common: _law_mixed, _law_cell, _law_take. -/
namespace Pv.Lw
open PySem L2 Pv Pv.Ev
abbrev N__law_mixed : List Str := ["_law_cell_here", "_law_k", "_law_mix"]
def b__law_mixed : SemS := (sSeq (sSet 2 (sOp modF (sCB intF (pCons (sOp addF (sOp addF (sOp mulF (sOp modF (sCB intF (pCons (sVar 0) pNil)) (sC (.int 2147483647))) (sC (.int 48271))) (sOp mulF (sVar 1) (sC (.int 69621)))) (sC (.int 1048583))) pNil)) (sC (.int 2147483629)))) (sSeq (sSet 2 (sOp modF (sCB intF (pCons (sOp mulF (sVar 2) (sVar 2)) pNil)) (sC (.int 2147483587)))) (sRet (sOp modF (sCB intF (pCons (sOp mulF (sVar 2) (sOp addF (sVar 2) (sC (.int 2)))) pNil)) (sC (.int 2147483579))))))
def F__law_mixed : Fn := fnOf 3 [.v, .v] b__law_mixed
abbrev N__law_cell : List Str := ["_law_script", "_law_k", "_law_cell_here", "_law_found", "_law_j"]
def b__law_cell : SemS := (sSeq (sSet 2 (sC (.int 0))) (sSeq (sIfS (sTest (sOp ltF (sVar 1) (sLenScr 0))) (sSet 2 (sIxScr 0 (sVar 1))) sNx) (sSeq (sIfS (sTest (sOp geF (sVar 2) (sOp powF (sC (.int 10)) (sC (.int 18))))) (sRet (sOp modF (sCB intF (pCons (sOp subF (sVar 2) (sOp powF (sC (.int 10)) (sC (.int 18)))) pNil)) (sOp mulF (sOp mulF (sOp mulF (sOp powF (sC (.int 10)) (sC (.int 60))) (sOp powF (sC (.int 10)) (sC (.int 60)))) (sOp powF (sC (.int 10)) (sC (.int 60)))) (sOp powF (sC (.int 10)) (sC (.int 60)))))) sNx) (sSeq (sSet 3 (sC (.int 0))) (sSeq (sFor (iR1 (pCons (sC (.int 24)) pNil)) (gN 4) (sSet 3 (sOp addF (sOp mulF (sVar 3) (sC (.int 2147483579))) (sCall [.v, .v] F__law_mixed (mV (sVar 2) (mV (sOp addF (sOp addF (sOp mulF (sC (.int 7)) (sVar 1)) (sOp mulF (sC (.int 100)) (sVar 4))) (sOp mulF (sVar 4) (sVar 4))) mNil)))))) (sRet (sVar 3)))))))
def F__law_cell : Fn := fnOf 5 [.s, .v] b__law_cell
abbrev N__law_take : List Str := ["_law_own", "_law_options", "_law_digit"]
def b__law_take : SemS := (sSeq (sSet 2 (sOp modF (sCB intF (pCons (sOp ixG (sVar 0) (sC (.int 0))) pNil)) (sVar 1))) (sSeq (sSub 0 (sC (.int 0)) (sOp divF (sOp ixG (sVar 0) (sC (.int 0))) (sVar 1))) (sRet (sVar 2))))
def F__law_take : Fn := fnOf 3 [.r, .v] b__law_take
theorem mulOk_of {i j : Int} (a b : Nat) (hi : i.natAbs < 2 ^ a) (hj : j.natAbs < 2 ^ b) (h : a + b < 1000000) : mulOk i j = true := by
  have l : ∀ (n c : Nat), n < 2 ^ c → n.log2 ≤ c := fun n c hn => by
    by_cases h0 : n = 0
    · subst h0; simp
    · exact Nat.le_of_lt ((Nat.log2_lt h0).mpr hn)
  have h1 := l _ _ hi
  have h2 := l _ _ hj
  simp only [mulOk, decide_eq_true_eq]
  omega
theorem mixed_D (x k : Int) (hk : 0 ≤ k) (hk2 : k < 1000000) : ∃ r : Int, 0 ≤ r ∧ r < 2147483579 ∧ F__law_mixed [.int x, .int k] = some ((.int r, false), []) := by
  have a1 := Int.emod_nonneg x (show (2147483647 : Int) ≠ 0 by decide)
  have a2 := Int.emod_lt_of_pos x (show (0 : Int) < 2147483647 by decide)
  generalize h1 : x % 2147483647 = y at a1 a2
  have m1 : mulOk y 48271 = true := mulOk_of 32 32 (by omega) (by omega) (by omega)
  have m2 : mulOk k 69621 = true := mulOk_of 32 32 (by omega) (by omega) (by omega)
  have b1 := Int.emod_nonneg (y * 48271 + k * 69621 + 1048583) (show (2147483629 : Int) ≠ 0 by decide)
  have b2 := Int.emod_lt_of_pos (y * 48271 + k * 69621 + 1048583) (show (0 : Int) < 2147483629 by decide)
  generalize h2 : (y * 48271 + k * 69621 + 1048583) % 2147483629 = z at b1 b2
  have m3 : mulOk z z = true := mulOk_of 32 32 (by omega) (by omega) (by omega)
  have c1 := Int.emod_nonneg (z * z) (show (2147483587 : Int) ≠ 0 by decide)
  have c2 := Int.emod_lt_of_pos (z * z) (show (0 : Int) < 2147483587 by decide)
  generalize h3 : (z * z) % 2147483587 = u at c1 c2
  have m4 : mulOk u (u + 2) = true := mulOk_of 32 33 (by omega) (by omega) (by omega)
  refine ⟨(u * (u + 2)) % 2147483579, Int.emod_nonneg _ (by decide), Int.emod_lt_of_pos _ (by decide), ?_⟩
  unfold F__law_mixed b__law_mixed
  simp [h1, m1, m2, h2, m3, h3, m4]
theorem pow18 : powF (.int 10) (.int 18) = some (.int 1000000000000000000, false) := rfl
theorem pow60 : powF (.int 10) (.int 60) = some (.int (10 ^ 60), false) := rfl
def bigE : SemE := (sOp mulF (sOp mulF (sOp mulF (sOp powF (sC (.int 10)) (sC (.int 60))) (sOp powF (sC (.int 10)) (sC (.int 60)))) (sOp powF (sC (.int 10)) (sC (.int 60)))) (sOp powF (sC (.int 10)) (sC (.int 60))))
theorem mul_int {i j : Int} (h : mulOk i j = true) : mulF (.int i) (.int j) = some (.int (i * j), false) := by
  simp only [mulF, h, if_true]
theorem big_D : ∀ ρ : Ro, bigE ρ = some (.val (.int (10 ^ 60 * 10 ^ 60 * 10 ^ 60 * 10 ^ 60)), ρ) := fun ρ => by
  have q1 : mulOk (10 ^ 60) (10 ^ 60) = true := by decide +kernel
  have q2 : mulOk (10 ^ 60 * 10 ^ 60) (10 ^ 60) = true := by decide +kernel
  have q3 : mulOk (10 ^ 60 * 10 ^ 60 * 10 ^ 60) (10 ^ 60) = true := by decide +kernel
  have m1 := mul_int q1
  have m2 := mul_int q2
  have m3 := mul_int q3
  have p := pow60
  unfold bigE
  generalize (10 : Int) ^ 60 = T at *
  simp [p, m1, m2, m3, -mul_i]
abbrev body_cell : SemS := (sSet 3 (sOp addF (sOp mulF (sVar 3) (sC (.int 2147483579))) (sCall [.v, .v] F__law_mixed (mV (sVar 2) (mV (sOp addF (sOp addF (sOp mulF (sC (.int 7)) (sVar 1)) (sOp mulF (sC (.int 100)) (sVar 4))) (sOp mulF (sVar 4) (sVar 4))) mNil)))))
theorem cell_D (ns : List Int) (k : Nat) (hk : k < 1000) : ∃ c : Int, F__law_cell [.list (ns.map .int), .int k] = some ((.int c, false), []) := by
  have q4 : (0 : Int) < 10 ^ 60 * 10 ^ 60 * 10 ^ 60 * 10 ^ 60 := by decide +kernel
  obtain ⟨x, hx⟩ : ∃ x : Int, ((sIfS (sTest (sOp ltF (sVar 1) (sLenScr 0))) (sSet 2 (sIxScr 0 (sVar 1))) sNx) [some (.scr (ns.map .int)), some (.val (.int k)), some (.val (.int 0)), none, none]) = some (.nx [some (.scr (ns.map .int)), some (.val (.int k)), some (.val (.int x)), none, none]) := by
    by_cases h : (k : Int) < ns.length
    · have hk' : k < ns.length := by omega
      refine ⟨ns[k], ?_⟩
      have : atI (ns.map PyData.int) (k : Int) = some (.int ns[k]) := by
        unfold atI ixN
        rw [if_pos (by omega), if_pos (by simpa using h)]
        simp [List.getElem?_eq_getElem hk']
      simp [h, this]
    · refine ⟨0, ?_⟩
      simp [h]
  by_cases hg : (1000000000000000000 : Int) ≤ x
  · refine ⟨(x - 1000000000000000000) % (10 ^ 60 * 10 ^ 60 * 10 ^ 60 * 10 ^ 60), ?_⟩
    unfold F__law_cell b__law_cell
    generalize sIfS (sTest (sOp ltF (sVar 1) (sLenScr 0))) (sSet 2 (sIxScr 0 (sVar 1))) sNx = S at *
    have hb := big_D
    unfold bigE at hb
    generalize (sOp mulF (sOp mulF (sOp mulF (sOp powF (sC (.int 10)) (sC (.int 60))) (sOp powF (sC (.int 10)) (sC (.int 60)))) (sOp powF (sC (.int 10)) (sC (.int 60)))) (sOp powF (sC (.int 10)) (sC (.int 60)))) = BE at *
    generalize ((10 : Int) ^ 60 * 10 ^ 60 * 10 ^ 60 * 10 ^ 60) = B at *
    simp [hx, pow18, hg, hb, q4]
  · have L := forL_inv (g := gN 4) (b := body_cell) (fun j ρ => j ≤ 24 → ∃ (f : Int) (c4 : Option D), 0 ≤ f ∧ f.natAbs < 2 ^ (32 * j) ∧ ρ = [some (.scr (ns.map .int)), some (.val (.int k)), some (.val (.int x)), some (.val (.int f)), c4.map .val])
      (rng 0 24) 0 [some (.scr (ns.map .int)), some (.val (.int k)), some (.val (.int x)), some (.val (.int 0)), none] (fun _ => ⟨0, none, by omega, by simp, rfl⟩) (fun j d ρ hd hI => by
        simp only [Nat.zero_add] at hI ⊢
        simp only [rng, List.getElem?_map, Option.map_eq_some_iff] at hd
        obtain ⟨j', hj', rfl⟩ := hd
        obtain ⟨hj1, hj2⟩ := List.getElem?_eq_some_iff.mp hj'
        simp only [List.getElem_range] at hj2
        subst hj2
        simp only [List.length_range] at hj1
        obtain ⟨f, c4, f0, f1, rfl⟩ := hI (by omega)
        have g1 : f.natAbs < 2 ^ 800 := Nat.lt_of_lt_of_le f1 (Nat.pow_le_pow_right (by decide) (by omega))
        have m1 : mulOk f 2147483579 = true := mulOk_of 800 32 g1 (by decide) (by decide)
        have m2 : mulOk 7 k = true := mulOk_of 32 32 (by omega) (by omega) (by decide)
        have m3 : mulOk 100 (j : Int) = true := mulOk_of 32 32 (by omega) (by omega) (by decide)
        have m4 : mulOk (j : Int) (j : Int) = true := mulOk_of 32 32 (by omega) (by omega) (by decide)
        have jj : (j : Int) * (j : Int) ≤ 24 * 24 := Int.mul_le_mul (by omega) (by omega) (by omega) (by omega)
        have jj0 : 0 ≤ (j : Int) * (j : Int) := Int.mul_nonneg (by omega) (by omega)
        obtain ⟨r, r0, r1, mx⟩ := mixed_D x (7 * (k : Int) + 100 * (j : Int) + (j : Int) * (j : Int)) (by omega) (by omega)
        refine ⟨[some (.scr (ns.map .int)), some (.val (.int k)), some (.val (.int x)), some (.val (.int f)), some (.val (.int (j : Nat)))], [some (.scr (ns.map .int)), some (.val (.int k)), some (.val (.int x)), some (.val (.int (f * 2147483579 + r))), some (.val (.int (j : Nat)))], by simp, ?_, fun _ => ⟨f * 2147483579 + r, some (.int (j : Nat)), by omega, ?_, rfl⟩⟩
        · simp [m1, m2, m3, m4, mx]
        · rw [show 32 * (j + 1) = 32 * j + 32 by omega, Nat.pow_add]
          generalize 2 ^ (32 * j) = P at f1
          rw [show (2 : Nat) ^ 32 = 4294967296 from rfl]
          omega)
    obtain ⟨ρ', L, hI⟩ := L
    obtain ⟨f, c4, f0, f1, rfl⟩ := hI (by simp [rng])
    refine ⟨f, ?_⟩
    have s24 : small62 24 = true := by decide +kernel
    unfold F__law_cell b__law_cell
    generalize sIfS (sTest (sOp ltF (sVar 1) (sLenScr 0))) (sSet 2 (sIxScr 0 (sVar 1))) sNx = S at *
    simp [hx, pow18, pow60, hg, s24, L]
theorem take_D (x m : Int) (hm : 0 < m) (hl : m < 1000000) : F__law_take [.list [.int x], .int m] = some ((.int (x % m), false), [.list [.int (x / m)]]) := by
  have hl2 : m.natAbs.log2 < 9000 := by
    have : m.natAbs.log2 < 20 := (Nat.log2_lt (by omega)).mpr (by omega)
    omega
  have a1 : atI [PyData.int x] 0 = some (.int x) := rfl
  have a2 : ixN 1 0 = some 0 := rfl
  unfold F__law_take b__law_take
  simp [hm, hl2, a1, a2]
end Pv.Lw
end
section
set_option Elab.async false
set_option linter.all false
set_option autoImplicit false
set_option maxRecDepth 100000
set_option maxHeartbeats 1000000
/-! PwM: a meaning that is more often there gives what the other one gives: for calls that the kernel counts with a test in the place of a call. -/
namespace Pv
open PySem
def LeO {α β : Type} (f f' : α → Option β) : Prop := ∀ a b, f a = some b → f' a = some b
section
variable {α β : Type}
theorem le_rfl_ (f : α → Option β) : LeO f f := fun _ _ h => h
theorem le_seq {f g g' : SemS} (h : LeO g g') : LeO (sSeq f g) (sSeq f g') := fun ρ o e => by
  simp only [sSeq, Option.bind_eq_some_iff] at e ⊢
  obtain ⟨o1, e1, e2⟩ := e
  refine ⟨o1, e1, ?_⟩
  cases o1 with
  | nx ρ1 => exact h _ _ e2
  | rt r ρ1 => exact e2
  | bk ρ1 => exact e2
  | ct ρ1 => exact e2
theorem le_ret {f f' : SemE} (h : LeO f f') : LeO (sRet f) (sRet f') := fun ρ o e => by
  simp only [sRet, Option.bind_eq_some_iff] at e ⊢
  obtain ⟨x, e1, e2⟩ := e
  exact ⟨x, h _ _ e1, e2⟩
theorem le_test {f f' : SemE} (h : LeO f f') : LeO (sTest f) (sTest f') := fun ρ o e => by
  simp only [sTest, Option.bind_eq_some_iff] at e ⊢
  obtain ⟨x, e1, e2⟩ := e
  exact ⟨x, h _ _ e1, e2⟩
theorem le_andV {f f' g g' : SemE} (h : LeO f f') (k : LeO g g') : LeO (sAndV f g) (sAndV f' g') := fun ρ o e => by
  simp only [sAndV, Option.bind_eq_some_iff] at e ⊢
  obtain ⟨x, e1, e2⟩ := e
  refine ⟨x, le_test h _ _ e1, ?_⟩
  obtain ⟨b, ρ1⟩ := x
  simp only at e2 ⊢
  split
  · next hb => rw [if_pos hb] at e2; exact k _ _ e2
  · next hb => rw [if_neg hb] at e2; exact e2
theorem le_cb {o : OpN} {p p' : SemP} (h : LeO p p') : LeO (sCB o p) (sCB o p') := fun ρ z e => by
  simp only [sCB, Option.bind_eq_some_iff] at e ⊢
  obtain ⟨x, e1, e2⟩ := e
  exact ⟨x, h _ _ e1, e2⟩
theorem le_pCons {f f' : SemE} {p : SemP} (h : LeO f f') : LeO (pCons f p) (pCons f' p) := fun ρ z e => by
  simp only [pCons, Option.bind_eq_some_iff] at e ⊢
  obtain ⟨x, e1, e2⟩ := e
  exact ⟨x, h _ _ e1, e2⟩
theorem le_lcL {g : SemG} {t : SemT} {el el' : SemE} {vs : List Nat} (h : LeO el el') : ∀ (ds : List D) (n : Nat) (ρ : Ro) (z : List D × Ro), lcL g t el vs ds n ρ = some z → lcL g t el' vs ds n ρ = some z
  | [], _, _, _, e => e
  | d :: ds, n, ρ, z, e => by
    simp only [lcL, Option.bind_eq_some_iff] at e ⊢
    obtain ⟨ρ1, e1, x, e2, e3⟩ := e
    refine ⟨ρ1, e1, x, e2, ?_⟩
    obtain ⟨b, ρ2⟩ := x
    simp only at e3 ⊢
    split
    · next hb =>
      rw [if_pos hb] at e3
      simp only [Option.bind_eq_some_iff] at e3 ⊢
      obtain ⟨y, e4, u, e5, e6⟩ := e3
      refine ⟨y, h _ _ e4, u, e5, ?_⟩
      split
      · next hn =>
        rw [if_pos hn] at e6
        simp only [Option.bind_eq_some_iff] at e6 ⊢
        obtain ⟨w, e7, e8⟩ := e6
        exact ⟨w, le_lcL h _ _ _ _ e7, e8⟩
      · next hn => rw [if_neg hn] at e6; exact e6
    · next hb => rw [if_neg hb] at e3; exact le_lcL h _ _ _ _ e3
theorem le_lc {g : SemG} {t : SemT} {el el' : SemE} {vs : List Nat} {it : SemI} (h : LeO el el') : LeO (sLc g t el vs it) (sLc g t el' vs it) := fun ρ z e => by
  simp only [sLc, Option.bind_eq_some_iff] at e ⊢
  obtain ⟨x, e1, e2⟩ := e
  refine ⟨x, e1, ?_⟩
  split
  · next hc =>
    rw [if_pos hc] at e2
    simp only [Option.bind_eq_some_iff] at e2 ⊢
    obtain ⟨w, e7, e8⟩ := e2
    exact ⟨w, le_lcL h _ _ _ _ e7, e8⟩
  · next hc => rw [if_neg hc] at e2; exact e2
theorem le_call {ms : List Md} {fn fn' : Fn} {m : SemM} (h : LeO fn fn') : LeO (sCall ms fn m) (sCall ms fn' m) := fun ρ z e => by
  simp only [sCall, Option.bind_eq_some_iff] at e ⊢
  obtain ⟨x, e1, e2⟩ := e
  refine ⟨x, e1, ?_⟩
  split
  · next hc =>
    rw [if_pos hc] at e2
    simp only [Option.bind_eq_some_iff] at e2 ⊢
    obtain ⟨ds, e3, w, e4, e5⟩ := e2
    exact ⟨ds, e3, w, h _ _ e4, e5⟩
  · next hc => rw [if_neg hc] at e2; exact e2
theorem le_fn {n : Nat} {ms : List Md} {b b' : SemS} (h : LeO b b') : LeO (fnOf n ms b) (fnOf n ms b') := fun ds z e => by
  simp only [fnOf, Option.bind_eq_some_iff] at e ⊢
  obtain ⟨cs, e1, o, e2, e3⟩ := e
  exact ⟨cs, e1, o, h _ _ e2, e3⟩
end
/-- a test in the place of a call -/
def fnTest (p : List D → Bool) : Fn := fun ds => if p ds = true then some ((.bool true, false), []) else none
theorem le_fnTest {p : List D → Bool} {fn : Fn} (h : ∀ ds, p ds = true → fn ds = some ((.bool true, false), [])) : LeO (fnTest p) fn := fun ds z e => by
  unfold fnTest at e
  split at e
  · next hp => cases e; exact h ds hp
  · cases e
def isTr (r : Option ((PyData × Bool) × List PyData)) : Bool := match r with
  | some ((.bool true, false), []) => true
  | _ => false
theorem isTr_eq {r : Option ((PyData × Bool) × List PyData)} (h : isTr r = true) : r = some ((.bool true, false), []) := by
  unfold isTr at h
  split at h
  · rfl
  · cases h
end Pv
end
section
set_option Elab.async false
set_option linter.all false
set_option autoImplicit false
set_option maxRecDepth 100000
set_option maxHeartbeats 1000000
/-! PgK: the kinds of parts are different texts (printed). -/
namespace Pv.Ev
open PySem Pv
theorem str_ne {a b : Str} (h : (a.cps.toList == b.cps.toList) = false) : (a == b) = false := by rw [eqS_beq0]; exact h
theorem str_ne' {a b : Str} (h : (a.cps.toList == b.cps.toList) = false) : (a = b) = False := by
  have := str_ne h
  simpa using this

@[scoped simp] theorem kn_skip_stop : (("skip" : Str) == ("stop" : Str)) = false := str_ne (by decide +kernel)
@[scoped simp] theorem kd_skip_stop : (("skip" : Str) = ("stop" : Str)) = False := str_ne' (by decide +kernel)
@[scoped simp] theorem kn_skip_hole : (("skip" : Str) == ("hole" : Str)) = false := str_ne (by decide +kernel)
@[scoped simp] theorem kd_skip_hole : (("skip" : Str) = ("hole" : Str)) = False := str_ne' (by decide +kernel)
@[scoped simp] theorem kn_skip_do : (("skip" : Str) == ("do" : Str)) = false := str_ne (by decide +kernel)
@[scoped simp] theorem kd_skip_do : (("skip" : Str) = ("do" : Str)) = False := str_ne' (by decide +kernel)
@[scoped simp] theorem kn_skip_call : (("skip" : Str) == ("call" : Str)) = false := str_ne (by decide +kernel)
@[scoped simp] theorem kd_skip_call : (("skip" : Str) = ("call" : Str)) = False := str_ne' (by decide +kernel)
@[scoped simp] theorem kn_skip_hold : (("skip" : Str) == ("hold" : Str)) = false := str_ne (by decide +kernel)
@[scoped simp] theorem kd_skip_hold : (("skip" : Str) = ("hold" : Str)) = False := str_ne' (by decide +kernel)
@[scoped simp] theorem kn_skip_loop : (("skip" : Str) == ("loop" : Str)) = false := str_ne (by decide +kernel)
@[scoped simp] theorem kd_skip_loop : (("skip" : Str) = ("loop" : Str)) = False := str_ne' (by decide +kernel)
@[scoped simp] theorem kn_skip_seq : (("skip" : Str) == ("seq" : Str)) = false := str_ne (by decide +kernel)
@[scoped simp] theorem kd_skip_seq : (("skip" : Str) = ("seq" : Str)) = False := str_ne' (by decide +kernel)
@[scoped simp] theorem kn_skip_either : (("skip" : Str) == ("either" : Str)) = false := str_ne (by decide +kernel)
@[scoped simp] theorem kd_skip_either : (("skip" : Str) = ("either" : Str)) = False := str_ne' (by decide +kernel)
@[scoped simp] theorem kn_stop_skip : (("stop" : Str) == ("skip" : Str)) = false := str_ne (by decide +kernel)
@[scoped simp] theorem kd_stop_skip : (("stop" : Str) = ("skip" : Str)) = False := str_ne' (by decide +kernel)
@[scoped simp] theorem kn_stop_hole : (("stop" : Str) == ("hole" : Str)) = false := str_ne (by decide +kernel)
@[scoped simp] theorem kd_stop_hole : (("stop" : Str) = ("hole" : Str)) = False := str_ne' (by decide +kernel)
@[scoped simp] theorem kn_stop_do : (("stop" : Str) == ("do" : Str)) = false := str_ne (by decide +kernel)
@[scoped simp] theorem kd_stop_do : (("stop" : Str) = ("do" : Str)) = False := str_ne' (by decide +kernel)
@[scoped simp] theorem kn_stop_call : (("stop" : Str) == ("call" : Str)) = false := str_ne (by decide +kernel)
@[scoped simp] theorem kd_stop_call : (("stop" : Str) = ("call" : Str)) = False := str_ne' (by decide +kernel)
@[scoped simp] theorem kn_stop_hold : (("stop" : Str) == ("hold" : Str)) = false := str_ne (by decide +kernel)
@[scoped simp] theorem kd_stop_hold : (("stop" : Str) = ("hold" : Str)) = False := str_ne' (by decide +kernel)
@[scoped simp] theorem kn_stop_loop : (("stop" : Str) == ("loop" : Str)) = false := str_ne (by decide +kernel)
@[scoped simp] theorem kd_stop_loop : (("stop" : Str) = ("loop" : Str)) = False := str_ne' (by decide +kernel)
@[scoped simp] theorem kn_stop_seq : (("stop" : Str) == ("seq" : Str)) = false := str_ne (by decide +kernel)
@[scoped simp] theorem kd_stop_seq : (("stop" : Str) = ("seq" : Str)) = False := str_ne' (by decide +kernel)
@[scoped simp] theorem kn_stop_either : (("stop" : Str) == ("either" : Str)) = false := str_ne (by decide +kernel)
@[scoped simp] theorem kd_stop_either : (("stop" : Str) = ("either" : Str)) = False := str_ne' (by decide +kernel)
@[scoped simp] theorem kn_hole_skip : (("hole" : Str) == ("skip" : Str)) = false := str_ne (by decide +kernel)
@[scoped simp] theorem kd_hole_skip : (("hole" : Str) = ("skip" : Str)) = False := str_ne' (by decide +kernel)
@[scoped simp] theorem kn_hole_stop : (("hole" : Str) == ("stop" : Str)) = false := str_ne (by decide +kernel)
@[scoped simp] theorem kd_hole_stop : (("hole" : Str) = ("stop" : Str)) = False := str_ne' (by decide +kernel)
@[scoped simp] theorem kn_hole_do : (("hole" : Str) == ("do" : Str)) = false := str_ne (by decide +kernel)
@[scoped simp] theorem kd_hole_do : (("hole" : Str) = ("do" : Str)) = False := str_ne' (by decide +kernel)
@[scoped simp] theorem kn_hole_call : (("hole" : Str) == ("call" : Str)) = false := str_ne (by decide +kernel)
@[scoped simp] theorem kd_hole_call : (("hole" : Str) = ("call" : Str)) = False := str_ne' (by decide +kernel)
@[scoped simp] theorem kn_hole_hold : (("hole" : Str) == ("hold" : Str)) = false := str_ne (by decide +kernel)
@[scoped simp] theorem kd_hole_hold : (("hole" : Str) = ("hold" : Str)) = False := str_ne' (by decide +kernel)
@[scoped simp] theorem kn_hole_loop : (("hole" : Str) == ("loop" : Str)) = false := str_ne (by decide +kernel)
@[scoped simp] theorem kd_hole_loop : (("hole" : Str) = ("loop" : Str)) = False := str_ne' (by decide +kernel)
@[scoped simp] theorem kn_hole_seq : (("hole" : Str) == ("seq" : Str)) = false := str_ne (by decide +kernel)
@[scoped simp] theorem kd_hole_seq : (("hole" : Str) = ("seq" : Str)) = False := str_ne' (by decide +kernel)
@[scoped simp] theorem kn_hole_either : (("hole" : Str) == ("either" : Str)) = false := str_ne (by decide +kernel)
@[scoped simp] theorem kd_hole_either : (("hole" : Str) = ("either" : Str)) = False := str_ne' (by decide +kernel)
@[scoped simp] theorem kn_do_skip : (("do" : Str) == ("skip" : Str)) = false := str_ne (by decide +kernel)
@[scoped simp] theorem kd_do_skip : (("do" : Str) = ("skip" : Str)) = False := str_ne' (by decide +kernel)
@[scoped simp] theorem kn_do_stop : (("do" : Str) == ("stop" : Str)) = false := str_ne (by decide +kernel)
@[scoped simp] theorem kd_do_stop : (("do" : Str) = ("stop" : Str)) = False := str_ne' (by decide +kernel)
@[scoped simp] theorem kn_do_hole : (("do" : Str) == ("hole" : Str)) = false := str_ne (by decide +kernel)
@[scoped simp] theorem kd_do_hole : (("do" : Str) = ("hole" : Str)) = False := str_ne' (by decide +kernel)
@[scoped simp] theorem kn_do_call : (("do" : Str) == ("call" : Str)) = false := str_ne (by decide +kernel)
@[scoped simp] theorem kd_do_call : (("do" : Str) = ("call" : Str)) = False := str_ne' (by decide +kernel)
@[scoped simp] theorem kn_do_hold : (("do" : Str) == ("hold" : Str)) = false := str_ne (by decide +kernel)
@[scoped simp] theorem kd_do_hold : (("do" : Str) = ("hold" : Str)) = False := str_ne' (by decide +kernel)
@[scoped simp] theorem kn_do_loop : (("do" : Str) == ("loop" : Str)) = false := str_ne (by decide +kernel)
@[scoped simp] theorem kd_do_loop : (("do" : Str) = ("loop" : Str)) = False := str_ne' (by decide +kernel)
@[scoped simp] theorem kn_do_seq : (("do" : Str) == ("seq" : Str)) = false := str_ne (by decide +kernel)
@[scoped simp] theorem kd_do_seq : (("do" : Str) = ("seq" : Str)) = False := str_ne' (by decide +kernel)
@[scoped simp] theorem kn_do_either : (("do" : Str) == ("either" : Str)) = false := str_ne (by decide +kernel)
@[scoped simp] theorem kd_do_either : (("do" : Str) = ("either" : Str)) = False := str_ne' (by decide +kernel)
@[scoped simp] theorem kn_call_skip : (("call" : Str) == ("skip" : Str)) = false := str_ne (by decide +kernel)
@[scoped simp] theorem kd_call_skip : (("call" : Str) = ("skip" : Str)) = False := str_ne' (by decide +kernel)
@[scoped simp] theorem kn_call_stop : (("call" : Str) == ("stop" : Str)) = false := str_ne (by decide +kernel)
@[scoped simp] theorem kd_call_stop : (("call" : Str) = ("stop" : Str)) = False := str_ne' (by decide +kernel)
@[scoped simp] theorem kn_call_hole : (("call" : Str) == ("hole" : Str)) = false := str_ne (by decide +kernel)
@[scoped simp] theorem kd_call_hole : (("call" : Str) = ("hole" : Str)) = False := str_ne' (by decide +kernel)
@[scoped simp] theorem kn_call_do : (("call" : Str) == ("do" : Str)) = false := str_ne (by decide +kernel)
@[scoped simp] theorem kd_call_do : (("call" : Str) = ("do" : Str)) = False := str_ne' (by decide +kernel)
@[scoped simp] theorem kn_call_hold : (("call" : Str) == ("hold" : Str)) = false := str_ne (by decide +kernel)
@[scoped simp] theorem kd_call_hold : (("call" : Str) = ("hold" : Str)) = False := str_ne' (by decide +kernel)
@[scoped simp] theorem kn_call_loop : (("call" : Str) == ("loop" : Str)) = false := str_ne (by decide +kernel)
@[scoped simp] theorem kd_call_loop : (("call" : Str) = ("loop" : Str)) = False := str_ne' (by decide +kernel)
@[scoped simp] theorem kn_call_seq : (("call" : Str) == ("seq" : Str)) = false := str_ne (by decide +kernel)
@[scoped simp] theorem kd_call_seq : (("call" : Str) = ("seq" : Str)) = False := str_ne' (by decide +kernel)
@[scoped simp] theorem kn_call_either : (("call" : Str) == ("either" : Str)) = false := str_ne (by decide +kernel)
@[scoped simp] theorem kd_call_either : (("call" : Str) = ("either" : Str)) = False := str_ne' (by decide +kernel)
@[scoped simp] theorem kn_hold_skip : (("hold" : Str) == ("skip" : Str)) = false := str_ne (by decide +kernel)
@[scoped simp] theorem kd_hold_skip : (("hold" : Str) = ("skip" : Str)) = False := str_ne' (by decide +kernel)
@[scoped simp] theorem kn_hold_stop : (("hold" : Str) == ("stop" : Str)) = false := str_ne (by decide +kernel)
@[scoped simp] theorem kd_hold_stop : (("hold" : Str) = ("stop" : Str)) = False := str_ne' (by decide +kernel)
@[scoped simp] theorem kn_hold_hole : (("hold" : Str) == ("hole" : Str)) = false := str_ne (by decide +kernel)
@[scoped simp] theorem kd_hold_hole : (("hold" : Str) = ("hole" : Str)) = False := str_ne' (by decide +kernel)
@[scoped simp] theorem kn_hold_do : (("hold" : Str) == ("do" : Str)) = false := str_ne (by decide +kernel)
@[scoped simp] theorem kd_hold_do : (("hold" : Str) = ("do" : Str)) = False := str_ne' (by decide +kernel)
@[scoped simp] theorem kn_hold_call : (("hold" : Str) == ("call" : Str)) = false := str_ne (by decide +kernel)
@[scoped simp] theorem kd_hold_call : (("hold" : Str) = ("call" : Str)) = False := str_ne' (by decide +kernel)
@[scoped simp] theorem kn_hold_loop : (("hold" : Str) == ("loop" : Str)) = false := str_ne (by decide +kernel)
@[scoped simp] theorem kd_hold_loop : (("hold" : Str) = ("loop" : Str)) = False := str_ne' (by decide +kernel)
@[scoped simp] theorem kn_hold_seq : (("hold" : Str) == ("seq" : Str)) = false := str_ne (by decide +kernel)
@[scoped simp] theorem kd_hold_seq : (("hold" : Str) = ("seq" : Str)) = False := str_ne' (by decide +kernel)
@[scoped simp] theorem kn_hold_either : (("hold" : Str) == ("either" : Str)) = false := str_ne (by decide +kernel)
@[scoped simp] theorem kd_hold_either : (("hold" : Str) = ("either" : Str)) = False := str_ne' (by decide +kernel)
@[scoped simp] theorem kn_loop_skip : (("loop" : Str) == ("skip" : Str)) = false := str_ne (by decide +kernel)
@[scoped simp] theorem kd_loop_skip : (("loop" : Str) = ("skip" : Str)) = False := str_ne' (by decide +kernel)
@[scoped simp] theorem kn_loop_stop : (("loop" : Str) == ("stop" : Str)) = false := str_ne (by decide +kernel)
@[scoped simp] theorem kd_loop_stop : (("loop" : Str) = ("stop" : Str)) = False := str_ne' (by decide +kernel)
@[scoped simp] theorem kn_loop_hole : (("loop" : Str) == ("hole" : Str)) = false := str_ne (by decide +kernel)
@[scoped simp] theorem kd_loop_hole : (("loop" : Str) = ("hole" : Str)) = False := str_ne' (by decide +kernel)
@[scoped simp] theorem kn_loop_do : (("loop" : Str) == ("do" : Str)) = false := str_ne (by decide +kernel)
@[scoped simp] theorem kd_loop_do : (("loop" : Str) = ("do" : Str)) = False := str_ne' (by decide +kernel)
@[scoped simp] theorem kn_loop_call : (("loop" : Str) == ("call" : Str)) = false := str_ne (by decide +kernel)
@[scoped simp] theorem kd_loop_call : (("loop" : Str) = ("call" : Str)) = False := str_ne' (by decide +kernel)
@[scoped simp] theorem kn_loop_hold : (("loop" : Str) == ("hold" : Str)) = false := str_ne (by decide +kernel)
@[scoped simp] theorem kd_loop_hold : (("loop" : Str) = ("hold" : Str)) = False := str_ne' (by decide +kernel)
@[scoped simp] theorem kn_loop_seq : (("loop" : Str) == ("seq" : Str)) = false := str_ne (by decide +kernel)
@[scoped simp] theorem kd_loop_seq : (("loop" : Str) = ("seq" : Str)) = False := str_ne' (by decide +kernel)
@[scoped simp] theorem kn_loop_either : (("loop" : Str) == ("either" : Str)) = false := str_ne (by decide +kernel)
@[scoped simp] theorem kd_loop_either : (("loop" : Str) = ("either" : Str)) = False := str_ne' (by decide +kernel)
@[scoped simp] theorem kn_seq_skip : (("seq" : Str) == ("skip" : Str)) = false := str_ne (by decide +kernel)
@[scoped simp] theorem kd_seq_skip : (("seq" : Str) = ("skip" : Str)) = False := str_ne' (by decide +kernel)
@[scoped simp] theorem kn_seq_stop : (("seq" : Str) == ("stop" : Str)) = false := str_ne (by decide +kernel)
@[scoped simp] theorem kd_seq_stop : (("seq" : Str) = ("stop" : Str)) = False := str_ne' (by decide +kernel)
@[scoped simp] theorem kn_seq_hole : (("seq" : Str) == ("hole" : Str)) = false := str_ne (by decide +kernel)
@[scoped simp] theorem kd_seq_hole : (("seq" : Str) = ("hole" : Str)) = False := str_ne' (by decide +kernel)
@[scoped simp] theorem kn_seq_do : (("seq" : Str) == ("do" : Str)) = false := str_ne (by decide +kernel)
@[scoped simp] theorem kd_seq_do : (("seq" : Str) = ("do" : Str)) = False := str_ne' (by decide +kernel)
@[scoped simp] theorem kn_seq_call : (("seq" : Str) == ("call" : Str)) = false := str_ne (by decide +kernel)
@[scoped simp] theorem kd_seq_call : (("seq" : Str) = ("call" : Str)) = False := str_ne' (by decide +kernel)
@[scoped simp] theorem kn_seq_hold : (("seq" : Str) == ("hold" : Str)) = false := str_ne (by decide +kernel)
@[scoped simp] theorem kd_seq_hold : (("seq" : Str) = ("hold" : Str)) = False := str_ne' (by decide +kernel)
@[scoped simp] theorem kn_seq_loop : (("seq" : Str) == ("loop" : Str)) = false := str_ne (by decide +kernel)
@[scoped simp] theorem kd_seq_loop : (("seq" : Str) = ("loop" : Str)) = False := str_ne' (by decide +kernel)
@[scoped simp] theorem kn_seq_either : (("seq" : Str) == ("either" : Str)) = false := str_ne (by decide +kernel)
@[scoped simp] theorem kd_seq_either : (("seq" : Str) = ("either" : Str)) = False := str_ne' (by decide +kernel)
@[scoped simp] theorem kn_either_skip : (("either" : Str) == ("skip" : Str)) = false := str_ne (by decide +kernel)
@[scoped simp] theorem kd_either_skip : (("either" : Str) = ("skip" : Str)) = False := str_ne' (by decide +kernel)
@[scoped simp] theorem kn_either_stop : (("either" : Str) == ("stop" : Str)) = false := str_ne (by decide +kernel)
@[scoped simp] theorem kd_either_stop : (("either" : Str) = ("stop" : Str)) = False := str_ne' (by decide +kernel)
@[scoped simp] theorem kn_either_hole : (("either" : Str) == ("hole" : Str)) = false := str_ne (by decide +kernel)
@[scoped simp] theorem kd_either_hole : (("either" : Str) = ("hole" : Str)) = False := str_ne' (by decide +kernel)
@[scoped simp] theorem kn_either_do : (("either" : Str) == ("do" : Str)) = false := str_ne (by decide +kernel)
@[scoped simp] theorem kd_either_do : (("either" : Str) = ("do" : Str)) = False := str_ne' (by decide +kernel)
@[scoped simp] theorem kn_either_call : (("either" : Str) == ("call" : Str)) = false := str_ne (by decide +kernel)
@[scoped simp] theorem kd_either_call : (("either" : Str) = ("call" : Str)) = False := str_ne' (by decide +kernel)
@[scoped simp] theorem kn_either_hold : (("either" : Str) == ("hold" : Str)) = false := str_ne (by decide +kernel)
@[scoped simp] theorem kd_either_hold : (("either" : Str) = ("hold" : Str)) = False := str_ne' (by decide +kernel)
@[scoped simp] theorem kn_either_loop : (("either" : Str) == ("loop" : Str)) = false := str_ne (by decide +kernel)
@[scoped simp] theorem kd_either_loop : (("either" : Str) = ("loop" : Str)) = False := str_ne' (by decide +kernel)
@[scoped simp] theorem kn_either_seq : (("either" : Str) == ("seq" : Str)) = false := str_ne (by decide +kernel)
@[scoped simp] theorem kd_either_seq : (("either" : Str) = ("seq" : Str)) = False := str_ne' (by decide +kernel)
end Pv.Ev
end
section
set_option Elab.async false
set_option linter.all false
set_option autoImplicit false
set_option maxRecDepth 100000
set_option maxHeartbeats 2000000
/-! PgF: the form of a part, its members. -/
namespace Pv.Pg
open PySem L2 Pv Pv.Ev
/-- the members of a part that is formed like a body (L: further kinds), or none -/
def formB (L : List Str) : D → Option (List D)
  | .tuple (.str k :: r) =>
    if k = "skip" ∨ k = "stop" ∨ (k = "hole" ∧ k ∈ L) then (if r.length = 0 then some [] else none)
    else if k = "do" ∨ (k = "call" ∧ k ∈ L) then (if r.length = 1 ∧ nameD (r.getD 0 .none) = true then some [] else none)
    else if k = "hold" then (if r.length = 2 ∧ nameD (r.getD 0 .none) = true then some (r.drop 1) else none)
    else if k = "loop" then (if r.length = 1 then some r else none)
    else if (k = "seq" ∨ k = "either") ∧ 2 ≤ r.length then some r else none
  | _ => none
def leavesD (L : List Str) : D := .tuple (L.map .str)
theorem eqv_str (a b : Str) : PyData.eqv (.str a) (.str b) = (a == b) := by simp only [PyData.eqv]
theorem inB_strs {k : Str} {xs : List Str} (hk : PyData.strOk k = true) (hx : ∀ x ∈ xs, PyData.strOk x = true) : inB (.str k) (.tuple (xs.map .str)) = some (decide (k ∈ xs)) := by
  rw [inB_t _ (shaped_s k hk) (shaped_tup fun d hd => by
    obtain ⟨x, hm, rfl⟩ := List.mem_map.mp hd
    exact ⟨by simpa [PyData.canLay0] using hx x hm, by simp [PyData.depth]⟩)]
  congr 1
  rw [Bool.eq_iff_iff]
  simp only [List.any_map, List.any_eq_true, Function.comp, eqv_str, beq_iff_eq, decide_eq_true_eq]
  constructor
  · rintro ⟨x, hx, rfl⟩; exact hx
  · intro h; exact ⟨k, h, rfl⟩
theorem in2 {k a b : Str} (hk : PyData.strOk k = true) (ha : PyData.strOk a = true) (hb : PyData.strOk b = true) : inB (.str k) (.tuple [.str a, .str b]) = some (k == a || k == b) := by
  have := inB_strs (xs := [a, b]) hk (by simp [ha, hb])
  simp only [List.map_cons, List.map_nil] at this
  rw [this]
  congr 1
  rw [Bool.eq_iff_iff]
  simp
theorem in3 {k a b c : Str} (hk : PyData.strOk k = true) (ha : PyData.strOk a = true) (hb : PyData.strOk b = true) (hc : PyData.strOk c = true) : inB (.str k) (.tuple [.str a, .str b, .str c]) = some (k == a || (k == b || k == c)) := by
  have := inB_strs (xs := [a, b, c]) hk (by simp [ha, hb, hc])
  simp only [List.map_cons, List.map_nil] at this
  rw [this]
  congr 1
  rw [Bool.eq_iff_iff]
  simp
theorem ok_skip : PyData.strOk "skip" = true := by decide +kernel
theorem ok_stop : PyData.strOk "stop" = true := by decide +kernel
theorem ok_seq : PyData.strOk "seq" = true := by decide +kernel
theorem ok_either : PyData.strOk "either" = true := by decide +kernel
theorem ok_loop : PyData.strOk "loop" = true := by decide +kernel
theorem at0 {d : D} {r : List D} : atI (d :: r) 0 = some d := by
  unfold atI ixN
  simp
theorem at1 {d e : D} {r : List D} : atI (d :: e :: r) 1 = some e := by
  unfold atI ixN
  rw [if_pos (by decide), if_pos (by simp only [List.length_cons]; omega)]
  simp
theorem has_form_tup (L : List Str) (hL : ∀ x ∈ L, PyData.strOk x = true) (k : Str) (r : List D) (hk : PyData.strOk k = true) (nm : ∀ e ∈ r, F_is_name [e] = some ((.bool (nameD e), false), [])) :
    F_has_form [.tuple (.str k :: r), leavesD L] = some ((.bool (formB L (.tuple (.str k :: r))).isSome, false), []) := by
  have i1 := in2 hk ok_skip ok_stop
  have i2 := in2 hk ok_seq ok_either
  have i3 := inB_strs hk hL
  have hz : ¬ ((r.length : Int) + 1 < 1) := by omega
  unfold leavesD F_has_form b_has_form
  by_cases h1 : k = "skip" ∨ k = "stop" ∨ (k = "hole" ∧ k ∈ L)
  · have e : formB L (.tuple (.str k :: r)) = if r.length = 0 then some [] else none := by simp only [formB, if_pos h1]
    rw [e]
    have q : ((r.length : Int) + 1 == 1) = (if r.length = 0 then some ([] : List D) else none).isSome := by
      by_cases hr : r.length = 0
      · simp [hr]
      · have : ¬ ((r.length : Int) + 1 = 1) := by omega
        simp only [if_neg hr, Option.isSome_none, beq_eq_false_iff_ne, ne_eq]
        exact this
    rw [← q]
    clear q e
    rcases h1 with rfl | rfl | ⟨rfl, hm⟩
    · simp [isiD, tyName, at0, hz, i1]
    · simp [isiD, tyName, at0, hz, i1]
    · simp [isiD, tyName, at0, hz, i1, i3, hm]
  · have n1 : ¬ k = "skip" := fun e => h1 (.inl e)
    have n2 : ¬ k = "stop" := fun e => h1 (.inr (.inl e))
    have n3 : k = "hole" → k ∉ L := fun e m => h1 (.inr (.inr ⟨e, m⟩))
    have n3' : (k == "hole" && decide (k ∈ L)) = false := by
      by_cases e : k = "hole"
      · have := n3 e; simp [this]
      · simp [e]
    by_cases h2 : k = "do" ∨ (k = "call" ∧ k ∈ L)
    · have e : formB L (.tuple (.str k :: r)) = if r.length = 1 ∧ nameD (r.getD 0 .none) = true then some [] else none := by simp only [formB, if_neg h1, if_pos h2]
      rw [e]
      clear e
      rcases r with _ | ⟨x, _ | ⟨y, r⟩⟩
      · rcases h2 with rfl | ⟨rfl, hm⟩
        · simp [isiD, tyName, at0, i1]
        · simp [isiD, tyName, at0, i1, i3, hm]
      · have m1 := nm x (by simp)
        rcases h2 with rfl | ⟨rfl, hm⟩
        · by_cases hx : nameD x = true <;> simp [isiD, tyName, at0, at1, i1, m1, hx]
        · by_cases hx : nameD x = true <;> simp [isiD, tyName, at0, at1, i1, i3, hm, m1, hx]
      · have q : ¬ ((r.length : Int) + 1 + 1 + 1 = 2) := by omega
        have q2 : ¬ ((r.length : Int) + 1 + 1 + 1 < 1) := by omega
        rcases h2 with rfl | ⟨rfl, hm⟩
        · simp [isiD, tyName, at0, i1, q, q2]
        · simp [isiD, tyName, at0, i1, i3, hm, q, q2]
    · have n4 : ¬ k = "do" := fun e => h2 (.inl e)
      have n5 : k = "call" → k ∉ L := fun e m => h2 (.inr ⟨e, m⟩)
      by_cases h3 : k = "hold"
      · have e : formB L (.tuple (.str k :: r)) = if r.length = 2 ∧ nameD (r.getD 0 .none) = true then some (r.drop 1) else none := by simp only [formB, if_neg h1, if_neg h2, if_pos h3]
        rw [e]
        clear e
        subst h3
        rcases r with _ | ⟨x, _ | ⟨y, _ | ⟨z, r⟩⟩⟩
        · simp [isiD, tyName, at0, i1]
        · simp [isiD, tyName, at0, i1]
        · have m1 := nm x (by simp)
          by_cases hx : nameD x = true <;> simp [isiD, tyName, at0, at1, i1, m1, hx]
        · have q : ¬ ((r.length : Int) + 1 + 1 + 1 + 1 = 3) := by omega
          have q2 : ¬ ((r.length : Int) + 1 + 1 + 1 + 1 < 1) := by omega
          simp [isiD, tyName, at0, i1, q, q2]
      · by_cases h4 : k = "loop"
        · have e : formB L (.tuple (.str k :: r)) = if r.length = 1 then some r else none := by simp only [formB, if_neg h1, if_neg h2, if_neg h3, if_pos h4]
          rw [e]
          clear e
          subst h4
          rcases r with _ | ⟨x, _ | ⟨y, r⟩⟩
          · simp [isiD, tyName, at0, i1, i2]
          · simp [isiD, tyName, at0, i1, i2]
          · have q : ¬ ((r.length : Int) + 1 + 1 + 1 = 2) := by omega
            have q2 : ¬ ((r.length : Int) + 1 + 1 + 1 < 1) := by omega
            simp [isiD, tyName, at0, i1, i2, q, q2]
        · have e : formB L (.tuple (.str k :: r)) = if (k = "seq" ∨ k = "either") ∧ 2 ≤ r.length then some r else none := by simp only [formB, if_neg h1, if_neg h2, if_neg h3, if_neg h4]
          rw [e]
          clear e
          by_cases h5 : k = "seq" ∨ k = "either"
          · have q : decide ((3 : Int) ≤ (r.length : Int) + 1) = decide (2 ≤ r.length) := by
              rw [decide_eq_decide]; omega
            have s : (if (k = "seq" ∨ k = "either") ∧ 2 ≤ r.length then some r else none).isSome = decide (2 ≤ r.length) := by
              by_cases hr : 2 ≤ r.length <;> simp [h5, hr]
            rw [s, ← q]
            rcases h5 with rfl | rfl
            · simp [isiD, tyName, at0, hz, i1, i2]
            · simp [isiD, tyName, at0, hz, i1, i2]
          · have n6 : ¬ k = "seq" := fun e => h5 (.inl e)
            have n7 : ¬ k = "either" := fun e => h5 (.inr e)
            by_cases h6 : k = "hole"
            · subst h6
              simp [isiD, tyName, at0, hz, i1, i2, i3, n3]
            · by_cases h7 : k = "call"
              · subst h7
                simp [isiD, tyName, at0, hz, i1, i2, i3, n5]
              · simp [isiD, tyName, at0, hz, i1, i2, i3, n1, n2, n4, n6, n7, h3, h4, h6, h7]
theorem has_form_D (L : List Str) (hL : ∀ x ∈ L, PyData.strOk x = true) (v : D) (h : OkV v) : F_has_form [v, leavesD L] = some ((.bool (formB L v).isSome, false), []) := by
  cases v with
  | tuple ds =>
    cases ds with
    | nil =>
      unfold leavesD F_has_form b_has_form
      simp [isiD, tyName, formB]
    | cons d r =>
      cases d with
      | str k =>
        have hk : PyData.strOk k = true := by
          have := (h.mem (d := .str k) (by simp)).lay
          simpa [PyData.canLay0] using this
        exact has_form_tup L hL k r hk fun e he => is_name_D e (h.shortP e (List.mem_cons_of_mem _ he))
      | _ =>
        have hz : ¬ ((r.length : Int) + 1 < 1) := by omega
        unfold leavesD F_has_form b_has_form
        simp [isiD, tyName, formB, at0, hz]
  | _ =>
    unfold leavesD F_has_form b_has_form
    simp [isiD, tyName, formB]
end Pv.Pg
end
section
set_option Elab.async false
set_option linter.all false
set_option autoImplicit false
set_option maxRecDepth 100000
set_option maxHeartbeats 2000000
/-! PgP: parts: members, how many, names. -/
namespace Pv.Pg
open PySem L2 Pv Pv.Ev
inductive Part (L : List Str) : D → List D → Prop
  | leaf0 (k : Str) (hk : k = "skip" ∨ k = "stop" ∨ (k = "hole" ∧ k ∈ L)) : Part L (.tuple [.str k]) []
  | leaf1 (k nm : Str) (hk : k = "do" ∨ (k = "call" ∧ k ∈ L)) (hn : nameB nm = true) : Part L (.tuple [.str k, .str nm]) []
  | hold (nm : Str) (p : D) (hn : nameB nm = true) : Part L (.tuple [.str "hold", .str nm, p]) [p]
  | loop (p : D) : Part L (.tuple [.str "loop", p]) [p]
  | many (k : Str) (r : List D) (hk : k = "seq" ∨ k = "either") (hr : 2 ≤ r.length) : Part L (.tuple (.str k :: r)) r
theorem name_str {d : D} (h : nameD d = true) : ∃ x, d = .str x ∧ nameB x = true := by
  cases d with
  | str x => exact ⟨x, rfl, h⟩
  | _ => cases h
theorem len1 {r : List D} (h : r.length = 1) : ∃ x, r = [x] := by
  rcases r with _ | ⟨x, _ | ⟨y, r⟩⟩
  · cases h
  · exact ⟨x, rfl⟩
  · simp at h
theorem len2 {r : List D} (h : r.length = 2) : ∃ x y, r = [x, y] := by
  rcases r with _ | ⟨x, _ | ⟨y, _ | ⟨z, r⟩⟩⟩
  · cases h
  · simp at h
  · exact ⟨x, y, rfl⟩
  · simp at h
theorem part_of {L : List Str} {v : D} {ms : List D} (h : formB L v = some ms) : Part L v ms := by
  unfold formB at h
  split at h
  · next k r =>
    split at h
    · next hk =>
      split at h
      · next hr => cases h; rw [List.eq_nil_of_length_eq_zero hr]; exact .leaf0 k hk
      · cases h
    · split at h
      · next hk =>
        split at h
        · next hr =>
          cases h
          obtain ⟨x, rfl⟩ := len1 hr.1
          obtain ⟨nm, e, hn⟩ := name_str (by simpa using hr.2 : nameD x = true)
          subst e
          exact .leaf1 k nm hk hn
        · cases h
      · split at h
        · next hk =>
          subst hk
          split at h
          · next hr =>
            cases h
            obtain ⟨x, y, rfl⟩ := len2 hr.1
            obtain ⟨nm, e, hn⟩ := name_str (by simpa using hr.2 : nameD x = true)
            subst e
            exact .hold nm y hn
          · cases h
        · split at h
          · next hk =>
            subst hk
            split at h
            · next hr =>
              cases h
              obtain ⟨x, rfl⟩ := len1 hr
              exact .loop x
            · cases h
          · split at h
            · next hk => cases h; exact .many k _ hk.1 hk.2
            · cases h
  · cases h
theorem Part.sub {L : List Str} {v : D} {ms : List D} (p : Part L v ms) : ∃ ds, v = .tuple ds ∧ ∀ m ∈ ms, m ∈ ds := by
  cases p with
  | leaf0 k hk => exact ⟨_, rfl, by simp⟩
  | leaf1 k nm hk hn => exact ⟨_, rfl, by simp⟩
  | hold nm p hn => exact ⟨_, rfl, by simp⟩
  | loop p => exact ⟨_, rfl, by simp⟩
  | many k r hk hr => exact ⟨_, rfl, fun m hm => List.mem_cons_of_mem _ hm⟩
theorem Part.ok {L : List Str} {v : D} {ms : List D} (p : Part L v ms) (h : OkV v) : ∀ m ∈ ms, OkV m := by
  obtain ⟨ds, rfl, hs⟩ := p.sub
  exact fun m hm => h.mem (hs m hm)
theorem Part.len {L : List Str} {v : D} {ms : List D} (p : Part L v ms) (h : OkV v) : ms.length ≤ 4000 := by
  cases p with
  | leaf0 k hk => simp
  | leaf1 k nm hk hn => simp
  | hold nm p hn => simp
  | loop p => simp
  | many k r hk hr => have := h.len; simp at this; omega
/-- seq, either, loop -/
theorem kind_ok {k : Str} {r : List D} (h : OkV (.tuple (.str k :: r))) : PyData.strOk k = true := by
  have := (h.mem (d := .str k) (by simp)).lay
  simpa [PyData.canLay0] using this
theorem cut1 (d : D) (r : List D) : cutD (d :: r) (some 1) none = r := by
  have := cutD_drop (d :: r) 1
  simpa using this
theorem cut2 (d e : D) (r : List D) : cutD (d :: e :: r) (some 2) none = r := by
  have := cutD_drop (d :: e :: r) 2
  simpa using this
theorem members_D {L : List Str} {v : D} {ms : List D} (p : Part L v ms) (h : OkV v) : F_members [v] = some ((.tuple ms, false), []) := by
  unfold F_members b_members
  cases p with
  | leaf0 k hk =>
    have i := in3 (kind_ok h) ok_seq ok_either ok_loop
    rcases hk with rfl | rfl | ⟨rfl, _⟩ <;> simp [at0, i]
  | leaf1 k nm hk hn =>
    have i := in3 (kind_ok h) ok_seq ok_either ok_loop
    rcases hk with rfl | ⟨rfl, _⟩ <;> simp [at0, i]
  | hold nm p hn =>
    have i := in3 (kind_ok h) ok_seq ok_either ok_loop
    simp [at0, i, cut2]
  | loop p =>
    have i := in3 (kind_ok h) ok_seq ok_either ok_loop
    simp [at0, i, cut1]
  | many k r hk hr =>
    have i := in3 (kind_ok h) ok_seq ok_either ok_loop
    rcases hk with rfl | rfl <;> simp [at0, i, cut1]
/-- all parts, in order, if the value is formed like a body, at most n deep -/
def allP (f : D → Option (List D)) : List D → Option (List D)
  | [] => some []
  | d :: ds => (f d).bind fun a => (allP f ds).map (a ++ ·)
def partsB (L : List Str) : Nat → D → Option (List D)
  | 0, _ => none
  | n + 1, v => (formB L v).bind fun ms => (allP (partsB L n) ms).map (v :: ·)
/-- as the program counts: one more than the most if there are too many or it is none -/
def pinO : Option (List D) → Nat
  | some ps => if ps.length ≤ 60 then ps.length else 61
  | none => 61
def pinB (L : List Str) (n : Nat) (v : D) : Nat := pinO (partsB L n v)
def endO (m : Nat) : Option (List D) → Option Nat
  | some ps => if m + ps.length ≤ 60 then some (m + ps.length) else none
  | none => none
def runP (f : D → Nat) : List D → Nat → Option Nat
  | [], m => some m
  | d :: ds, m => if 60 < m + f d then none else runP f ds (m + f d)
theorem run_all (L : List Str) (n : Nat) : ∀ (ms : List D) (m : Nat), m ≤ 60 → runP (pinB L n) ms m = endO m (allP (partsB L n) ms)
  | [], m, h => by simp [runP, allP, h, endO]
  | d :: ds, m, h => by
    have ih := run_all L n ds
    have e : pinB L n d = pinO (partsB L n d) := rfl
    simp only [runP, allP]
    rw [e]
    generalize partsB L n d = o
    generalize allP (partsB L n) ds = q at ih ⊢
    by_cases hm : 60 < m + pinO o
    · rw [if_pos hm]
      cases o with
      | none => rfl
      | some a =>
        cases q with
        | none => rfl
        | some ps =>
          simp only [pinO] at hm
          simp only [Option.bind_some, Option.map_some, endO, List.length_append]
          rw [if_neg]
          split at hm <;> omega
    · rw [if_neg hm, ih _ (by omega)]
      cases o with
      | none => simp [pinO] at hm
      | some a =>
        simp only [pinO] at hm ⊢
        by_cases ha : a.length ≤ 60
        · rw [if_pos ha] at hm ⊢
          cases q with
          | none => rfl
          | some ps => simp only [Option.bind_some, Option.map_some, endO, List.length_append, Nat.add_assoc]
        · rw [if_neg ha] at hm; omega
abbrev body_pin (self_ : Fn) : SemS := (sSeq (sSet 3 (sOp addF (sVar 3) (sCall [.v, .v, .v] self_ (mV (sVar 4) (mV (sOp addF (sVar 1) (sC (.int 1))) (mV (sVar 2) mNil)))))) (sIfS (sTest (sOp gtF (sVar 3) (sC (.int 60)))) (sRet (sOp addF (sC (.int 60)) (sC (.int 1)))) sNx))
theorem pin_loop {L : List Str} {n : Nat} {self_ : Fn} (v : D) (k : Int) : ∀ (ms : List D) (m : Nat) (c4 : Option D), (∀ d ∈ ms, self_ [d, .int (k + 1), leavesD L] = some ((.int (pinB L n d), false), [])) →
    (∀ m', runP (pinB L n) ms m = some m' → ∃ c5 : Option D, forL (gN 4) (body_pin self_) ms [some (.val v), some (.val (.int k)), some (.val (leavesD L)), some (.val (.int m)), c4.map .val] = some (.nx [some (.val v), some (.val (.int k)), some (.val (leavesD L)), some (.val (.int m')), c5.map .val])) ∧
    (runP (pinB L n) ms m = none → ∃ ρ', forL (gN 4) (body_pin self_) ms [some (.val v), some (.val (.int k)), some (.val (leavesD L)), some (.val (.int m)), c4.map .val] = some (.rt (.val (.int 61)) ρ') ∧ backsOf [.v, .v, .v] ρ' = some [])
  | [], m, c4, _ => ⟨fun m' e => ⟨c4, (by cases e; rfl)⟩, fun e => (by cases e)⟩
  | d :: ds, m, c4, h => by
    have h1 := h d List.mem_cons_self
    have ih := pin_loop v k ds (m + pinB L n d) (some d) fun x hx => h x (List.mem_cons_of_mem _ hx)
    have e1 : gN 4 d [some (.val v), some (.val (.int k)), some (.val (leavesD L)), some (.val (.int m)), c4.map .val] = some [some (.val v), some (.val (.int k)), some (.val (leavesD L)), some (.val (.int m)), some (.val d)] := by simp
    have cast : ((m + pinB L n d : Nat) : Int) = (m : Int) + (pinB L n d : Int) := by simp
    rw [cast] at ih
    have er : runP (pinB L n) (d :: ds) m = if 60 < m + pinB L n d then none else runP (pinB L n) ds (m + pinB L n d) := rfl
    rw [er]
    clear er cast
    generalize pinB L n d = p at *
    by_cases hm : 60 < m + p
    · have g : (60 : Int) < (m : Int) + (p : Int) := by omega
      have e2 : body_pin self_ [some (.val v), some (.val (.int k)), some (.val (leavesD L)), some (.val (.int m)), some (.val d)] = some (.rt (.val (.int 61)) [some (.val v), some (.val (.int k)), some (.val (leavesD L)), some (.val (.int ((m : Int) + (p : Int)))), some (.val d)]) := by
        simp [h1, g]
      rw [if_pos hm]
      refine ⟨fun m' e => (by cases e), fun _ => ⟨[some (.val v), some (.val (.int k)), some (.val (leavesD L)), some (.val (.int ((m : Int) + (p : Int)))), some (.val d)], ?_, rfl⟩⟩
      simp only [forL, e1, e2, Option.bind_some]
    · have g : ¬ (60 : Int) < (m : Int) + (p : Int) := by omega
      have e2 : body_pin self_ [some (.val v), some (.val (.int k)), some (.val (leavesD L)), some (.val (.int m)), some (.val d)] = some (.nx [some (.val v), some (.val (.int k)), some (.val (leavesD L)), some (.val (.int ((m : Int) + (p : Int)))), some (.val d)]) := by
        simp [h1, g]
      rw [if_neg hm]
      simp only [forL, e1, e2, Option.bind_some]
      exact ih
theorem parts_in_D (L : List Str) (hL : ∀ x ∈ L, PyData.strOk x = true) : ∀ (n : Nat), n ≤ 40 → ∀ (f : Nat), n < f → ∀ (v : D), OkV v → F_parts_in f [v, .int (41 - (n : Int)), leavesD L] = some ((.int (pinB L n v), false), []) := by
  intro n
  induction n with
  | zero =>
    intro _ f hf v h
    obtain ⟨f, rfl⟩ : ∃ g, f = g + 1 := ⟨f - 1, by omega⟩
    show fnOf 5 [.v, .v, .v] (b_parts_in (F_parts_in f)) _ = _
    unfold b_parts_in pinB partsB pinO leavesD
    simp
  | succ n ih =>
    intro hn f hf v h
    obtain ⟨f, rfl⟩ : ∃ g, f = g + 1 := ⟨f - 1, by omega⟩
    show fnOf 5 [.v, .v, .v] (b_parts_in (F_parts_in f)) _ = _
    have hd : ¬ (40 : Int) < 41 - ((n + 1 : Nat) : Int) := by omega
    have hk : (41 : Int) - ((n + 1 : Nat) : Int) + 1 = 41 - (n : Int) := by omega
    have hf1 := has_form_D L hL v h
    generalize hkk : (41 : Int) - ((n + 1 : Nat) : Int) = k at *
    cases hfm : formB L v with
    | none =>
      rw [hfm] at hf1
      have : pinB L (n + 1) v = 61 := by simp [pinB, partsB, hfm, pinO]
      rw [this]
      generalize leavesD L = LD at *
      unfold b_parts_in
      simp [hd, hf1]
    | some ms =>
      rw [hfm] at hf1
      have p := part_of hfm
      have mb := members_D p h
      have hself : ∀ d ∈ ms, F_parts_in f [d, .int (k + 1), leavesD L] = some ((.int (pinB L n d), false), []) := fun d hd => by
        rw [hk]
        exact ih (by omega) f (by omega) d (p.ok h d hd)
      have lp := pin_loop v k ms 1 none hself
      have ra := run_all L n ms 1 (by omega)
      rw [ra] at lp
      have pe : pinB L (n + 1) v = (match endO 1 (allP (partsB L n) ms) with
        | some m => m
        | none => 61) := by
        simp only [pinB, partsB, hfm, Option.bind_some]
        cases allP (partsB L n) ms with
        | none => rfl
        | some ps =>
          simp only [Option.map_some, pinO, endO, List.length_cons, Nat.add_comm 1]
          split <;> rfl
      rw [pe]
      generalize leavesD L = LD at *
      cases he : endO 1 (allP (partsB L n) ms) with
      | none =>
        obtain ⟨ρ', l1, l2⟩ := lp.2 he
        unfold b_parts_in
        simp at l1
        simp [hd, hf1, mb, l1, l2]
      | some m =>
        obtain ⟨c5, l1⟩ := lp.1 m he
        unfold b_parts_in
        simp at l1
        simp [hd, hf1, mb, l1]
end Pv.Pg
end
section
set_option Elab.async false
set_option linter.all false
set_option autoImplicit false
set_option maxRecDepth 100000
set_option maxHeartbeats 2000000
/-! PgQ: names in bodies, is_body, locks_of, actions_of. -/
namespace Pv.Pg
open PySem L2 Pv Pv.Ev
def nameOf (kind : Str) : D → Option Str
  | .tuple (.str k :: .str nm :: _) => if k = kind then some nm else none
  | _ => none
def namesK (kind : Str) (ps : List D) : List Str := ps.filterMap (nameOf kind)
theorem allP_flat {f : D → Option (List D)} : ∀ {ms qs : List D}, allP f ms = some qs → qs = ms.flatMap (fun d => (f d).getD []) ∧ ∀ d ∈ ms, ∃ a, f d = some a
  | [], qs, h => by cases h; exact ⟨rfl, by simp⟩
  | d :: ds, qs, h => by
    simp only [allP, Option.bind_eq_some_iff, Option.map_eq_some_iff] at h
    obtain ⟨a, h1, b, h2, rfl⟩ := h
    obtain ⟨e, k⟩ := allP_flat h2
    refine ⟨by rw [List.flatMap_cons, h1, e]; rfl, fun x hx => ?_⟩
    rcases List.mem_cons.mp hx with rfl | hx
    · exact ⟨a, h1⟩
    · exact k x hx
theorem len_flat {α β : Type} (g : α → List β) : ∀ {ms : List α} {d : α}, d ∈ ms → (g d).length ≤ (ms.flatMap g).length
  | m :: ms, d, h => by
    rw [List.flatMap_cons, List.length_append]
    rcases List.mem_cons.mp h with rfl | h
    · omega
    · have := len_flat g h; omega
theorem namesK_flat (kind : Str) (g : D → List D) : ∀ ms : List D, namesK kind (ms.flatMap g) = ms.flatMap fun d => namesK kind (g d)
  | [] => rfl
  | d :: ds => by
    have := namesK_flat kind g ds
    simp only [namesK] at this ⊢
    rw [List.flatMap_cons, List.filterMap_append, this, List.flatMap_cons]
theorem eqF_str (a b : Str) : eqF (.str a) (.str b) = some (.bool (a == b), false) := eq_s a b
abbrev b_named (self_ : Fn) : SemS := b_named_in self_
theorem named_loop {self_ : Fn} {kind : Str} (v : D) (ms : List D) (inner : D → List Str) (hs : ∀ d ∈ ms, self_ [d, .str kind] = some ((.list ((inner d).map .str), true), [])) (hz : (ms.flatMap inner).length ≤ 1000) :
    lc2L (gN 3) sYes (iOf walkOf (sCall [.v, .v] self_ (mV (sVar 3) (mV (sVar 1) mNil)))) (gN 4) sYes (sVar 4) [3, 4] [4] ms 0 [some (.val v), some (.val (.str kind)), none, none, none] = some ((ms.flatMap inner).map .str, [some (.val v), some (.val (.str kind)), none, none, none]) := by
  have e : (ms.flatMap inner).map PyData.str = ms.flatMap fun d => (inner d).map .str := by rw [List.map_flatMap]
  rw [e]
  refine lc2L_map (inner := fun d => (inner d).map .str) (fun d hd => ?_) (by rw [← e, List.length_map, Nat.zero_add]; exact Nat.le_trans hz (by decide))
  refine ⟨[some (.val v), some (.val (.str kind)), none, some (.val d), none], (inner d).map .str, [some (.val v), some (.val (.str kind)), none, some (.val d), none], by simp, by simp, ?_, by simp, fun m hm => ?_, by simp⟩
  · simp [hs d hd]
  · have := lcL_map (g := gN 4) (t := sYes) (el := sVar 4) (vs := [4]) (ρ := [some (.val v), some (.val (.str kind)), none, some (.val d), none]) (h := id) (ds := (inner d).map .str) (n := m) (fun y hy => ⟨[some (.val v), some (.val (.str kind)), none, some (.val d), some (.val y)], .val y, by simp, by simp, by simp, by simp, by simp⟩) hm
    simpa using this
/-- what a part gives of its own -/
theorem own_name {L : List Str} {v : D} {ms : List D} (p : Part L v ms) (kind : Str) (hk : kind = "hold" ∨ kind = "do") : ∃ ds d0 k, v = .tuple ds ∧ atI ds 0 = some (.str k) ∧ ((k == kind) = true → ∃ nm, atI ds 1 = some (.str nm) ∧ nameOf kind v = some nm ∧ nameB nm = true) ∧ ((k == kind) = false → nameOf kind v = none) ∧ d0 = k := by
  cases p with
  | leaf0 k h => exact ⟨_, k, k, rfl, at0, fun e => by
      rcases hk with rfl | rfl <;> rcases h with rfl | rfl | ⟨rfl, _⟩ <;> simp at e, fun _ => rfl, rfl⟩
  | leaf1 k nm h hn => exact ⟨_, k, k, rfl, at0, fun e => ⟨nm, at1, by simp only [nameOf]; rw [if_pos (by simpa using e)], hn⟩, fun e => by simp only [nameOf]; rw [if_neg (by simpa using e)], rfl⟩
  | hold nm p hn => exact ⟨_, "hold", "hold", rfl, at0, fun e => ⟨nm, at1, by simp only [nameOf]; rw [if_pos (by simpa using e)], hn⟩, fun e => by simp only [nameOf]; rw [if_neg (by simpa using e)], rfl⟩
  | loop p => exact ⟨_, "loop", "loop", rfl, at0, fun e => by
      rcases hk with rfl | rfl <;> simp at e, fun e => by
      unfold nameOf
      split
      · next k nm r h1 =>
        injection h1 with h1
        injection h1 with h2 h3
        injection h2 with h2
        rw [if_neg]
        rw [← h2]; simpa using e
      · rfl, rfl⟩
  | many k r h hr => exact ⟨_, k, k, rfl, at0, fun e => by
      rcases hk with rfl | rfl <;> rcases h with rfl | rfl <;> simp at e, fun e => by
      unfold nameOf
      split
      · next k' nm r' h1 =>
        injection h1 with h1
        injection h1 with h2 h3
        injection h2 with h2
        rw [if_neg]
        rw [← h2]; simpa using e
      · rfl, rfl⟩
theorem named_in_D (L : List Str) (kind : Str) (hk : kind = "hold" ∨ kind = "do") : ∀ (n f : Nat), n < f → ∀ (v : D) (ps : List D), OkV v → partsB L n v = some ps → ps.length ≤ 1000 → F_named_in f [v, .str kind] = some ((.list ((namesK kind ps).map .str), true), []) := by
  intro n
  induction n with
  | zero => intro f hf v ps h e hz; cases e
  | succ n ih =>
    intro f hf v ps h e hz
    obtain ⟨f, rfl⟩ : ∃ g, f = g + 1 := ⟨f - 1, by omega⟩
    show fnOf 5 [.v, .v] (b_named_in (F_named_in f)) _ = _
    simp only [partsB, Option.bind_eq_some_iff, Option.map_eq_some_iff] at e
    obtain ⟨ms, h1, qs, h2, rfl⟩ := e
    have p := part_of h1
    have mb := members_D p h
    obtain ⟨e2, hm⟩ := allP_flat h2
    have hq : qs.length ≤ 1000 := by simp at hz; omega
    have hin : ∀ d ∈ ms, ((partsB L n d).getD []).length ≤ 1000 := fun d hd => by
      have : ((partsB L n d).getD []).length ≤ qs.length := by
        rw [e2]
        exact len_flat (fun d => (partsB L n d).getD []) hd
      omega
    have hs : ∀ d ∈ ms, F_named_in f [d, .str kind] = some ((.list ((namesK kind ((partsB L n d).getD [])).map .str), true), []) := fun d hd => by
      obtain ⟨a, ha⟩ := hm d hd
      have := hin d hd
      rw [ha] at this ⊢
      exact ih f (by omega) d a (p.ok h d hd) ha this
    have fl := namesK_flat kind (fun d => (partsB L n d).getD []) ms
    rw [← e2] at fl
    have hl : (ms.flatMap fun d => namesK kind ((partsB L n d).getD [])).length ≤ 1000 := by
      rw [← fl]
      exact Nat.le_trans (List.length_filterMap_le _ _) hq
    have lp := named_loop v ms (fun d => namesK kind ((partsB L n d).getD [])) hs hl
    rw [← fl] at lp hl
    obtain ⟨ds, d0, k, rfl, a0, a1, a2, _⟩ := own_name p kind hk
    have cons : namesK kind (.tuple ds :: qs) = (nameOf kind (.tuple ds)).toList ++ namesK kind qs := by
      simp only [namesK, List.filterMap_cons]
      cases nameOf kind (.tuple ds) <;> rfl
    rw [cons]
    by_cases hkk : (k == kind) = true
    · obtain ⟨nm, b1, b2, _⟩ := a1 hkk
      rw [b2]
      have z : 1 + (namesK kind qs).length ≤ sizeLine := Nat.le_trans (by omega : _ ≤ 1001) (by decide)
      unfold b_named_in
      simp [mb, lp, a0, eqF_str, hkk, b1, z]
    · have hkk' : (k == kind) = false := Bool.eq_false_iff.mpr hkk
      rw [a2 hkk']
      unfold b_named_in
      simp [mb, lp, a0, eqF_str, hkk']
theorem set_of_D (xs : List Str) (h : xs.length ≤ 1000) : F_set_of [.list (xs.map .str)] = some ((.tuple ((uniqS xs).map .str), false), []) := by
  have g2 : xs.length + 1 < scanBound := Nat.lt_of_le_of_lt (Nat.succ_le_succ h) (by decide)
  unfold F_set_of b_set_of
  simp [g2]
/-- a body (L: further kinds of parts) -/
def bodyB (L : List Str) (v : D) : Bool := match partsB L 40 v with
  | some ps => decide (ps.length ≤ 60) && (decide ((uniqS (namesK "hold" ps)).length ≤ 5) && decide ((uniqS (namesK "do" ps)).length ≤ 6))
  | none => false
theorem is_formed_D (L : List Str) (hL : ∀ x ∈ L, PyData.strOk x = true) (v : D) (h : OkV v) : F_is_formed [v, leavesD L] = some ((.bool (bodyB L v), false), []) := by
  have pi := parts_in_D L hL 40 (by omega) 45 (by omega) v h
  have e1 : (41 : Int) - ((40 : Nat) : Int) = 1 := by omega
  rw [e1] at pi
  unfold pinB at pi
  unfold bodyB
  cases hp : partsB L 40 v with
  | none =>
    rw [hp] at pi
    simp only [pinO] at pi
    generalize leavesD L = LD at *
    unfold F_is_formed b_is_formed
    simp [pi]
  | some ps =>
    rw [hp] at pi
    simp only [pinO] at pi
    by_cases hz : ps.length ≤ 60
    · rw [if_pos hz] at pi
      have n1 := named_in_D L "hold" (.inl rfl) 40 45 (by omega) v ps h hp (by omega)
      have n2 := named_in_D L "do" (.inr rfl) 40 45 (by omega) v ps h hp (by omega)
      have l1 : (namesK "hold" ps).length ≤ 1000 := Nat.le_trans (List.length_filterMap_le _ _) (by omega)
      have l2 : (namesK "do" ps).length ≤ 1000 := Nat.le_trans (List.length_filterMap_le _ _) (by omega)
      have s1 := set_of_D _ l1
      have s2 := set_of_D _ l2
      have g1 : ¬ ((60 : Int) < (ps.length : Int)) := by omega
      have c1 : decide (((uniqS (namesK "hold" ps)).length : Int) ≤ 5) = decide ((uniqS (namesK "hold" ps)).length ≤ 5) := by rw [decide_eq_decide]; omega
      have c2 : decide (((uniqS (namesK "do" ps)).length : Int) ≤ 6) = decide ((uniqS (namesK "do" ps)).length ≤ 6) := by rw [decide_eq_decide]; omega
      generalize leavesD L = LD at *
      unfold F_is_formed b_is_formed
      by_cases q : (uniqS (namesK "hold" ps)).length ≤ 5
      · have q' : ((uniqS (namesK "hold" ps)).length : Int) ≤ 5 := by omega
        simp [pi, n1, n2, s1, s2, g1, q, q', c2, hz]
      · have q' : ¬ ((uniqS (namesK "hold" ps)).length : Int) ≤ 5 := by omega
        simp [pi, n1, n2, s1, s2, g1, q, q', hz]
    · rw [if_neg hz] at pi
      generalize leavesD L = LD at *
      unfold F_is_formed b_is_formed
      simp [pi, hz]
theorem is_body_D (v : D) (h : OkV v) : F_is_body [v] = some ((.bool (bodyB [] v), false), []) := by
  have := is_formed_D [] (by simp) v h
  have e : leavesD [] = .tuple [] := rfl
  rw [e] at this
  unfold F_is_body b_is_body
  simp [this]
theorem check_body_D (v : D) (h : OkV v) (hb : bodyB [] v = true) : F_check_body [v] = some ((.none, false), []) := by
  have := is_body_D v h
  rw [hb] at this
  unfold F_check_body b_check_body
  simp [this]
theorem body_parts {L : List Str} {v : D} (hb : bodyB L v = true) : ∃ ps, partsB L 40 v = some ps ∧ ps.length ≤ 60 ∧ (uniqS (namesK "hold" ps)).length ≤ 5 ∧ (uniqS (namesK "do" ps)).length ≤ 6 := by
  unfold bodyB at hb
  split at hb
  · next ps e =>
    simp only [Bool.and_eq_true, decide_eq_true_eq] at hb
    exact ⟨ps, e, hb⟩
  · cases hb
theorem locks_of_D (v : D) (h : OkV v) (hb : bodyB [] v = true) (ps : List D) (hp : partsB [] 40 v = some ps) (hz : ps.length ≤ 60) : F_locks_of [v] = some ((.tuple ((uniqS (namesK "hold" ps)).map .str), false), []) := by
  have c := check_body_D v h hb
  have n1 := named_in_D [] "hold" (.inl rfl) 40 45 (by omega) v ps h hp (by omega)
  have s1 := set_of_D _ (Nat.le_trans (List.length_filterMap_le (nameOf "hold") ps) (by omega : ps.length ≤ 1000))
  have e : namesK "hold" ps = ps.filterMap (nameOf "hold") := rfl
  rw [← e] at s1
  unfold F_locks_of b_locks_of
  simp [c, n1, s1]
theorem actions_of_D (v : D) (h : OkV v) (hb : bodyB [] v = true) (ps : List D) (hp : partsB [] 40 v = some ps) (hz : ps.length ≤ 60) : F_actions_of [v] = some ((.tuple ((uniqS (namesK "do" ps)).map .str), false), []) := by
  have c := check_body_D v h hb
  have n1 := named_in_D [] "do" (.inr rfl) 40 45 (by omega) v ps h hp (by omega)
  have s1 := set_of_D _ (Nat.le_trans (List.length_filterMap_le (nameOf "do") ps) (by omega : ps.length ≤ 1000))
  have e : namesK "do" ps = ps.filterMap (nameOf "do") := rfl
  rw [← e] at s1
  unfold F_actions_of b_actions_of
  simp [c, n1, s1]
end Pv.Pg
end
section
set_option Elab.async false
set_option linter.all false
set_option autoImplicit false
set_option maxRecDepth 100000
set_option maxHeartbeats 2000000
/-! PgW: bodies without the holds of a lock. -/
namespace Pv.Pg
open PySem L2 Pv Pv.Ev
def dsOf : D → List D
  | .tuple ds => ds
  | _ => []
def wm (ds qs : List D) : D := .tuple (ds.take (ds.length - qs.length) ++ qs)
def withoutB : Nat → D → Str → D
  | 0, v, _ => v
  | n + 1, v, lock => match formB [] v with
    | none => v
    | some ms => if nameOf "hold" v = some lock then (ms.map fun d => withoutB n d lock).getD 0 .none else wm (dsOf v) (ms.map fun d => withoutB n d lock)
theorem Part.few {L : List Str} {v : D} {ms : List D} (p : Part L v ms) : ms.length ≤ (dsOf v).length := by
  cases p <;> simp [dsOf]
theorem cut_head (ds qs : List D) (h : qs.length ≤ ds.length) : cutD ds none (some ((ds.length : Int) - (qs.length : Int))) = ds.take (ds.length - qs.length) := by
  have := cutD_take ds (ds.length - qs.length)
  rw [show ((ds.length - qs.length : Nat) : Int) = (ds.length : Int) - (qs.length : Int) by omega] at this
  exact this
theorem with_members_D (ds qs : List D) (h : qs.length ≤ ds.length) (hz : ds.length ≤ 100000) : F_with_members [.tuple ds, .list qs] = some ((wm ds qs, false), []) := by
  have c := cut_head ds qs h
  have z : (ds.take (ds.length - qs.length)).length + qs.length ≤ sizeLine := by
    rw [List.length_take]
    exact Nat.le_trans (by omega : _ ≤ 100000) (by decide)
  unfold F_with_members b_with_members wm
  generalize ds.take (ds.length - qs.length) = T at *
  simp [c, z]
theorem sub_loop {self_ : Fn} (c0 c2 : Option Cell) (lock : D) (ms : List D) (g : D → D) (hs : ∀ d ∈ ms, self_ [d, lock] = some ((g d, false), [])) (hz : ms.length ≤ 100000) :
    lcL (gN 3) sYes (sCall [.v, .v] self_ (mV (sVar 3) (mV (sVar 1) mNil))) [3] ms 0 [c0, some (.val lock), c2, none] = some (ms.map g, [c0, some (.val lock), c2, none]) := by
  refine lcL_map (fun d hd => ?_) (by rw [Nat.zero_add]; exact Nat.le_trans hz (by decide))
  refine ⟨[c0, some (.val lock), c2, some (.val d)], .val (g d), by simp, by simp, ?_, by simp, by simp⟩
  simp [hs d hd]
/-- the two ways that a part can go -/
theorem hold_or {v : D} {ms : List D} (p : Part [] v ms) (lock : Str) : (∃ q, v = .tuple [.str "hold", .str lock, q] ∧ ms = [q] ∧ nameOf "hold" v = some lock) ∨
    (∃ ds k, v = .tuple ds ∧ atI ds 0 = some (.str k) ∧ nameOf "hold" v ≠ some lock ∧ ((k == "hold") = false ∨ (k = "hold" ∧ ∃ nm, atI ds 1 = some (.str nm) ∧ (nm == lock) = false))) := by
  obtain ⟨ds, d0, k, rfl, a0, a1, a2, _⟩ := own_name p "hold" (.inl rfl)
  by_cases hk : (k == "hold") = true
  · obtain ⟨nm, b1, b2, b3⟩ := a1 hk
    by_cases hn : nm = lock
    · subst hn
      left
      cases p with
      | leaf0 k' h => rw [at0] at a0; injection a0 with a0; injection a0 with a0; subst a0; rcases h with rfl | rfl | ⟨rfl, _⟩ <;> simp at hk
      | leaf1 k' nm' h hn => rw [at0] at a0; injection a0 with a0; injection a0 with a0; subst a0; rcases h with rfl | ⟨rfl, _⟩ <;> simp at hk
      | hold nm' q hn' => rw [at1] at b1; injection b1 with b1; injection b1 with b1; subst b1; exact ⟨q, rfl, rfl, b2⟩
      | loop q => rw [at0] at a0; injection a0 with a0; injection a0 with a0; subst a0; simp at hk
      | many k' r h hr => rw [at0] at a0; injection a0 with a0; injection a0 with a0; subst a0; rcases h with rfl | rfl <;> simp at hk
    · right
      refine ⟨ds, k, rfl, a0, ?_, .inr ⟨by simpa using hk, nm, b1, by simpa using hn⟩⟩
      rw [b2]
      intro e
      injection e with e
      exact hn e
  · have hk' : (k == "hold") = false := Bool.eq_false_iff.mpr hk
    right
    refine ⟨ds, k, rfl, a0, ?_, .inl hk'⟩
    rw [a2 hk']
    simp
theorem parts_ok {L : List Str} {n : Nat} {v : D} {ps : List D} (e : partsB L (n + 1) v = some ps) : ∃ ms, formB L v = some ms ∧ Part L v ms ∧ ∀ d ∈ ms, ∃ a, partsB L n d = some a := by
  simp only [partsB, Option.bind_eq_some_iff, Option.map_eq_some_iff] at e
  obtain ⟨ms, h1, qs, h2, rfl⟩ := e
  exact ⟨ms, h1, part_of h1, (allP_flat h2).2⟩
theorem without_holds_D (lock : Str) : ∀ (n f : Nat), n < f → ∀ (v : D) (ps : List D), OkV v → partsB [] n v = some ps → F_without_holds f [v, .str lock] = some ((withoutB n v lock, false), []) := by
  intro n
  induction n with
  | zero => intro f hf v ps h e; cases e
  | succ n ih =>
    intro f hf v ps h e
    obtain ⟨f, rfl⟩ : ∃ g, f = g + 1 := ⟨f - 1, by omega⟩
    show fnOf 4 [.v, .v] (b_without_holds (F_without_holds f)) _ = _
    obtain ⟨ms, h1, p, hm⟩ := parts_ok e
    have mb := members_D p h
    have hs : ∀ d ∈ ms, F_without_holds f [d, .str lock] = some ((withoutB n d lock, false), []) := fun d hd => by
      obtain ⟨a, ha⟩ := hm d hd
      exact ih f (by omega) d a (p.ok h d hd) ha
    have lp := sub_loop (some (.val v)) none (.str lock) ms (fun d => withoutB n d lock) hs (Nat.le_trans (p.len h) (by decide))
    have ew : withoutB (n + 1) v lock = if nameOf "hold" v = some lock then (ms.map fun d => withoutB n d lock).getD 0 .none else wm (dsOf v) (ms.map fun d => withoutB n d lock) := by
      simp only [withoutB, h1]
    rw [ew]
    rcases hold_or p lock with ⟨q, rfl, rfl, e2⟩ | ⟨ds, k, rfl, a0, e2, hk⟩
    · rw [if_pos e2]
      unfold b_without_holds
      simp only [List.map_cons, List.map_nil] at lp ⊢
      simp [mb, lp, at0, at1, eqF_str]
    · rw [if_neg e2]
      have wd := with_members_D ds (ms.map fun d => withoutB n d lock) (by rw [List.length_map]; exact p.few) (Nat.le_trans h.len (by decide))
      have ed : dsOf (.tuple ds) = ds := rfl
      rw [ed]
      generalize (ms.map fun d => withoutB n d lock) = qs at *
      unfold b_without_holds
      rcases hk with hk | ⟨hk, nm, b1, b2⟩
      · simp [mb, lp, a0, eqF_str, hk, wd]
      · subst hk
        simp [mb, lp, a0, eqF_str, b1, b2, wd]
theorem without_D (lock : Str) (hl : nameB lock = true) (v : D) (h : OkV v) (hb : bodyB [] v = true) : F_without [v, .str lock] = some ((withoutB 40 v lock, false), []) := by
  obtain ⟨ps, hp, hz, _⟩ := body_parts hb
  have c := check_body_D v h hb
  have w := without_holds_D lock 40 45 (by omega) v ps h hp
  have n := is_name_str lock (by
    simp only [nameB, Bool.and_eq_true, decide_eq_true_eq] at hl
    exact Nat.le_trans (by omega : lock.length ≤ 8) (by decide))
  have c2 : F_check_name [.str lock] = some ((.none, false), []) := by
    unfold F_check_name b_check_name
    simp [n, hl]
  unfold F_without b_without
  simp [c, c2, w]
theorem without_ok (lock : Str) : ∀ (n : Nat) (v : D) (ps : List D), OkV v → partsB [] n v = some ps → (withoutB n v lock).canLay0 = true ∧ (withoutB n v lock).depth ≤ v.depth := by
  intro n
  induction n with
  | zero => intro v ps h e; cases e
  | succ n ih =>
    intro v ps h e
    obtain ⟨ms, h1, p, hm⟩ := parts_ok e
    have ew : withoutB (n + 1) v lock = if nameOf "hold" v = some lock then (ms.map fun d => withoutB n d lock).getD 0 .none else wm (dsOf v) (ms.map fun d => withoutB n d lock) := by
      simp only [withoutB, h1]
    rw [ew]
    have hs : ∀ d ∈ ms, (withoutB n d lock).canLay0 = true ∧ (withoutB n d lock).depth ≤ d.depth := fun d hd => by
      obtain ⟨a, ha⟩ := hm d hd
      exact ih d a (p.ok h d hd) ha
    obtain ⟨ds0, e0, hsub⟩ := p.sub
    have dm : ∀ d ∈ ds0, d.depth ≤ PyData.depthAll ds0 := depthAll_iff.mp (Nat.le_refl _)
    rcases hold_or p lock with ⟨q, rfl, rfl, e2⟩ | ⟨ds, k, rfl, a0, e2, hk⟩
    · rw [if_pos e2]
      obtain ⟨b1, b2⟩ := hs q (by simp)
      refine ⟨by simpa using b1, ?_⟩
      cases e0
      have := dm q (hsub q (by simp))
      simp only [PyData.depth, List.map_cons, List.getD_cons_zero]
      omega
    · rw [if_neg e2]
      cases e0
      have hall : ∀ d ∈ ds0.take (ds0.length - (ms.map fun d => withoutB n d lock).length) ++ (ms.map fun d => withoutB n d lock), d.canLay0 = true ∧ d.depth ≤ PyData.depthAll ds0 := fun d hd => by
        rcases List.mem_append.mp hd with hd | hd
        · have hd' := List.mem_of_mem_take hd
          exact ⟨(h.mem hd').lay, dm d hd'⟩
        · obtain ⟨m, hm', rfl⟩ := List.mem_map.mp hd
          obtain ⟨b1, b2⟩ := hs m hm'
          exact ⟨b1, Nat.le_trans b2 (dm m (hsub m hm'))⟩
      simp only [wm, dsOf, PyData.canLay0, PyData.depth]
      exact ⟨canLayAll_iff.mpr fun d hd => (hall d hd).1, Nat.succ_le_succ (depthAll_iff.mpr fun d hd => (hall d hd).2)⟩
end Pv.Pg
end
section
set_option Elab.async false
set_option linter.all false
set_option autoImplicit false
set_option maxRecDepth 100000
set_option maxHeartbeats 2000000
/-! PwW: words and bodies that the laws draw (meanings printed by gen.py). -/
namespace Pv.Lw
open PySem L2 Pv Pv.Ev Pv.Pg
/-! ### _law_words -/
def b__law_words : SemS := (sSeq (sSet 2 (sLst (sCons (sC (.str "a")) (sCons (sC (.str "ab")) (sCons (sC (.str "b")) (sCons (sC (.str "hold")) (sCons (sC (.str "outer")) (sCons (sC (.str "zz")) (sCons (sC (.str "either")) (sCons (sC (.str "longlock")) (sCons (sC (.str "inner")) (sCons (sC (.str "here")) sNil)))))))))))) (sSeq (sSet 3 (sLst sNil)) (sSeq (sFor (iR1 (pCons (sVar 1) pNil)) (gN 4) (sExpr (sMut "list" 3 appendM (sCons (sMut "list" 2 popM (sCons (sCall [.r, .v] F__law_take (mR (sVar 0) (mV (sCB lenF (pCons (sVar 2) pNil)) mNil))) sNil)) sNil)))) (sRet (sVar 3)))))
def F__law_words : Fn := fnOf 5 [.r, .v] b__law_words
/-! ### _law_leaf -/
def b__law_leaf : SemS := (sSeq (sSet 2 (sCall [.r, .v] F__law_take (mR (sVar 0) (mV (sC (.int 5)) mNil)))) (sSeq (sIfS (sTest (sOp ltF (sVar 2) (sC (.int 2)))) (sRet (sOp ixG (sLst (sCons (sTup (sCons (sC (.str "skip")) sNil)) (sCons (sTup (sCons (sC (.str "stop")) sNil)) sNil))) (sVar 2))) sNx) (sRet (sTup (sCons (sC (.str "do")) (sCons (sOp ixG (sVar 1) (sCall [.r, .v] F__law_take (mR (sVar 0) (mV (sCB lenF (pCons (sVar 1) pNil)) mNil)))) sNil))))))
def F__law_leaf : Fn := fnOf 3 [.r, .v] b__law_leaf
/-! ### _law_body -/
def b__law_body (self_ : Fn) : SemS := (sSeq (sSet 4 (sCall [.r, .v] F__law_take (mR (sVar 0) (mV (sC (.int 8)) mNil)))) (sSeq (sIfS (sOr (sTest (sOp eqF (sVar 3) (sC (.int 0)))) (sTest (sOp eqF (sVar 4) (sC (.int 0))))) (sRet (sCall [.r, .v] F__law_leaf (mR (sVar 0) (mV (sVar 2) mNil)))) sNx) (sSeq (sIfS (sTest (sOp ltF (sVar 4) (sC (.int 4)))) (sRet (sTup (sCons (sC (.str "hold")) (sCons (sOp ixG (sVar 1) (sCall [.r, .v] F__law_take (mR (sVar 0) (mV (sCB lenF (pCons (sVar 1) pNil)) mNil)))) (sCons (sCall [.r, .v, .v, .v] self_ (mR (sVar 0) (mV (sVar 1) (mV (sVar 2) (mV (sOp subF (sVar 3) (sC (.int 1))) mNil))))) sNil))))) sNx) (sSeq (sIfS (sTest (sOp eqF (sVar 4) (sC (.int 4)))) (sRet (sTup (sCons (sC (.str "loop")) (sCons (sCall [.r, .v, .v, .v] self_ (mR (sVar 0) (mV (sVar 1) (mV (sVar 2) (mV (sOp subF (sVar 3) (sC (.int 1))) mNil))))) sNil)))) sNx) (sSeq (sSet 5 (sLc (gN 6) sYes (sCall [.r, .v, .v, .v] self_ (mR (sVar 0) (mV (sVar 1) (mV (sVar 2) (mV (sOp subF (sVar 3) (sC (.int 1))) mNil))))) [6] (iR1 (pCons (sOp addF (sC (.int 2)) (sCall [.r, .v] F__law_take (mR (sVar 0) (mV (sC (.int 2)) mNil)))) pNil)))) (sRet (sOp addF (sTup (sCons (sOp ixG (sLst (sCons (sC (.str "seq")) (sCons (sC (.str "either")) sNil))) (sOp modF (sCB intF (pCons (sVar 4) pNil)) (sC (.int 2)))) sNil)) (sCB tupleF2 (pCons (sVar 5) pNil)))))))))
def F__law_body : Nat → Fn
  | 0 => fnNone
  | n + 1 => fnOf 7 [.r, .v, .v, .v] (b__law_body (F__law_body n))
abbrev W : List Str := ["a", "ab", "b", "hold", "outer", "zz", "either", "longlock", "inner", "here"]
abbrev body_words : SemS := (sExpr (sMut "list" 3 appendM (sCons (sMut "list" 2 popM (sCons (sCall [.r, .v] F__law_take (mR (sVar 0) (mV (sCB lenF (pCons (sVar 2) pNil)) mNil))) sNil)) sNil)))
theorem words_D (x : Int) (m : Nat) (hm : m ≤ 10) : ∃ (x' : Int) (ws : List Str), F__law_words [.list [.int x], .int (m : Nat)] = some ((.list (ws.map .str), true), [.list [.int x']]) ∧ ws.length = m ∧ ws.Nodup ∧ ∀ w ∈ ws, w ∈ W := by
  obtain ⟨ρ', L, hI⟩ := forL_inv (g := gN 4) (b := body_words) (fun k ρ => k ≤ m → ∃ (y : Int) (rem fnd : List Str) (c4 : Option D), (rem ++ fnd).Perm W ∧ fnd.length = k ∧ ρ = [some (.byr (.list [.int y])), some (.val (.int (m : Nat))), some (.own (.list (rem.map .str))), some (.own (.list (fnd.map .str))), c4.map .val])
    (rng 0 m) 0 [some (.byr (.list [.int x])), some (.val (.int (m : Nat))), some (.own (.list (W.map .str))), some (.own (.list [])), none] (fun _ => ⟨x, W, [], none, by simp, rfl, rfl⟩) (fun k d ρ hd hI => by
      simp only [Nat.zero_add] at hI ⊢
      simp only [rng, List.getElem?_map, Option.map_eq_some_iff] at hd
      obtain ⟨j', hj', rfl⟩ := hd
      obtain ⟨hj1, hj2⟩ := List.getElem?_eq_some_iff.mp hj'
      simp only [List.getElem_range] at hj2
      subst hj2
      simp only [List.length_range] at hj1
      obtain ⟨y, rem, fnd, c4, hp, hl, rfl⟩ := hI (by omega)
      have hlen : rem.length + fnd.length = 10 := by
        have := hp.length_eq
        simpa using this
      obtain ⟨l, rem', p1, _, p3⟩ := pop_drawn PyData.str rem y (by omega) (by omega)
      have t1 := take_D y rem.length (by omega) (by omega)
      have z1 : fnd.length < sizeLine := Nat.lt_of_le_of_lt (by omega : fnd.length ≤ 10) (by decide)
      refine ⟨[some (.byr (.list [.int y])), some (.val (.int (m : Nat))), some (.own (.list (rem.map .str))), some (.own (.list (fnd.map .str))), some (.val (.int k))], [some (.byr (.list [.int (y / rem.length)])), some (.val (.int (m : Nat))), some (.own (.list (rem'.map .str))), some (.own (.list ((fnd ++ [l]).map .str))), some (.val (.int k))], by simp, ?_, fun _ => ⟨y / rem.length, rem', fnd ++ [l], some (.int k), ?_, by simp [hl], rfl⟩⟩
      · simp -implicitDefEqProofs [t1, p3, z1, -pop_i]
      · refine List.Perm.trans ?_ hp
        refine List.Perm.trans ?_ (p1.append_right fnd)
        refine (List.perm_iff_count.mpr fun a => ?_)
        simp only [List.count_append, List.count_cons, List.count_nil, List.cons_append]
        omega)
  obtain ⟨y, rem, fnd, c4, hp, hl, rfl⟩ := hI (by simp [rng])
  have nd : (rem ++ fnd).Nodup := hp.nodup_iff.mpr (by decide +kernel)
  refine ⟨y, fnd, ?_, by simpa [rng] using hl, (List.nodup_append.mp nd).2.1, fun w hw => hp.mem_iff.mp (List.mem_append_right _ hw)⟩
  have s6 : small62 (m : Int) = true := small_of m (by omega)
  have z10 : 10 ≤ sizeLine := by decide
  simp only [W, List.map_cons, List.map_nil] at L
  unfold F__law_words b__law_words
  simp -implicitDefEqProofs [L, s6, z10]
theorem W_ok : ∀ w ∈ W, okVB (.str w) = true ∧ nameB w = true ∧ decide ((PyData.str w).weight ≤ 8) = true := by decide +kernel
/-- good words: names that can be shown -/
def GW (ws : List Str) : Prop := ws ≠ [] ∧ ws.length ≤ 1000 ∧ ∀ w ∈ ws, okVB (.str w) = true ∧ nameB w = true ∧ (PyData.str w).weight ≤ 8
theorem GW.of {ws : List Str} (h1 : ws ≠ []) (h2 : ws.length ≤ 1000) (h : ∀ w ∈ ws, w ∈ W) : GW ws := ⟨h1, h2, fun w hw => by
  obtain ⟨a, b, c⟩ := W_ok w (h w hw)
  exact ⟨a, b, of_decide_eq_true c⟩⟩
theorem GW.draw {ws : List Str} (g : GW ws) (x : Int) : ∃ w ∈ ws, atI (ws.map PyData.str) (x % (ws.length : Int)) = some (.str w) := by
  have h0 : 0 < (ws.map PyData.str).length := by
    have := List.length_pos_iff.mpr g.1
    simpa using this
  obtain ⟨z, hz, e⟩ := at_drawn (ws.map PyData.str) x h0
  rw [List.length_map] at e
  obtain ⟨w, hw, rfl⟩ := List.mem_map.mp hz
  exact ⟨w, hw, e⟩
/-- a body that is drawn: at most n deep, of a weight -/
structure DB (n wt : Nat) (v : D) : Prop where
  parts : (partsB [] n v).isSome = true
  ok : OkV v
  wgt : v.weight ≤ wt
  dep : v.depth ≤ n
theorem okV_of {v : D} (h : okVB v = true) : OkV v := .ofB h
theorem okV_cons {k : Str} {ds : List D} {n wt : Nat} (hk : okVB (.str k) = true) (h : ∀ d ∈ ds, OkV d ∧ d.depth ≤ n) (hn : n ≤ 62) (hw : PyData.weightAll (.str k :: ds) ≤ wt) (hwt : wt ≤ 4000) : OkV (.tuple (.str k :: ds)) ∧ (PyData.tuple (.str k :: ds)).weight ≤ wt ∧ (PyData.tuple (.str k :: ds)).depth ≤ n + 1 := by
  have ok : ∀ d ∈ PyData.str k :: ds, OkV d ∧ d.depth ≤ n := fun d hd => by
    rcases List.mem_cons.mp hd with rfl | hd
    · exact ⟨.ofB hk, by simp [PyData.depth]⟩
    · exact h d hd
  have dp := depthAll_iff.mpr fun d hd => (ok d hd).2
  refine ⟨⟨?_, ?_, ?_, ?_, ?_, ?_⟩, ?_, ?_⟩
  · simp only [plain]; exact plainA_iff.mpr fun d hd => (ok d hd).1.pl
  · simp only [PyData.canLay0]; exact canLayAll_iff.mpr fun d hd => (ok d hd).1.lay
  · simp only [PyData.depth]; omega
  · simp only [PyData.weight]; omega
  · simp only [PyData.intsShort]; exact intsShortAll_iff.mpr fun d hd => (ok d hd).1.ish
  · simp only [PyData.showable]; exact showableAll_iff.mpr fun d hd => (ok d hd).1.shw
  · simp only [PyData.weight]; exact hw
  · simp only [PyData.depth]; omega
end Pv.Lw
end
section
set_option Elab.async false
set_option linter.all false
set_option autoImplicit false
set_option maxRecDepth 100000
set_option maxHeartbeats 1000000
/-! PzC: a dict beside a tuple; `xs != []` of any list; `[{..}].count(..)`. -/
namespace Pv
open PySem PySem.Spec PyProof.Rows L2 PySem.W PySem.SeqAt
theorem tuple_eq_declines_dict (l b : Addr) (items : Array Value) (n : Nat) (dd : Option Addr) (sl : Array (Option Value)) (o : Obj) (hc : o.cls = .type "dict") :
    Meets (Builtin.«tuple.__eq__» ⟨[.ref l, .ref b], []⟩) (fun _ R s => s.heap.get? l = some { cls := .type "tuple", dict := dd, data := .seq items n, slots := sl } ∧ s.heap.get? b = some o ∧ R (.ok (.ret .notImplemented)) s) :=
  .of_wp fun prog w A R s h => by
    obtain ⟨hp, g, d, tk, os⟩ := s; obtain ⟨hl, hb, h⟩ := h
    obtain ⟨c, od, odd, osl⟩ := o
    simp only at hc
    subst hc
    have f1 := F.sub_dict_tuple; wp_walk using wpAny_loadPart' hl, wpAny_loadPart' hb; exact ⟨_, rfl, h⟩
section
variable {A : Around} {s : Shared}
theorem RcAt_dict_tuple {l b : Addr} {items : Array Value} {o : Obj} (ho : s.heap.get? l = some o) (hc : o.cls = .type "dict") (hb : s.heap.IsTuple b items) (hu : A.units < cLine) : RcAt A s (.ref l) (.ref b) false := fun prog w E Q h => by
  obtain ⟨⟨cls2, dd2, data2, sl2⟩, ho2, hc2, n2, hd2⟩ := id hb
  simp only at hc2 hd2
  subst hc2 hd2
  have hne : l ≠ b := fun e => by
    subst e
    rw [ho] at ho2
    cases ho2
    simp at hc
  have hty : s.TypeIs (.ref l) "dict" := ⟨_, ho, hc⟩
  refine rc_eq_decline_or (k := false) hty ⟨_, ho2, rfl⟩ (by decide) F.sub_tuple_dict F.slot_dict_eq F.slot_tuple_eq_refl (fun _ hq => ?_)
    (fun _ hq => call_meets F.slot_tuple_eq_refl ⟨_, ho2, rfl⟩ F.entry_tuple_eq (F.args_tuple_eq_2 _ _) (tuple_eq_declines_dict b l items n2 dd2 sl2 o hc) ⟨ho2, ho, hq⟩)
    (fun _ hq => wpAny_isSame_ref_other hne ho ho2 (by rw [hc]; simp) hq) (.inr hu) h
  refine wpAny_call_entry PySem.F.slot_dict_eq hty PySem.F.entry_dict_eq ?_ (PySem.F.args_dict_eq_2 _ _)
  show wpAny _ _ (Builtin.Dict.dictSlotArgs "__eq__" ⟨[.ref l, .ref b], []⟩ >>= _) _ _ s
  refine wpAny_bind ?_
  unfold Builtin.Dict.dictSlotArgs
  refine wpAny_bind (wpAny_notOrdered_dict hty ?_)
  show wpAny _ _ (pure (Value.ref l, Value.ref b)) _ _ s
  refine wpAny_pure ?_
  refine wpAny_bind (wpAny_isInstance (T := "tuple") ⟨_, ho2, rfl⟩ PySem.F.sub_tuple_dict ?_)
  simp only [Bool.not_false, if_true]
  refine wpAny_bind (wpAny_rule (wpAny_bind (wpAny_pure ?_)))
  exact wpAny_pure ⟨_, rfl, hq⟩
theorem EqAt_dict_tuple {l b : Addr} {items : Array Value} {o : Obj} (ho : s.heap.get? l = some o) (hc : o.cls = .type "dict") (hb : s.heap.IsTuple b items) (hu : A.units < cLine) : EqAt A s (.ref l) (.ref b) false := by
  refine .of_refs (fun e => ?_) (RcAt_dict_tuple ho hc hb hu)
  obtain ⟨o2, ho2, hc2, _⟩ := hb
  rw [e, ho2] at ho
  cases ho
  rw [hc] at hc2
  simp at hc2
end
section
variable {X : Cx}
def neW : Op2 := fun d e => match d, e with
  | .list (_ :: _), .list [] => some (.bool true, false)
  | d, e => neF d e
def countW : OpL := fun d ds => match d, ds with
  | .list [.dict _], [.tuple _] => some (.int 0, false)
  | d, ds => countL d ds
theorem or_neW (hu : X.A.units + 100 < cLine) : OpR X (compareOp .NotEq) (rS X.K neW) := by
  intro pins s σ H x y v u Q I rx ry h
  obtain ⟨F, d, e, zb, l, hd, he, hz, q⟩ := h
  unfold neW at hz
  split at hz
  · next d0 ds0 =>
    cases hz
    obtain ⟨a, xs, rfl, ha, rk⟩ := hd.list l
    obtain ⟨b, ys, rfl, hb, rl⟩ := he.list l
    cases rk
    cases rl
    cases (show v = Value.ref a from rx)
    cases (show u = Value.ref b from ry)
    obtain ⟨its, rv, ⟨o, n, ho, hc, hdn, hdt⟩, _⟩ := I.list (SqL.of ha)
    obtain ⟨its2, rv2, ⟨o2, n2, ho2, hc2, hdn2, hdt2⟩, _⟩ := I.list (SqL.of hb)
    cases rv
    cases rv2
    refine RcNeAt.lists_lengths (items := _) (items2 := #[]) ⟨o, ho, hc, n, hdt⟩ ⟨o2, ho2, hc2, n2, hdt2⟩ (by simp) (by omega) _ _ _ _ ⟨.bl _, H, I, rfl, q.old l (.bl _)⟩
  · exact or_neH hu pins s σ H x y v u Q I rx ry ⟨F, d, e, zb, l, hd, he, hz, q⟩
theorem mt_countW (hu : X.A.units + 65 < cLine) : MtR X "list.count" (rL X.K countW) := by
  intro pins s σ H x xs v us Q I rx rxs h
  obtain ⟨F, d, ds, zb, l, lk, rp, e, q⟩ := h
  unfold countW at e
  split at e
  · next es fs =>
    cases e
    obtain ⟨a, ys, rfl, ha, ry⟩ := lk.list l
    cases rp with | cons r0 rn =>
    cases rn
    cases ry with | cons y0 yn =>
    cases yn
    cases (show v = Value.ref a from rx)
    cases rxs with
    | cons ry' rt =>
      cases rt
      cases r0 with
      | @tup bt bxs _ hbt rbt =>
      cases y0 with
      | @dic dc dks _ hdc rdc =>
      cases (show _ = Value.ref bt from ry')
      obtain ⟨its, rv, ⟨⟨cls, dd, data, sls⟩, n, ho, hc, hdn, hdt⟩, hlen⟩ := I.list (SqL.of ha)
      simp only at hc hdt
      subst hc hdt
      obtain ⟨its2, rv2, htp, _⟩ := I.tuple (l.sqt hbt)
      obtain ⟨_, yd, vd, rd, ⟨od, es', ep, hod, hxd, _⟩⟩ := dk_rd I.hok (l.rd hdc)
      cases rv with
      | cons rv0 rvn =>
      cases rvn
      cases (show _ = Value.ref dc from rv0)
      refine call_meets PySem.F.slot_list_count ⟨_, ho, rfl⟩ PySem.F.entry_list_count (PySem.F.args_list_count_2 _ _)
        (SeqAt.list_countAt a _ n dd sls _ (fun u => false)) ⟨ho, fun y hy => ?_, ?_⟩
      · cases (show y = Value.ref dc by simpa using hy)
        exact EqAt_dict_tuple hod hxd.1 htp (by show X.A.units + 1 < cLine; omega)
      · exact ⟨.int 0, H, I.tok _, ⟨s.toks, by simp⟩, q.old l (.int _)⟩
  · exact mt_countL hu pins s σ H x xs v us Q I rx rxs ⟨F, d, ds, zb, l, lk, rp, e, q⟩
theorem neW_e (ds : List D) : neW (.list ds) (.list []) = some (.bool (!ds.isEmpty), false) ∨ ds = [] := by
  cases ds with
  | nil => exact .inr rfl
  | cons => exact .inl rfl
end
namespace Ev
@[scoped simp] theorem neW_c (d : D) (ds : List D) : neW (.list (d :: ds)) (.list []) = some (.bool true, false) := rfl
@[scoped simp] theorem neW_n : neW (.list []) (.list []) = some (.bool false, false) := rfl
@[scoped simp] theorem countW_u (ds : List D) (d : D) (h : SeqAt.shaped (.list ds) = true) : countW (.list ds) [d] = countL (.list ds) [d] := by
  unfold countW
  split
  · rename_i heq _
    cases heq
    simp [SeqAt.shaped, PyData.canLay0, PyData.canLayAll0] at h
  · rfl
end Ev
end Pv
end
section
set_option Elab.async false
set_option linter.all false
set_option maxRecDepth 100000
set_option maxHeartbeats 2000000
/-! K62m: the meanings of the law k62, printed by gen.py. -/
namespace Pv.K62
open PySem Pv Pv.Pg Pv.Lw
/-! ### _law_frame -/
def b__law_frame (self_ : Fn) : SemS := (sSeq (sSet 4 (sCall [.r, .v] F__law_take (mR (sVar 0) (mV (sC (.int 6)) mNil)))) (sSeq (sIfS (sTest (sOp eqF (sVar 3) (sC (.int 0)))) (sRet (sTup (sCons (sC (.str "hole")) sNil))) sNx) (sSeq (sSet 5 (sCall [.r, .v, .v, .v] self_ (mR (sVar 0) (mV (sVar 1) (mV (sVar 2) (mV (sOp subF (sVar 3) (sC (.int 1))) mNil)))))) (sSeq (sIfS (sTest (sOp ltF (sVar 4) (sC (.int 2)))) (sRet (sTup (sCons (sC (.str "hold")) (sCons (sOp ixG (sVar 1) (sCall [.r, .v] F__law_take (mR (sVar 0) (mV (sCB lenF (pCons (sVar 1) pNil)) mNil)))) (sCons (sVar 5) sNil))))) sNx) (sSeq (sIfS (sTest (sOp eqF (sVar 4) (sC (.int 2)))) (sRet (sTup (sCons (sC (.str "loop")) (sCons (sVar 5) sNil)))) sNx) (sSeq (sSet 6 (sLst (sCons (sVar 5) (sCons (sCall [.r, .v, .v, .v] (F__law_body 45) (mR (sVar 0) (mV (sVar 1) (mV (sVar 2) (mV (sC (.int 1)) mNil))))) sNil)))) (sSeq (sIfS (sTest (sOp eqF (sCall [.r, .v] F__law_take (mR (sVar 0) (mV (sC (.int 2)) mNil))) (sC (.int 0)))) (sSet 6 (sRev (sVar 6))) sNx) (sRet (sOp addF (sTup (sCons (sOp ixG (sLst (sCons (sC (.str "seq")) (sCons (sC (.str "either")) sNil))) (sOp modF (sCB intF (pCons (sVar 4) pNil)) (sC (.int 2)))) sNil)) (sCB tupleF2 (pCons (sVar 6) pNil)))))))))))
def F__law_frame : Nat → Fn
  | 0 => fnNone
  | n + 1 => fnOf 7 [.r, .v, .v, .v] (b__law_frame (F__law_frame n))
/-! ### _law_filled -/
def b__law_filled (self_ : Fn) : SemS := (sSeq (sIfS (sTest (sOp eqF (sVar 0) (sTup (sCons (sC (.str "hole")) sNil)))) (sRet (sVar 1)) sNx) (sSeq (sSet 2 (sIf (sTest (sOp eqF (sOp ixG (sVar 0) (sC (.int 0))) (sC (.str "hold")))) (sC (.int 2)) (sC (.int 1)))) (sSeq (sIfS (sTest (sOp inF (sOp ixG (sVar 0) (sC (.int 0))) (sTup (sCons (sC (.str "skip")) (sCons (sC (.str "stop")) (sCons (sC (.str "do")) sNil)))))) (sRet (sVar 0)) sNx) (sRet (sOp addF (sSl slF (sVar 0) oNone (oSome (sVar 2))) (sCB tupleF2 (pCons (sLc (gN 3) sYes (sCall [.v, .v] self_ (mV (sVar 3) (mV (sVar 1) mNil))) [3] (iOf walkOf (sSl slF (sVar 0) (oSome (sVar 2)) oNone))) pNil)))))))
def F__law_filled : Nat → Fn
  | 0 => fnNone
  | n + 1 => fnOf 4 [.v, .v] (b__law_filled (F__law_filled n))
/-! ### _law_parts -/
abbrev L1__law_parts : SemS := (sSeq (sSet 3 (sMut "list" 2 popM sNil)) (sSeq (sExpr (sMut "list" 1 appendM (sCons (sVar 3) sNil))) (sIfS (sAnd (sTruth (sIsi "tuple" (sVar 3))) (sAnd (sTest (sOp gtF (sCB lenF (pCons (sVar 3) pNil)) (sC (.int 0)))) (sTest (sOp inF (sOp ixG (sVar 3) (sC (.int 0))) (sTup (sCons (sC (.str "hold")) (sCons (sC (.str "loop")) (sCons (sC (.str "seq")) (sCons (sC (.str "either")) sNil))))))))) (sSet 2 (sOp addF (sVar 2) (sCB listF (pCons (sSl slF (sVar 3) (oSome (sIf (sTest (sOp eqF (sOp ixG (sVar 3) (sC (.int 0))) (sC (.str "hold")))) (sC (.int 2)) (sC (.int 1)))) oNone) pNil)))) sNx)))
def b__law_parts : SemS := (sSeq (sPar 1 2 (mR (sLst sNil) (mR (sLst (sCons (sVar 0) sNil)) mNil))) (sSeq (sWhile (sTest (sOp neW (sVar 2) (sLst sNil))) L1__law_parts 1000000) (sRet (sVar 1))))
def F__law_parts : Fn := fnOf 4 [.v] b__law_parts
/-! ### _law_swapped -/
def b__law_swapped (self_ : Fn) : SemS := (sSeq (sIfS (sTest (sOp eqF (sVar 0) (sTup (sCons (sC (.str "hole")) sNil)))) (sRet (sTup (sCons (sC (.str "skip")) sNil))) sNx) (sSeq (sIfS (sOr (sNot (sTruth (sIsi "tuple" (sVar 0)))) (sTest (sOp eqF (sCB lenF (pCons (sVar 0) pNil)) (sC (.int 0))))) (sRet (sVar 0)) sNx) (sSeq (sIfS (sTest (sOp notInF (sOp ixG (sVar 0) (sC (.int 0))) (sTup (sCons (sC (.str "hold")) (sCons (sC (.str "loop")) (sCons (sC (.str "seq")) (sCons (sC (.str "either")) sNil))))))) (sRet (sVar 0)) sNx) (sSeq (sSet 1 (sIf (sTest (sOp eqF (sOp ixG (sVar 0) (sC (.int 0))) (sC (.str "hold")))) (sC (.int 2)) (sC (.int 1)))) (sRet (sOp addF (sSl slF (sVar 0) oNone (oSome (sVar 1))) (sCB tupleF2 (pCons (sLc (gN 2) sYes (sCall [.v] self_ (mV (sVar 2) mNil)) [2] (iOf walkOf (sSl slF (sVar 0) (oSome (sVar 1)) oNone))) pNil))))))))
def F__law_swapped : Nat → Fn
  | 0 => fnNone
  | n + 1 => fnOf 3 [.v] (b__law_swapped (F__law_swapped n))
/-! ### _law_good -/
def b__law_good : SemS := (sSeq (sPar 1 2 (mV (sCB strF (pCons (sVar 0) pNil)) (mV (sCall [.v] F_is_frame (mV (sVar 0) mNil)) mNil))) (sSeq (sSet 3 (sAndV (sOp eqF (sMeth "list" countW (sCall [.v] F__law_parts (mV (sVar 0) mNil)) (sCons (sTup (sCons (sC (.str "hole")) sNil)) sNil)) (sC (.int 1))) (sCall [.v] F_is_body (mV (sCall [.v] (F__law_swapped 45) (mV (sVar 0) mNil)) mNil)))) (sRet (sAndV (sIsi "bool" (sVar 2)) (sAndV (sOp eqF (sVar 2) (sVar 3)) (sOp eqF (sCB strF (pCons (sVar 0) pNil)) (sVar 1)))))))
def F__law_good : Fn := fnOf 4 [.v] b__law_good
/-! ### _law_fill_good -/
def b__law_fill_good : SemS := (sSeq (sSet 2 (sCall [.v, .v] (F__law_filled 45) (mV (sVar 0) (mV (sVar 1) mNil)))) (sSeq (sAsg (sTup (sCons (sC .none) (sCons (sC (.bool false)) sNil))) (gT 2 (gsCons (gN 3) (gsCons (gN 4) gsNil)))) (sSeq (sTry (xSet 3 (sCallX [.v, .v] F_filled (mV (sVar 0) (mV (sVar 1) mNil)))) "TooLarge" (sSet 4 (sC (.bool true)))) (sRet (sAndV (sOp neF (sVar 4) (sCall [.v] F_is_body (mV (sVar 2) mNil))) (sOrV (sVar 4) (sOp eqF (sVar 3) (sVar 2))))))))
def F__law_fill_good : Fn := fnOf 5 [.v, .v] b__law_fill_good
/-! ### _law_bent -/
def b__law_bent : SemS := (sSeq (sSet 3 (sLst (sCons (sTup (sCons (sC (.str "hole")) (sCons (sC (.str "a")) sNil))) (sCons (sTup (sCons (sC (.str "hole")) (sCons (sTup sNil) sNil))) (sCons (sLst (sCons (sC (.str "hole")) sNil)) (sCons (sTup (sCons (sC (.str "holes")) sNil)) (sCons (sTup (sCons (sC (.str "skip")) sNil)) (sCons (sTup (sCons (sC (.str "hole")) sNil)) (sCons (sC .none) (sCons (sVar 2) sNil)))))))))) (sSeq (sSet 3 (sOp addF (sVar 3) (sLst (sCons (sTup (sCons (sC (.str "seq")) (sCons (sTup (sCons (sC (.str "hole")) sNil)) (sCons (sTup (sCons (sC (.str "hole")) sNil)) sNil)))) sNil)))) (sSeq (sSet 4 (sOp ixG (sVar 3) (sCall [.r, .v] F__law_take (mR (sVar 0) (mV (sC (.int 9)) mNil))))) (sSeq (sSet 5 (sLst (sCons (sVar 4) (sCons (sTup (sCons (sC (.str "seq")) (sCons (sVar 1) (sCons (sVar 4) sNil)))) (sCons (sTup (sCons (sC (.str "either")) (sCons (sVar 4) (sCons (sVar 1) sNil)))) (sCons (sTup (sCons (sC (.str "hold")) (sCons (sC (.str "A")) (sCons (sVar 1) sNil)))) sNil)))))) (sSeq (sSet 5 (sOp addF (sVar 5) (sLst (sCons (sTup (sCons (sC (.str "loop")) (sCons (sVar 4) sNil))) (sCons (sTup (sCons (sC (.str "loop")) (sCons (sVar 1) (sCons (sVar 1) sNil)))) sNil))))) (sRet (sOp ixG (sOp addF (sVar 5) (sLst (sCons (sCB listF (pCons (sVar 1) pNil)) (sCons (sTup (sCons (sC (.str "hold")) (sCons (sC (.str "a")) (sCons (sVar 4) sNil)))) (sCons (sTup (sCons (sC (.str "seq")) (sCons (sVar 1) sNil))) sNil))))) (sCall [.r, .v] F__law_take (mR (sVar 0) (mV (sC (.int 9)) mNil))))))))))
def F__law_bent : Fn := fnOf 6 [.r, .v, .v] b__law_bent
/-! ### _law_fixed_good -/
abbrev L1__law_fixed_good : SemS := (sSet 2 (sTup (sCons (sC (.str "loop")) (sCons (sVar 2) sNil))))
abbrev L2__law_fixed_good : SemS := (sSet 7 (sTup (sCons (sC (.str "hold")) (sCons (sOp mulF (sC (.str "l")) (sOp addF (sVar 3) (sC (.int 1)))) (sCons (sVar 7) sNil)))))
def b__law_fixed_good : SemS := (sSeq (sAsg (sTup (sCons (sTup (sCons (sC (.str "hole")) sNil)) (sCons (sTup (sCons (sC (.str "do")) (sCons (sC (.str "x")) sNil))) sNil))) (gT 2 (gsCons (gN 0) (gsCons (gN 1) gsNil)))) (sSeq (sSet 2 (sVar 0)) (sSeq (sFor (iR1 (pCons (sC (.int 39)) pNil)) (gN 3) L1__law_fixed_good) (sSeq (sSet 4 (sOp addF (sTup (sCons (sC (.str "seq")) (sCons (sVar 0) sNil))) (sOp mulF (sTup (sCons (sVar 1) sNil)) (sC (.int 58))))) (sSeq (sSet 5 (sLst (sCons (sVar 0) (sCons (sVar 2) (sCons (sTup (sCons (sC (.str "loop")) (sCons (sVar 2) sNil))) (sCons (sVar 4) (sCons (sOp addF (sVar 4) (sTup (sCons (sVar 1) sNil))) (sCons (sTup (sCons (sC (.str "seq")) (sCons (sVar 0) (sCons (sVar 0) sNil)))) (sCons (sVar 1) sNil))))))))) (sSeq (sSet 5 (sOp addF (sVar 5) (sLst (sCons (sTup (sCons (sC (.str "do")) (sCons (sC (.str "hole")) sNil))) (sCons (sTup (sCons (sC (.str "hold")) (sCons (sC (.str "hole")) (sCons (sVar 0) sNil)))) sNil))))) (sSeq (sSet 5 (sOp addF (sVar 5) (sLst (sCons (sC .none) (sCons (sC (.bool true)) (sCons (sC (.int 0)) (sCons (sC (.str "hole")) (sCons (sTup sNil) (sCons (sLst sNil) (sCons sDct0 (sCons (sTup (sCons (sC (.str "seq")) (sCons (sTup (sCons (sC (.str "loop")) (sCons (sVar 0) sNil))) (sCons (sVar 1) sNil)))) sNil))))))))))) (sSeq (sSet 5 (sOp addF (sVar 5) (sLst (sCons (sTup (sCons (sC (.str "seq")) (sCons (sTup (sCons (sC (.str "loop")) (sCons (sVar 0) sNil))) (sCons (sVar 0) sNil)))) (sCons (sTup (sCons (sC (.str "seq")) (sCons (sVar 0) (sCons (sTup (sCons (sC (.str "call")) (sCons (sC (.str "a")) sNil))) sNil)))) (sCons (sTup (sCons (sC (.str "call")) (sCons (sC (.str "a")) sNil))) sNil)))))) (sSeq (sSet 5 (sOp addF (sVar 5) (sLst (sCons (sTup (sCons (sC (.str "seq")) (sCons (sVar 0) (sCons (sTup (sCons (sC (.str "par")) (sCons (sVar 1) (sCons (sVar 1) sNil)))) sNil)))) (sCons (sTup (sCons (sC (.str "hold")) (sCons (sC (.str "a")) (sCons (sVar 2) sNil)))) (sCons (sTup (sCons (sC (.str "either")) (sCons (sVar 2) (sCons (sVar 1) sNil)))) sNil)))))) (sSeq (sSet 6 (sCB tupleF2 (pCons (sLcS (gN 3) sYes (sTup (sCons (sC (.str "do")) (sCons (sOp mulF (sC (.str "y")) (sOp addF (sVar 3) (sC (.int 1)))) sNil))) [3] (iR1 (pCons (sC (.int 7)) pNil))) pNil))) (sSeq (sSet 5 (sOp addF (sVar 5) (sLst (sCons (sOp addF (sTup (sCons (sC (.str "seq")) (sCons (sVar 0) sNil))) (sVar 6)) (sCons (sOp addF (sTup (sCons (sC (.str "seq")) (sCons (sVar 0) sNil))) (sSl slF (sVar 6) (oSome (sC (.int 1))) oNone)) sNil))))) (sSeq (sSet 7 (sVar 0)) (sSeq (sFor (iR1 (pCons (sC (.int 6)) pNil)) (gN 3) L2__law_fixed_good) (sSeq (sIfS (sNot (sTruth (sCB allF (pCons (sLc (gN 12) sYes (sCall [.v] F__law_good (mV (sVar 12) mNil)) [12] (iOf walkOf (sOp addF (sVar 5) (sLst (sCons (sVar 7) (sCons (sOp ixG (sVar 7) (sC (.int 2))) sNil)))))) pNil)))) (sRet (sC (.bool false))) sNx) (sSeq (sSet 8 (sLst (sCons (sTup (sCons (sVar 0) (sCons (sVar 1) sNil))) (sCons (sTup (sCons (sVar 2) (sCons (sVar 1) sNil))) (sCons (sTup (sCons (sVar 2) (sCons (sTup (sCons (sC (.str "loop")) (sCons (sVar 1) sNil))) sNil))) (sCons (sTup (sCons (sVar 4) (sCons (sVar 1) sNil))) (sCons (sTup (sCons (sVar 4) (sCons (sTup (sCons (sC (.str "loop")) (sCons (sVar 1) sNil))) sNil))) sNil))))))) (sSeq (sSet 8 (sOp addF (sVar 8) (sLst (sCons (sTup (sCons (sOp ixG (sVar 7) (sC (.int 2))) (sCons (sTup (sCons (sC (.str "hold")) (sCons (sC (.str "l")) (sCons (sVar 1) sNil)))) sNil))) sNil)))) (sSeq (sSet 8 (sOp addF (sVar 8) (sLst (sCons (sTup (sCons (sOp ixG (sVar 7) (sC (.int 2))) (sCons (sTup (sCons (sC (.str "hold")) (sCons (sC (.str "zz")) (sCons (sVar 1) sNil)))) sNil))) (sCons (sTup (sCons (sOp addF (sTup (sCons (sC (.str "seq")) (sCons (sVar 0) sNil))) (sOp mulF (sTup (sCons (sVar 1) sNil)) (sC (.int 28)))) (sCons (sOp addF (sTup (sCons (sC (.str "seq")) sNil)) (sOp mulF (sTup (sCons (sVar 1) sNil)) (sC (.int 30)))) sNil))) sNil))))) (sSeq (sExpr (sMut "list" 8 appendM (sCons (sTup (sCons (sOp addF (sTup (sCons (sC (.str "seq")) (sCons (sVar 0) sNil))) (sOp mulF (sTup (sCons (sVar 1) sNil)) (sC (.int 28)))) (sCons (sOp addF (sTup (sCons (sC (.str "seq")) sNil)) (sOp mulF (sTup (sCons (sVar 1) sNil)) (sC (.int 31)))) sNil))) sNil))) (sSeq (sSet 8 (sOp addF (sVar 8) (sLst (sCons (sTup (sCons (sTup (sCons (sC (.str "seq")) (sCons (sTup (sCons (sC (.str "do")) (sCons (sC (.str "hole")) sNil))) (sCons (sVar 0) sNil)))) (sCons (sVar 1) sNil))) sNil)))) (sSeq (sSet 8 (sOp addF (sVar 8) (sLst (sCons (sTup (sCons (sTup (sCons (sC (.str "seq")) (sCons (sVar 0) (sCons (sTup (sCons (sC (.str "do")) (sCons (sC (.str "hole")) sNil))) sNil)))) (sCons (sTup (sCons (sC (.str "hold")) (sCons (sC (.str "hole")) (sCons (sVar 1) sNil)))) sNil))) sNil)))) (sSeq (sSet 8 (sOp addF (sVar 8) (sLst (sCons (sTup (sCons (sTup (sCons (sC (.str "hold")) (sCons (sC (.str "hole")) (sCons (sTup (sCons (sC (.str "seq")) (sCons (sTup (sCons (sC (.str "do")) (sCons (sC (.str "hole")) sNil))) (sCons (sVar 0) sNil)))) sNil)))) (sCons (sTup (sCons (sC (.str "do")) (sCons (sC (.str "hole")) sNil))) sNil))) sNil)))) (sSeq (sSet 8 (sOp addF (sVar 8) (sLst (sCons (sTup (sCons (sTup (sCons (sC (.str "seq")) (sCons (sVar 1) (sCons (sVar 1) (sCons (sVar 1) (sCons (sVar 0) (sCons (sVar 1) sNil))))))) (sCons (sVar 1) sNil))) sNil)))) (sSeq (sSet 9 (sLcS (gN 3) sYes (sTup (sCons (sC (.str "do")) (sCons (sOp mulF (sC (.str "y")) (sOp addF (sVar 3) (sC (.int 1)))) sNil))) [3] (iR1 (pCons (sC (.int 6)) pNil)))) (sSeq (sSet 8 (sOp addF (sVar 8) (sLst (sCons (sTup (sCons (sOp addF (sTup (sCons (sC (.str "seq")) (sCons (sVar 0) sNil))) (sCB tupleF2 (pCons (sVar 9) pNil))) (sCons (sTup (sCons (sC (.str "do")) (sCons (sC (.str "yy")) sNil))) sNil))) (sCons (sTup (sCons (sOp addF (sTup (sCons (sC (.str "seq")) (sCons (sVar 0) sNil))) (sCB tupleF2 (pCons (sVar 9) pNil))) (sCons (sVar 1) sNil))) sNil))))) (sRet (sCB allF (pCons (sLc (gT 2 (gsCons (gN 10) (gsCons (gN 11) gsNil))) sYes (sCall [.v, .v] F__law_fill_good (mV (sVar 10) (mV (sVar 11) mNil))) [10, 11] (iOf walkOf (sVar 8))) pNil)))))))))))))))))))))))))))
def F__law_fixed_good : Fn := fnOf 13 [] b__law_fixed_good
/-! ### law -/
abbrev L1_law : SemS := (sSeq (sSet 2 (sLst (sCons (sCall [.s, .v] F__law_cell (mS 0 (mV (sVar 1) mNil))) sNil))) (sSeq (sSet 3 (sCall [.r, .v] F__law_words (mR (sVar 2) (mV (sC (.int 3)) mNil)))) (sSeq (sSet 4 (sCall [.r, .v, .v, .v] (F__law_frame 45) (mR (sVar 2) (mV (sVar 3) (mV (sLst (sCons (sC (.str "x")) (sCons (sC (.str "y")) sNil))) (mV (sCall [.r, .v] F__law_take (mR (sVar 2) (mV (sC (.int 4)) mNil))) mNil)))))) (sSeq (sSet 5 (sCall [.r, .v, .v, .v] (F__law_body 45) (mR (sVar 2) (mV (sVar 3) (mV (sLst (sCons (sC (.str "x")) (sCons (sC (.str "y")) sNil))) (mV (sC (.int 2)) mNil)))))) (sSeq (sIfS (sOr (sNot (sTruth (sCall [.v] F__law_good (mV (sVar 4) mNil)))) (sOr (sNot (sTruth (sCall [.v] F__law_good (mV (sVar 5) mNil)))) (sNot (sTruth (sCall [.v, .v] F__law_fill_good (mV (sVar 4) (mV (sVar 5) mNil))))))) (sRet (sC (.bool false))) sNx) (sIfS (sNot (sTruth (sCB allF (pCons (sFz 5 (sFz 4 (sLc (gN 6) sYes (sCall [.v] F__law_good (mV (sCall [.r, .v, .v] F__law_bent (mR (sVar 2) (mV (sVar 4) (mV (sVar 5) mNil)))) mNil)) [6] (iR1 (pCons (sC (.int 6)) pNil))))) pNil)))) (sRet (sC (.bool false))) sNx))))))
def b_law : SemS := (sSeq (sFor (iR1 (pCons (sCB maxF (pCons (sCB minF (pCons (sLenScr 0) (pCons (sC (.int 5)) pNil))) (pCons (sC (.int 1)) pNil))) pNil)) (gN 1) L1_law) (sRet (sCall [] F__law_fixed_good mNil)))
def F_law : Fn := fnOf 7 [.s] b_law
end Pv.K62
end
section
set_option Elab.async false
set_option linter.all false
set_option maxRecDepth 100000
set_option maxHeartbeats 2000000
namespace Pv.K62
open PySem PySem.Spec PyProof.Rows L2 PySem.W Pv Pv.Pg Pv.Lw
abbrev top (i : Nat) : Stmt := PySem.Challenge.pw_nestedholds_k62_frames_are_recognized.main.body.getD i (.Pass ⟨0, 0, 0, 0⟩)
/-- what stands in the program's module -/
structure Tops (K : Fr') (mg : Str → Option Value) : Prop where
  h_is_name : Here K mg "is_name" (top 12)
  h_has_form : Here K mg "has_form" (top 13)
  h_members : Here K mg "members" (top 14)
  h_with_members : Here K mg "with_members" (top 15)
  h_parts_in : Here K mg "parts_in" (top 16)
  h_named_in : Here K mg "named_in" (top 17)
  h_set_of : Here K mg "set_of" (top 18)
  h_is_formed : Here K mg "is_formed" (top 19)
  h_is_body : Here K mg "is_body" (top 20)
  h_check_body : Here K mg "check_body" (top 21)
  h_holes_in : Here K mg "holes_in" (top 24)
  h_is_frame : Here K mg "is_frame" (top 25)
  h_put_in : Here K mg "put_in" (top 26)
  h_filled : Here K mg "filled" (top 27)
  h__law_mixed : Here K mg "_law_mixed" (top 29)
  h__law_cell : Here K mg "_law_cell" (top 30)
  h__law_take : Here K mg "_law_take" (top 31)
  h__law_words : Here K mg "_law_words" (top 32)
  h__law_leaf : Here K mg "_law_leaf" (top 33)
  h__law_body : Here K mg "_law_body" (top 34)
  h__law_frame : Here K mg "_law_frame" (top 35)
  h__law_filled : Here K mg "_law_filled" (top 36)
  h__law_parts : Here K mg "_law_parts" (top 37)
  h__law_swapped : Here K mg "_law_swapped" (top 38)
  h__law_good : Here K mg "_law_good" (top 39)
  h__law_fill_good : Here K mg "_law_fill_good" (top 40)
  h__law_bent : Here K mg "_law_bent" (top 41)
  h__law_fixed_good : Here K mg "_law_fixed_good" (top 42)
  h_law : Here K mg "law" (top 43)
  z_all : mg "all" = none
  z_bool : mg "bool" = none
  z_int : mg "int" = none
  z_isinstance : mg "isinstance" = none
  z_len : mg "len" = none
  z_list : mg "list" = none
  z_max : mg "max" = none
  z_min : mg "min" = none
  z_range : mg "range" = none
  z_set : mg "set" = none
  z_sorted : mg "sorted" = none
  z_str : mg "str" = none
  z_sum : mg "sum" = none
  z_tuple : mg "tuple" = none
  g_DEEPEST : ∃ t, mg "DEEPEST" = some (.int 40 t)
  g_HOLE : GTup K mg "HOLE" ["hole"]
  g_LETTERS : ∃ t, mg "LETTERS" = some (.str "abcdefghijklmnopqrstuvwxyz" t)
  g_LONGEST : ∃ t, mg "LONGEST" = some (.int 8 t)
  g_MOST_ACTIONS : ∃ t, mg "MOST_ACTIONS" = some (.int 6 t)
  g_MOST_LOCKS : ∃ t, mg "MOST_LOCKS" = some (.int 5 t)
  g_MOST_PARTS : ∃ t, mg "MOST_PARTS" = some (.int 60 t)
  e_InvalidFrame : ClsF K mg "InvalidFrame"
  e_TooLarge : ClsF K mg "TooLarge"
section
variable {P : Program} {w : World} {K : Fr'} {mg : Str → Option Value} {base : Heap}
abbrev N_is_name : List Str := ["value", "letter"]
theorem c_is_name (T : Tops K mg) : Cal P w K mg base "is_name" 1 ["value"] [.v] F_is_name := by
  have S : FnScope N_is_name ["value"] (defScope (top 12)) := ⟨rfl, rfl, rfl, by decide +kernel, rfl, by decide +kernel, by decide +kernel⟩
  refine Cal.mk_ (k := 0) T.h_is_name S rfl (fun _ _ _ _ _ _ us hl => match us, hl with | [_], _ => rfl) fun f cdv A outer s H E hr gd0 => ?_
  have hu : (A.deeper (envOfC "is_name" (defScope (top 12)) s.heap.objs.size f cdv)).units + 100 < cLine := hu_room hr
  have gd : (A.deeper (envOfC "is_name" (defScope (top 12)) s.heap.objs.size f cdv)).guards = some [] := gd0
  exact (dss_one (ds_ret (de_and (de_isi rfl T.z_isinstance rfl T.z_str rfl (by decide) (de_var (pv 0))) (de_and (de_chain or_le or_le de_int (de_callB cr_len rfl T.z_len rfl (dp_cons (de_var (pv 0)) dp_nil)) (de_gint rfl T.g_LONGEST)) (de_one (de_callB (cr_allD rfl) rfl T.z_all rfl (dp_cons (de_lc (own := [("letter", 1)]) (di_anyW (de_var (pv 0))) (blkOk_by rfl) (fun _ _ _ _ _ => (dg_name (pg_name S.nd rfl (by first | exact Or.inl rfl | exact Or.inr rfl)))) (fun _ _ _ _ _ => dts_nil) (fun _ _ _ _ _ => (de_cmp (or_inH hu) (de_var (pv 1)) (de_gstr rfl T.g_LETTERS) (by with_unfolding_all rfl))) (by decide) rfl S.nd) dp_nil)))))))
abbrev N_has_form : List Str := ["value", "leaves", "kind", "size"]
theorem c_has_form (T : Tops K mg) : Cal P w K mg base "has_form" 2 ["value", "leaves"] [.v, .v] F_has_form := by
  have S : FnScope N_has_form ["value", "leaves"] (defScope (top 13)) := ⟨rfl, rfl, rfl, by decide +kernel, rfl, by decide +kernel, by decide +kernel⟩
  refine Cal.mk_ (k := 1) T.h_has_form S rfl (fun _ _ _ _ _ _ us hl => match us, hl with | [_, _], _ => rfl) fun f cdv A outer s H E hr gd0 => ?_
  have hu : (A.deeper (envOfC "has_form" (defScope (top 13)) s.heap.objs.size f cdv)).units + 100 < cLine := hu_room hr
  have gd : (A.deeper (envOfC "has_form" (defScope (top 13)) s.heap.objs.size f cdv)).guards = some [] := gd0
  exact (dss_cons (ds_if (dw_dt (dw_or (dt_not (dt_truth (de_isi rfl T.z_isinstance rfl T.z_tuple rfl (by decide) (de_var (pv 0))))) (dw_or (dt_cmp or_lt (de_callB cr_len rfl T.z_len rfl (dp_cons (de_var (pv 0)) dp_nil)) de_int (nomark _)) (dw_or1 (dt_not (dt_truth (de_isi rfl T.z_isinstance rfl T.z_str rfl (by decide) (de_ixG (hu64 hu) ir_ix (de_var (pv 0)) de_int)))))))) (dss_one (ds_ret de_bool)) dss_nil) (dss_cons (ds_par (ms := [.v, .v]) rfl S.nd rfl rfl (by decide) rfl rfl (dm_v (de_ixG (hu64 hu) ir_ix (de_var (pv 0)) de_int) (dm_v (de_callB cr_len rfl T.z_len rfl (dp_cons (de_var (pv 0)) dp_nil)) dm_nil)) (by rfl)) (dss_cons (ds_if (dw_dt (dw_or (dt_cmp (or_inH hu) (de_var (pv 2)) (de_tup (da_cons de_str (da_cons de_str da_nil))) (by with_unfolding_all rfl)) (dw_or1 (dw_dt (dw_and (dt_cmp (or_eqH hu) (de_var (pv 2)) de_str (nomark _)) (dw_and1 (dt_cmp (or_inH hu) (de_var (pv 2)) (de_var (pv 1)) (by with_unfolding_all rfl)))))))) (dss_one (ds_ret (de_cmp (or_eqH hu) (de_var (pv 3)) de_int (nomark _)))) dss_nil) (dss_cons (ds_if (dw_dt (dw_or (dt_cmp (or_eqH hu) (de_var (pv 2)) de_str (nomark _)) (dw_or1 (dw_dt (dw_and (dt_cmp (or_eqH hu) (de_var (pv 2)) de_str (nomark _)) (dw_and1 (dt_cmp (or_inH hu) (de_var (pv 2)) (de_var (pv 1)) (by with_unfolding_all rfl)))))))) (dss_one (ds_ret (de_and (de_cmp (or_eqH hu) (de_var (pv 3)) de_int (nomark _)) (de_one (de_cal (c_is_name T) hr (by decide) gd rfl (dm_v (de_ixG (hu64 hu) ir_ix (de_var (pv 0)) de_int) dm_nil)))))) dss_nil) (dss_cons (ds_if (dt_cmp (or_eqH hu) (de_var (pv 2)) de_str (nomark _)) (dss_one (ds_ret (de_and (de_cmp (or_eqH hu) (de_var (pv 3)) de_int (nomark _)) (de_one (de_cal (c_is_name T) hr (by decide) gd rfl (dm_v (de_ixG (hu64 hu) ir_ix (de_var (pv 0)) de_int) dm_nil)))))) dss_nil) (dss_one (ds_ret (de_or (de_and (de_cmp (or_eqH hu) (de_var (pv 2)) de_str (nomark _)) (de_one (de_cmp (or_eqH hu) (de_var (pv 3)) de_int (nomark _)))) (de_one (de_and (de_cmp (or_inH hu) (de_var (pv 2)) (de_tup (da_cons de_str (da_cons de_str da_nil))) (by with_unfolding_all rfl)) (de_one (de_cmp or_ge (de_var (pv 3)) de_int (nomark _)))))))))))))
abbrev N_members : List Str := ["body"]
theorem c_members (T : Tops K mg) : Cal P w K mg base "members" 1 ["body"] [.v] F_members := by
  have S : FnScope N_members ["body"] (defScope (top 14)) := ⟨rfl, rfl, rfl, by decide +kernel, rfl, by decide +kernel, by decide +kernel⟩
  refine Cal.mk_ (k := 0) T.h_members S rfl (fun _ _ _ _ _ _ us hl => match us, hl with | [_], _ => rfl) fun f cdv A outer s H E hr gd0 => ?_
  have hu : (A.deeper (envOfC "members" (defScope (top 14)) s.heap.objs.size f cdv)).units + 100 < cLine := hu_room hr
  have gd : (A.deeper (envOfC "members" (defScope (top 14)) s.heap.objs.size f cdv)).guards = some [] := gd0
  exact (dss_cons (ds_if (dt_cmp (or_inH hu) (de_ixG (hu64 hu) ir_ix (de_var (pv 0)) de_int) (de_tup (da_cons de_str (da_cons de_str (da_cons de_str da_nil)))) (by with_unfolding_all rfl)) (dss_one (ds_ret (de_slice sr_sl (de_var (pv 0)) (do_some de_int) do_none))) dss_nil) (dss_one (ds_ret (de_if (dt_cmp (or_eqH hu) (de_ixG (hu64 hu) ir_ix (de_var (pv 0)) de_int) de_str (nomark _)) (de_slice sr_sl (de_var (pv 0)) (do_some de_int) do_none) (de_tup da_nil)))))
abbrev N_with_members : List Str := ["body", "parts"]
theorem c_with_members (T : Tops K mg) : Cal P w K mg base "with_members" 1 ["body", "parts"] [.v, .v] F_with_members := by
  have S : FnScope N_with_members ["body", "parts"] (defScope (top 15)) := ⟨rfl, rfl, rfl, by decide +kernel, rfl, by decide +kernel, by decide +kernel⟩
  refine Cal.mk_ (k := 0) T.h_with_members S rfl (fun _ _ _ _ _ _ us hl => match us, hl with | [_, _], _ => rfl) fun f cdv A outer s H E hr gd0 => ?_
  have hu : (A.deeper (envOfC "with_members" (defScope (top 15)) s.heap.objs.size f cdv)).units + 100 < cLine := hu_room hr
  have gd : (A.deeper (envOfC "with_members" (defScope (top 15)) s.heap.objs.size f cdv)).guards = some [] := gd0
  exact (dss_one (ds_ret (de_op or_add (de_slice sr_sl (de_var (pv 0)) do_none (do_some (de_op or_sub (de_callB cr_len rfl T.z_len rfl (dp_cons (de_var (pv 0)) dp_nil)) (de_callB cr_len rfl T.z_len rfl (dp_cons (de_var (pv 1)) dp_nil))))) (de_callTy (cr_tuple2 rfl) rfl T.z_tuple rfl (dp_cons (de_var (pv 1)) dp_nil)))))
abbrev N_parts_in : List Str := ["value", "depth", "leaves", "many", "part"]
theorem c_parts_in (T : Tops K mg) : ∀ n : Nat, Cal P w K mg base "parts_in" (2 + n) ["value", "depth", "leaves"] [.v, .v, .v] (F_parts_in n)
  | 0 => Cal.none_ T.h_parts_in rfl (fun _ _ _ _ _ _ us hl => match us, hl with | [_, _, _], _ => rfl)
  | n + 1 => by
    have ih := c_parts_in T n
    have S : FnScope N_parts_in ["value", "depth", "leaves"] (defScope (top 16)) := ⟨rfl, rfl, rfl, by decide +kernel, rfl, by decide +kernel, by decide +kernel⟩
    refine Cal.mk_ (k := 2 + n) T.h_parts_in S rfl (fun _ _ _ _ _ _ us hl => match us, hl with | [_, _, _], _ => rfl) fun f cdv A outer s H E hr gd0 => ?_
    have hu : (A.deeper (envOfC "parts_in" (defScope (top 16)) s.heap.objs.size f cdv)).units + 100 < cLine := hu_room hr
    have gd : (A.deeper (envOfC "parts_in" (defScope (top 16)) s.heap.objs.size f cdv)).guards = some [] := gd0
    exact (dss_cons (ds_if (dw_dt (dw_or (dt_cmp or_gt (de_var (pv 1)) (de_gint rfl T.g_DEEPEST) (nomark _)) (dw_or1 (dt_not (dt_truth (de_cal (c_has_form T) hr (by omega) gd rfl (dm_v (de_var (pv 0)) (dm_v (de_var (pv 2)) dm_nil)))))))) (dss_one (ds_ret (de_op or_add (de_gint rfl T.g_MOST_PARTS) de_int))) dss_nil) (dss_cons (ds_setN S.nd rfl (Or.inl rfl) de_int) (dss_cons (ds_for (di_anyW (de_cal (c_members T) hr (by omega) gd rfl (dm_v (de_var (pv 0)) dm_nil))) (dg_name (pg_name S.nd rfl (by first | exact Or.inl rfl | exact Or.inr rfl))) (dss_cons (ds_setN S.nd rfl (Or.inl rfl) (de_op or_add (de_var (pv 3)) (de_cal ih hr (by omega) gd rfl (dm_v (de_var (pv 4)) (dm_v (de_op or_add (de_var (pv 1)) de_int) (dm_v (de_var (pv 2)) dm_nil)))))) (dss_one (ds_if (dt_cmp or_gt (de_var (pv 3)) (de_gint rfl T.g_MOST_PARTS) (nomark _)) (dss_one (ds_ret (de_op or_add (de_gint rfl T.g_MOST_PARTS) de_int))) dss_nil))) pass_nox rfl) (dss_one (ds_ret (de_var (pv 3)))))))
abbrev N_named_in : List Str := ["body", "kind", "inner", "part", "name"]
theorem c_named_in (T : Tops K mg) : ∀ n : Nat, Cal P w K mg base "named_in" (1 + n) ["body", "kind"] [.v, .v] (F_named_in n)
  | 0 => Cal.none_ T.h_named_in rfl (fun _ _ _ _ _ _ us hl => match us, hl with | [_, _], _ => rfl)
  | n + 1 => by
    have ih := c_named_in T n
    have S : FnScope N_named_in ["body", "kind"] (defScope (top 17)) := ⟨rfl, rfl, rfl, by decide +kernel, rfl, by decide +kernel, by decide +kernel⟩
    refine Cal.mk_ (k := 1 + n) T.h_named_in S rfl (fun _ _ _ _ _ _ us hl => match us, hl with | [_, _], _ => rfl) fun f cdv A outer s H E hr gd0 => ?_
    have hu : (A.deeper (envOfC "named_in" (defScope (top 17)) s.heap.objs.size f cdv)).units + 100 < cLine := hu_room hr
    have gd : (A.deeper (envOfC "named_in" (defScope (top 17)) s.heap.objs.size f cdv)).guards = some [] := gd0
    exact (dss_cons (ds_setLc2 (vs1 := [4]) rfl rfl (by rfl) (own := [("part", 3), ("name", 4)]) (di_anyW (de_cal (c_members T) hr (by omega) gd rfl (dm_v (de_var (pv 0)) dm_nil))) (blkOk_by rfl) (fun _ _ _ _ _ => (dg_name (pg_name S.nd rfl (by first | exact Or.inl rfl | exact Or.inr rfl)))) (fun _ _ _ _ _ => dts_nil) (fun _ _ _ _ _ => (di_anyW (de_cal ih hr (by omega) gd rfl (dm_v (de_var (pv 3)) (dm_v (de_var (pv 1)) dm_nil))))) (fun _ _ _ _ _ => (dg_name (pg_name S.nd rfl (by first | exact Or.inl rfl | exact Or.inr rfl)))) (fun _ _ _ _ _ => dts_nil) (fun _ _ _ _ _ => (de_var (pv 4))) (by decide) (by decide) (by decide) rfl S.nd) (dss_one (ds_ret (de_if (dt_cmp (or_eqH hu) (de_ixG (hu64 hu) ir_ix (de_var (pv 0)) de_int) (de_var (pv 1)) (nomark _)) (de_op or_add (de_lst (da_cons (de_ixG (hu64 hu) ir_ix (de_var (pv 0)) de_int) da_nil)) (de_var (pv 2))) (de_var (pv 2))))))
abbrev N_set_of : List Str := ["names"]
theorem c_set_of (T : Tops K mg) : Cal P w K mg base "set_of" 1 ["names"] [.v] F_set_of := by
  have S : FnScope N_set_of ["names"] (defScope (top 18)) := ⟨rfl, rfl, rfl, by decide +kernel, rfl, by decide +kernel, by decide +kernel⟩
  refine Cal.mk_ (k := 0) T.h_set_of S rfl (fun _ _ _ _ _ _ us hl => match us, hl with | [_], _ => rfl) fun f cdv A outer s H E hr gd0 => ?_
  have hu : (A.deeper (envOfC "set_of" (defScope (top 18)) s.heap.objs.size f cdv)).units + 100 < cLine := hu_room hr
  have gd : (A.deeper (envOfC "set_of" (defScope (top 18)) s.heap.objs.size f cdv)).guards = some [] := gd0
  exact (dss_one (ds_ret (de_callTy (cr_tuple2 rfl) rfl T.z_tuple rfl (dp_cons (de_sortSet rfl hu rfl T.z_sorted rfl T.z_set (de_var (pv 0))) dp_nil))))
abbrev N_is_formed : List Str := ["value", "leaves"]
theorem c_is_formed (T : Tops K mg) : Cal P w K mg base "is_formed" 48 ["value", "leaves"] [.v, .v] F_is_formed := by
  have S : FnScope N_is_formed ["value", "leaves"] (defScope (top 19)) := ⟨rfl, rfl, rfl, by decide +kernel, rfl, by decide +kernel, by decide +kernel⟩
  refine Cal.mk_ (k := 47) T.h_is_formed S rfl (fun _ _ _ _ _ _ us hl => match us, hl with | [_, _], _ => rfl) fun f cdv A outer s H E hr gd0 => ?_
  have hu : (A.deeper (envOfC "is_formed" (defScope (top 19)) s.heap.objs.size f cdv)).units + 100 < cLine := hu_room hr
  have gd : (A.deeper (envOfC "is_formed" (defScope (top 19)) s.heap.objs.size f cdv)).guards = some [] := gd0
  exact (dss_cons (ds_if (dt_cmp or_gt (de_cal (c_parts_in T 45) hr (by decide) gd rfl (dm_v (de_var (pv 0)) (dm_v de_int (dm_v (de_var (pv 1)) dm_nil)))) (de_gint rfl T.g_MOST_PARTS) (nomark _)) (dss_one (ds_ret de_bool)) dss_nil) (dss_one (ds_ret (de_and (de_cmp or_le (de_callB cr_len rfl T.z_len rfl (dp_cons (de_cal (c_set_of T) hr (by decide) gd rfl (dm_v (de_cal (c_named_in T 45) hr (by decide) gd rfl (dm_v (de_var (pv 0)) (dm_v de_str dm_nil))) dm_nil)) dp_nil)) (de_gint rfl T.g_MOST_LOCKS) (nomark _)) (de_one (de_cmp or_le (de_callB cr_len rfl T.z_len rfl (dp_cons (de_cal (c_set_of T) hr (by decide) gd rfl (dm_v (de_cal (c_named_in T 45) hr (by decide) gd rfl (dm_v (de_var (pv 0)) (dm_v de_str dm_nil))) dm_nil)) dp_nil)) (de_gint rfl T.g_MOST_ACTIONS) (nomark _)))))))
abbrev N_is_body : List Str := ["value"]
theorem c_is_body (T : Tops K mg) : Cal P w K mg base "is_body" 49 ["value"] [.v] F_is_body := by
  have S : FnScope N_is_body ["value"] (defScope (top 20)) := ⟨rfl, rfl, rfl, by decide +kernel, rfl, by decide +kernel, by decide +kernel⟩
  refine Cal.mk_ (k := 48) T.h_is_body S rfl (fun _ _ _ _ _ _ us hl => match us, hl with | [_], _ => rfl) fun f cdv A outer s H E hr gd0 => ?_
  have hu : (A.deeper (envOfC "is_body" (defScope (top 20)) s.heap.objs.size f cdv)).units + 100 < cLine := hu_room hr
  have gd : (A.deeper (envOfC "is_body" (defScope (top 20)) s.heap.objs.size f cdv)).guards = some [] := gd0
  exact (dss_one (ds_ret (de_cal (c_is_formed T) hr (by decide) gd rfl (dm_v (de_var (pv 0)) (dm_v (de_tup da_nil) dm_nil)))))
abbrev N_check_body : List Str := ["body"]
theorem c_check_body (T : Tops K mg) : Cal P w K mg base "check_body" 50 ["body"] [.v] F_check_body := by
  have S : FnScope N_check_body ["body"] (defScope (top 21)) := ⟨rfl, rfl, rfl, by decide +kernel, rfl, by decide +kernel, by decide +kernel⟩
  refine Cal.mk_ (k := 49) T.h_check_body S rfl (fun _ _ _ _ _ _ us hl => match us, hl with | [_], _ => rfl) fun f cdv A outer s H E hr gd0 => ?_
  have hu : (A.deeper (envOfC "check_body" (defScope (top 21)) s.heap.objs.size f cdv)).units + 100 < cLine := hu_room hr
  have gd : (A.deeper (envOfC "check_body" (defScope (top 21)) s.heap.objs.size f cdv)).guards = some [] := gd0
  exact (dss_one (ds_if (dt_not (dt_truth (de_cal (c_is_body T) hr (by decide) gd rfl (dm_v (de_var (pv 0)) dm_nil)))) (dss_one ds_never) dss_nil))
abbrev N_holes_in : List Str := ["value", "part"]
theorem c_holes_in (T : Tops K mg) : ∀ n : Nat, Cal P w K mg base "holes_in" (1 + n) ["value"] [.v] (F_holes_in n)
  | 0 => Cal.none_ T.h_holes_in rfl (fun _ _ _ _ _ _ us hl => match us, hl with | [_], _ => rfl)
  | n + 1 => by
    have ih := c_holes_in T n
    have S : FnScope N_holes_in ["value"] (defScope (top 24)) := ⟨rfl, rfl, rfl, by decide +kernel, rfl, by decide +kernel, by decide +kernel⟩
    refine Cal.mk_ (k := 1 + n) T.h_holes_in S rfl (fun _ _ _ _ _ _ us hl => match us, hl with | [_], _ => rfl) fun f cdv A outer s H E hr gd0 => ?_
    have hu : (A.deeper (envOfC "holes_in" (defScope (top 24)) s.heap.objs.size f cdv)).units + 100 < cLine := hu_room hr
    have gd : (A.deeper (envOfC "holes_in" (defScope (top 24)) s.heap.objs.size f cdv)).guards = some [] := gd0
    exact (dss_one (ds_ret (de_if (dt_cmp (or_eqH hu) (de_var (pv 0)) (de_gtupE rfl T.g_HOLE) (nomark _)) de_int (de_callB (cr_sumD rfl) rfl T.z_sum rfl (dp_cons (de_lc (own := [("part", 1)]) (di_anyW (de_cal (c_members T) hr (by omega) gd rfl (dm_v (de_var (pv 0)) dm_nil))) (blkOk_by rfl) (fun _ _ _ _ _ => (dg_name (pg_name S.nd rfl (by first | exact Or.inl rfl | exact Or.inr rfl)))) (fun _ _ _ _ _ => dts_nil) (fun _ _ _ _ _ => (de_cal ih hr (by omega) gd rfl (dm_v (de_var (pv 1)) dm_nil))) (by decide) rfl S.nd) dp_nil)))))
abbrev N_is_frame : List Str := ["value"]
theorem c_is_frame (T : Tops K mg) : Cal P w K mg base "is_frame" 49 ["value"] [.v] F_is_frame := by
  have S : FnScope N_is_frame ["value"] (defScope (top 25)) := ⟨rfl, rfl, rfl, by decide +kernel, rfl, by decide +kernel, by decide +kernel⟩
  refine Cal.mk_ (k := 48) T.h_is_frame S rfl (fun _ _ _ _ _ _ us hl => match us, hl with | [_], _ => rfl) fun f cdv A outer s H E hr gd0 => ?_
  have hu : (A.deeper (envOfC "is_frame" (defScope (top 25)) s.heap.objs.size f cdv)).units + 100 < cLine := hu_room hr
  have gd : (A.deeper (envOfC "is_frame" (defScope (top 25)) s.heap.objs.size f cdv)).guards = some [] := gd0
  exact (dss_one (ds_ret (de_and (de_cal (c_is_formed T) hr (by decide) gd rfl (dm_v (de_var (pv 0)) (dm_v (de_tup (da_cons de_str da_nil)) dm_nil))) (de_one (de_cmp (or_eqH hu) (de_cal (c_holes_in T 45) hr (by decide) gd rfl (dm_v (de_var (pv 0)) dm_nil)) de_int (nomark _))))))
abbrev N_put_in : List Str := ["frame", "body", "part"]
theorem c_put_in (T : Tops K mg) : ∀ n : Nat, Cal P w K mg base "put_in" (1 + n) ["frame", "body"] [.v, .v] (F_put_in n)
  | 0 => Cal.none_ T.h_put_in rfl (fun _ _ _ _ _ _ us hl => match us, hl with | [_, _], _ => rfl)
  | n + 1 => by
    have ih := c_put_in T n
    have S : FnScope N_put_in ["frame", "body"] (defScope (top 26)) := ⟨rfl, rfl, rfl, by decide +kernel, rfl, by decide +kernel, by decide +kernel⟩
    refine Cal.mk_ (k := 1 + n) T.h_put_in S rfl (fun _ _ _ _ _ _ us hl => match us, hl with | [_, _], _ => rfl) fun f cdv A outer s H E hr gd0 => ?_
    have hu : (A.deeper (envOfC "put_in" (defScope (top 26)) s.heap.objs.size f cdv)).units + 100 < cLine := hu_room hr
    have gd : (A.deeper (envOfC "put_in" (defScope (top 26)) s.heap.objs.size f cdv)).guards = some [] := gd0
    exact (dss_cons (ds_if (dt_cmp (or_eqH hu) (de_var (pv 0)) (de_gtupE rfl T.g_HOLE) (nomark _)) (dss_one (ds_ret (de_var (pv 1)))) dss_nil) (dss_one (ds_ret (de_cal (c_with_members T) hr (by omega) gd rfl (dm_v (de_var (pv 0)) (dm_v (de_lc (own := [("part", 2)]) (di_anyW (de_cal (c_members T) hr (by omega) gd rfl (dm_v (de_var (pv 0)) dm_nil))) (blkOk_by rfl) (fun _ _ _ _ _ => (dg_name (pg_name S.nd rfl (by first | exact Or.inl rfl | exact Or.inr rfl)))) (fun _ _ _ _ _ => dts_nil) (fun _ _ _ _ _ => (de_cal ih hr (by omega) gd rfl (dm_v (de_var (pv 2)) (dm_v (de_var (pv 1)) dm_nil)))) (by decide) rfl S.nd) dm_nil))))))
abbrev N_filled : List Str := ["frame", "body", "found"]
theorem c_filled (T : Tops K mg) : CalX P w K mg base "filled" 51 ["frame", "body"] [.v, .v] F_filled := by
  have S : FnScope N_filled ["frame", "body"] (defScope (top 27)) := ⟨rfl, rfl, rfl, by decide +kernel, rfl, by decide +kernel, by decide +kernel⟩
  refine CalX.mk_ (k := 50) T.h_filled S rfl (fun _ _ _ _ _ _ us hl => match us, hl with | [_, _], _ => rfl) fun f cdv A outer s H E hr gd0 => ?_
  have hu : (A.deeper (envOfC "filled" (defScope (top 27)) s.heap.objs.size f cdv)).units + 100 < cLine := hu_room hr
  have gd : (A.deeper (envOfC "filled" (defScope (top 27)) s.heap.objs.size f cdv)).guards = some [] := gd0
  exact (dxs_cons (dx_if (dt_not (dt_truth (de_cal (c_is_frame T) hr (by decide) gd rfl (dm_v (de_var (pv 0)) dm_nil)))) (dxs_one (dx_raise rfl (takes_of rfl rfl rfl rfl) T.e_InvalidFrame rfl)) dxs_nil) (dxs_cons (dx_of (ds_expr (de_cal (c_check_body T) hr (by decide) gd rfl (dm_v (de_var (pv 1)) dm_nil)))) (dxs_cons (dx_of (ds_setN S.nd rfl (Or.inl rfl) (de_cal (c_put_in T 45) hr (by decide) gd rfl (dm_v (de_var (pv 0)) (dm_v (de_var (pv 1)) dm_nil))))) (dxs_cons (dx_if (dt_not (dt_truth (de_cal (c_is_body T) hr (by decide) gd rfl (dm_v (de_var (pv 2)) dm_nil)))) (dxs_one (dx_raise rfl (takes_of rfl rfl rfl rfl) T.e_TooLarge rfl)) dxs_nil) (dxs_one (dx_of (ds_ret (de_var (pv 2)))))))))
abbrev N__law_mixed : List Str := ["_law_cell_here", "_law_k", "_law_mix"]
theorem c__law_mixed (T : Tops K mg) : Cal P w K mg base "_law_mixed" 1 ["_law_cell_here", "_law_k"] [.v, .v] F__law_mixed := by
  have S : FnScope N__law_mixed ["_law_cell_here", "_law_k"] (defScope (top 29)) := ⟨rfl, rfl, rfl, by decide +kernel, rfl, by decide +kernel, by decide +kernel⟩
  refine Cal.mk_ (k := 0) T.h__law_mixed S rfl (fun _ _ _ _ _ _ us hl => match us, hl with | [_, _], _ => rfl) fun f cdv A outer s H E hr gd0 => ?_
  have hu : (A.deeper (envOfC "_law_mixed" (defScope (top 29)) s.heap.objs.size f cdv)).units + 100 < cLine := hu_room hr
  have gd : (A.deeper (envOfC "_law_mixed" (defScope (top 29)) s.heap.objs.size f cdv)).guards = some [] := gd0
  exact (dss_cons (ds_setN S.nd rfl (Or.inl rfl) (de_op or_mod (de_callTy cr_int rfl T.z_int rfl (dp_cons (de_op or_add (de_op or_add (de_op or_mul (de_op or_mod (de_callTy cr_int rfl T.z_int rfl (dp_cons (de_var (pv 0)) dp_nil)) de_int) de_int) (de_op or_mul (de_var (pv 1)) de_int)) de_int) dp_nil)) de_int)) (dss_cons (ds_setN S.nd rfl (Or.inl rfl) (de_op or_mod (de_callTy cr_int rfl T.z_int rfl (dp_cons (de_op or_mul (de_var (pv 2)) (de_var (pv 2))) dp_nil)) de_int)) (dss_one (ds_ret (de_op or_mod (de_callTy cr_int rfl T.z_int rfl (dp_cons (de_op or_mul (de_var (pv 2)) (de_op or_add (de_var (pv 2)) de_int)) dp_nil)) de_int)))))
abbrev N__law_cell : List Str := ["_law_script", "_law_k", "_law_cell_here", "_law_found", "_law_j"]
theorem c__law_cell (T : Tops K mg) : Cal P w K mg base "_law_cell" 2 ["_law_script", "_law_k"] [.s, .v] F__law_cell := by
  have S : FnScope N__law_cell ["_law_script", "_law_k"] (defScope (top 30)) := ⟨rfl, rfl, rfl, by decide +kernel, rfl, by decide +kernel, by decide +kernel⟩
  refine Cal.mk_ (k := 1) T.h__law_cell S rfl (fun _ _ _ _ _ _ us hl => match us, hl with | [_, _], _ => rfl) fun f cdv A outer s H E hr gd0 => ?_
  have hu : (A.deeper (envOfC "_law_cell" (defScope (top 30)) s.heap.objs.size f cdv)).units + 100 < cLine := hu_room hr
  have gd : (A.deeper (envOfC "_law_cell" (defScope (top 30)) s.heap.objs.size f cdv)).guards = some [] := gd0
  exact (dss_cons (ds_setN S.nd rfl (Or.inl rfl) de_int) (dss_cons (ds_if (dt_cmp or_lt (de_var (pv 1)) (de_lenScr rfl T.z_len (pv 0)) (nomark _)) (dss_one (ds_setN S.nd rfl (Or.inl rfl) (de_ixScr (pv 0) (de_var (pv 1))))) dss_nil) (dss_cons (ds_if (dt_cmp or_ge (de_var (pv 2)) (de_op or_pow de_int de_int) (nomark _)) (dss_one (ds_ret (de_op or_mod (de_callTy cr_int rfl T.z_int rfl (dp_cons (de_op or_sub (de_var (pv 2)) (de_op or_pow de_int de_int)) dp_nil)) (de_op or_mul (de_op or_mul (de_op or_mul (de_op or_pow de_int de_int) (de_op or_pow de_int de_int)) (de_op or_pow de_int de_int)) (de_op or_pow de_int de_int))))) dss_nil) (dss_cons (ds_setN S.nd rfl (Or.inl rfl) de_int) (dss_cons (ds_for (di_rangeW1 rfl T.z_range (dp_cons de_int dp_nil)) (dg_name (pg_name S.nd rfl (by first | exact Or.inl rfl | exact Or.inr rfl))) (dss_one (ds_setN S.nd rfl (Or.inl rfl) (de_op or_add (de_op or_mul (de_var (pv 3)) de_int) (de_cal (c__law_mixed T) hr (by decide) gd rfl (dm_v (de_var (pv 2)) (dm_v (de_op or_add (de_op or_add (de_op or_mul de_int (de_var (pv 1))) (de_op or_mul de_int (de_var (pv 4)))) (de_op or_mul (de_var (pv 4)) (de_var (pv 4)))) dm_nil)))))) pass_nox rfl) (dss_one (ds_ret (de_var (pv 3)))))))))
abbrev N__law_take : List Str := ["_law_own", "_law_options", "_law_digit"]
theorem c__law_take (T : Tops K mg) : Cal P w K mg base "_law_take" 1 ["_law_own", "_law_options"] [.r, .v] F__law_take := by
  have S : FnScope N__law_take ["_law_own", "_law_options"] (defScope (top 31)) := ⟨rfl, rfl, rfl, by decide +kernel, rfl, by decide +kernel, by decide +kernel⟩
  refine Cal.mk_ (k := 0) T.h__law_take S rfl (fun _ _ _ _ _ _ us hl => match us, hl with | [_, _], _ => rfl) fun f cdv A outer s H E hr gd0 => ?_
  have hu : (A.deeper (envOfC "_law_take" (defScope (top 31)) s.heap.objs.size f cdv)).units + 100 < cLine := hu_room hr
  have gd : (A.deeper (envOfC "_law_take" (defScope (top 31)) s.heap.objs.size f cdv)).guards = some [] := gd0
  exact (dss_cons (ds_setN S.nd rfl (Or.inl rfl) (de_op or_mod (de_callTy cr_int rfl T.z_int rfl (dp_cons (de_ixG (hu64 hu) ir_ix (de_var (pv 0)) de_int) dp_nil)) (de_var (pv 1)))) (dss_cons (ds_sub (hu1 hu) (pv 0) de_int (de_op or_div (de_ixG (hu64 hu) ir_ix (de_var (pv 0)) de_int) (de_var (pv 1)))) (dss_one (ds_ret (de_var (pv 2))))))
abbrev N__law_words : List Str := ["_law_own", "_law_many", "_law_some", "_law_found", "_law_k"]
theorem c__law_words (T : Tops K mg) : Cal P w K mg base "_law_words" 2 ["_law_own", "_law_many"] [.r, .v] F__law_words := by
  have S : FnScope N__law_words ["_law_own", "_law_many"] (defScope (top 32)) := ⟨rfl, rfl, rfl, by decide +kernel, rfl, by decide +kernel, by decide +kernel⟩
  refine Cal.mk_ (k := 1) T.h__law_words S rfl (fun _ _ _ _ _ _ us hl => match us, hl with | [_, _], _ => rfl) fun f cdv A outer s H E hr gd0 => ?_
  have hu : (A.deeper (envOfC "_law_words" (defScope (top 32)) s.heap.objs.size f cdv)).units + 100 < cLine := hu_room hr
  have gd : (A.deeper (envOfC "_law_words" (defScope (top 32)) s.heap.objs.size f cdv)).guards = some [] := gd0
  exact (dss_cons (ds_setN S.nd rfl (Or.inl rfl) (de_lst (da_cons de_str (da_cons de_str (da_cons de_str (da_cons de_str (da_cons de_str (da_cons de_str (da_cons de_str (da_cons de_str (da_cons de_str (da_cons de_str da_nil)))))))))))) (dss_cons (ds_setN S.nd rfl (Or.inl rfl) (de_lst da_nil)) (dss_cons (ds_for (di_rangeW1 rfl T.z_range (dp_cons (de_var (pv 1)) dp_nil)) (dg_name (pg_name S.nd rfl (by first | exact Or.inl rfl | exact Or.inr rfl))) (dss_one (ds_expr (de_mut PySem.F.plainAttrs_list PySem.F.slot_list_append PySem.F.type_list_append mt_appendD (pv 3) (da_cons (de_mut PySem.F.plainAttrs_list PySem.F.slot_list_pop PySem.F.type_list_pop mt_popD (pv 2) (da_cons (de_cal (c__law_take T) hr (by decide) gd rfl (dm_r (de_var (pv 0)) (dm_v (de_callB cr_len rfl T.z_len rfl (dp_cons (de_var (pv 2)) dp_nil)) dm_nil))) da_nil)) da_nil)))) pass_nox rfl) (dss_one (ds_ret (de_var (pv 3)))))))
abbrev N__law_leaf : List Str := ["_law_own", "_law_names", "_law_pick"]
theorem c__law_leaf (T : Tops K mg) : Cal P w K mg base "_law_leaf" 2 ["_law_own", "_law_names"] [.r, .v] F__law_leaf := by
  have S : FnScope N__law_leaf ["_law_own", "_law_names"] (defScope (top 33)) := ⟨rfl, rfl, rfl, by decide +kernel, rfl, by decide +kernel, by decide +kernel⟩
  refine Cal.mk_ (k := 1) T.h__law_leaf S rfl (fun _ _ _ _ _ _ us hl => match us, hl with | [_, _], _ => rfl) fun f cdv A outer s H E hr gd0 => ?_
  have hu : (A.deeper (envOfC "_law_leaf" (defScope (top 33)) s.heap.objs.size f cdv)).units + 100 < cLine := hu_room hr
  have gd : (A.deeper (envOfC "_law_leaf" (defScope (top 33)) s.heap.objs.size f cdv)).guards = some [] := gd0
  exact (dss_cons (ds_setN S.nd rfl (Or.inl rfl) (de_cal (c__law_take T) hr (by decide) gd rfl (dm_r (de_var (pv 0)) (dm_v de_int dm_nil)))) (dss_cons (ds_if (dt_cmp or_lt (de_var (pv 2)) de_int (nomark _)) (dss_one (ds_ret (de_ixG (hu64 hu) ir_ix (de_lst (da_cons (de_tup (da_cons de_str da_nil)) (da_cons (de_tup (da_cons de_str da_nil)) da_nil))) (de_var (pv 2))))) dss_nil) (dss_one (ds_ret (de_tup (da_cons de_str (da_cons (de_ixG (hu64 hu) ir_ix (de_var (pv 1)) (de_cal (c__law_take T) hr (by decide) gd rfl (dm_r (de_var (pv 0)) (dm_v (de_callB cr_len rfl T.z_len rfl (dp_cons (de_var (pv 1)) dp_nil)) dm_nil)))) da_nil)))))))
abbrev N__law_body : List Str := ["_law_own", "_law_words_here", "_law_names", "_law_deep", "_law_pick", "_law_parts_here", "_law_k"]
theorem c__law_body (T : Tops K mg) : ∀ n : Nat, Cal P w K mg base "_law_body" (2 + n) ["_law_own", "_law_words_here", "_law_names", "_law_deep"] [.r, .v, .v, .v] (F__law_body n)
  | 0 => Cal.none_ T.h__law_body rfl (fun _ _ _ _ _ _ us hl => match us, hl with | [_, _, _, _], _ => rfl)
  | n + 1 => by
    have ih := c__law_body T n
    have S : FnScope N__law_body ["_law_own", "_law_words_here", "_law_names", "_law_deep"] (defScope (top 34)) := ⟨rfl, rfl, rfl, by decide +kernel, rfl, by decide +kernel, by decide +kernel⟩
    refine Cal.mk_ (k := 2 + n) T.h__law_body S rfl (fun _ _ _ _ _ _ us hl => match us, hl with | [_, _, _, _], _ => rfl) fun f cdv A outer s H E hr gd0 => ?_
    have hu : (A.deeper (envOfC "_law_body" (defScope (top 34)) s.heap.objs.size f cdv)).units + 100 < cLine := hu_room hr
    have gd : (A.deeper (envOfC "_law_body" (defScope (top 34)) s.heap.objs.size f cdv)).guards = some [] := gd0
    exact (dss_cons (ds_setN S.nd rfl (Or.inl rfl) (de_cal (c__law_take T) hr (by omega) gd rfl (dm_r (de_var (pv 0)) (dm_v de_int dm_nil)))) (dss_cons (ds_if (dw_dt (dw_or (dt_cmp (or_eqH hu) (de_var (pv 3)) de_int (nomark _)) (dw_or1 (dt_cmp (or_eqH hu) (de_var (pv 4)) de_int (nomark _))))) (dss_one (ds_ret (de_cal (c__law_leaf T) hr (by omega) gd rfl (dm_r (de_var (pv 0)) (dm_v (de_var (pv 2)) dm_nil))))) dss_nil) (dss_cons (ds_if (dt_cmp or_lt (de_var (pv 4)) de_int (nomark _)) (dss_one (ds_ret (de_tup (da_cons de_str (da_cons (de_ixG (hu64 hu) ir_ix (de_var (pv 1)) (de_cal (c__law_take T) hr (by omega) gd rfl (dm_r (de_var (pv 0)) (dm_v (de_callB cr_len rfl T.z_len rfl (dp_cons (de_var (pv 1)) dp_nil)) dm_nil)))) (da_cons (de_cal ih hr (by omega) gd rfl (dm_r (de_var (pv 0)) (dm_v (de_var (pv 1)) (dm_v (de_var (pv 2)) (dm_v (de_op or_sub (de_var (pv 3)) de_int) dm_nil))))) da_nil)))))) dss_nil) (dss_cons (ds_if (dt_cmp (or_eqH hu) (de_var (pv 4)) de_int (nomark _)) (dss_one (ds_ret (de_tup (da_cons de_str (da_cons (de_cal ih hr (by omega) gd rfl (dm_r (de_var (pv 0)) (dm_v (de_var (pv 1)) (dm_v (de_var (pv 2)) (dm_v (de_op or_sub (de_var (pv 3)) de_int) dm_nil))))) da_nil))))) dss_nil) (dss_cons (ds_setLc rfl rfl (by rfl) (own := [("_law_k", 6)]) (di_rangeW1 rfl T.z_range (dp_cons (de_op or_add de_int (de_cal (c__law_take T) hr (by omega) gd rfl (dm_r (de_var (pv 0)) (dm_v de_int dm_nil)))) dp_nil)) (blkOk_by rfl) (fun _ _ _ _ _ => (dg_name (pg_name S.nd rfl (by first | exact Or.inl rfl | exact Or.inr rfl)))) (fun _ _ _ _ _ => dts_nil) (fun _ _ _ _ _ => (de_cal ih hr (by omega) gd rfl (dm_r (de_var (pv 0)) (dm_v (de_var (pv 1)) (dm_v (de_var (pv 2)) (dm_v (de_op or_sub (de_var (pv 3)) de_int) dm_nil)))))) (by decide) rfl S.nd) (dss_one (ds_ret (de_op or_add (de_tup (da_cons (de_ixG (hu64 hu) ir_ix (de_lst (da_cons de_str (da_cons de_str da_nil))) (de_op or_mod (de_callTy cr_int rfl T.z_int rfl (dp_cons (de_var (pv 4)) dp_nil)) de_int)) da_nil)) (de_callTy (cr_tuple2 rfl) rfl T.z_tuple rfl (dp_cons (de_var (pv 5)) dp_nil))))))))))
abbrev N__law_frame : List Str := ["_law_own", "_law_words_here", "_law_names", "_law_deep", "_law_pick", "_law_inner", "_law_parts_here"]
theorem c__law_frame (T : Tops K mg) : ∀ n : Nat, Cal P w K mg base "_law_frame" (47 + n) ["_law_own", "_law_words_here", "_law_names", "_law_deep"] [.r, .v, .v, .v] (F__law_frame n)
  | 0 => Cal.none_ T.h__law_frame rfl (fun _ _ _ _ _ _ us hl => match us, hl with | [_, _, _, _], _ => rfl)
  | n + 1 => by
    have ih := c__law_frame T n
    have S : FnScope N__law_frame ["_law_own", "_law_words_here", "_law_names", "_law_deep"] (defScope (top 35)) := ⟨rfl, rfl, rfl, by decide +kernel, rfl, by decide +kernel, by decide +kernel⟩
    refine Cal.mk_ (k := 47 + n) T.h__law_frame S rfl (fun _ _ _ _ _ _ us hl => match us, hl with | [_, _, _, _], _ => rfl) fun f cdv A outer s H E hr gd0 => ?_
    have hu : (A.deeper (envOfC "_law_frame" (defScope (top 35)) s.heap.objs.size f cdv)).units + 100 < cLine := hu_room hr
    have gd : (A.deeper (envOfC "_law_frame" (defScope (top 35)) s.heap.objs.size f cdv)).guards = some [] := gd0
    exact (dss_cons (ds_setN S.nd rfl (Or.inl rfl) (de_cal (c__law_take T) hr (by omega) gd rfl (dm_r (de_var (pv 0)) (dm_v de_int dm_nil)))) (dss_cons (ds_if (dt_cmp (or_eqH hu) (de_var (pv 3)) de_int (nomark _)) (dss_one (ds_ret (de_tup (da_cons de_str da_nil)))) dss_nil) (dss_cons (ds_setN S.nd rfl (Or.inl rfl) (de_cal ih hr (by omega) gd rfl (dm_r (de_var (pv 0)) (dm_v (de_var (pv 1)) (dm_v (de_var (pv 2)) (dm_v (de_op or_sub (de_var (pv 3)) de_int) dm_nil)))))) (dss_cons (ds_if (dt_cmp or_lt (de_var (pv 4)) de_int (nomark _)) (dss_one (ds_ret (de_tup (da_cons de_str (da_cons (de_ixG (hu64 hu) ir_ix (de_var (pv 1)) (de_cal (c__law_take T) hr (by omega) gd rfl (dm_r (de_var (pv 0)) (dm_v (de_callB cr_len rfl T.z_len rfl (dp_cons (de_var (pv 1)) dp_nil)) dm_nil)))) (da_cons (de_var (pv 5)) da_nil)))))) dss_nil) (dss_cons (ds_if (dt_cmp (or_eqH hu) (de_var (pv 4)) de_int (nomark _)) (dss_one (ds_ret (de_tup (da_cons de_str (da_cons (de_var (pv 5)) da_nil))))) dss_nil) (dss_cons (ds_setN S.nd rfl (Or.inl rfl) (de_lst (da_cons (de_var (pv 5)) (da_cons (de_cal (c__law_body T 45) hr (by omega) gd rfl (dm_r (de_var (pv 0)) (dm_v (de_var (pv 1)) (dm_v (de_var (pv 2)) (dm_v de_int dm_nil))))) da_nil)))) (dss_cons (ds_if (dt_cmp (or_eqH hu) (de_cal (c__law_take T) hr (by omega) gd rfl (dm_r (de_var (pv 0)) (dm_v de_int dm_nil))) de_int (nomark _)) (dss_one (ds_setN S.nd rfl (Or.inl rfl) (de_rev (de_var (pv 6))))) dss_nil) (dss_one (ds_ret (de_op or_add (de_tup (da_cons (de_ixG (hu64 hu) ir_ix (de_lst (da_cons de_str (da_cons de_str da_nil))) (de_op or_mod (de_callTy cr_int rfl T.z_int rfl (dp_cons (de_var (pv 4)) dp_nil)) de_int)) da_nil)) (de_callTy (cr_tuple2 rfl) rfl T.z_tuple rfl (dp_cons (de_var (pv 6)) dp_nil))))))))))))
abbrev N__law_filled : List Str := ["_law_frame_here", "_law_body_here", "_law_first", "_law_part"]
theorem c__law_filled (T : Tops K mg) : ∀ n : Nat, Cal P w K mg base "_law_filled" (0 + n) ["_law_frame_here", "_law_body_here"] [.v, .v] (F__law_filled n)
  | 0 => Cal.none_ T.h__law_filled rfl (fun _ _ _ _ _ _ us hl => match us, hl with | [_, _], _ => rfl)
  | n + 1 => by
    have ih := c__law_filled T n
    have S : FnScope N__law_filled ["_law_frame_here", "_law_body_here"] (defScope (top 36)) := ⟨rfl, rfl, rfl, by decide +kernel, rfl, by decide +kernel, by decide +kernel⟩
    refine Cal.mk_ (k := 0 + n) T.h__law_filled S rfl (fun _ _ _ _ _ _ us hl => match us, hl with | [_, _], _ => rfl) fun f cdv A outer s H E hr gd0 => ?_
    have hu : (A.deeper (envOfC "_law_filled" (defScope (top 36)) s.heap.objs.size f cdv)).units + 100 < cLine := hu_room hr
    have gd : (A.deeper (envOfC "_law_filled" (defScope (top 36)) s.heap.objs.size f cdv)).guards = some [] := gd0
    exact (dss_cons (ds_if (dt_cmp (or_eqH hu) (de_var (pv 0)) (de_tup (da_cons de_str da_nil)) (nomark _)) (dss_one (ds_ret (de_var (pv 1)))) dss_nil) (dss_cons (ds_setN S.nd rfl (Or.inl rfl) (de_if (dt_cmp (or_eqH hu) (de_ixG (hu64 hu) ir_ix (de_var (pv 0)) de_int) de_str (nomark _)) de_int de_int)) (dss_cons (ds_if (dt_cmp (or_inH hu) (de_ixG (hu64 hu) ir_ix (de_var (pv 0)) de_int) (de_tup (da_cons de_str (da_cons de_str (da_cons de_str da_nil)))) (by with_unfolding_all rfl)) (dss_one (ds_ret (de_var (pv 0)))) dss_nil) (dss_one (ds_ret (de_op or_add (de_slice sr_sl (de_var (pv 0)) do_none (do_some (de_var (pv 2)))) (de_callTy (cr_tuple2 rfl) rfl T.z_tuple rfl (dp_cons (de_lc (own := [("_law_part", 3)]) (di_anyW (de_slice sr_sl (de_var (pv 0)) (do_some (de_var (pv 2))) do_none)) (blkOk_by rfl) (fun _ _ _ _ _ => (dg_name (pg_name S.nd rfl (by first | exact Or.inl rfl | exact Or.inr rfl)))) (fun _ _ _ _ _ => dts_nil) (fun _ _ _ _ _ => (de_cal ih hr (by omega) gd rfl (dm_v (de_var (pv 3)) (dm_v (de_var (pv 1)) dm_nil)))) (by decide) rfl S.nd) dp_nil))))))))
abbrev N__law_parts : List Str := ["_law_value", "_law_found", "_law_left", "_law_one"]
theorem c__law_parts (T : Tops K mg) : Cal P w K mg base "_law_parts" 1 ["_law_value"] [.v] F__law_parts := by
  have S : FnScope N__law_parts ["_law_value"] (defScope (top 37)) := ⟨rfl, rfl, rfl, by decide +kernel, rfl, by decide +kernel, by decide +kernel⟩
  refine Cal.mk_ (k := 0) T.h__law_parts S rfl (fun _ _ _ _ _ _ us hl => match us, hl with | [_], _ => rfl) fun f cdv A outer s H E hr gd0 => ?_
  have hu : (A.deeper (envOfC "_law_parts" (defScope (top 37)) s.heap.objs.size f cdv)).units + 100 < cLine := hu_room hr
  have gd : (A.deeper (envOfC "_law_parts" (defScope (top 37)) s.heap.objs.size f cdv)).guards = some [] := gd0
  exact (dss_cons (ds_par (ms := [.r, .r]) rfl S.nd rfl rfl (by decide) rfl rfl (dm_r (de_lst da_nil) (dm_r (de_lst (da_cons (de_var (pv 0)) da_nil)) dm_nil)) (by rfl)) (dss_cons (ds_while (dt_cmp (or_neW hu) (de_var (pv 2)) (de_lst da_nil) (nomark _)) (dss_cons (ds_setN S.nd rfl (Or.inl rfl) (de_mut0 PySem.F.plainAttrs_list PySem.F.slot_list_pop PySem.F.type_list_pop mt_popD (pv 2))) (dss_cons (ds_expr (de_mut PySem.F.plainAttrs_list PySem.F.slot_list_append PySem.F.type_list_append mt_appendD (pv 1) (da_cons (de_var (pv 3)) da_nil))) (dss_one (ds_if (dw_dt (dw_and (dt_truth (de_isi rfl T.z_isinstance rfl T.z_tuple rfl (by decide) (de_var (pv 3)))) (dw_and (dt_cmp or_gt (de_callB cr_len rfl T.z_len rfl (dp_cons (de_var (pv 3)) dp_nil)) de_int (nomark _)) (dw_and1 (dt_cmp (or_inH hu) (de_ixG (hu64 hu) ir_ix (de_var (pv 3)) de_int) (de_tup (da_cons de_str (da_cons de_str (da_cons de_str (da_cons de_str da_nil))))) (by with_unfolding_all rfl)))))) (dss_one (ds_setN S.nd rfl (Or.inl rfl) (de_op or_add (de_var (pv 2)) (de_callTy (cr_listD rfl) rfl T.z_list rfl (dp_cons (de_slice sr_sl (de_var (pv 3)) (do_some (de_if (dt_cmp (or_eqH hu) (de_ixG (hu64 hu) ir_ix (de_var (pv 3)) de_int) de_str (nomark _)) de_int de_int)) do_none) dp_nil))))) dss_nil)))) pass_nox) (dss_one (ds_ret (de_var (pv 1))))))
abbrev N__law_swapped : List Str := ["_law_value", "_law_first", "_law_part"]
theorem c__law_swapped (T : Tops K mg) : ∀ n : Nat, Cal P w K mg base "_law_swapped" (0 + n) ["_law_value"] [.v] (F__law_swapped n)
  | 0 => Cal.none_ T.h__law_swapped rfl (fun _ _ _ _ _ _ us hl => match us, hl with | [_], _ => rfl)
  | n + 1 => by
    have ih := c__law_swapped T n
    have S : FnScope N__law_swapped ["_law_value"] (defScope (top 38)) := ⟨rfl, rfl, rfl, by decide +kernel, rfl, by decide +kernel, by decide +kernel⟩
    refine Cal.mk_ (k := 0 + n) T.h__law_swapped S rfl (fun _ _ _ _ _ _ us hl => match us, hl with | [_], _ => rfl) fun f cdv A outer s H E hr gd0 => ?_
    have hu : (A.deeper (envOfC "_law_swapped" (defScope (top 38)) s.heap.objs.size f cdv)).units + 100 < cLine := hu_room hr
    have gd : (A.deeper (envOfC "_law_swapped" (defScope (top 38)) s.heap.objs.size f cdv)).guards = some [] := gd0
    exact (dss_cons (ds_if (dt_cmp (or_eqH hu) (de_var (pv 0)) (de_tup (da_cons de_str da_nil)) (nomark _)) (dss_one (ds_ret (de_tup (da_cons de_str da_nil)))) dss_nil) (dss_cons (ds_if (dw_dt (dw_or (dt_not (dt_truth (de_isi rfl T.z_isinstance rfl T.z_tuple rfl (by decide) (de_var (pv 0))))) (dw_or1 (dt_cmp (or_eqH hu) (de_callB cr_len rfl T.z_len rfl (dp_cons (de_var (pv 0)) dp_nil)) de_int (nomark _))))) (dss_one (ds_ret (de_var (pv 0)))) dss_nil) (dss_cons (ds_if (dt_cmp (or_notInH hu) (de_ixG (hu64 hu) ir_ix (de_var (pv 0)) de_int) (de_tup (da_cons de_str (da_cons de_str (da_cons de_str (da_cons de_str da_nil))))) (by with_unfolding_all rfl)) (dss_one (ds_ret (de_var (pv 0)))) dss_nil) (dss_cons (ds_setN S.nd rfl (Or.inl rfl) (de_if (dt_cmp (or_eqH hu) (de_ixG (hu64 hu) ir_ix (de_var (pv 0)) de_int) de_str (nomark _)) de_int de_int)) (dss_one (ds_ret (de_op or_add (de_slice sr_sl (de_var (pv 0)) do_none (do_some (de_var (pv 1)))) (de_callTy (cr_tuple2 rfl) rfl T.z_tuple rfl (dp_cons (de_lc (own := [("_law_part", 2)]) (di_anyW (de_slice sr_sl (de_var (pv 0)) (do_some (de_var (pv 1))) do_none)) (blkOk_by rfl) (fun _ _ _ _ _ => (dg_name (pg_name S.nd rfl (by first | exact Or.inl rfl | exact Or.inr rfl)))) (fun _ _ _ _ _ => dts_nil) (fun _ _ _ _ _ => (de_cal ih hr (by omega) gd rfl (dm_v (de_var (pv 2)) dm_nil))) (by decide) rfl S.nd) dp_nil)))))))))
abbrev N__law_good : List Str := ["_law_value", "_law_kept", "_law_shown", "_law_due"]
theorem c__law_good (T : Tops K mg) : Cal P w K mg base "_law_good" 50 ["_law_value"] [.v] F__law_good := by
  have S : FnScope N__law_good ["_law_value"] (defScope (top 39)) := ⟨rfl, rfl, rfl, by decide +kernel, rfl, by decide +kernel, by decide +kernel⟩
  refine Cal.mk_ (k := 49) T.h__law_good S rfl (fun _ _ _ _ _ _ us hl => match us, hl with | [_], _ => rfl) fun f cdv A outer s H E hr gd0 => ?_
  have hu : (A.deeper (envOfC "_law_good" (defScope (top 39)) s.heap.objs.size f cdv)).units + 100 < cLine := hu_room hr
  have gd : (A.deeper (envOfC "_law_good" (defScope (top 39)) s.heap.objs.size f cdv)).guards = some [] := gd0
  exact (dss_cons (ds_par (ms := [.v, .v]) rfl S.nd rfl rfl (by decide) rfl rfl (dm_v (de_callTy (cr_strD gd hu) rfl T.z_str rfl (dp_cons (de_var (pv 0)) dp_nil)) (dm_v (de_cal (c_is_frame T) hr (by decide) gd rfl (dm_v (de_var (pv 0)) dm_nil)) dm_nil)) (by rfl)) (dss_cons (ds_setN S.nd rfl (Or.inl rfl) (de_and (de_cmp (or_eqH hu) (de_meth PySem.F.slot_list_count PySem.F.type_list_count (mt_countW (hu65 hu)) (de_cal (c__law_parts T) hr (by decide) gd rfl (dm_v (de_var (pv 0)) dm_nil)) (da_cons (de_tup (da_cons de_str da_nil)) da_nil)) de_int (nomark _)) (de_one (de_cal (c_is_body T) hr (by decide) gd rfl (dm_v (de_cal (c__law_swapped T 45) hr (by decide) gd rfl (dm_v (de_var (pv 0)) dm_nil)) dm_nil))))) (dss_one (ds_ret (de_and (de_isi rfl T.z_isinstance rfl T.z_bool rfl (by decide) (de_var (pv 2))) (de_and (de_cmp (or_eqH hu) (de_var (pv 2)) (de_var (pv 3)) (nomark _)) (de_one (de_cmp (or_eqH hu) (de_callTy (cr_strD gd hu) rfl T.z_str rfl (dp_cons (de_var (pv 0)) dp_nil)) (de_var (pv 1)) (nomark _)))))))))
abbrev N__law_fill_good : List Str := ["_law_frame_here", "_law_body_here", "_law_due", "_law_found", "_law_large"]
theorem c__law_fill_good (T : Tops K mg) : Cal P w K mg base "_law_fill_good" 52 ["_law_frame_here", "_law_body_here"] [.v, .v] F__law_fill_good := by
  have S : FnScope N__law_fill_good ["_law_frame_here", "_law_body_here"] (defScope (top 40)) := ⟨rfl, rfl, rfl, by decide +kernel, rfl, by decide +kernel, by decide +kernel⟩
  refine Cal.mk_ (k := 51) T.h__law_fill_good S rfl (fun _ _ _ _ _ _ us hl => match us, hl with | [_, _], _ => rfl) fun f cdv A outer s H E hr gd0 => ?_
  have hu : (A.deeper (envOfC "_law_fill_good" (defScope (top 40)) s.heap.objs.size f cdv)).units + 100 < cLine := hu_room hr
  have gd : (A.deeper (envOfC "_law_fill_good" (defScope (top 40)) s.heap.objs.size f cdv)).guards = some [] := gd0
  exact (dss_cons (ds_setN S.nd rfl (Or.inl rfl) (de_cal (c__law_filled T 45) hr (by decide) gd rfl (dm_v (de_var (pv 0)) (dm_v (de_var (pv 1)) dm_nil)))) (dss_cons (ds_asg (de_tup (da_cons de_none (da_cons de_bool da_nil))) (dg_tup (dgs_cons (dg_name (pg_name S.nd rfl (by first | exact Or.inl rfl | exact Or.inr rfl))) (dgs_cons (dg_name (pg_name S.nd rfl (by first | exact Or.inl rfl | exact Or.inr rfl))) dgs_nil)) rfl)) (dss_cons (ds_try rfl rfl T.e_TooLarge rfl (fun E pn xe tk => (dxs_one (dx_set S.nd rfl (Or.inl rfl) (dxe_cal (c_filled T) hr (by decide) gd rfl tk (dm_v (de_var (pv 0)) (dm_v (de_var (pv 1)) dm_nil)))))) (fun a pn => (dss_one (ds_setN S.nd rfl (Or.inl rfl) de_bool)))) (dss_one (ds_ret (de_and (de_cmp (or_neH hu) (de_var (pv 4)) (de_cal (c_is_body T) hr (by decide) gd rfl (dm_v (de_var (pv 2)) dm_nil)) (nomark _)) (de_one (de_or (de_var (pv 4)) (de_one (de_cmp (or_eqH hu) (de_var (pv 3)) (de_var (pv 2)) (nomark _)))))))))))
abbrev N__law_bent : List Str := ["_law_own", "_law_frame_here", "_law_body_here", "_law_odd", "_law_one", "_law_some"]
theorem c__law_bent (T : Tops K mg) : Cal P w K mg base "_law_bent" 2 ["_law_own", "_law_frame_here", "_law_body_here"] [.r, .v, .v] F__law_bent := by
  have S : FnScope N__law_bent ["_law_own", "_law_frame_here", "_law_body_here"] (defScope (top 41)) := ⟨rfl, rfl, rfl, by decide +kernel, rfl, by decide +kernel, by decide +kernel⟩
  refine Cal.mk_ (k := 1) T.h__law_bent S rfl (fun _ _ _ _ _ _ us hl => match us, hl with | [_, _, _], _ => rfl) fun f cdv A outer s H E hr gd0 => ?_
  have hu : (A.deeper (envOfC "_law_bent" (defScope (top 41)) s.heap.objs.size f cdv)).units + 100 < cLine := hu_room hr
  have gd : (A.deeper (envOfC "_law_bent" (defScope (top 41)) s.heap.objs.size f cdv)).guards = some [] := gd0
  exact (dss_cons (ds_setN S.nd rfl (Or.inl rfl) (de_lst (da_cons (de_tup (da_cons de_str (da_cons de_str da_nil))) (da_cons (de_tup (da_cons de_str (da_cons (de_tup da_nil) da_nil))) (da_cons (de_lst (da_cons de_str da_nil)) (da_cons (de_tup (da_cons de_str da_nil)) (da_cons (de_tup (da_cons de_str da_nil)) (da_cons (de_tup (da_cons de_str da_nil)) (da_cons de_none (da_cons (de_var (pv 2)) da_nil)))))))))) (dss_cons (ds_setN S.nd rfl (Or.inl rfl) (de_op or_add (de_var (pv 3)) (de_lst (da_cons (de_tup (da_cons de_str (da_cons (de_tup (da_cons de_str da_nil)) (da_cons (de_tup (da_cons de_str da_nil)) da_nil)))) da_nil)))) (dss_cons (ds_setN S.nd rfl (Or.inl rfl) (de_ixG (hu64 hu) ir_ix (de_var (pv 3)) (de_cal (c__law_take T) hr (by decide) gd rfl (dm_r (de_var (pv 0)) (dm_v de_int dm_nil))))) (dss_cons (ds_setN S.nd rfl (Or.inl rfl) (de_lst (da_cons (de_var (pv 4)) (da_cons (de_tup (da_cons de_str (da_cons (de_var (pv 1)) (da_cons (de_var (pv 4)) da_nil)))) (da_cons (de_tup (da_cons de_str (da_cons (de_var (pv 4)) (da_cons (de_var (pv 1)) da_nil)))) (da_cons (de_tup (da_cons de_str (da_cons de_str (da_cons (de_var (pv 1)) da_nil)))) da_nil)))))) (dss_cons (ds_setN S.nd rfl (Or.inl rfl) (de_op or_add (de_var (pv 5)) (de_lst (da_cons (de_tup (da_cons de_str (da_cons (de_var (pv 4)) da_nil))) (da_cons (de_tup (da_cons de_str (da_cons (de_var (pv 1)) (da_cons (de_var (pv 1)) da_nil)))) da_nil))))) (dss_one (ds_ret (de_ixG (hu64 hu) ir_ix (de_op or_add (de_var (pv 5)) (de_lst (da_cons (de_callTy (cr_listD rfl) rfl T.z_list rfl (dp_cons (de_var (pv 1)) dp_nil)) (da_cons (de_tup (da_cons de_str (da_cons de_str (da_cons (de_var (pv 4)) da_nil)))) (da_cons (de_tup (da_cons de_str (da_cons (de_var (pv 1)) da_nil))) da_nil))))) (de_cal (c__law_take T) hr (by decide) gd rfl (dm_r (de_var (pv 0)) (dm_v de_int dm_nil)))))))))))
abbrev N__law_fixed_good : List Str := ["_law_hole", "_law_x", "_law_deep", "_law_k", "_law_wide", "_law_some", "_law_seven", "_law_nest", "_law_pairs", "_law_names", "_law_frame_here", "_law_body_here", "_law_value"]
theorem c__law_fixed_good (T : Tops K mg) : Cal P w K mg base "_law_fixed_good" 53 [] [] F__law_fixed_good := by
  have S : FnScope N__law_fixed_good [] (defScope (top 42)) := ⟨rfl, rfl, rfl, by decide +kernel, rfl, by decide +kernel, by decide +kernel⟩
  refine Cal.mk_ (k := 52) T.h__law_fixed_good S rfl (fun _ _ _ _ _ _ us hl => match us, hl with | [], _ => rfl) fun f cdv A outer s H E hr gd0 => ?_
  have hu : (A.deeper (envOfC "_law_fixed_good" (defScope (top 42)) s.heap.objs.size f cdv)).units + 100 < cLine := hu_room hr
  have gd : (A.deeper (envOfC "_law_fixed_good" (defScope (top 42)) s.heap.objs.size f cdv)).guards = some [] := gd0
  exact (dss_cons (ds_asg (de_tup (da_cons (de_tup (da_cons de_str da_nil)) (da_cons (de_tup (da_cons de_str (da_cons de_str da_nil))) da_nil))) (dg_tup (dgs_cons (dg_name (pg_name S.nd rfl (by first | exact Or.inl rfl | exact Or.inr rfl))) (dgs_cons (dg_name (pg_name S.nd rfl (by first | exact Or.inl rfl | exact Or.inr rfl))) dgs_nil)) rfl)) (dss_cons (ds_setN S.nd rfl (Or.inl rfl) (de_var (pv 0))) (dss_cons (ds_for (di_rangeW1 rfl T.z_range (dp_cons de_int dp_nil)) (dg_name (pg_name S.nd rfl (by first | exact Or.inl rfl | exact Or.inr rfl))) (dss_one (ds_setN S.nd rfl (Or.inl rfl) (de_tup (da_cons de_str (da_cons (de_var (pv 2)) da_nil))))) pass_nox rfl) (dss_cons (ds_setN S.nd rfl (Or.inl rfl) (de_op or_add (de_tup (da_cons de_str (da_cons (de_var (pv 0)) da_nil))) (de_op or_mul (de_tup (da_cons (de_var (pv 1)) da_nil)) de_int))) (dss_cons (ds_setN S.nd rfl (Or.inl rfl) (de_lst (da_cons (de_var (pv 0)) (da_cons (de_var (pv 2)) (da_cons (de_tup (da_cons de_str (da_cons (de_var (pv 2)) da_nil))) (da_cons (de_var (pv 4)) (da_cons (de_op or_add (de_var (pv 4)) (de_tup (da_cons (de_var (pv 1)) da_nil))) (da_cons (de_tup (da_cons de_str (da_cons (de_var (pv 0)) (da_cons (de_var (pv 0)) da_nil)))) (da_cons (de_var (pv 1)) da_nil))))))))) (dss_cons (ds_setN S.nd rfl (Or.inl rfl) (de_op or_add (de_var (pv 5)) (de_lst (da_cons (de_tup (da_cons de_str (da_cons de_str da_nil))) (da_cons (de_tup (da_cons de_str (da_cons de_str (da_cons (de_var (pv 0)) da_nil)))) da_nil))))) (dss_cons (ds_setN S.nd rfl (Or.inl rfl) (de_op or_add (de_var (pv 5)) (de_lst (da_cons de_none (da_cons de_bool (da_cons de_int (da_cons de_str (da_cons (de_tup da_nil) (da_cons (de_lst da_nil) (da_cons de_dct0 (da_cons (de_tup (da_cons de_str (da_cons (de_tup (da_cons de_str (da_cons (de_var (pv 0)) da_nil))) (da_cons (de_var (pv 1)) da_nil)))) da_nil))))))))))) (dss_cons (ds_setN S.nd rfl (Or.inl rfl) (de_op or_add (de_var (pv 5)) (de_lst (da_cons (de_tup (da_cons de_str (da_cons (de_tup (da_cons de_str (da_cons (de_var (pv 0)) da_nil))) (da_cons (de_var (pv 0)) da_nil)))) (da_cons (de_tup (da_cons de_str (da_cons (de_var (pv 0)) (da_cons (de_tup (da_cons de_str (da_cons de_str da_nil))) da_nil)))) (da_cons (de_tup (da_cons de_str (da_cons de_str da_nil))) da_nil)))))) (dss_cons (ds_setN S.nd rfl (Or.inl rfl) (de_op or_add (de_var (pv 5)) (de_lst (da_cons (de_tup (da_cons de_str (da_cons (de_var (pv 0)) (da_cons (de_tup (da_cons de_str (da_cons (de_var (pv 1)) (da_cons (de_var (pv 1)) da_nil)))) da_nil)))) (da_cons (de_tup (da_cons de_str (da_cons de_str (da_cons (de_var (pv 2)) da_nil)))) (da_cons (de_tup (da_cons de_str (da_cons (de_var (pv 2)) (da_cons (de_var (pv 1)) da_nil)))) da_nil)))))) (dss_cons (ds_setN S.nd rfl (Or.inl rfl) (de_callTy (cr_tuple2 rfl) rfl T.z_tuple rfl (dp_cons (de_lcS (own := [("_law_k", 3)]) (di_rangeW1 rfl T.z_range (dp_cons de_int dp_nil)) (blkOk_by rfl) (fun _ _ _ _ _ => (dg_name (pg_name S.nd rfl (by first | exact Or.inl rfl | exact Or.inr rfl)))) (fun _ _ _ _ _ => dts_nil) (fun _ _ _ _ _ => (de_tup (da_cons de_str (da_cons (de_op or_mul de_str (de_op or_add (de_var (pv 3)) de_int)) da_nil)))) (by decide) rfl S.nd) dp_nil))) (dss_cons (ds_setN S.nd rfl (Or.inl rfl) (de_op or_add (de_var (pv 5)) (de_lst (da_cons (de_op or_add (de_tup (da_cons de_str (da_cons (de_var (pv 0)) da_nil))) (de_var (pv 6))) (da_cons (de_op or_add (de_tup (da_cons de_str (da_cons (de_var (pv 0)) da_nil))) (de_slice sr_sl (de_var (pv 6)) (do_some de_int) do_none)) da_nil))))) (dss_cons (ds_setN S.nd rfl (Or.inl rfl) (de_var (pv 0))) (dss_cons (ds_for (di_rangeW1 rfl T.z_range (dp_cons de_int dp_nil)) (dg_name (pg_name S.nd rfl (by first | exact Or.inl rfl | exact Or.inr rfl))) (dss_one (ds_setN S.nd rfl (Or.inl rfl) (de_tup (da_cons de_str (da_cons (de_op or_mul de_str (de_op or_add (de_var (pv 3)) de_int)) (da_cons (de_var (pv 7)) da_nil)))))) pass_nox rfl) (dss_cons (ds_if (dt_not (dt_truth (de_callB (cr_allD rfl) rfl T.z_all rfl (dp_cons (de_lc (own := [("_law_value", 12)]) (di_anyW (de_op or_add (de_var (pv 5)) (de_lst (da_cons (de_var (pv 7)) (da_cons (de_ixG (hu64 hu) ir_ix (de_var (pv 7)) de_int) da_nil))))) (blkOk_by rfl) (fun _ _ _ _ _ => (dg_name (pg_name S.nd rfl (by first | exact Or.inl rfl | exact Or.inr rfl)))) (fun _ _ _ _ _ => dts_nil) (fun _ _ _ _ _ => (de_cal (c__law_good T) hr (by decide) gd rfl (dm_v (de_var (pv 12)) dm_nil))) (by decide) rfl S.nd) dp_nil)))) (dss_one (ds_ret de_bool)) dss_nil) (dss_cons (ds_setN S.nd rfl (Or.inl rfl) (de_lst (da_cons (de_tup (da_cons (de_var (pv 0)) (da_cons (de_var (pv 1)) da_nil))) (da_cons (de_tup (da_cons (de_var (pv 2)) (da_cons (de_var (pv 1)) da_nil))) (da_cons (de_tup (da_cons (de_var (pv 2)) (da_cons (de_tup (da_cons de_str (da_cons (de_var (pv 1)) da_nil))) da_nil))) (da_cons (de_tup (da_cons (de_var (pv 4)) (da_cons (de_var (pv 1)) da_nil))) (da_cons (de_tup (da_cons (de_var (pv 4)) (da_cons (de_tup (da_cons de_str (da_cons (de_var (pv 1)) da_nil))) da_nil))) da_nil))))))) (dss_cons (ds_setN S.nd rfl (Or.inl rfl) (de_op or_add (de_var (pv 8)) (de_lst (da_cons (de_tup (da_cons (de_ixG (hu64 hu) ir_ix (de_var (pv 7)) de_int) (da_cons (de_tup (da_cons de_str (da_cons de_str (da_cons (de_var (pv 1)) da_nil)))) da_nil))) da_nil)))) (dss_cons (ds_setN S.nd rfl (Or.inl rfl) (de_op or_add (de_var (pv 8)) (de_lst (da_cons (de_tup (da_cons (de_ixG (hu64 hu) ir_ix (de_var (pv 7)) de_int) (da_cons (de_tup (da_cons de_str (da_cons de_str (da_cons (de_var (pv 1)) da_nil)))) da_nil))) (da_cons (de_tup (da_cons (de_op or_add (de_tup (da_cons de_str (da_cons (de_var (pv 0)) da_nil))) (de_op or_mul (de_tup (da_cons (de_var (pv 1)) da_nil)) de_int)) (da_cons (de_op or_add (de_tup (da_cons de_str da_nil)) (de_op or_mul (de_tup (da_cons (de_var (pv 1)) da_nil)) de_int)) da_nil))) da_nil))))) (dss_cons (ds_expr (de_mut PySem.F.plainAttrs_list PySem.F.slot_list_append PySem.F.type_list_append mt_appendD (pv 8) (da_cons (de_tup (da_cons (de_op or_add (de_tup (da_cons de_str (da_cons (de_var (pv 0)) da_nil))) (de_op or_mul (de_tup (da_cons (de_var (pv 1)) da_nil)) de_int)) (da_cons (de_op or_add (de_tup (da_cons de_str da_nil)) (de_op or_mul (de_tup (da_cons (de_var (pv 1)) da_nil)) de_int)) da_nil))) da_nil))) (dss_cons (ds_setN S.nd rfl (Or.inl rfl) (de_op or_add (de_var (pv 8)) (de_lst (da_cons (de_tup (da_cons (de_tup (da_cons de_str (da_cons (de_tup (da_cons de_str (da_cons de_str da_nil))) (da_cons (de_var (pv 0)) da_nil)))) (da_cons (de_var (pv 1)) da_nil))) da_nil)))) (dss_cons (ds_setN S.nd rfl (Or.inl rfl) (de_op or_add (de_var (pv 8)) (de_lst (da_cons (de_tup (da_cons (de_tup (da_cons de_str (da_cons (de_var (pv 0)) (da_cons (de_tup (da_cons de_str (da_cons de_str da_nil))) da_nil)))) (da_cons (de_tup (da_cons de_str (da_cons de_str (da_cons (de_var (pv 1)) da_nil)))) da_nil))) da_nil)))) (dss_cons (ds_setN S.nd rfl (Or.inl rfl) (de_op or_add (de_var (pv 8)) (de_lst (da_cons (de_tup (da_cons (de_tup (da_cons de_str (da_cons de_str (da_cons (de_tup (da_cons de_str (da_cons (de_tup (da_cons de_str (da_cons de_str da_nil))) (da_cons (de_var (pv 0)) da_nil)))) da_nil)))) (da_cons (de_tup (da_cons de_str (da_cons de_str da_nil))) da_nil))) da_nil)))) (dss_cons (ds_setN S.nd rfl (Or.inl rfl) (de_op or_add (de_var (pv 8)) (de_lst (da_cons (de_tup (da_cons (de_tup (da_cons de_str (da_cons (de_var (pv 1)) (da_cons (de_var (pv 1)) (da_cons (de_var (pv 1)) (da_cons (de_var (pv 0)) (da_cons (de_var (pv 1)) da_nil))))))) (da_cons (de_var (pv 1)) da_nil))) da_nil)))) (dss_cons (ds_setLcS rfl rfl (by rfl) (own := [("_law_k", 3)]) (di_rangeW1 rfl T.z_range (dp_cons de_int dp_nil)) (blkOk_by rfl) (fun _ _ _ _ _ => (dg_name (pg_name S.nd rfl (by first | exact Or.inl rfl | exact Or.inr rfl)))) (fun _ _ _ _ _ => dts_nil) (fun _ _ _ _ _ => (de_tup (da_cons de_str (da_cons (de_op or_mul de_str (de_op or_add (de_var (pv 3)) de_int)) da_nil)))) (by decide) rfl S.nd) (dss_cons (ds_setN S.nd rfl (Or.inl rfl) (de_op or_add (de_var (pv 8)) (de_lst (da_cons (de_tup (da_cons (de_op or_add (de_tup (da_cons de_str (da_cons (de_var (pv 0)) da_nil))) (de_callTy (cr_tuple2 rfl) rfl T.z_tuple rfl (dp_cons (de_var (pv 9)) dp_nil))) (da_cons (de_tup (da_cons de_str (da_cons de_str da_nil))) da_nil))) (da_cons (de_tup (da_cons (de_op or_add (de_tup (da_cons de_str (da_cons (de_var (pv 0)) da_nil))) (de_callTy (cr_tuple2 rfl) rfl T.z_tuple rfl (dp_cons (de_var (pv 9)) dp_nil))) (da_cons (de_var (pv 1)) da_nil))) da_nil))))) (dss_one (ds_ret (de_callB (cr_allD rfl) rfl T.z_all rfl (dp_cons (de_lc (own := [("_law_frame_here", 10), ("_law_body_here", 11)]) (di_anyW (de_var (pv 8))) (blkOk_by rfl) (fun _ _ _ _ _ => (dg_tup (dgs_cons (dg_name (pg_name S.nd rfl (by first | exact Or.inl rfl | exact Or.inr rfl))) (dgs_cons (dg_name (pg_name S.nd rfl (by first | exact Or.inl rfl | exact Or.inr rfl))) dgs_nil)) rfl)) (fun _ _ _ _ _ => dts_nil) (fun _ _ _ _ _ => (de_cal (c__law_fill_good T) hr (by decide) gd rfl (dm_v (de_var (pv 10)) (dm_v (de_var (pv 11)) dm_nil)))) (by decide) rfl S.nd) dp_nil))))))))))))))))))))))))))))
abbrev N_law : List Str := ["_law_script", "_law_turn", "_law_own", "_law_words_here", "_law_frame_here", "_law_body_here", "_law_k"]
theorem c_law (T : Tops K mg) : Cal P w K mg base "law" 93 ["_law_script"] [.s] F_law := by
  have S : FnScope N_law ["_law_script"] (defScope (top 43)) := ⟨rfl, rfl, rfl, by decide +kernel, rfl, by decide +kernel, by decide +kernel⟩
  refine Cal.mk_ (k := 92) T.h_law S rfl (fun _ _ _ _ _ _ us hl => match us, hl with | [_], _ => rfl) fun f cdv A outer s H E hr gd0 => ?_
  have hu : (A.deeper (envOfC "law" (defScope (top 43)) s.heap.objs.size f cdv)).units + 100 < cLine := hu_room hr
  have gd : (A.deeper (envOfC "law" (defScope (top 43)) s.heap.objs.size f cdv)).guards = some [] := gd0
  exact (dss_cons (ds_for (di_rangeW1 rfl T.z_range (dp_cons (de_callB (cr_maxD rfl) rfl T.z_max rfl (dp_cons (de_callB (cr_minD rfl) rfl T.z_min rfl (dp_cons (de_lenScr rfl T.z_len (pv 0)) (dp_cons de_int dp_nil))) (dp_cons de_int dp_nil))) dp_nil)) (dg_name (pg_name S.nd rfl (by first | exact Or.inl rfl | exact Or.inr rfl))) (dss_cons (ds_setN S.nd rfl (Or.inr rfl) (de_lst (da_cons (de_cal (c__law_cell T) hr (by decide) gd rfl (dm_s (pv 0) (dm_v (de_var (pv 1)) dm_nil))) da_nil))) (dss_cons (ds_setN S.nd rfl (Or.inl rfl) (de_cal (c__law_words T) hr (by decide) gd rfl (dm_r (de_var (pv 2)) (dm_v de_int dm_nil)))) (dss_cons (ds_setN S.nd rfl (Or.inr rfl) (de_cal (c__law_frame T 45) hr (by decide) gd rfl (dm_r (de_var (pv 2)) (dm_v (de_var (pv 3)) (dm_v (de_lst (da_cons de_str (da_cons de_str da_nil))) (dm_v (de_cal (c__law_take T) hr (by decide) gd rfl (dm_r (de_var (pv 2)) (dm_v de_int dm_nil))) dm_nil)))))) (dss_cons (ds_setN S.nd rfl (Or.inr rfl) (de_cal (c__law_body T 45) hr (by decide) gd rfl (dm_r (de_var (pv 2)) (dm_v (de_var (pv 3)) (dm_v (de_lst (da_cons de_str (da_cons de_str da_nil))) (dm_v de_int dm_nil)))))) (dss_cons (ds_if (dw_dt (dw_or (dt_not (dt_truth (de_cal (c__law_good T) hr (by decide) gd rfl (dm_v (de_var (pv 4)) dm_nil)))) (dw_or (dt_not (dt_truth (de_cal (c__law_good T) hr (by decide) gd rfl (dm_v (de_var (pv 5)) dm_nil)))) (dw_or1 (dt_not (dt_truth (de_cal (c__law_fill_good T) hr (by decide) gd rfl (dm_v (de_var (pv 4)) (dm_v (de_var (pv 5)) dm_nil))))))))) (dss_one (ds_ret de_bool)) dss_nil) (dss_one (ds_if (dt_not (dt_truth (de_callB (cr_allD rfl) rfl T.z_all rfl (dp_cons (de_fz 5 (de_fz 4 (de_lc (own := [("_law_k", 6)]) (di_rangeW1 rfl T.z_range (dp_cons de_int dp_nil)) (blkOk_by rfl) (fun _ _ _ _ _ => (dg_name (pg_name S.nd rfl (by first | exact Or.inl rfl | exact Or.inr rfl)))) (fun _ _ _ _ _ => dts_nil) (fun _ _ _ _ _ => (de_cal (c__law_good T) hr (by decide) gd rfl (dm_v (de_cal (c__law_bent T) hr (by decide) gd rfl (dm_r (de_var (pv 2)) (dm_v (de_var (pv 4)) (dm_v (de_var (pv 5)) dm_nil)))) dm_nil))) (by decide) rfl S.nd))) dp_nil)))) (dss_one (ds_ret de_bool)) dss_nil))))))) pass_nox rfl) (dss_one (ds_ret (de_cal0 (c__law_fixed_good T) hr (by decide) gd rfl))))
end
end Pv.K62
end
section
set_option Elab.async false
set_option linter.all false
set_option autoImplicit false
set_option maxRecDepth 100000
set_option maxHeartbeats 2000000
/-! FrC: holes, what is put in, plain. -/
namespace Pv.Pg
open PySem L2 Pv Pv.Ev
def HOLE : D := .tuple [.str "hole"]
def hole (v : D) : Bool := PyData.eqv v HOLE
theorem hole_iff {v : D} : hole v = true ↔ v = HOLE := by
  unfold hole HOLE
  cases v with
  | tuple ds =>
    rcases ds with _ | ⟨d, _ | ⟨e, r⟩⟩
    · simp [PyData.eqv, PyData.eqvAll]
    · cases d <;> simp [PyData.eqv, PyData.eqvAll]
    · simp [PyData.eqv, PyData.eqvAll]
  | _ => simp [PyData.eqv]
theorem hole_sh : SeqAt.shaped HOLE = true := by decide +kernel
theorem eq_hole {v : D} (h : OkV v) : eqF v HOLE = some (.bool (hole v), false) := eqF_of h.shaped hole_sh
/-- what stands ahead of the inner ones, and these -/
def kidsD : D → Option (List D × List D)
  | .tuple (.str k :: r) => if k = "hold" then some (.str k :: r.take 1, r.drop 1) else if k = "loop" ∨ k = "seq" ∨ k = "either" then some ([.str k], r) else none
  | _ => none
theorem kids_at {v : D} {pre ks : List D} (h : kidsD v = some (pre, ks)) : v = .tuple (pre ++ ks) ∧ hole v = false := by
  unfold kidsD at h
  split at h
  · next k r =>
    split at h
    · next hk =>
      cases h
      subst hk
      refine ⟨by rw [List.cons_append, List.take_append_drop], ?_⟩
      cases hh : hole (.tuple (.str "hold" :: r)) with
      | false => rfl
      | true =>
        have := hole_iff.mp hh
        simp [HOLE] at this
    · split at h
      · next hk =>
        cases h
        refine ⟨rfl, ?_⟩
        cases hh : hole (.tuple (.str k :: ks)) with
        | false => rfl
        | true =>
          have := hole_iff.mp hh
          simp only [HOLE, PyData.tuple.injEq, List.cons.injEq, PyData.str.injEq] at this
          rw [this.1] at hk
          simp at hk
      · cases h
  · cases h
theorem kid_depth {v d : D} {pre ks : List D} (h : kidsD v = some (pre, ks)) (hd : d ∈ ks) : d.depth + 1 ≤ v.depth := by
  rw [(kids_at h).1]
  simp only [PyData.depth]
  have := (depthAll_iff (k := PyData.depthAll (pre ++ ks))).mp (Nat.le_refl _) d (List.mem_append_right _ hd)
  omega
theorem kid_ok {v d : D} {pre ks : List D} (h : kidsD v = some (pre, ks)) (hv : OkV v) (hd : d ∈ ks) : OkV d := by
  rw [(kids_at h).1] at hv
  exact hv.mem (List.mem_append_right _ hd)
def sumN (f : D → Nat) : List D → Nat
  | [] => 0
  | d :: ds => f d + sumN f ds
theorem sumN_congr {f g : D → Nat} : ∀ {ds : List D}, (∀ d ∈ ds, f d = g d) → sumN f ds = sumN g ds
  | [], _ => rfl
  | d :: ds, h => by rw [sumN, sumN, h d List.mem_cons_self, sumN_congr fun x hx => h x (List.mem_cons_of_mem _ hx)]
theorem sumN_app (f : D → Nat) : ∀ a b : List D, sumN f (a ++ b) = sumN f a + sumN f b
  | [], b => by simp [sumN]
  | d :: a, b => by rw [List.cons_append, sumN, sumN, sumN_app f a b]; omega
def h1 (v : D) : Nat := if hole v = true then 1 else 0
def cntH : Nat → D → Nat
  | 0, _ => 0
  | n + 1, v => match kidsD v with
    | some (_, ks) => h1 v + sumN (cntH n) ks
    | none => h1 v
def szN : Nat → D → Nat
  | 0, _ => 0
  | n + 1, v => match kidsD v with
    | some (_, ks) => 1 + sumN (szN n) ks
    | none => 1
def swapN : Nat → D → D
  | 0, v => v
  | n + 1, v => if hole v = true then .tuple [.str "skip"] else match kidsD v with
    | some (pre, ks) => .tuple (pre ++ ks.map (swapN n))
    | none => v
def fillN : Nat → D → D → D
  | 0, v, _ => v
  | n + 1, v, b => if hole v = true then b else match kidsD v with
    | some (pre, ks) => .tuple (pre ++ ks.map fun d => fillN n d b)
    | none => v
theorem cnt_st : ∀ (n : Nat) (v : D), v.depth < n → cntH (n + 1) v = cntH n v
  | 0, v, h => by omega
  | n + 1, v, h => by
    rw [cntH, cntH]
    cases hk : kidsD v with
    | none => rfl
    | some p =>
      obtain ⟨pre, ks⟩ := p
      simp only []
      rw [sumN_congr fun d hd => cnt_st n d (by have := kid_depth hk hd; omega)]
theorem sz_st : ∀ (n : Nat) (v : D), v.depth < n → szN (n + 1) v = szN n v
  | 0, v, h => by omega
  | n + 1, v, h => by
    rw [szN, szN]
    cases hk : kidsD v with
    | none => rfl
    | some p =>
      obtain ⟨pre, ks⟩ := p
      simp only []
      rw [sumN_congr fun d hd => sz_st n d (by have := kid_depth hk hd; omega)]
theorem swap_st : ∀ (n : Nat) (v : D), v.depth < n → swapN (n + 1) v = swapN n v
  | 0, v, h => by omega
  | n + 1, v, h => by
    rw [swapN, swapN]
    cases hk : kidsD v with
    | none => rfl
    | some p =>
      obtain ⟨pre, ks⟩ := p
      simp only []
      rw [List.map_congr_left fun d hd => swap_st n d (by have := kid_depth hk hd; omega)]
theorem fill_st (b : D) : ∀ (n : Nat) (v : D), v.depth < n → fillN (n + 1) v b = fillN n v b
  | 0, v, h => by omega
  | n + 1, v, h => by
    rw [fillN, fillN]
    cases hk : kidsD v with
    | none => rfl
    | some p =>
      obtain ⟨pre, ks⟩ := p
      simp only []
      rw [List.map_congr_left fun d hd => fill_st b n d (by have := kid_depth hk hd; omega)]
def cnt (v : D) : Nat := cntH 66 v
def sz (v : D) : Nat := szN 66 v
def swap (v : D) : D := swapN 66 v
def fill (v b : D) : D := fillN 66 v b
section
variable {v : D} (h : OkV v)
include h
theorem cnt_eq : cnt v = match kidsD v with
    | some (_, ks) => h1 v + sumN cnt ks
    | none => h1 v := by
  unfold cnt
  rw [cntH]
  cases hk : kidsD v with
  | none => rfl
  | some p =>
    obtain ⟨pre, ks⟩ := p
    simp only []
    rw [sumN_congr fun d hd => (cnt_st 65 d (by have := kid_depth hk hd; have := h.dep; omega)).symm]
    all_goals rfl
theorem sz_eq : sz v = match kidsD v with
    | some (_, ks) => 1 + sumN sz ks
    | none => 1 := by
  unfold sz
  rw [szN]
  cases hk : kidsD v with
  | none => rfl
  | some p =>
    obtain ⟨pre, ks⟩ := p
    simp only []
    rw [sumN_congr fun d hd => (sz_st 65 d (by have := kid_depth hk hd; have := h.dep; omega)).symm]
    all_goals rfl
theorem swap_eq : swap v = if hole v = true then .tuple [.str "skip"] else match kidsD v with
    | some (pre, ks) => .tuple (pre ++ ks.map swap)
    | none => v := by
  unfold swap
  rw [swapN]
  cases hk : kidsD v with
  | none => rfl
  | some p =>
    obtain ⟨pre, ks⟩ := p
    simp only []
    rw [List.map_congr_left fun d hd => (swap_st 65 d (by have := kid_depth hk hd; have := h.dep; omega)).symm]
    all_goals rfl
theorem fill_eq (b : D) : fill v b = if hole v = true then b else match kidsD v with
    | some (pre, ks) => .tuple (pre ++ ks.map fun d => fill d b)
    | none => v := by
  unfold fill
  rw [fillN]
  cases hk : kidsD v with
  | none => rfl
  | some p =>
    obtain ⟨pre, ks⟩ := p
    simp only []
    rw [List.map_congr_left fun d hd => (fill_st b 65 d (by have := kid_depth hk hd; have := h.dep; omega)).symm]
    all_goals rfl
end
theorem sum_wt {f : D → Nat} : ∀ {ks : List D}, (∀ d ∈ ks, f d ≤ d.weight + 1) → sumN f ks ≤ PyData.weightAll ks
  | [], _ => Nat.le_refl _
  | d :: ks, h => by
    have h1 := h d List.mem_cons_self
    have h2 := sum_wt fun x hx => h x (List.mem_cons_of_mem _ hx)
    rw [sumN, PyData.weightAll]
    omega
theorem wt_app : ∀ a b : List D, PyData.weightAll (a ++ b) = PyData.weightAll a + PyData.weightAll b
  | [], b => by simp [PyData.weightAll]
  | d :: a, b => by rw [List.cons_append, PyData.weightAll, PyData.weightAll, wt_app a b]; omega
theorem sz_wt : ∀ (n : Nat) (v : D), szN n v ≤ v.weight + 1
  | 0, v => Nat.zero_le _
  | n + 1, v => by
    rw [szN]
    cases hk : kidsD v with
    | none => simp only []; omega
    | some p =>
      obtain ⟨pre, ks⟩ := p
      simp only []
      have := sum_wt (ks := ks) fun d _ => sz_wt n d
      have e : v.weight = PyData.weightAll pre + PyData.weightAll ks := by
        rw [(kids_at hk).1, PyData.weight, wt_app]
      omega
/-- the parts of what is well formed -/
theorem part_kids {L : List Str} {v : D} {ms : List D} (p : Part L v ms) : (∃ pre, kidsD v = some (pre, ms)) ∨ (kidsD v = none ∧ ms = []) := by
  cases p with
  | leaf0 k hk =>
    right
    refine ⟨?_, rfl⟩
    unfold kidsD
    rcases hk with rfl | rfl | ⟨rfl, _⟩ <;> simp
  | leaf1 k nm hk hn =>
    right
    refine ⟨?_, rfl⟩
    unfold kidsD
    rcases hk with rfl | ⟨rfl, _⟩ <;> simp
  | hold nm p hn => exact .inl ⟨[.str "hold", .str nm], by simp [kidsD]⟩
  | loop p => exact .inl ⟨[.str "loop"], by simp [kidsD]⟩
  | many k r hk hr => exact .inl ⟨[.str k], by rcases hk with rfl | rfl <;> simp [kidsD]⟩
/-- the count goes over the parts -/
theorem cnt_parts {L : List Str} : ∀ (n : Nat) (v : D) (ps : List D), OkV v → partsB L n v = some ps → cnt v = sumN h1 ps
  | 0, v, ps, _, e => by cases e
  | n + 1, v, ps, ok, e => by
    simp only [partsB, Option.bind_eq_some_iff, Option.map_eq_some_iff] at e
    obtain ⟨ms, f1, qs, f2, rfl⟩ := e
    have p := part_of f1
    have all : ∀ (ms qs : List D), (∀ d ∈ ms, OkV d) → allP (partsB L n) ms = some qs → sumN cnt ms = sumN h1 qs := by
      intro ms
      induction ms with
      | nil => intro qs _ e; cases e; rfl
      | cons d ms ih =>
        intro qs hk e
        simp only [allP, Option.bind_eq_some_iff, Option.map_eq_some_iff] at e
        obtain ⟨a, e1, b, e2, rfl⟩ := e
        rw [sumN, sumN_app, cnt_parts n d a (hk d List.mem_cons_self) e1, ih b (fun x hx => hk x (List.mem_cons_of_mem _ hx)) e2]
    have hq := all ms qs (p.ok ok) f2
    rw [cnt_eq ok, sumN]
    rcases part_kids p with ⟨pre, hk⟩ | ⟨hk, rfl⟩
    · rw [hk]
      simp only []
      rw [hq]
    · rw [hk]
      cases f2
      simp [sumN]
/-! ### the swapped one -/
theorem tup_cases (v : D) : (∃ k r, v = .tuple (.str k :: r)) ∨ (kidsD v = none ∧ (∀ L, formB L v = none)) := by
  cases v with
  | tuple ds =>
    cases ds with
    | nil => exact .inr ⟨rfl, fun _ => rfl⟩
    | cons d r =>
      cases d with
      | str k => exact .inl ⟨k, r, rfl⟩
      | _ => exact .inr ⟨rfl, fun _ => rfl⟩
  | _ => exact .inr ⟨rfl, fun _ => rfl⟩
theorem kids_c (k : Str) (r : List D) : kidsD (.tuple (.str k :: r)) = if k = "hold" then some (.str k :: r.take 1, r.drop 1) else if k = "loop" ∨ k = "seq" ∨ k = "either" then some ([.str k], r) else none := rfl
theorem form_swap {v : D} (h : OkV v) : formB [] (swap v) = (formB ["hole"] v).map (·.map swap) ∧ ∀ kind : Str, kind = "hold" ∨ kind = "do" → nameOf kind (swap v) = nameOf kind v := by
  rw [swap_eq h]
  by_cases hh : hole v = true
  · rw [if_pos hh, hole_iff.mp hh]
    refine ⟨by simp [formB, HOLE], fun kind hk => ?_⟩
    simp [nameOf, HOLE]
  · rw [if_neg hh]
    have hh : v ≠ HOLE := fun e => hh (hole_iff.mpr e)
    rcases tup_cases v with ⟨k, r, rfl⟩ | ⟨hk, hf⟩
    · rw [kids_c]
      by_cases n1 : k = "hold"
      · subst n1
        rw [if_pos rfl]
        simp only []
        rcases r with _ | ⟨nm, r⟩
        · exact ⟨by simp [formB], fun kind _ => by simp [nameOf]⟩
        · refine ⟨?_, fun kind hkk => ?_⟩
          · simp only [formB, List.take_succ_cons, List.take_zero, List.drop_succ_cons, List.drop_zero, List.cons_append, List.nil_append, List.length_cons, List.length_map, List.getD_cons_zero]
            simp
            try (split <;> simp)
          · cases nm <;> simp [nameOf]
      · rw [if_neg n1]
        by_cases n2 : k = "loop" ∨ k = "seq" ∨ k = "either"
        · rw [if_pos n2]
          simp only []
          refine ⟨?_, fun kind hkk => ?_⟩
          · simp only [List.singleton_append, formB]
            rcases n2 with rfl | rfl | rfl
            · simp
              try (split <;> rfl)
            · simp
              try (split <;> rfl)
            · simp
              try (split <;> rfl)
          · have hne : k ≠ kind := by rcases n2 with rfl | rfl | rfl <;> rcases hkk with rfl | rfl <;> decide
            have g : ∀ r : List D, nameOf kind (.tuple (.str k :: r)) = none := fun r => by
              rcases r with _ | ⟨d, r⟩
              · rfl
              · cases d <;> simp [nameOf, hne]
            rw [List.singleton_append, g, g]
        · rw [if_neg n2]
          refine ⟨?_, fun _ _ => rfl⟩
          have n3 : k ≠ "loop" := fun e => n2 (.inl e)
          have n4 : ¬ (k = "seq" ∨ k = "either") := fun e => n2 (.inr e)
          unfold formB
          simp only [n1, n3, n4, false_and, if_false, List.not_mem_nil, and_false, or_false, List.mem_singleton]
          by_cases h1 : k = "skip" ∨ k = "stop"
          · have a : (k = "skip" ∨ k = "stop" ∨ k = "hole" ∧ k = "hole") := by rcases h1 with h | h; exact .inl h; exact .inr (.inl h)
            rw [if_pos h1, if_pos a]
            split <;> rfl
          · rw [if_neg h1]
            by_cases h2 : k = "hole"
            · subst h2
              have hr : r.length ≠ 0 := fun e => hh (by rw [List.eq_nil_of_length_eq_zero e]; rfl)
              simp [hr]
            · have a : ¬ (k = "skip" ∨ k = "stop" ∨ k = "hole" ∧ k = "hole") := by rintro (h | h | h); exact h1 (.inl h); exact h1 (.inr h); exact h2 h.1
              have b : ¬ (k = "call" ∧ k = "hole") := fun h => h2 h.2
              rw [if_neg a]
              simp only [b, or_false]
              split
              · split <;> rfl
              · rfl
    · rw [hk]
      exact ⟨by rw [hf, hf]; rfl, fun _ _ => rfl⟩
theorem parts_swap : ∀ (n : Nat) (v : D), OkV v → partsB [] n (swap v) = (partsB ["hole"] n v).map (·.map swap)
  | 0, v, _ => rfl
  | n + 1, v, h => by
    rw [partsB, partsB, (form_swap h).1]
    cases hf : formB ["hole"] v with
    | none => rfl
    | some ms =>
      have ok := (part_of hf).ok h
      have all : ∀ ms : List D, (∀ d ∈ ms, OkV d) → allP (partsB [] n) (ms.map swap) = (allP (partsB ["hole"] n) ms).map (·.map swap) := by
        intro ms
        induction ms with
        | nil => intro _; rfl
        | cons d ms ih =>
          intro hk
          simp only [List.map_cons, allP]
          rw [parts_swap n d (hk d List.mem_cons_self), ih fun x hx => hk x (List.mem_cons_of_mem _ hx)]
          cases partsB ["hole"] n d with
          | none => rfl
          | some a => cases allP (partsB ["hole"] n) ms <;> simp
      simp only [Option.map_some, Option.bind_some]
      rw [all ms ok]
      cases allP (partsB ["hole"] n) ms <;> simp
theorem names_swap {kind : Str} (hk : kind = "hold" ∨ kind = "do") : ∀ (ps : List D), (∀ d ∈ ps, OkV d) → namesK kind (ps.map swap) = namesK kind ps
  | [], _ => rfl
  | d :: ps, h => by
    have ih := names_swap hk ps fun x hx => h x (List.mem_cons_of_mem _ hx)
    unfold namesK at ih ⊢
    rw [List.map_cons, List.filterMap_cons, List.filterMap_cons, (form_swap (h d List.mem_cons_self)).2 kind hk, ih]
theorem parts_okv {L : List Str} : ∀ (n : Nat) (v : D) (ps : List D), OkV v → partsB L n v = some ps → ∀ d ∈ ps, OkV d
  | 0, v, ps, _, e => by cases e
  | n + 1, v, ps, h, e => by
    simp only [partsB, Option.bind_eq_some_iff, Option.map_eq_some_iff] at e
    obtain ⟨ms, f1, qs, f2, rfl⟩ := e
    intro d hd
    rcases List.mem_cons.mp hd with rfl | hd
    · exact h
    · obtain ⟨e1, e2⟩ := allP_flat f2
      rw [e1] at hd
      obtain ⟨m, hm, hd⟩ := List.mem_flatMap.mp hd
      obtain ⟨a, ha⟩ := e2 m hm
      rw [ha] at hd
      exact parts_okv n m a ((part_of f1).ok h m hm) ha d hd
theorem body_swap {v : D} (h : OkV v) : bodyB [] (swap v) = bodyB ["hole"] v := by
  unfold bodyB
  rw [parts_swap 40 v h]
  cases e : partsB ["hole"] 40 v with
  | none => rfl
  | some ps =>
    have ok := parts_okv 40 v ps h e
    simp only [Option.map_some, List.length_map, names_swap (.inl rfl) ps ok, names_swap (.inr rfl) ps ok]
def frameB (v : D) : Bool := bodyB ["hole"] v && decide (cnt v = 1)
end Pv.Pg
end
section
set_option Elab.async false
set_option linter.all false
set_option autoImplicit false
set_option maxRecDepth 100000
set_option maxHeartbeats 2000000
/-! PwX: leaves and bodies that the laws draw. -/
namespace Pv.Lw
open PySem L2 Pv Pv.Ev Pv.Pg
theorem ok_kinds : okVB (.str "skip") = true ∧ okVB (.str "stop") = true ∧ okVB (.str "do") = true ∧ okVB (.str "hold") = true ∧ okVB (.str "loop") = true ∧ okVB (.str "seq") = true ∧ okVB (.str "either") = true := by decide +kernel
theorem wt_kinds : (PyData.str "skip").weight = 4 ∧ (PyData.str "stop").weight = 4 ∧ (PyData.str "do").weight = 2 ∧ (PyData.str "hold").weight = 4 ∧ (PyData.str "loop").weight = 4 ∧ (PyData.str "seq").weight = 3 ∧ (PyData.str "either").weight = 6 := by decide +kernel
theorem leaf_D (x : Int) (names : List Str) (g : GW names) : ∃ (x' : Int) (v : D), F__law_leaf [.list [.int x], .list (names.map .str)] = some ((v, false), [.list [.int x']]) ∧ DB 1 20 v := by
  obtain ⟨o1, o2, o3, o4, o5, o6, o7⟩ := ok_kinds
  obtain ⟨w1, w2, w3, w4, w5, w6, w7⟩ := wt_kinds
  have t1 := take_D x 5 (by omega) (by omega)
  have d0 := Int.emod_nonneg x (show (5 : Int) ≠ 0 by decide)
  have d1 := Int.emod_lt_of_pos x (show (0 : Int) < 5 by decide)
  generalize x % 5 = p at *
  by_cases h : p < 2
  · rcases (by omega : p = 0 ∨ p = 1) with rfl | rfl
    · refine ⟨x / 5, .tuple [.str "skip"], ?_, ?_⟩
      · unfold F__law_leaf b__law_leaf
        simp -implicitDefEqProofs [t1, at0]
      · obtain ⟨a, b, c⟩ := okV_cons (k := "skip") (ds := []) (n := 0) (wt := 20) o1 (by simp) (by omega) (by simp [PyData.weightAll, w1]) (by omega)
        exact ⟨by simp [partsB, formB, allP], a, b, c⟩
    · refine ⟨x / 5, .tuple [.str "stop"], ?_, ?_⟩
      · unfold F__law_leaf b__law_leaf
        simp -implicitDefEqProofs [t1, at1]
      · obtain ⟨a, b, c⟩ := okV_cons (k := "stop") (ds := []) (n := 0) (wt := 20) o2 (by simp) (by omega) (by simp [PyData.weightAll, w2]) (by omega)
        exact ⟨by simp [partsB, formB, allP], a, b, c⟩
  · have hl : 0 < names.length := List.length_pos_iff.mpr g.1
    have hl2 := g.2.1
    have t2 := take_D (x / 5) names.length (by omega) (by omega)
    obtain ⟨w, hw, e⟩ := g.draw (x / 5)
    generalize x / 5 = y at *
    obtain ⟨k1, k2, k3⟩ := g.2.2 w hw
    refine ⟨y / names.length, .tuple [.str "do", .str w], ?_, ?_⟩
    · unfold F__law_leaf b__law_leaf
      simp -implicitDefEqProofs [t1, t2, h, e]
    · obtain ⟨a, b, c⟩ := okV_cons (k := "do") (ds := [.str w]) (n := 0) (wt := 20) o3 (by simp only [List.mem_singleton]; rintro d rfl; exact ⟨.ofB k1, by simp [PyData.depth]⟩) (by omega) (by simp only [PyData.weightAll]; omega) (by omega)
      exact ⟨by simp [partsB, formB, allP, nameD, k2], a, b, c⟩
def wtB : Nat → Nat
  | 0 => 20
  | n + 1 => 3 * (wtB n + 1) + 20
theorem wtB_20 : ∀ n, 20 ≤ wtB n
  | 0 => Nat.le_refl _
  | n + 1 => by simp only [wtB]; omega
abbrev el_body (self_ : Fn) : SemE := (sCall [.r, .v, .v, .v] self_ (mR (sVar 0) (mV (sVar 1) (mV (sVar 2) (mV (sOp subF (sVar 3) (sC (.int 1))) mNil)))))
theorem allP_some {f : D → Option (List D)} : ∀ {ms : List D}, (∀ d ∈ ms, (f d).isSome = true) → (allP f ms).isSome = true
  | [], _ => rfl
  | d :: ds, h => by
    obtain ⟨a, ha⟩ := Option.isSome_iff_exists.mp (h d List.mem_cons_self)
    obtain ⟨b, hb⟩ := Option.isSome_iff_exists.mp (allP_some (f := f) fun x hx => h x (List.mem_cons_of_mem _ hx))
    simp [allP, ha, hb]
theorem parts_some {n : Nat} {v : D} {ms : List D} (h : formB [] v = some ms) (hm : ∀ d ∈ ms, (partsB [] n d).isSome = true) : (partsB [] (n + 1) v).isSome = true := by
  obtain ⟨b, hb⟩ := Option.isSome_iff_exists.mp (allP_some hm)
  simp [partsB, h, hb]
theorem parts_mono {L : List Str} : ∀ (n : Nat) (v : D), (partsB L n v).isSome = true → (partsB L (n + 1) v).isSome = true
  | 0, v, h => by simp [partsB] at h
  | n + 1, v, h => by
    obtain ⟨ps, e⟩ := Option.isSome_iff_exists.mp h
    simp only [partsB, Option.bind_eq_some_iff, Option.map_eq_some_iff] at e
    obtain ⟨ms, h1, qs, h2, rfl⟩ := e
    have hm := (allP_flat h2).2
    obtain ⟨b, hb⟩ := Option.isSome_iff_exists.mp (allP_some (f := partsB L (n + 1)) fun d hd => by
      obtain ⟨a, ha⟩ := hm d hd
      exact parts_mono n d (by rw [ha]; rfl))
    rw [partsB, h1, Option.bind_some, hb]
    rfl
theorem DB.up {n wt : Nat} {v : D} (h : DB n wt v) : DB (n + 1) wt v := ⟨parts_mono n v h.parts, h.ok, h.wgt, Nat.le_succ_of_le h.dep⟩
theorem DB.ups {n wt : Nat} {v : D} (h : DB 1 20 v) : ∀ n, DB (n + 1) (wtB n) v
  | 0 => h
  | n + 1 => by
    have := (DB.ups (n := n) (wt := wt) h n).up
    have w := h.wgt
    have := wtB_20 (n + 1)
    exact ⟨by assumption |> DB.parts, h.ok, by omega, by have := h.dep; omega⟩
theorem body_loop {self_ : Fn} (W1 N1 : D) (k n wt : Nat) (c4 : Option Cell) (hs : ∀ y : Int, ∃ (y' : Int) (v : D), self_ [.list [.int y], W1, N1, .int ((k : Int) - 1)] = some ((v, false), [.list [.int y']]) ∧ DB n wt v) (x : Int) (M : Nat) (hM : M ≤ 10) :
    ∃ (x' : Int) (vs : List D), lcL (gN 6) sYes (el_body self_) [6] (rng 0 M) 0 [some (.byr (.list [.int x])), some (.val W1), some (.val N1), some (.val (.int k)), c4, none, none] = some (vs, [some (.byr (.list [.int x'])), some (.val W1), some (.val N1), some (.val (.int k)), c4, none, none]) ∧ vs.length = M ∧ ∀ v ∈ vs, DB n wt v := by
  obtain ⟨zs, ρ', L, hI⟩ := lcL_inv (g := gN 6) (t := sYes) (el := el_body self_) (vs := [6]) (fun j zs ρ => ∃ y : Int, zs.length = j ∧ (∀ v ∈ zs, DB n wt v) ∧ ρ = [some (.byr (.list [.int y])), some (.val W1), some (.val N1), some (.val (.int k)), c4, none, none])
    (rng 0 M) 0 0 [] [some (.byr (.list [.int x])), some (.val W1), some (.val N1), some (.val (.int k)), c4, none, none] ⟨x, rfl, by simp, rfl⟩ (Nat.le_trans (by simp [rng]; omega : _ ≤ 10) (by decide)) (fun j d zs ρ hd hI => by
      obtain ⟨y, hl, hz, rfl⟩ := hI
      obtain ⟨y', v, e, hv⟩ := hs y
      refine ⟨[some (.byr (.list [.int y])), some (.val W1), some (.val N1), some (.val (.int k)), c4, none, some (.val d)], .val v, [some (.byr (.list [.int y'])), some (.val W1), some (.val N1), some (.val (.int k)), c4, none, some (.val d)], v, _, by simp, by simp, ?_, rfl, y', by simp [hl], ?_, by simp⟩
      · simp -implicitDefEqProofs [e]
      · intro u hu
        rcases List.mem_append.mp hu with hu | hu
        · exact hz u hu
        · rw [List.mem_singleton.mp hu]; exact hv)
  obtain ⟨y, hl, hz, rfl⟩ := hI
  exact ⟨y, zs, L, by simpa [rng] using hl, hz⟩
theorem weightAll_DB {n wt : Nat} {ds : List D} (h : ∀ d ∈ ds, DB n wt d) : PyData.weightAll ds ≤ ds.length * (wt + 1) := weightAll_le fun d hd => (h d hd).wgt
theorem body_D (ws names : List Str) (gw : GW ws) (gn : GW names) : ∀ (k f : Nat), k < f → k ≤ 3 → ∀ x : Int, ∃ (x' : Int) (v : D), F__law_body f [.list [.int x], .list (ws.map .str), .list (names.map .str), .int k] = some ((v, false), [.list [.int x']]) ∧ DB (k + 1) (wtB k) v := by
  obtain ⟨o1, o2, o3, o4, o5, o6, o7⟩ := ok_kinds
  obtain ⟨w1, w2, w3, w4, w5, w6, w7⟩ := wt_kinds
  intro k
  induction k with
  | zero =>
    intro f hf _ x
    obtain ⟨f, rfl⟩ : ∃ g, f = g + 1 := ⟨f - 1, by omega⟩
    have t1 := take_D x 8 (by omega) (by omega)
    obtain ⟨x', v, e, h⟩ := leaf_D (x / 8) names gn
    refine ⟨x', v, ?_, h⟩
    show fnOf 7 [.r, .v, .v, .v] (b__law_body (F__law_body f)) _ = _
    generalize ws.map PyData.str = WS at *
    generalize names.map PyData.str = NS at *
    unfold b__law_body
    simp -implicitDefEqProofs [t1, e]
  | succ k ih =>
    intro f hf hk x
    obtain ⟨f, rfl⟩ : ∃ g, f = g + 1 := ⟨f - 1, by omega⟩
    have t1 := take_D x 8 (by omega) (by omega)
    have d0 := Int.emod_nonneg x (show (8 : Int) ≠ 0 by decide)
    have d1 := Int.emod_lt_of_pos x (show (0 : Int) < 8 by decide)
    generalize hp : x % 8 = p at *
    generalize x / 8 = y at *
    have hs : ∀ y : Int, ∃ (y' : Int) (v : D), F__law_body f [.list [.int y], .list (ws.map .str), .list (names.map .str), .int (((k + 1 : Nat) : Int) - 1)] = some ((v, false), [.list [.int y']]) ∧ DB (k + 1) (wtB k) v := fun y => by
      have := ih f (by omega) (by omega) y
      rw [show ((k + 1 : Nat) : Int) - 1 = (k : Int) by omega]
      exact this
    have hk0 : ¬ (((k + 1 : Nat) : Int) = 0) := by omega
    show ∃ (x' : Int) (v : D), fnOf 7 [.r, .v, .v, .v] (b__law_body (F__law_body f)) _ = _ ∧ _
    have wk : 20 ≤ wtB k := wtB_20 k
    have wk3 : wtB (k + 1) ≤ 900 := by
      rcases (by omega : k = 0 ∨ k = 1 ∨ k = 2) with rfl | rfl | rfl <;> decide
    have wks : wtB (k + 1) = 3 * (wtB k + 1) + 20 := rfl
    by_cases h0 : p = 0
    · subst h0
      obtain ⟨x', v, e, h⟩ := leaf_D y names gn
      refine ⟨x', v, ?_, h.ups (n := 0) (wt := 0) (k + 1)⟩
      generalize ws.map PyData.str = WS at *
      generalize names.map PyData.str = NS at *
      generalize ((k + 1 : Nat) : Int) = K at *
      unfold b__law_body
      simp -implicitDefEqProofs [t1, e, hk0]
    · by_cases h1 : p < 4
      · have hl : 0 < ws.length := List.length_pos_iff.mpr gw.1
        have hl2 := gw.2.1
        have t2 := take_D y ws.length (by omega) (by omega)
        obtain ⟨w, hw, e⟩ := gw.draw y
        obtain ⟨k1, k2, k3⟩ := gw.2.2 w hw
        obtain ⟨x', v, e2, h⟩ := hs (y / ws.length)
        have hlen : (ws.map PyData.str).length = ws.length := List.length_map _
        generalize y / (ws.length : Int) = y2 at *
        refine ⟨x', .tuple [.str "hold", .str w, v], ?_, ?_⟩
        · generalize ws.map PyData.str = WS at *
          generalize names.map PyData.str = NS at *
          generalize ((k + 1 : Nat) : Int) = K at *
          unfold b__law_body
          simp -implicitDefEqProofs [t1, t2, e, e2, hk0, h0, h1, hlen]
        · obtain ⟨a, b, c⟩ := okV_cons (k := "hold") (ds := [.str w, v]) (n := k + 1) (wt := wtB (k + 1)) o4 (by
            intro d hd
            simp only [List.mem_cons, List.not_mem_nil, or_false] at hd
            rcases hd with rfl | rfl
            · exact ⟨.ofB k1, by simp [PyData.depth]⟩
            · exact ⟨h.ok, h.dep⟩) (by omega) (by have := h.wgt; simp only [PyData.weightAll]; omega) (by omega)
          exact ⟨parts_some (ms := [v]) (by simp [formB, nameD, k2]) (by simp [h.parts]), a, b, c⟩
      · by_cases h2 : p = 4
        · subst h2
          obtain ⟨x', v, e2, h⟩ := hs y
          refine ⟨x', .tuple [.str "loop", v], ?_, ?_⟩
          · generalize ws.map PyData.str = WS at *
            generalize names.map PyData.str = NS at *
            generalize ((k + 1 : Nat) : Int) = K at *
            unfold b__law_body
            simp -implicitDefEqProofs [t1, e2, hk0]
          · obtain ⟨a, b, c⟩ := okV_cons (k := "loop") (ds := [v]) (n := k + 1) (wt := wtB (k + 1)) o5 (by
              intro d hd
              rw [List.mem_singleton.mp hd]
              exact ⟨h.ok, h.dep⟩) (by omega) (by have := h.wgt; simp only [PyData.weightAll]; omega) (by omega)
            exact ⟨parts_some (ms := [v]) (by simp [formB]) (by simp [h.parts]), a, b, c⟩
        · have t3 := take_D y 2 (by omega) (by omega)
          have b0 := Int.emod_nonneg y (show (2 : Int) ≠ 0 by decide)
          have b1 := Int.emod_lt_of_pos y (show (0 : Int) < 2 by decide)
          generalize y % 2 = b at *
          generalize y / 2 = y2 at *
          obtain ⟨M, eM, hM⟩ : ∃ M : Nat, 2 + b = (M : Int) ∧ (2 ≤ M ∧ M ≤ 3) := ⟨(2 + b).toNat, by omega, by omega⟩
          have sM : small62 (M : Int) = true := small_of M (by omega)
          obtain ⟨x', vs, L, l1, l2⟩ := body_loop (.list (ws.map .str)) (.list (names.map .str)) (k + 1) (k + 1) (wtB k) (some (.val (.int p))) hs y2 M (by omega)
          obtain ⟨kd, ekd, hkd⟩ : ∃ kd : Str, atI [PyData.str "seq", PyData.str "either"] (p % 2) = some (.str kd) ∧ (kd = "seq" ∨ kd = "either") := by
            rcases (by omega : p % 2 = 0 ∨ p % 2 = 1) with e | e
            · exact ⟨"seq", by rw [e]; rfl, .inl rfl⟩
            · exact ⟨"either", by rw [e]; rfl, .inr rfl⟩
          have zl : 1 + vs.length ≤ sizeLine := Nat.le_trans (by omega : _ ≤ 4) (by decide)
          refine ⟨x', .tuple (.str kd :: vs), ?_, ?_⟩
          · generalize ws.map PyData.str = WS at *
            generalize names.map PyData.str = NS at *
            generalize ((k + 1 : Nat) : Int) = K at *
            unfold b__law_body
            simp -implicitDefEqProofs [t1, t3, hk0, h0, h1, h2, eM, sM, L, ekd, zl]
          · have wv := weightAll_DB l2
            rw [l1] at wv
            have wv2 : M * (wtB k + 1) ≤ 3 * (wtB k + 1) := Nat.mul_le_mul_right _ hM.2
            have okk : okVB (.str kd) = true := by
              rcases hkd with rfl | rfl
              · exact o6
              · exact o7
            have wkk : (PyData.str kd).weight ≤ 6 := by rcases hkd with rfl | rfl <;> omega
            obtain ⟨a, b, c⟩ := okV_cons (k := kd) (ds := vs) (n := k + 1) (wt := wtB (k + 1)) okk (fun d hd => ⟨(l2 d hd).ok, (l2 d hd).dep⟩) (by omega) (by simp only [PyData.weightAll]; omega) (by omega)
            have hv : 2 ≤ vs.length := by omega
            have fm : formB [] (.tuple (.str kd :: vs)) = some vs := by
              rcases hkd with rfl | rfl <;> simp [formB, hv]
            exact ⟨parts_some fm (fun d hd => (l2 d hd).parts), a, b, c⟩
end Pv.Lw
end
section
set_option Elab.async false
set_option linter.all false
set_option autoImplicit false
set_option maxRecDepth 100000
set_option maxHeartbeats 1000000
/-! PyA: comprehensions by simp alone: what one pass does is worked out by the discharger. -/
namespace Pv.Ev
open PySem L2 Pv
section
variable (g : SemG) (t : SemT) (el kf : SemE) (vs : List Nat)
/-- taken or not -/
def ob (b : Bool) (d : D) : Option D := if b = true then some d else none
@[scoped simp] theorem ob_u {β : Type} (p : Prop) [Decidable p] (d : D) (ρ : β) : (if p then some (some d, ρ) else some (none, ρ)) = some (ob (decide p) d, ρ) := by
  unfold ob
  by_cases h : p <;> simp [h]
@[scoped simp] theorem ob_u' {β : Type} (p : Prop) [Decidable p] (d : D) (ρ : β) : (if p then some (none, ρ) else some (some d, ρ)) = some (ob (!decide p) d, ρ) := by
  unfold ob
  by_cases h : p <;> simp [h]
/-- one pass -/
def lcP (d : D) (ρ : Ro) : Option (Option D × Ro) := bd (g d ρ) fun ρ1 => bd (t ρ1) fun x => if x.1 = true then bd (el x.2) fun y => bd (frz y.2 y.1) fun z => some (some z.1, wipeR z.2 vs) else some (none, wipeR x.2 vs)
@[scoped simp] theorem lcP_u (d : D) (ρ : Ro) : lcP g t el vs d ρ = bd (g d ρ) fun ρ1 => bd (t ρ1) fun x => if x.1 = true then bd (el x.2) fun y => bd (frz y.2 y.1) fun z => some (some z.1, wipeR z.2 vs) else some (none, wipeR x.2 vs) := rfl
/-- one pass without a test -/
def lcQ (d : D) (ρ : Ro) : Option (D × Ro) := bd (g d ρ) fun ρ1 => bd (el ρ1) fun y => bd (frz y.2 y.1) fun z => some (z.1, wipeR z.2 vs)
@[scoped simp] theorem lcQ_u (d : D) (ρ : Ro) : lcQ g el vs d ρ = bd (g d ρ) fun ρ1 => bd (el ρ1) fun y => bd (frz y.2 y.1) fun z => some (z.1, wipeR z.2 vs) := rfl
end
section
variable {g : SemG} {t : SemT} {el kf : SemE} {vs : List Nat} {ρ : Ro} {α : Type}
theorem bd_eq {α β : Type} {a : Option α} {f : α → Option β} {b : β} : bd a f = some b ↔ ∃ x, a = some x ∧ f x = some b := by
  unfold bd Bd; exact Option.bind_eq_some_iff
theorem lc_q {k : α → D} {h : α → D} : ∀ {xs : List α} {n : Nat}, (∀ x ∈ xs, lcQ g el vs (k x) ρ = some (h x, ρ)) → n + xs.length ≤ sizeLine → lcL g sYes el vs (xs.map k) n ρ = some (xs.map h, ρ)
  | [], _, _, _ => rfl
  | x :: xs, n, H, hz => by
    have e := H x List.mem_cons_self
    rw [lcQ_u, bd_eq] at e
    obtain ⟨ρ1, e1, e⟩ := e
    rw [bd_eq] at e
    obtain ⟨⟨r, ρ2⟩, e2, e⟩ := e
    rw [bd_eq] at e
    obtain ⟨⟨z, ρ3⟩, e3, e⟩ := e
    simp only [Option.some.injEq, Prod.mk.injEq] at e
    obtain ⟨rfl, e4⟩ := e
    simp only [List.length_cons] at hz
    have lt : n < sizeLine := by omega
    have ih := lc_q (fun y hy => H y (List.mem_cons_of_mem _ hy)) (n := n + 1) (by omega)
    simp only at e2 e3 e4
    simp only [List.map_cons, lcL, e1, Option.bind_some, sYes, e2, e3, e4, lt, if_true, ih]
theorem lc_p {k : α → D} {o : α → Option D} : ∀ {xs : List α} {n : Nat}, (∀ x ∈ xs, lcP g t el vs (k x) ρ = some (o x, ρ)) → n + xs.length ≤ sizeLine → lcL g t el vs (xs.map k) n ρ = some (xs.filterMap o, ρ)
  | [], _, _, _ => rfl
  | x :: xs, n, H, hz => by
    have e := H x List.mem_cons_self
    rw [lcP_u, bd_eq] at e
    obtain ⟨ρ1, e1, e⟩ := e
    rw [bd_eq] at e
    obtain ⟨⟨b, ρ2⟩, e2, e⟩ := e
    simp only [List.length_cons] at hz
    have lt : n < sizeLine := by omega
    have ih := fun m => lc_p (fun y hy => H y (List.mem_cons_of_mem _ hy)) (n := m)
    simp only at e
    cases b with
    | true =>
      rw [if_pos rfl, bd_eq] at e
      obtain ⟨⟨r, ρ3⟩, e3, e⟩ := e
      rw [bd_eq] at e
      obtain ⟨⟨z, ρ4⟩, e4, e⟩ := e
      simp only [Option.some.injEq, Prod.mk.injEq] at e
      obtain ⟨ez, e5⟩ := e
      simp only at e3 e4 e5
      simp only [List.map_cons, lcL, e1, Option.bind_some, e2, e3, e4, e5, lt, if_true, ih (n + 1) (by omega), List.filterMap_cons, ← ez]
    | false =>
      rw [if_neg Bool.false_ne_true] at e
      simp only [Option.some.injEq, Prod.mk.injEq] at e
      obtain ⟨ez, e5⟩ := e
      simp only [List.map_cons, lcL, e1, Option.bind_some, e2, e5, Bool.false_eq_true, if_false, ih n (by omega), List.filterMap_cons, ← ez]
@[scoped simp] theorem fm_ob (p : α → Bool) (h : α → D) : ∀ xs : List α, xs.filterMap (fun x => ob (p x) (h x)) = (xs.filter p).map h
  | [] => rfl
  | x :: xs => by
    rw [List.filterMap_cons, List.filter_cons, fm_ob p h xs]
    cases e : p x <;> simp [ob]
/-- of any list -/
theorem lc_q1 {h : D → D} {xs : List D} {n : Nat} (H : ∀ x ∈ xs, lcQ g el vs x ρ = some (h x, ρ)) (hz : n + xs.length ≤ sizeLine) : lcL g sYes el vs xs n ρ = some (xs.map h, ρ) := by
  have := lc_q (k := id) H hz
  rwa [List.map_id] at this
end
/-! sizes: facts `x ≤ 1000` are enough -/
@[scoped simp] theorem sz1 (n : Nat) (h : n ≤ 1000) : (n ≤ sizeLine) = True := eq_true (Nat.le_trans h (by decide))
@[scoped simp] theorem sz2 (n : Nat) (h : n ≤ 1000) : (n < sizeLine) = True := eq_true (Nat.lt_of_le_of_lt h (by decide))
@[scoped simp] theorem sz3 (n m : Nat) (h : n ≤ 1000) (k : m ≤ 1000) : (n + m ≤ sizeLine) = True := eq_true (Nat.le_trans (Nat.add_le_add h k) (by decide))
@[scoped simp] theorem sz4 (n m : Nat) (h : n ≤ 1000) (k : m ≤ 1000) : (n + m < sizeLine) = True := eq_true (Nat.lt_of_le_of_lt (Nat.add_le_add h k) (by decide))
/-! a choice of like ends is one end -/
section
variable {β : Type} (p : Prop) [Decidable p] (b c : Bool) (ρ : β)
@[scoped simp] theorem mg_v : (if p then some (Rv.val (.bool b), ρ) else some (Rv.val (.bool c), ρ)) = some (Rv.val (.bool (if p then b else c)), ρ) := by by_cases h : p <;> simp [h]
@[scoped simp] theorem mg_t : (if p then some (b, ρ) else some (c, ρ)) = some (if p then b else c, ρ) := by by_cases h : p <;> simp [h]
end
end Pv.Ev
end
section
set_option Elab.async false
set_option linter.all false
set_option autoImplicit false
set_option maxRecDepth 100000
set_option maxHeartbeats 2000000
/-! FrD: is_frame, put_in, filled. -/
namespace Pv.Pg
open PySem L2 PySem.W Pv Pv.Ev
theorem part_cnt {L : List Str} {v : D} {ms : List D} (p : Part L v ms) (h : OkV v) (hh : hole v = false) : cnt v = sumN cnt ms := by
  rw [cnt_eq h]
  rcases part_kids p with ⟨pre, hk⟩ | ⟨hk, rfl⟩
  · rw [hk]; simp [h1, hh]
  · rw [hk]; simp [h1, hh, sumN]
theorem cnt_hole {v : D} (h : OkV v) (hh : hole v = true) : cnt v = 1 := by
  rw [cnt_eq h, hole_iff.mp hh]
  rfl
theorem cnt_wt {v : D} (h : OkV v) : cnt v ≤ 4001 := by
  have : ∀ (n : Nat) (v : D), cntH n v ≤ szN n v := by
    intro n
    induction n with
    | zero => intro v; exact Nat.le_refl _
    | succ n ih =>
      intro v
      rw [cntH, szN]
      have b : ∀ v, h1 v ≤ 1 := fun v => by unfold h1; split <;> omega
      cases hk : kidsD v with
      | none => exact b v
      | some p =>
        obtain ⟨pre, ks⟩ := p
        simp only []
        have hs : ∀ ks : List D, sumN (cntH n) ks ≤ sumN (szN n) ks := by
          intro ks
          induction ks with
          | nil => exact Nat.le_refl _
          | cons d ks ih2 => rw [sumN, sumN]; have := ih d; omega
        have := hs ks
        have := b v
        omega
  have a := this 66 v
  have c := sz_wt 66 v
  have := h.wt
  unfold cnt
  omega
theorem sum_ints (f : D → Nat) : ∀ ms : List D, sumF [.list (ms.map fun d => .int (f d : Nat))] = some (.int (sumN f ms : Nat), false) := by
  have h : ∀ ms : List D, asInts (ms.map fun d => .int (f d : Nat)) = some (ms.map fun d => ((f d : Nat) : Int)) := by
    intro ms
    induction ms with
    | nil => rfl
    | cons d ms ih => simp only [List.map_cons, asInts, ih, Option.map_some, Option.bind_some]
  have hs : ∀ ms : List D, (ms.map fun d => ((f d : Nat) : Int)).sum = ((sumN f ms : Nat) : Int) := by
    intro ms
    induction ms with
    | nil => rfl
    | cons d ms ih => rw [List.map_cons, List.sum_cons, ih, sumN]; omega
  intro ms
  simp only [sumF, h, Option.bind_some, hs]
theorem holes_in_D {L : List Str} : ∀ (n f : Nat), n < f → ∀ (v : D) (ps : List D), OkV v → partsB L n v = some ps → F_holes_in f [v] = some ((.int (cnt v : Nat), false), [])
  | 0, _, _, _, _, _, e => by cases e
  | n + 1, f, hf, v, ps, h, e => by
    obtain ⟨f, rfl⟩ : ∃ g, f = g + 1 := ⟨f - 1, by omega⟩
    show fnOf 2 [.v] (b_holes_in (F_holes_in f)) _ = _
    obtain ⟨ms, _, p, hm⟩ := parts_ok e
    have mb := members_D p h
    have eq := eq_hole h
    unfold HOLE at eq
    unfold b_holes_in
    cases hh : hole v with
    | true =>
      rw [hh] at eq
      rw [cnt_hole h hh]
      simp -implicitDefEqProofs [eq]
    | false =>
      rw [hh] at eq
      have L1 := lc_q1 (g := gN 1) (el := sCall [.v] (F_holes_in f) (mV (sVar 1) mNil)) (vs := [1]) (ρ := [some (.val v), none]) (h := fun d => .int (cnt d : Nat)) (xs := ms) (n := 0) (fun d hd => by
        obtain ⟨a, ha⟩ := hm d hd
        have := holes_in_D n f (by omega) d a (p.ok h d hd) ha
        simp -implicitDefEqProofs [this]) (by rw [Nat.zero_add]; exact Nat.le_trans (p.len h) (by decide))
      have s := sum_ints cnt ms
      rw [part_cnt p h hh]
      simp -implicitDefEqProofs [eq, mb, ↓L1, s]
theorem is_frame_D (v : D) (h : OkV v) : F_is_frame [v] = some ((.bool (frameB v), false), []) := by
  have ff := is_formed_D ["hole"] (fun x hx => by rw [List.mem_singleton.mp hx]; decide +kernel) v h
  have el : leavesD ["hole"] = .tuple [.str "hole"] := rfl
  rw [el] at ff
  have z1 : (1 : Nat) ≤ sizeLine := by decide
  unfold frameB
  unfold F_is_frame b_is_frame
  cases hb : bodyB ["hole"] v with
  | false =>
    rw [hb] at ff
    simp -implicitDefEqProofs [ff, z1]
  | true =>
    rw [hb] at ff
    obtain ⟨ps, hp, _⟩ := body_parts hb
    have hi := holes_in_D 40 45 (by omega) v ps h hp
    have sm := small_of (cnt v) (by have := cnt_wt h; omega)
    have q : ((cnt v : Int) = 1) = (cnt v = 1) := by
      apply propext; constructor <;> intro h <;> omega
    have q2 : ((cnt v : Int) == 1) = decide (cnt v = 1) := by
      rw [Bool.eq_iff_iff, beq_iff_eq, decide_eq_true_eq]
      omega
    simp -implicitDefEqProofs [ff, z1, hi, sm, q, q2]
theorem put_loop {self_ : Fn} (c0 : Option Cell) (b : D) (ms : List D) (g : D → D) (hs : ∀ d ∈ ms, self_ [d, b] = some ((g d, false), [])) (hz : ms.length ≤ 100000) :
    lcL (gN 2) sYes (sCall [.v, .v] self_ (mV (sVar 2) (mV (sVar 1) mNil))) [2] ms 0 [c0, some (.val b), none] = some (ms.map g, [c0, some (.val b), none]) :=
  lc_q1 (fun d hd => by
    have := hs d hd
    simp -implicitDefEqProofs [this]) (by rw [Nat.zero_add]; exact Nat.le_trans hz (by decide))
theorem put_in_D {L : List Str} (b : D) : ∀ (n f : Nat), n < f → ∀ (v : D) (ps : List D), OkV v → partsB L n v = some ps → F_put_in f [v, b] = some ((fill v b, false), [])
  | 0, _, _, _, _, _, e => by cases e
  | n + 1, f, hf, v, ps, h, e => by
    obtain ⟨f, rfl⟩ : ∃ g, f = g + 1 := ⟨f - 1, by omega⟩
    show fnOf 3 [.v, .v] (b_put_in (F_put_in f)) _ = _
    obtain ⟨ms, _, p, hm⟩ := parts_ok e
    have mb := members_D p h
    have eq := eq_hole h
    unfold HOLE at eq
    unfold b_put_in
    cases hh : hole v with
    | true =>
      rw [hh] at eq
      have ef : fill v b = b := by rw [fill_eq h, if_pos hh]
      rw [ef]
      simp -implicitDefEqProofs [eq]
    | false =>
      rw [hh] at eq
      have L1 := put_loop (self_ := F_put_in f) (some (.val v)) b ms (fun d => fill d b) (fun d hd => by
        obtain ⟨a, ha⟩ := hm d hd
        exact put_in_D b n f (by omega) d a (p.ok h d hd) ha) (Nat.le_trans (p.len h) (by decide))
      obtain ⟨ds, rfl, _⟩ := p.sub
      have wd := with_members_D ds (ms.map fun d => fill d b) (by rw [List.length_map]; exact p.few) (Nat.le_trans h.len (by decide))
      have ew : wm ds (ms.map fun d => fill d b) = fill (.tuple ds) b := by
        unfold wm
        rw [fill_eq h, hh]
        rcases part_kids p with ⟨pre, hk⟩ | ⟨hk, rfl⟩
        · rw [hk]
          have := (kids_at hk).1
          simp only [PyData.tuple.injEq] at this
          subst this
          simp
        · rw [hk]
          simp
      rw [← ew]
      generalize wm ds (ms.map fun d => fill d b) = WM at *
      generalize (ms.map fun d => fill d b) = FS at *
      simp -implicitDefEqProofs [eq, mb, ↓L1, wd]
theorem filled_D (v b : D) (h : OkV v) (hf : frameB v = true) (hb : OkV b) (bb : bodyB [] b = true) (hfb : OkV (fill v b)) :
    F_filled [v, b] = some (if bodyB [] (fill v b) = true then .ok ((fill v b, false), []) else .er "TooLarge") := by
  have fr := is_frame_D v h
  rw [hf] at fr
  have ck := check_body_D b hb bb
  unfold frameB at hf
  rw [Bool.and_eq_true] at hf
  obtain ⟨ps, hp, _⟩ := body_parts hf.1
  have pi := put_in_D b 40 45 (by omega) v ps h hp
  have ib := is_body_D (fill v b) hfb
  generalize fill v b = W at *
  unfold F_filled fnX b_filled
  cases hW : bodyB [] W with
  | true =>
    rw [hW] at ib
    simp -implicitDefEqProofs [fr, ck, pi, ib, cells, endX]
  | false =>
    rw [hW] at ib
    simp -implicitDefEqProofs [fr, ck, pi, ib, cells, endX]
end Pv.Pg
end
section
set_option Elab.async false
set_option linter.all false
set_option autoImplicit false
set_option maxRecDepth 100000
set_option maxHeartbeats 2000000
/-! K62n: the law's look at a value. -/
namespace Pv.K62
open PySem L2 PySem.W Pv Pv.Pg Pv.Lw Pv.Ev
def inner (d : D) : List D := match kidsD d with
  | some (_, ks) => ks
  | none => []
/-- fit, and not too deep -/
def OkE (d : D) : Prop := OkV d ∧ d.depth ≤ 60
theorem inner_ok {v d : D} (h : OkV v) (hd : d ∈ inner v) : OkV d := by
  unfold inner at hd
  cases hk : kidsD v with
  | none => rw [hk] at hd; cases hd
  | some p => obtain ⟨pre, ks⟩ := p; rw [hk] at hd; exact kid_ok hk h hd
theorem cnt_in {v : D} (h : OkV v) : cnt v = h1 v + sumN cnt (inner v) := by
  rw [cnt_eq h]
  unfold inner
  cases kidsD v with
  | none => simp [sumN]
  | some p => rfl
theorem sz_in {v : D} (h : OkV v) : sz v = 1 + sumN sz (inner v) := by
  rw [sz_eq h]
  unfold inner
  cases kidsD v with
  | none => simp [sumN]
  | some p => rfl
theorem sz_pos {v : D} (h : OkV v) : 1 ≤ sz v := by rw [sz_in h]; omega
theorem len_sz : ∀ {R : List D}, (∀ d ∈ R, OkV d) → R.length ≤ sumN sz R
  | [], _ => Nat.zero_le _
  | d :: R, h => by
    have := len_sz (R := R) fun x hx => h x (List.mem_cons_of_mem _ hx)
    have := sz_pos (h d List.mem_cons_self)
    rw [List.length_cons, sumN]
    omega
/-- what the law asks of the first one -/
theorem in4 {d0 : D} (h : OkV d0) : inB d0 (.tuple [.str "hold", .str "loop", .str "seq", .str "either"]) = some (match d0 with | .str k => decide (k ∈ (["hold", "loop", "seq", "either"] : List Str)) | _ => false) := by
  rw [inB_t _ h.shaped (by decide +kernel)]
  congr 1
  cases d0 with
  | str k =>
    rw [Bool.eq_iff_iff]
    simp only [List.any_cons, List.any_nil, PyData.eqv, Bool.or_false, Bool.or_eq_true, beq_iff_eq, decide_eq_true_eq, List.mem_cons, List.not_mem_nil, or_false]
    exact ⟨fun h => h.imp Eq.symm fun h => h.imp Eq.symm fun h => h.imp Eq.symm Eq.symm, fun h => h.imp Eq.symm fun h => h.imp Eq.symm fun h => h.imp Eq.symm Eq.symm⟩
  | _ => simp [PyData.eqv]
def frP (v : D) (R fs : List D) (c3 : Option D) : Ro := [some (.val v), some (.own (.list fs)), some (.own (.list R.reverse)), c3.map .val]
theorem cut_1 (ds : List D) : cutD ds (some 1) none = ds.drop 1 := cutD_drop ds 1
theorem cut_2 (ds : List D) : cutD ds (some 2) none = ds.drop 2 := cutD_drop ds 2
theorem turn_D (v d : D) (R fs : List D) (c3 : Option D) (h : OkV d) (zf : fs.length ≤ 100000) (zR : R.length ≤ 100000) : L1__law_parts (frP v (d :: R) fs c3) = some (.nx (frP v ((inner d).reverse ++ R) (fs ++ [d]) (some d))) := by
  have pp : popM (.list (R.reverse ++ [d])) [] = some (.list R.reverse, d) := by simp [popM]
  have zf' : fs.length < sizeLine := Nat.lt_of_le_of_lt zf (by decide)
  unfold frP
  rw [List.reverse_cons, List.reverse_append, List.reverse_reverse]
  have zR' : R.reverse.length ≤ 100000 := by rw [List.length_reverse]; exact zR
  generalize R.reverse = RR at *
  unfold L1__law_parts
  by_cases hs : ∃ k r, d = .tuple (.str k :: r)
  · obtain ⟨k, r, rfl⟩ := hs
    have hr : r.length ≤ 4000 := by have := h.len; simp only [List.length_cons] at this; omega
    have ok := kind_ok h
    have i := in4 (h.mem (d := .str k) List.mem_cons_self)
    have it : isiD "tuple" (.tuple (.str k :: r)) = true := rfl
    have z : RR.length + r.length ≤ sizeLine := Nat.le_trans (show _ ≤ 104000 by omega) (by decide)
    have z2 : RR.length + (r.drop 1).length ≤ sizeLine := Nat.le_trans (by rw [List.length_drop]; omega : _ ≤ 104000) (by decide)
    have c1 := cut_1 (.str k :: r)
    have c2 := cut_2 (.str k :: r)
    simp only [List.drop_succ_cons, List.drop_zero] at c1 c2
    have a0 : atI (PyData.str k :: r) 0 = some (.str k) := at0
    have ek := eqF_str k "hold"
    by_cases n1 : k = "hold"
    · have ei : inner (.tuple (.str k :: r)) = r.drop 1 := by unfold inner; rw [kids_c, if_pos n1]
      rw [ei]
      have e2 : (k == "hold") = true := by rw [n1]; simp
      have i2 : decide (k ∈ (["hold", "loop", "seq", "either"] : List Str)) = true := by rw [n1]; simp
      simp only [i2] at i
      rw [e2] at ek
      generalize r.drop 1 = r1 at *
      simp -implicitDefEqProofs [pp, zf', it, a0, i, ek, c1, c2, z, z2]
    · have e2 : (k == "hold") = false := by simpa using n1
      rw [e2] at ek
      by_cases n2 : k = "loop" ∨ k = "seq" ∨ k = "either"
      · have ei : inner (.tuple (.str k :: r)) = r := by unfold inner; rw [kids_c, if_neg n1, if_pos n2]
        rw [ei]
        have i2 : decide (k ∈ (["hold", "loop", "seq", "either"] : List Str)) = true := by rcases n2 with rfl | rfl | rfl <;> simp
        simp only [i2] at i
        simp -implicitDefEqProofs [pp, zf', it, a0, i, ek, c1, c2, z, z2]
      · have ei : inner (.tuple (.str k :: r)) = [] := by unfold inner; rw [kids_c, if_neg n1, if_neg n2]
        rw [ei]
        have i2 : decide (k ∈ (["hold", "loop", "seq", "either"] : List Str)) = false := by
          simp only [decide_eq_false_iff_not, List.mem_cons, List.not_mem_nil, or_false]
          rintro (e | e)
          · exact n1 e
          · exact n2 e
        simp only [i2] at i
        simp -implicitDefEqProofs [pp, zf', it, a0, i]
  · have hk : kidsD d = none := (tup_cases d).elim (fun h => absurd h hs) fun h => h.1
    have ei : inner d = [] := by unfold inner; rw [hk]
    rw [ei]
    cases d with
    | tuple ds =>
      have it : isiD "tuple" (.tuple ds) = true := rfl
      cases ds with
      | nil => simp -implicitDefEqProofs [pp, zf', it]
      | cons d0 r =>
        have i := in4 (h.mem (d := d0) List.mem_cons_self)
        have a0 : atI (d0 :: r) 0 = some d0 := at0
        cases d0 with
        | str k => exact absurd ⟨k, r, rfl⟩ hs
        | _ => simp -implicitDefEqProofs [pp, zf', it, i, a0]
    | _ => simp -implicitDefEqProofs [pp, zf', isiD, tyName]
abbrev cond_parts : SemT := (sTest (sOp neW (sVar 2) (sLst sNil)))
theorem inner_E {v d : D} (h : OkE v) (hd : d ∈ inner v) : OkE d := by
  refine ⟨inner_ok h.1 hd, ?_⟩
  unfold inner at hd
  cases hk : kidsD v with
  | none => rw [hk] at hd; cases hd
  | some p =>
    obtain ⟨pre, ks⟩ := p
    rw [hk] at hd
    have := kid_depth hk hd
    have := h.2
    omega
theorem cond_D (v : D) (R fs : List D) (c3 : Option D) (h : ∀ d ∈ R, OkE d) : cond_parts (frP v R fs c3) = some (!R.isEmpty, frP v R fs c3) := by
  have e : neW (.list R.reverse) (.list []) = some (.bool (!R.isEmpty), false) := by
    cases R with
    | nil => rfl
    | cons d R =>
      cases hr : (d :: R).reverse with
      | nil => simp at hr
      | cons a b => rfl
  have z0 : (0 : Nat) ≤ sizeLine := by decide
  unfold frP
  generalize R.reverse = RR at *
  simp -implicitDefEqProofs [e, z0]
theorem parts_loop (v : D) : ∀ (F : Nat) (R fs : List D) (c3 : Option D), (∀ d ∈ R, OkE d) → fs.length + sumN sz R ≤ 5000 → sumN sz R < F →
    ∃ (qs : List D) (c3' : Option D), sWhile cond_parts L1__law_parts F (frP v R fs c3) = some (.nx (frP v [] (fs ++ qs) c3')) ∧ qs.length = sumN sz R ∧ (∀ d ∈ qs, OkE d) ∧ qs.countP hole = sumN cnt R
  | 0, R, fs, _, _, _, h => by omega
  | F + 1, [], fs, c3, h, _, _ => by
    have c := cond_D v [] fs c3 h
    refine ⟨[], c3, ?_, rfl, by simp, rfl⟩
    rw [List.append_nil]
    simp only [sWhile, c, Option.bind_some, List.isEmpty_nil, Bool.not_true, Bool.false_eq_true, if_false]
  | F + 1, d :: R, fs, c3, h, hz, hF => by
    have c := cond_D v (d :: R) fs c3 h
    have hd := h d List.mem_cons_self
    have hR : ∀ x ∈ R, OkE x := fun x hx => h x (List.mem_cons_of_mem _ hx)
    rw [sumN] at hz hF
    have l1 := len_sz fun x hx => (hR x hx).1
    have t := turn_D v d R fs c3 hd.1 (by omega) (by omega)
    have sd := sz_in hd.1
    have rev : ∀ (f : D → Nat) (ks : List D), sumN f ks.reverse = sumN f ks := by
      intro f ks
      induction ks with
      | nil => rfl
      | cons a ks ih => rw [List.reverse_cons, sumN_app, ih, sumN, sumN, sumN]; omega
    have e1 : sumN sz ((inner d).reverse ++ R) = sumN sz (inner d) + sumN sz R := by rw [sumN_app, rev]
    have e2 : sumN cnt ((inner d).reverse ++ R) = sumN cnt (inner d) + sumN cnt R := by rw [sumN_app, rev]
    obtain ⟨qs, c3', q1, q2, q3, q4⟩ := parts_loop v F ((inner d).reverse ++ R) (fs ++ [d]) (some d) (fun x hx => by
      rcases List.mem_append.mp hx with hx | hx
      · exact inner_E hd (List.mem_reverse.mp hx)
      · exact hR x hx) (by rw [List.length_append, List.length_singleton, e1]; omega) (by rw [e1]; omega)
    refine ⟨d :: qs, c3', ?_, by rw [List.length_cons, q2, e1, sumN]; omega, fun x hx => ?_, ?_⟩
    · have ea : fs ++ d :: qs = fs ++ [d] ++ qs := by simp
      rw [ea, ← q1]
      conv => lhs; rw [sWhile]
      simp only [c, Option.bind_some, List.isEmpty_cons, Bool.not_false, if_true, t]
    · rcases List.mem_cons.mp hx with rfl | hx
      · exact hd
      · exact q3 x hx
    · rw [List.countP_cons, q4, e2, sumN, cnt_in hd.1]
      unfold h1
      split <;> omega
theorem law_parts_D (v : D) (h : OkV v) (h60 : v.depth ≤ 60) : ∃ qs : List D, F__law_parts [v] = some ((.list qs, true), []) ∧ (∀ d ∈ qs, OkE d) ∧ qs.countP hole = cnt v := by
  have zs : sz v ≤ 4001 := by
    have := sz_wt 66 v
    have := h.wt
    unfold sz
    omega
  have es : sumN sz [v] = sz v := by simp [sumN]
  have ec : sumN cnt [v] = cnt v := by simp [sumN]
  obtain ⟨qs, c3, L, _, q3, q4⟩ := parts_loop v 1000000 [v] [] none (fun d hd => by rw [List.mem_singleton.mp hd]; exact ⟨h, h60⟩) (by rw [es]; simp; omega) (by rw [es]; omega)
  rw [ec] at q4
  refine ⟨qs, ?_, q3, q4⟩
  have e0 : frP v [v] [] none = [some (.val v), some (.own (.list [])), some (.own (.list [v])), none] := rfl
  have e1 : frP v [] ([] ++ qs) c3 = [some (.val v), some (.own (.list qs)), some (.own (.list [])), c3.map .val] := rfl
  rw [e0, e1] at L
  have z0 : (0 : Nat) ≤ sizeLine := by decide
  have z1 : (1 : Nat) ≤ sizeLine := by decide
  unfold F__law_parts b__law_parts
  simp -implicitDefEqProofs [↓L, z0, z1]
theorem swap_loop {self_ : Fn} (c0 c1 : Option Cell) (ks : List D) (hs : ∀ d ∈ ks, self_ [d] = some ((swap d, false), [])) (hz : ks.length ≤ 100000) :
    lcL (gN 2) sYes (sCall [.v] self_ (mV (sVar 2) mNil)) [2] ks 0 [c0, c1, none] = some (ks.map swap, [c0, c1, none]) :=
  lc_q1 (fun d hd => by
    have := hs d hd
    simp -implicitDefEqProofs [this]) (by rw [Nat.zero_add]; exact Nat.le_trans hz (by decide))
theorem swapped_D : ∀ (f : Nat) (v : D), v.depth < f → OkV v → F__law_swapped f [v] = some ((swap v, false), [])
  | 0, v, hf, _ => by omega
  | f + 1, d, hf, h => by
    show fnOf 3 [.v] (b__law_swapped (F__law_swapped f)) _ = _
    have eq := eq_hole h
    unfold HOLE at eq
    have z1 : (1 : Nat) ≤ sizeLine := by decide
    unfold b__law_swapped
    cases hh : hole d with
    | true =>
      rw [hh] at eq
      have e : swap d = .tuple [.str "skip"] := by rw [swap_eq h, if_pos hh]
      rw [e]
      simp -implicitDefEqProofs [eq, z1]
    | false =>
      rw [hh] at eq
      by_cases hs : ∃ k r, d = .tuple (.str k :: r)
      · obtain ⟨k, r, rfl⟩ := hs
        have hr : r.length ≤ 4000 := by have := h.len; simp only [List.length_cons] at this; omega
        have i := in4 (h.mem (d := .str k) List.mem_cons_self)
        have it : isiD "tuple" (.tuple (.str k :: r)) = true := rfl
        have c1 := cut_1 (.str k :: r)
        have c2 := cut_2 (.str k :: r)
        have t1 : cutD (.str k :: r) none (some 1) = [.str k] := by
          have := cutD_take (.str k :: r) 1
          simpa using this
        have t2 : cutD (.str k :: r) none (some 2) = .str k :: r.take 1 := by
          have := cutD_take (.str k :: r) 2
          simpa using this
        simp only [List.drop_succ_cons, List.drop_zero] at c1 c2
        have a0 : atI (PyData.str k :: r) 0 = some (.str k) := at0
        have l0 : ((r.length : Int) + 1 = 0) = False := by
          apply propext; constructor
          · intro h; omega
          · intro h; exact h.elim
        have ek := eqF_str k "hold"
        have kd : ∀ pre ks, kidsD (.tuple (.str k :: r)) = some (pre, ks) → ks.length ≤ 4000 → lcL (gN 2) sYes (sCall [.v] (F__law_swapped f) (mV (sVar 2) mNil)) [2] ks 0 = lcL (gN 2) sYes (sCall [.v] (F__law_swapped f) (mV (sVar 2) mNil)) [2] ks 0 := fun _ _ _ _ => rfl
        have hks : ∀ pre ks, kidsD (.tuple (.str k :: r)) = some (pre, ks) → ∀ c0 c1 : Option Cell, ks.length ≤ 100000 → lcL (gN 2) sYes (sCall [.v] (F__law_swapped f) (mV (sVar 2) mNil)) [2] ks 0 [c0, c1, none] = some (ks.map swap, [c0, c1, none]) := fun pre ks hk c0 c1 hz =>
          swap_loop c0 c1 ks (fun d hd => swapped_D f d (by have := kid_depth hk hd; omega) (kid_ok hk h hd)) hz
        by_cases n1 : k = "hold"
        · have ekd : kidsD (.tuple (.str k :: r)) = some (.str k :: r.take 1, r.drop 1) := by rw [kids_c, if_pos n1]
          have es : swap (.tuple (.str k :: r)) = .tuple (.str k :: (r.take 1 ++ (r.drop 1).map swap)) := by
            rw [swap_eq h, hh, ekd]
            simp
          rw [es]
          have L := fun c0 c1 => hks _ _ ekd c0 c1 (by rw [List.length_drop]; omega)
          have e2 : (k == "hold") = true := by rw [n1]; simp
          have i2 : decide (k ∈ (["hold", "loop", "seq", "either"] : List Str)) = true := by rw [n1]; simp
          simp only [i2] at i
          rw [e2] at ek
          have z : (r.take 1).length + 1 + ((r.drop 1).map swap).length ≤ sizeLine := Nat.le_trans (by rw [List.length_take, List.length_map, List.length_drop]; omega : _ ≤ 5000) (by decide)
          generalize (r.drop 1).map swap = SK at *
          generalize r.drop 1 = r1 at *
          generalize r.take 1 = r0 at *
          simp -implicitDefEqProofs [eq, it, l0, a0, i, ek, c2, t2, ↓L, z]
        · have e2 : (k == "hold") = false := by simpa using n1
          rw [e2] at ek
          by_cases n2 : k = "loop" ∨ k = "seq" ∨ k = "either"
          · have ekd : kidsD (.tuple (.str k :: r)) = some ([.str k], r) := by rw [kids_c, if_neg n1, if_pos n2]
            have es : swap (.tuple (.str k :: r)) = .tuple (.str k :: r.map swap) := by
              rw [swap_eq h, hh, ekd]
              simp
            rw [es]
            have L := fun c0 c1 => hks _ _ ekd c0 c1 (by omega)
            have i2 : decide (k ∈ (["hold", "loop", "seq", "either"] : List Str)) = true := by rcases n2 with rfl | rfl | rfl <;> simp
            simp only [i2] at i
            have z : 1 + (r.map swap).length ≤ sizeLine := Nat.le_trans (by rw [List.length_map]; omega : _ ≤ 5000) (by decide)
            generalize r.map swap = SK at *
            simp -implicitDefEqProofs [eq, it, l0, a0, i, ek, c1, t1, ↓L, z]
          · have es : swap (.tuple (.str k :: r)) = .tuple (.str k :: r) := by
              rw [swap_eq h, hh, kids_c, if_neg n1, if_neg n2]
              simp
            rw [es]
            have i2 : decide (k ∈ (["hold", "loop", "seq", "either"] : List Str)) = false := by
              simp only [decide_eq_false_iff_not, List.mem_cons, List.not_mem_nil, or_false]
              rintro (e | e)
              · exact n1 e
              · exact n2 e
            simp only [i2] at i
            simp -implicitDefEqProofs [eq, it, l0, a0, i]
      · have hk : kidsD d = none := (tup_cases d).elim (fun h => absurd h hs) fun h => h.1
        have es : swap d = d := by
          rw [swap_eq h, hh, hk]
          simp
        rw [es]
        cases d with
        | tuple ds =>
          have it : isiD "tuple" (.tuple ds) = true := rfl
          cases ds with
          | nil => simp -implicitDefEqProofs [eq, it]
          | cons d0 r =>
            have i := in4 (h.mem (d := d0) List.mem_cons_self)
            have a0 : atI (d0 :: r) 0 = some d0 := at0
            have l0 : ((r.length : Int) + 1 = 0) = False := by
              apply propext; constructor
              · intro h; omega
              · intro h; exact h.elim
            cases d0 with
            | str k => exact absurd ⟨k, r, rfl⟩ hs
            | _ => simp -implicitDefEqProofs [eq, it, l0, i, a0]
        | _ => simp -implicitDefEqProofs [eq, isiD, tyName]
theorem good_D (v : D) (h : OkV v) (hd : v.depth ≤ 44) (hsw : OkV (swap v)) : F__law_good [v] = some ((.bool true, false), []) := by
  have st : strF [v] = some (.str (strVal v), false) := by simp only [strF, if_pos h.shown]
  have fr := is_frame_D v h
  obtain ⟨qs, lp, q3, q4⟩ := law_parts_D v h (by omega)
  have sw := swapped_D 45 v (by omega) h
  have ib := is_body_D (swap v) hsw
  rw [body_swap h] at ib
  have sh : SeqAt.shaped (.list qs) = true := shaped_lst fun d hd => ⟨(q3 d hd).1.lay, Nat.le_trans (q3 d hd).2 (by decide)⟩
  have shH : SeqAt.shaped (.tuple [.str "hole"]) = true := hole_sh
  have cq : (qs.countP fun z => PyData.eqv z (.tuple [.str "hole"])) = cnt v := q4
  have cw := cnt_wt h
  have sm : small62 (cnt v : Int) = true := small_of (cnt v) (by omega)
  have q2 : ((cnt v : Int) == 1) = decide (cnt v = 1) := by
    rw [Bool.eq_iff_iff, beq_iff_eq, decide_eq_true_eq]
    omega
  have q5 : ((cnt v : Int) = 1) = (cnt v = 1) := by
    apply propext; constructor <;> intro h <;> omega
  have z1 : (1 : Nat) ≤ sizeLine := by decide
  have ibl : ∀ b : Bool, isiD "bool" (.bool b) = true := fun _ => rfl
  unfold frameB at fr
  generalize strVal v = S at *
  generalize swap v = SV at *
  unfold F__law_good b__law_good
  cases hb : bodyB ["hole"] v <;> by_cases hc : cnt v = 1 <;> simp only [hb, hc, decide_true, decide_false, Bool.and_true, Bool.true_and, Bool.false_and, Bool.and_false] at fr ib <;> simp -implicitDefEqProofs [st, fr, lp, sw, ib, sh, shH, cq, sm, q2, q5, hc, z1, ibl]
end Pv.K62
end
section
set_option Elab.async false
set_option linter.all false
set_option autoImplicit false
set_option maxRecDepth 100000
set_option maxHeartbeats 2000000
/-! PwQ: drawn bodies, with their names and how many parts. -/
namespace Pv.Lw
open PySem L2 Pv Pv.Ev Pv.Pg
/-- formed well, with few parts and these names alone -/
def PQ (L : List Str) (ws names : List Str) (n c : Nat) (v : D) : Prop := ∃ ps, partsB L n v = some ps ∧ ps.length ≤ c ∧ (∀ x ∈ namesK "hold" ps, x ∈ ws) ∧ ∀ x ∈ namesK "do" ps, x ∈ names
theorem parts_up {L : List Str} : ∀ (n : Nat) (v : D) (ps : List D), partsB L n v = some ps → partsB L (n + 1) v = some ps
  | 0, v, ps, h => by cases h
  | n + 1, v, ps, e => by
    simp only [partsB, Option.bind_eq_some_iff, Option.map_eq_some_iff] at e
    obtain ⟨ms, h1, qs, h2, rfl⟩ := e
    have all : ∀ (ms qs : List D), allP (partsB L n) ms = some qs → allP (partsB L (n + 1)) ms = some qs := by
      intro ms
      induction ms with
      | nil => intro qs h; exact h
      | cons d ms ih =>
        intro qs h
        simp only [allP, Option.bind_eq_some_iff, Option.map_eq_some_iff] at h ⊢
        obtain ⟨a, e1, b, e2, rfl⟩ := h
        exact ⟨a, parts_up n d a e1, b, ih b e2, rfl⟩
    rw [partsB, h1, Option.bind_some, all ms qs h2]
    rfl
theorem PQ.up {L ws names : List Str} {n c c' : Nat} {v : D} (h : PQ L ws names n c v) (hc : c ≤ c') : PQ L ws names (n + 1) c' v := by
  obtain ⟨ps, e, a, b⟩ := h
  exact ⟨ps, parts_up n v ps e, Nat.le_trans a hc, b⟩
theorem PQ.node {L ws names : List Str} {n c c' : Nat} {v : D} {ms : List D} (hf : formB L v = some ms) (hm : ∀ d ∈ ms, PQ L ws names n c d) (hc : ms.length * c + 1 ≤ c') (h1 : ∀ x, nameOf "hold" v = some x → x ∈ ws) (h2 : ∀ x, nameOf "do" v = some x → x ∈ names) : PQ L ws names (n + 1) c' v := by
  have all : ∀ ms : List D, (∀ d ∈ ms, PQ L ws names n c d) → ∃ qs, allP (partsB L n) ms = some qs ∧ qs.length ≤ ms.length * c ∧ (∀ x ∈ namesK "hold" qs, x ∈ ws) ∧ ∀ x ∈ namesK "do" qs, x ∈ names := by
    intro ms
    induction ms with
    | nil => intro _; exact ⟨[], rfl, by simp, by simp [namesK], by simp [namesK]⟩
    | cons d ms ih =>
      intro h
      obtain ⟨a, e1, l1, a1, a2⟩ := h d List.mem_cons_self
      obtain ⟨b, e2, l2, b1, b2⟩ := ih fun x hx => h x (List.mem_cons_of_mem _ hx)
      refine ⟨a ++ b, by simp [allP, e1, e2], ?_, fun x hx => ?_, fun x hx => ?_⟩
      · rw [List.length_append, List.length_cons, Nat.succ_mul]; omega
      · unfold namesK at hx
        rw [List.filterMap_append] at hx
        rcases List.mem_append.mp hx with hx | hx
        · exact a1 x hx
        · exact b1 x hx
      · unfold namesK at hx
        rw [List.filterMap_append] at hx
        rcases List.mem_append.mp hx with hx | hx
        · exact a2 x hx
        · exact b2 x hx
  obtain ⟨qs, e, l, a, b⟩ := all ms hm
  refine ⟨v :: qs, by simp [partsB, hf, e], by rw [List.length_cons]; omega, fun x hx => ?_, fun x hx => ?_⟩
  · unfold namesK at hx a
    rw [List.mem_filterMap] at hx
    obtain ⟨d, hd, hx⟩ := hx
    rcases List.mem_cons.mp hd with rfl | hd
    · exact h1 x hx
    · exact a x (List.mem_filterMap.mpr ⟨d, hd, hx⟩)
  · unfold namesK at hx b
    rw [List.mem_filterMap] at hx
    obtain ⟨d, hd, hx⟩ := hx
    rcases List.mem_cons.mp hd with rfl | hd
    · exact h2 x hx
    · exact b x (List.mem_filterMap.mpr ⟨d, hd, hx⟩)
structure QB (L ws names : List Str) (n c wt : Nat) (v : D) : Prop where
  parts : PQ L ws names n c v
  ok : OkV v
  wgt : v.weight ≤ wt
  dep : v.depth ≤ n
def cB : Nat → Nat
  | 0 => 1
  | n + 1 => 3 * cB n + 1
theorem cB_1 : ∀ n, 1 ≤ cB n
  | 0 => Nat.le_refl _
  | n + 1 => by simp only [cB]; omega
theorem QB.ups {L ws names : List Str} {v : D} (h : QB L ws names 1 1 20 v) : ∀ n, QB L ws names (n + 1) (cB n) (wtB n) v
  | 0 => h
  | n + 1 => by
    have k := QB.ups h n
    have w := h.wgt
    have := wtB_20 (n + 1)
    exact ⟨k.parts.up (by simp only [cB]; omega), h.ok, by omega, by have := h.dep; omega⟩
theorem leaf_Q (L ws : List Str) (x : Int) (names : List Str) (g : GW names) : ∃ (x' : Int) (v : D), F__law_leaf [.list [.int x], .list (names.map .str)] = some ((v, false), [.list [.int x']]) ∧ QB L ws names 1 1 20 v := by
  obtain ⟨o1, o2, o3, o4, o5, o6, o7⟩ := ok_kinds
  obtain ⟨w1, w2, w3, w4, w5, w6, w7⟩ := wt_kinds
  have t1 := take_D x 5 (by omega) (by omega)
  have d0 := Int.emod_nonneg x (show (5 : Int) ≠ 0 by decide)
  have d1 := Int.emod_lt_of_pos x (show (0 : Int) < 5 by decide)
  generalize x % 5 = p at *
  by_cases h : p < 2
  · rcases (by omega : p = 0 ∨ p = 1) with rfl | rfl
    · refine ⟨x / 5, .tuple [.str "skip"], ?_, ?_⟩
      · unfold F__law_leaf b__law_leaf
        simp -implicitDefEqProofs [t1, at0]
      · obtain ⟨a, b, c⟩ := okV_cons (k := "skip") (ds := []) (n := 0) (wt := 20) o1 (by simp) (by omega) (by simp [PyData.weightAll, w1]) (by omega)
        exact ⟨PQ.node (c := 0) (ms := []) (by simp [formB]) (by simp) (by simp) (by simp [nameOf]) (by simp [nameOf]), a, b, c⟩
    · refine ⟨x / 5, .tuple [.str "stop"], ?_, ?_⟩
      · unfold F__law_leaf b__law_leaf
        simp -implicitDefEqProofs [t1, at1]
      · obtain ⟨a, b, c⟩ := okV_cons (k := "stop") (ds := []) (n := 0) (wt := 20) o2 (by simp) (by omega) (by simp [PyData.weightAll, w2]) (by omega)
        exact ⟨PQ.node (c := 0) (ms := []) (by simp [formB]) (by simp) (by simp) (by simp [nameOf]) (by simp [nameOf]), a, b, c⟩
  · have hl : 0 < names.length := List.length_pos_iff.mpr g.1
    have hl2 := g.2.1
    have t2 := take_D (x / 5) names.length (by omega) (by omega)
    obtain ⟨w, hw, e⟩ := g.draw (x / 5)
    generalize x / 5 = y at *
    obtain ⟨k1, k2, k3⟩ := g.2.2 w hw
    refine ⟨y / names.length, .tuple [.str "do", .str w], ?_, ?_⟩
    · unfold F__law_leaf b__law_leaf
      simp -implicitDefEqProofs [t1, t2, h, e]
    · obtain ⟨a, b, c⟩ := okV_cons (k := "do") (ds := [.str w]) (n := 0) (wt := 20) o3 (by simp only [List.mem_singleton]; rintro d rfl; exact ⟨.ofB k1, by simp [PyData.depth]⟩) (by omega) (by simp only [PyData.weightAll]; omega) (by omega)
      exact ⟨PQ.node (c := 0) (ms := []) (by simp [formB, nameD, k2]) (by simp) (by simp) (by simp [nameOf]) (by simpa [nameOf] using hw), a, b, c⟩
theorem body_loopQ {L ws names : List Str} {c : Nat} {self_ : Fn} (W1 N1 : D) (k n wt : Nat) (c4 : Option Cell) (hs : ∀ y : Int, ∃ (y' : Int) (v : D), self_ [.list [.int y], W1, N1, .int ((k : Int) - 1)] = some ((v, false), [.list [.int y']]) ∧ QB L ws names n c wt v) (x : Int) (M : Nat) (hM : M ≤ 10) :
    ∃ (x' : Int) (vs : List D), lcL (gN 6) sYes (el_body self_) [6] (rng 0 M) 0 [some (.byr (.list [.int x])), some (.val W1), some (.val N1), some (.val (.int k)), c4, none, none] = some (vs, [some (.byr (.list [.int x'])), some (.val W1), some (.val N1), some (.val (.int k)), c4, none, none]) ∧ vs.length = M ∧ ∀ v ∈ vs, QB L ws names n c wt v := by
  obtain ⟨zs, ρ', L, hI⟩ := lcL_inv (g := gN 6) (t := sYes) (el := el_body self_) (vs := [6]) (fun j zs ρ => ∃ y : Int, zs.length = j ∧ (∀ v ∈ zs, QB L ws names n c wt v) ∧ ρ = [some (.byr (.list [.int y])), some (.val W1), some (.val N1), some (.val (.int k)), c4, none, none])
    (rng 0 M) 0 0 [] [some (.byr (.list [.int x])), some (.val W1), some (.val N1), some (.val (.int k)), c4, none, none] ⟨x, rfl, by simp, rfl⟩ (Nat.le_trans (by simp [rng]; omega : _ ≤ 10) (by decide)) (fun j d zs ρ hd hI => by
      obtain ⟨y, hl, hz, rfl⟩ := hI
      obtain ⟨y', v, e, hv⟩ := hs y
      refine ⟨[some (.byr (.list [.int y])), some (.val W1), some (.val N1), some (.val (.int k)), c4, none, some (.val d)], .val v, [some (.byr (.list [.int y'])), some (.val W1), some (.val N1), some (.val (.int k)), c4, none, some (.val d)], v, _, by simp, by simp, ?_, rfl, y', by simp [hl], ?_, by simp⟩
      · simp -implicitDefEqProofs [e]
      · intro u hu
        rcases List.mem_append.mp hu with hu | hu
        · exact hz u hu
        · rw [List.mem_singleton.mp hu]; exact hv)
  obtain ⟨y, hl, hz, rfl⟩ := hI
  exact ⟨y, zs, L, by simpa [rng] using hl, hz⟩
theorem nm3 {k kind : Str} {S : List Str} (h : k ≠ kind) (r : List D) : ∀ x, nameOf kind (.tuple (.str k :: r)) = some x → x ∈ S := fun x hx => by
  rcases r with _ | ⟨d, r⟩
  · cases hx
  · cases d <;> simp [nameOf, h] at hx
theorem nm2 {k kind : Str} {S : List Str} (h : k ≠ kind) (v : D) : ∀ x, nameOf kind (.tuple [.str k, v]) = some x → x ∈ S := nm3 h [v]
theorem weightAll_QB {L ws names : List Str} {n c wt : Nat} {ds : List D} (h : ∀ d ∈ ds, QB L ws names n c wt d) : PyData.weightAll ds ≤ ds.length * (wt + 1) := weightAll_le fun d hd => (h d hd).wgt
theorem body_Q (L ws names : List Str) (gw : GW ws) (gn : GW names) : ∀ (k f : Nat), k < f → k ≤ 3 → ∀ x : Int, ∃ (x' : Int) (v : D), F__law_body f [.list [.int x], .list (ws.map .str), .list (names.map .str), .int k] = some ((v, false), [.list [.int x']]) ∧ QB L ws names (k + 1) (cB k) (wtB k) v := by
  obtain ⟨o1, o2, o3, o4, o5, o6, o7⟩ := ok_kinds
  obtain ⟨w1, w2, w3, w4, w5, w6, w7⟩ := wt_kinds
  intro k
  induction k with
  | zero =>
    intro f hf _ x
    obtain ⟨f, rfl⟩ : ∃ g, f = g + 1 := ⟨f - 1, by omega⟩
    have t1 := take_D x 8 (by omega) (by omega)
    obtain ⟨x', v, e, h⟩ := leaf_Q L ws (x / 8) names gn
    refine ⟨x', v, ?_, h⟩
    show fnOf 7 [.r, .v, .v, .v] (b__law_body (F__law_body f)) _ = _
    generalize ws.map PyData.str = WS at *
    generalize names.map PyData.str = NS at *
    unfold b__law_body
    simp -implicitDefEqProofs [t1, e]
  | succ k ih =>
    intro f hf hk x
    obtain ⟨f, rfl⟩ : ∃ g, f = g + 1 := ⟨f - 1, by omega⟩
    have t1 := take_D x 8 (by omega) (by omega)
    have d0 := Int.emod_nonneg x (show (8 : Int) ≠ 0 by decide)
    have d1 := Int.emod_lt_of_pos x (show (0 : Int) < 8 by decide)
    generalize hp : x % 8 = p at *
    generalize x / 8 = y at *
    have hs : ∀ y : Int, ∃ (y' : Int) (v : D), F__law_body f [.list [.int y], .list (ws.map .str), .list (names.map .str), .int (((k + 1 : Nat) : Int) - 1)] = some ((v, false), [.list [.int y']]) ∧ QB L ws names (k + 1) (cB k) (wtB k) v := fun y => by
      have := ih f (by omega) (by omega) y
      rw [show ((k + 1 : Nat) : Int) - 1 = (k : Int) by omega]
      exact this
    have hk0 : ¬ (((k + 1 : Nat) : Int) = 0) := by omega
    show ∃ (x' : Int) (v : D), fnOf 7 [.r, .v, .v, .v] (b__law_body (F__law_body f)) _ = _ ∧ _
    have wk : 20 ≤ wtB k := wtB_20 k
    have wk3 : wtB (k + 1) ≤ 900 := by
      rcases (by omega : k = 0 ∨ k = 1 ∨ k = 2) with rfl | rfl | rfl <;> decide
    have wks : wtB (k + 1) = 3 * (wtB k + 1) + 20 := rfl
    by_cases h0 : p = 0
    · subst h0
      obtain ⟨x', v, e, h⟩ := leaf_Q L ws y names gn
      refine ⟨x', v, ?_, h.ups (k + 1)⟩
      generalize ws.map PyData.str = WS at *
      generalize names.map PyData.str = NS at *
      generalize ((k + 1 : Nat) : Int) = K at *
      unfold b__law_body
      simp -implicitDefEqProofs [t1, e, hk0]
    · by_cases h1 : p < 4
      · have hl : 0 < ws.length := List.length_pos_iff.mpr gw.1
        have hl2 := gw.2.1
        have t2 := take_D y ws.length (by omega) (by omega)
        obtain ⟨w, hw, e⟩ := gw.draw y
        obtain ⟨k1, k2, k3⟩ := gw.2.2 w hw
        obtain ⟨x', v, e2, h⟩ := hs (y / ws.length)
        have hlen : (ws.map PyData.str).length = ws.length := List.length_map _
        generalize y / (ws.length : Int) = y2 at *
        refine ⟨x', .tuple [.str "hold", .str w, v], ?_, ?_⟩
        · generalize ws.map PyData.str = WS at *
          generalize names.map PyData.str = NS at *
          generalize ((k + 1 : Nat) : Int) = K at *
          unfold b__law_body
          simp -implicitDefEqProofs [t1, t2, e, e2, hk0, h0, h1, hlen]
        · obtain ⟨a, b, c⟩ := okV_cons (k := "hold") (ds := [.str w, v]) (n := k + 1) (wt := wtB (k + 1)) o4 (by
            intro d hd
            simp only [List.mem_cons, List.not_mem_nil, or_false] at hd
            rcases hd with rfl | rfl
            · exact ⟨.ofB k1, by simp [PyData.depth]⟩
            · exact ⟨h.ok, h.dep⟩) (by omega) (by have := h.wgt; simp only [PyData.weightAll]; omega) (by omega)
          exact ⟨PQ.node (c := cB k) (ms := [v]) (by simp [formB, nameD, k2]) (by simpa using h.parts) (by simp [cB]; omega) (by simpa [nameOf] using hw) (by simp [nameOf]), a, b, c⟩
      · by_cases h2 : p = 4
        · subst h2
          obtain ⟨x', v, e2, h⟩ := hs y
          refine ⟨x', .tuple [.str "loop", v], ?_, ?_⟩
          · generalize ws.map PyData.str = WS at *
            generalize names.map PyData.str = NS at *
            generalize ((k + 1 : Nat) : Int) = K at *
            unfold b__law_body
            simp -implicitDefEqProofs [t1, e2, hk0]
          · obtain ⟨a, b, c⟩ := okV_cons (k := "loop") (ds := [v]) (n := k + 1) (wt := wtB (k + 1)) o5 (by
              intro d hd
              rw [List.mem_singleton.mp hd]
              exact ⟨h.ok, h.dep⟩) (by omega) (by have := h.wgt; simp only [PyData.weightAll]; omega) (by omega)
            exact ⟨PQ.node (c := cB k) (ms := [v]) (by simp [formB]) (by simpa using h.parts) (by simp [cB]; omega) (nm2 (by decide) v) (nm2 (by decide) v), a, b, c⟩
        · have t3 := take_D y 2 (by omega) (by omega)
          have b0 := Int.emod_nonneg y (show (2 : Int) ≠ 0 by decide)
          have b1 := Int.emod_lt_of_pos y (show (0 : Int) < 2 by decide)
          generalize y % 2 = b at *
          generalize y / 2 = y2 at *
          obtain ⟨M, eM, hM⟩ : ∃ M : Nat, 2 + b = (M : Int) ∧ (2 ≤ M ∧ M ≤ 3) := ⟨(2 + b).toNat, by omega, by omega⟩
          have sM : small62 (M : Int) = true := small_of M (by omega)
          obtain ⟨x', vs, L0, l1, l2⟩ := body_loopQ (c := cB k) (.list (ws.map .str)) (.list (names.map .str)) (k + 1) (k + 1) (wtB k) (some (.val (.int p))) hs y2 M (by omega)
          obtain ⟨kd, ekd, hkd⟩ : ∃ kd : Str, atI [PyData.str "seq", PyData.str "either"] (p % 2) = some (.str kd) ∧ (kd = "seq" ∨ kd = "either") := by
            rcases (by omega : p % 2 = 0 ∨ p % 2 = 1) with e | e
            · exact ⟨"seq", by rw [e]; rfl, .inl rfl⟩
            · exact ⟨"either", by rw [e]; rfl, .inr rfl⟩
          have zl : 1 + vs.length ≤ sizeLine := Nat.le_trans (by omega : _ ≤ 4) (by decide)
          refine ⟨x', .tuple (.str kd :: vs), ?_, ?_⟩
          · generalize ws.map PyData.str = WS at *
            generalize names.map PyData.str = NS at *
            generalize ((k + 1 : Nat) : Int) = K at *
            unfold b__law_body
            simp -implicitDefEqProofs [t1, t3, hk0, h0, h1, h2, eM, sM, L0, ekd, zl]
          · have wv := weightAll_QB l2
            rw [l1] at wv
            have wv2 : M * (wtB k + 1) ≤ 3 * (wtB k + 1) := Nat.mul_le_mul_right _ hM.2
            have okk : okVB (.str kd) = true := by
              rcases hkd with rfl | rfl
              · exact o6
              · exact o7
            have wkk : (PyData.str kd).weight ≤ 6 := by rcases hkd with rfl | rfl <;> omega
            obtain ⟨a, b, c⟩ := okV_cons (k := kd) (ds := vs) (n := k + 1) (wt := wtB (k + 1)) okk (fun d hd => ⟨(l2 d hd).ok, (l2 d hd).dep⟩) (by omega) (by simp only [PyData.weightAll]; omega) (by omega)
            have hv : 2 ≤ vs.length := by omega
            have fm : formB L (.tuple (.str kd :: vs)) = some vs := by
              rcases hkd with rfl | rfl <;> simp [formB, hv]
            exact ⟨PQ.node (c := cB k) fm (fun d hd => (l2 d hd).parts) (by have := Nat.mul_le_mul_right (cB k) (show vs.length ≤ 3 by omega); simp only [cB]; omega) (nm3 (by rcases hkd with rfl | rfl <;> decide) vs) (nm3 (by rcases hkd with rfl | rfl <;> decide) vs), a, b, c⟩
end Pv.Lw
end
section
set_option Elab.async false
set_option linter.all false
set_option autoImplicit false
set_option maxRecDepth 100000
set_option maxHeartbeats 2000000
/-! FrE: swapped and filled ones are fit; drawn ones are bodies. -/
namespace Pv.Pg
open PySem L2 PySem.W Pv Pv.Ev Pv.Lw
/-- fit, but for size -/
structure OkU (v : D) : Prop where
  pl : plain v = true
  lay : v.canLay0 = true
  ish : v.intsShort 13 = true
  shw : v.showable = true
theorem OkU.of {v : D} (h : OkV v) : OkU v := ⟨h.pl, h.lay, h.ish, h.shw⟩
theorem OkU.ok {v : D} (h : OkU v) (hd : v.depth ≤ 64) (hw : v.weight ≤ 4000) : OkV v := ⟨h.pl, h.lay, hd, hw, h.ish, h.shw⟩
theorem OkU.tup {ds : List D} (h : ∀ d ∈ ds, OkU d) : OkU (.tuple ds) where
  pl := by simp only [plain]; exact plainA_iff.mpr fun d hd => (h d hd).pl
  lay := by simp only [PyData.canLay0]; exact canLayAll_iff.mpr fun d hd => (h d hd).lay
  ish := by simp only [PyData.intsShort]; exact intsShortAll_iff.mpr fun d hd => (h d hd).ish
  shw := by simp only [PyData.showable]; exact showableAll_iff.mpr fun d hd => (h d hd).shw
theorem OkU.mem {ds : List D} (h : OkU (.tuple ds)) : ∀ d ∈ ds, OkU d := fun d hd =>
  ⟨by have := h.pl; simp only [plain] at this; exact plainA_iff.mp this d hd, by have := h.lay; simp only [PyData.canLay0] at this; exact canLayAll_iff.mp this d hd,
    by have := h.ish; simp only [PyData.intsShort] at this; exact intsShortAll_iff.mp this d hd, by have := h.shw; simp only [PyData.showable] at this; exact showableAll_iff.mp this d hd⟩
theorem wt_map {f : D → D} : ∀ {ks : List D}, (∀ d ∈ ks, (f d).weight = d.weight) → PyData.weightAll (ks.map f) = PyData.weightAll ks
  | [], _ => rfl
  | d :: ks, h => by rw [List.map_cons, PyData.weightAll, PyData.weightAll, h d List.mem_cons_self, wt_map fun x hx => h x (List.mem_cons_of_mem _ hx)]
theorem swap_u : ∀ (n : Nat) (v : D), OkU v → OkU (swapN n v) ∧ (swapN n v).depth ≤ v.depth ∧ (swapN n v).weight = v.weight
  | 0, v, h => ⟨h, Nat.le_refl _, rfl⟩
  | n + 1, v, h => by
    rw [swapN]
    by_cases hh : hole v = true
    · rw [if_pos hh, hole_iff.mp hh]
      exact ⟨.of (.ofB (by decide +kernel)), by decide +kernel, by decide +kernel⟩
    · rw [if_neg hh]
      cases hk : kidsD v with
      | none => exact ⟨h, Nat.le_refl _, rfl⟩
      | some p =>
        obtain ⟨pre, ks⟩ := p
        have e := (kids_at hk).1
        subst e
        have hm := h.mem
        have ih := fun d (hd : d ∈ ks) => swap_u n d (hm d (List.mem_append_right _ hd))
        refine ⟨OkU.tup fun d hd => ?_, ?_, ?_⟩
        · rcases List.mem_append.mp hd with hd | hd
          · exact hm d (List.mem_append_left _ hd)
          · obtain ⟨x, hx, rfl⟩ := List.mem_map.mp hd
            exact (ih x hx).1
        · simp only [PyData.depth]
          refine Nat.succ_le_succ (depthAll_iff.mpr fun d hd => ?_)
          have all := depthAll_iff.mp (Nat.le_refl (PyData.depthAll (pre ++ ks)))
          rcases List.mem_append.mp hd with hd | hd
          · exact all d (List.mem_append_left _ hd)
          · obtain ⟨x, hx, rfl⟩ := List.mem_map.mp hd
            exact Nat.le_trans (ih x hx).2.1 (all x (List.mem_append_right _ hx))
        · simp only [PyData.weight]
          rw [wt_app, wt_app, wt_map fun d hd => (ih d hd).2.2]
theorem swap_ok {v : D} (h : OkV v) : OkV (swap v) := by
  obtain ⟨a, b, c⟩ := swap_u 66 v (.of h)
  exact a.ok (Nat.le_trans b h.dep) (by rw [c]; exact h.wt)
theorem fill_u (b : D) (hb : OkU b) : ∀ (n : Nat) (v : D), OkU v → OkU (fillN n v b) ∧ (fillN n v b).depth ≤ v.depth + b.depth ∧ (fillN n v b).weight ≤ v.weight + cntH n v * b.weight
  | 0, v, h => ⟨h, Nat.le_add_right _ _, Nat.le_add_right _ _⟩
  | n + 1, v, h => by
    rw [fillN, cntH]
    by_cases hh : hole v = true
    · rw [if_pos hh, hole_iff.mp hh]
      have : kidsD HOLE = none := rfl
      rw [this]
      refine ⟨hb, Nat.le_add_left _ _, ?_⟩
      have : h1 HOLE = 1 := rfl
      simp only [this]
      omega
    · rw [if_neg hh]
      cases hk : kidsD v with
      | none => exact ⟨h, Nat.le_add_right _ _, Nat.le_add_right _ _⟩
      | some p =>
        obtain ⟨pre, ks⟩ := p
        have e := (kids_at hk).1
        subst e
        have hm := h.mem
        have ih := fun d (hd : d ∈ ks) => fill_u b hb n d (hm d (List.mem_append_right _ hd))
        refine ⟨OkU.tup fun d hd => ?_, ?_, ?_⟩
        · rcases List.mem_append.mp hd with hd | hd
          · exact hm d (List.mem_append_left _ hd)
          · obtain ⟨x, hx, rfl⟩ := List.mem_map.mp hd
            exact (ih x hx).1
        · simp only [PyData.depth]
          have all := depthAll_iff.mp (Nat.le_refl (PyData.depthAll (pre ++ ks)))
          have : PyData.depthAll (pre ++ ks.map fun d => fillN n d b) ≤ PyData.depthAll (pre ++ ks) + b.depth := depthAll_iff.mpr fun d hd => by
            rcases List.mem_append.mp hd with hd | hd
            · have := all d (List.mem_append_left _ hd); omega
            · obtain ⟨x, hx, rfl⟩ := List.mem_map.mp hd
              have := all x (List.mem_append_right _ hx)
              have := (ih x hx).2.1
              omega
          omega
        · simp only [PyData.weight]
          rw [wt_app, wt_app]
          have hw : ∀ ks : List D, (∀ d ∈ ks, (fillN n d b).weight ≤ d.weight + cntH n d * b.weight) → PyData.weightAll (ks.map fun d => fillN n d b) ≤ PyData.weightAll ks + sumN (cntH n) ks * b.weight := by
            intro ks
            induction ks with
            | nil => intro _; simp [PyData.weightAll, sumN]
            | cons d ks ih2 =>
              intro hk
              have a1 := hk d List.mem_cons_self
              have a2 := ih2 fun x hx => hk x (List.mem_cons_of_mem _ hx)
              rw [List.map_cons, PyData.weightAll, PyData.weightAll, sumN, Nat.add_mul]
              omega
          have := hw ks fun d hd => (ih d hd).2.2
          have m : sumN (cntH n) ks * b.weight ≤ (h1 (.tuple (pre ++ ks)) + sumN (cntH n) ks) * b.weight := Nat.mul_le_mul_right _ (Nat.le_add_left _ _)
          omega
theorem fill_ok {v b : D} (h : OkV v) (hb : OkV b) (hc : cnt v = 1) (hd : v.depth + b.depth ≤ 64) (hw : v.weight + b.weight ≤ 4000) : OkV (fill v b) := by
  obtain ⟨x, y, z⟩ := fill_u b (.of hb) 66 v (.of h)
  have e : cntH 66 v = 1 := hc
  rw [e] at z
  exact x.ok (Nat.le_trans y hd) (by omega)
theorem form_mono {L : List Str} {v : D} {ms : List D} (h : formB [] v = some ms) : formB L v = some ms := by
  have p := part_of h
  cases p with
  | leaf0 k hk =>
    rcases hk with rfl | rfl | ⟨_, h⟩
    · simp [formB]
    · simp [formB]
    · cases h
  | leaf1 k nm hk hn =>
    rcases hk with rfl | ⟨_, h⟩
    · simp [formB, nameD, hn]
    · cases h
  | hold nm p hn => simp [formB, nameD, hn]
  | loop p => simp [formB]
  | many k r hk hr => rcases hk with rfl | rfl <;> simp [formB, hr]
theorem parts_L {L : List Str} : ∀ (n : Nat) (v : D) (ps : List D), partsB [] n v = some ps → partsB L n v = some ps
  | 0, v, ps, h => by cases h
  | n + 1, v, ps, e => by
    simp only [partsB, Option.bind_eq_some_iff, Option.map_eq_some_iff] at e
    obtain ⟨ms, f1, qs, f2, rfl⟩ := e
    have all : ∀ (ms qs : List D), allP (partsB [] n) ms = some qs → allP (partsB L n) ms = some qs := by
      intro ms
      induction ms with
      | nil => intro qs h; exact h
      | cons d ms ih =>
        intro qs h
        simp only [allP, Option.bind_eq_some_iff, Option.map_eq_some_iff] at h ⊢
        obtain ⟨a, e1, b, e2, rfl⟩ := h
        exact ⟨a, parts_L n d a e1, b, ih b e2, rfl⟩
    rw [partsB, form_mono f1, Option.bind_some, all ms qs f2]
    rfl
theorem no_hole : ∀ (n : Nat) (v : D) (ps : List D), partsB [] n v = some ps → ∀ d ∈ ps, hole d = false
  | 0, v, ps, h => by cases h
  | n + 1, v, ps, e => by
    simp only [partsB, Option.bind_eq_some_iff, Option.map_eq_some_iff] at e
    obtain ⟨ms, f1, qs, f2, rfl⟩ := e
    intro d hd
    rcases List.mem_cons.mp hd with rfl | hd
    · cases hh : hole d with
      | false => rfl
      | true =>
        rw [hole_iff.mp hh] at f1
        simp [formB, HOLE] at f1
    · obtain ⟨e1, e2⟩ := allP_flat f2
      rw [e1] at hd
      obtain ⟨m, hm, hd⟩ := List.mem_flatMap.mp hd
      obtain ⟨a, ha⟩ := e2 m hm
      rw [ha] at hd
      exact no_hole n m a ha d hd
theorem cnt_body {n : Nat} {v : D} {ps : List D} (h : OkV v) (e : partsB [] n v = some ps) : cnt v = 0 := by
  rw [cnt_parts n v ps h e]
  have := no_hole n v ps e
  clear e h
  induction ps with
  | nil => rfl
  | cons d ps ih =>
    rw [sumN, ih fun x hx => this x (List.mem_cons_of_mem _ hx)]
    simp [h1, this d List.mem_cons_self]
theorem pq_L {L ws names : List Str} {n c : Nat} {v : D} (h : PQ [] ws names n c v) : PQ L ws names n c v := by
  obtain ⟨ps, e, a⟩ := h
  exact ⟨ps, parts_L n v ps e, a⟩
theorem pq_le {L ws names : List Str} {n c c' m : Nat} {v : D} (h : PQ L ws names n c v) (hc : c ≤ c') (hm : n ≤ m) : PQ L ws names m c' v := by
  obtain ⟨k, rfl⟩ : ∃ k, m = n + k := ⟨m - n, by omega⟩
  induction k with
  | zero =>
    obtain ⟨ps, e, a, b⟩ := h
    exact ⟨ps, e, Nat.le_trans a hc, b⟩
  | succ k ih => exact (ih (by omega)).up (Nat.le_refl _)
theorem body_of {L ws names : List Str} {n c : Nat} {v : D} (h : PQ L ws names n c v) (hn : n ≤ 40) (hc : c ≤ 60) (hw : ws.length ≤ 5) (hm : names.length ≤ 6) : bodyB L v = true := by
  obtain ⟨ps, e, a, b1, b2⟩ := pq_le h hc hn
  unfold bodyB
  rw [e]
  have l1 : (uniqS (namesK "hold" ps)).length ≤ ws.length := List.Nodup.length_le_of_subset (uniqS_nd _) fun x hx => b1 x (mem_uniqS.mp hx)
  have l2 : (uniqS (namesK "do" ps)).length ≤ names.length := List.Nodup.length_le_of_subset (uniqS_nd _) fun x hx => b2 x (mem_uniqS.mp hx)
  simp only [Bool.and_eq_true, decide_eq_true_eq]
  exact ⟨a, by omega, by omega⟩
end Pv.Pg
end
section
set_option Elab.async false
set_option linter.all false
set_option autoImplicit false
set_option maxRecDepth 100000
set_option maxHeartbeats 2000000
/-! K62o: filled; drawn frames. -/
namespace Pv.K62
open PySem L2 PySem.W Pv Pv.Pg Pv.Lw Pv.Ev
theorem fill_loop {self_ : Fn} (c0 c2 : Option Cell) (b : D) (ks : List D) (hs : ∀ d ∈ ks, self_ [d, b] = some ((fill d b, false), [])) (hz : ks.length ≤ 100000) :
    lcL (gN 3) sYes (sCall [.v, .v] self_ (mV (sVar 3) (mV (sVar 1) mNil))) [3] ks 0 [c0, some (.val b), c2, none] = some (ks.map fun d => fill d b, [c0, some (.val b), c2, none]) :=
  lc_q1 (fun d hd => by
    have := hs d hd
    simp -implicitDefEqProofs [this]) (by rw [Nat.zero_add]; exact Nat.le_trans hz (by decide))
theorem law_filled_D (b : D) : ∀ (n f : Nat), n < f → ∀ (v : D) (ps : List D), OkV v → partsB ["hole"] n v = some ps → F__law_filled f [v, b] = some ((fill v b, false), [])
  | 0, _, _, _, _, _, e => by cases e
  | n + 1, f, hf, v, ps, h, e => by
    obtain ⟨f, rfl⟩ : ∃ g, f = g + 1 := ⟨f - 1, by omega⟩
    show fnOf 4 [.v, .v] (b__law_filled (F__law_filled f)) _ = _
    obtain ⟨ms, _, p, hm⟩ := parts_ok e
    have eq := eq_hole h
    unfold HOLE at eq
    have z1 : (1 : Nat) ≤ sizeLine := by decide
    unfold b__law_filled
    cases hh : hole v with
    | true =>
      rw [hh] at eq
      have ef : fill v b = b := by rw [fill_eq h, if_pos hh]
      rw [ef]
      simp -implicitDefEqProofs [eq, z1]
    | false =>
      rw [hh] at eq
      have L1 := fun c0 c2 => fill_loop (self_ := F__law_filled f) c0 c2 b ms (fun d hd => by
        obtain ⟨a, ha⟩ := hm d hd
        exact law_filled_D b n f (by omega) d a (p.ok h d hd) ha) (Nat.le_trans (p.len h) (by decide))
      have lm := p.len h
      have kf : ∀ pre, kidsD v = some (pre, ms) → fill v b = .tuple (pre ++ ms.map fun d => fill d b) := fun pre hk => by
        rw [fill_eq h, hh, hk]
        simp
      have kn : kidsD v = none → fill v b = v := fun hk => by
        rw [fill_eq h, hh, hk]
        simp
      have zl : ((ms.map fun d => fill d b)).length ≤ 4000 := by rw [List.length_map]; exact lm
      have z2 : 1 + (ms.map fun d => fill d b).length ≤ sizeLine := Nat.le_trans (by omega : _ ≤ 5000) (by decide)
      have z3 : 1 + 1 + (ms.map fun d => fill d b).length ≤ sizeLine := Nat.le_trans (by omega : _ ≤ 5000) (by decide)
      have z4 : 2 + (ms.map fun d => fill d b).length ≤ sizeLine := Nat.le_trans (by omega : _ ≤ 5000) (by decide)
      have oks := p
      cases p with
      | leaf0 k hk =>
        have kd : kidsD (.tuple [.str k]) = none := by rcases part_kids oks with ⟨pre, hk'⟩ | ⟨hk', _⟩; (rcases hk with rfl | rfl | ⟨rfl, _⟩ <;> simp [kidsD] at hk'); exact hk'
        rw [kn kd]
        have i := in3 (kind_ok h) ok_skip ok_stop (show PyData.strOk "do" = true by decide +kernel)
        have ek := eqF_str k "hold"
        rcases hk with rfl | rfl | ⟨rfl, _⟩
        · simp -implicitDefEqProofs [eq, at0, i, ek]
        · simp -implicitDefEqProofs [eq, at0, i, ek]
        · have : hole (.tuple [.str "hole"]) = true := hole_iff.mpr rfl
          rw [hh] at this
          cases this
      | leaf1 k nm hk hn =>
        have kd : kidsD (.tuple [.str k, .str nm]) = none := by rcases part_kids oks with ⟨pre, hk'⟩ | ⟨hk', _⟩; (rcases hk with rfl | ⟨rfl, hx⟩ <;> simp [kidsD] at hk'); exact hk'
        rw [kn kd]
        have i := in3 (kind_ok h) ok_skip ok_stop (show PyData.strOk "do" = true by decide +kernel)
        have ek := eqF_str k "hold"
        rcases hk with rfl | ⟨rfl, hx⟩
        · simp -implicitDefEqProofs [eq, at0, i, ek]
        · exact absurd hx (by decide)
      | hold nm q hn =>
        have kd : kidsD (.tuple [.str "hold", .str nm, q]) = some ([.str "hold", .str nm], [q]) := by simp [kidsD]
        rw [kf _ kd]
        have i := in3 (kind_ok h) ok_skip ok_stop (show PyData.strOk "do" = true by decide +kernel)
        have ek := eqF_str "hold" "hold"
        have t2 : cutD [PyData.str "hold", .str nm, q] none (some 2) = [.str "hold", .str nm] := by
          have := cutD_take [PyData.str "hold", .str nm, q] 2
          simpa using this
        have c2 := cut2 (.str "hold") (.str nm) [q]
        simp only [List.map_cons, List.map_nil] at L1 ⊢
        generalize fill q b = FQ at *
        simp -implicitDefEqProofs [eq, at0, i, ek, t2, c2, ↓L1]
      | loop q =>
        have kd : kidsD (.tuple [.str "loop", q]) = some ([.str "loop"], [q]) := by simp [kidsD]
        rw [kf _ kd]
        have i := in3 (kind_ok h) ok_skip ok_stop (show PyData.strOk "do" = true by decide +kernel)
        have ek := eqF_str "loop" "hold"
        have t1 : cutD [PyData.str "loop", q] none (some 1) = [.str "loop"] := by
          have := cutD_take [PyData.str "loop", q] 1
          simpa using this
        have c1 := cut1 (.str "loop") [q]
        simp only [List.map_cons, List.map_nil] at L1 ⊢
        generalize fill q b = FQ at *
        simp -implicitDefEqProofs [eq, at0, i, ek, t1, c1, ↓L1]
      | many k r hk hr =>
        have kd : kidsD (.tuple (.str k :: ms)) = some ([.str k], ms) := by rcases hk with rfl | rfl <;> simp [kidsD]
        rw [kf _ kd]
        have i := in3 (kind_ok h) ok_skip ok_stop (show PyData.strOk "do" = true by decide +kernel)
        have ek := eqF_str k "hold"
        have t1 : cutD (PyData.str k :: ms) none (some 1) = [.str k] := by
          have := cutD_take (PyData.str k :: ms) 1
          simpa using this
        have c1 := cut1 (.str k) ms
        generalize (ms.map fun d => fill d b) = FS at *
        rcases hk with rfl | rfl <;> simp -implicitDefEqProofs [eq, at0, i, ek, t1, c1, ↓L1, z2]
theorem fill_good_D (v b : D) (h : OkV v) (hf : frameB v = true) (hb : OkV b) (bb : bodyB [] b = true) (hfb : OkV (fill v b)) : F__law_fill_good [v, b] = some ((.bool true, false), []) := by
  have fd := filled_D v b h hf hb bb hfb
  have ib := is_body_D (fill v b) hfb
  have hf2 := hf
  unfold frameB at hf2
  rw [Bool.and_eq_true] at hf2
  obtain ⟨ps, hp, _⟩ := body_parts hf2.1
  have lf := law_filled_D b 40 45 (by omega) v ps h hp
  have er : eqF (fill v b) (fill v b) = some (.bool true, false) := by rw [eqF_of hfb.shaped hfb.shaped, PySem.SeqAt.eqv_refl _ hfb.lay]
  have z2 : (2 : Nat) ≤ sizeLine := by decide
  generalize fill v b = W at *
  unfold F__law_fill_good b__law_fill_good
  cases hW : bodyB [] W with
  | true =>
    rw [hW] at ib fd
    simp only [if_true] at fd
    simp -implicitDefEqProofs [lf, fd, ib, er, z2]
  | false =>
    rw [hW] at ib fd
    simp only [Bool.false_eq_true, if_false] at fd
    simp -implicitDefEqProofs [lf, fd, ib, z2]
end Pv.K62
end
section
set_option Elab.async false
set_option linter.all false
set_option autoImplicit false
set_option maxRecDepth 100000
set_option maxHeartbeats 2000000
/-! K62q: drawn frames. -/
namespace Pv.K62
open PySem L2 PySem.W Pv Pv.Pg Pv.Lw Pv.Ev
def cF : Nat → Nat
  | 0 => 4
  | k + 1 => 2 * cF k + 1
def wF : Nat → Nat
  | 0 => 90
  | k + 1 => wF k + 130
theorem cF_4 : ∀ k, 4 ≤ cF k
  | 0 => Nat.le_refl _
  | k + 1 => by have := cF_4 k; simp only [cF]; omega
structure FQ (ws names : List Str) (k : Nat) (v : D) : Prop where
  q : QB ["hole"] ws names (k + 2) (cF k) (wF k) v
  c : cnt v = 1
theorem cnt_node {v : D} {pre ks : List D} (h : OkV v) (hk : kidsD v = some (pre, ks)) : cnt v = sumN cnt ks := by
  rw [cnt_eq h, hk]
  simp [h1, (kids_at hk).2]
theorem frame_D (ws names : List Str) (gw : GW ws) (gn : GW names) : ∀ (k f : Nat), k < f → k ≤ 3 → ∀ x : Int, ∃ (x' : Int) (v : D), F__law_frame f [.list [.int x], .list (ws.map .str), .list (names.map .str), .int k] = some ((v, false), [.list [.int x']]) ∧ FQ ws names k v := by
  obtain ⟨o1, o2, o3, o4, o5, o6, o7⟩ := ok_kinds
  obtain ⟨w1, w2, w3, w4, w5, w6, w7⟩ := wt_kinds
  have z1 : (1 : Nat) ≤ sizeLine := by decide
  have z2 : (2 : Nat) ≤ sizeLine := by decide
  have z3 : (3 : Nat) ≤ sizeLine := by decide
  intro k
  induction k with
  | zero =>
    intro f hf _ x
    obtain ⟨f, rfl⟩ : ∃ g, f = g + 1 := ⟨f - 1, by omega⟩
    have t1 := take_D x 6 (by omega) (by omega)
    refine ⟨x / 6, HOLE, ?_, ⟨⟨(PQ.node (n := 0) (c := 0) (c' := 4) (ms := []) (by simp [formB, HOLE]) (by simp) (by simp) (by simp [nameOf, HOLE]) (by simp [nameOf, HOLE])).up (Nat.le_refl _), .ofB (by decide +kernel), by decide +kernel, by decide +kernel⟩, by decide +kernel⟩⟩
    show fnOf 7 [.r, .v, .v, .v] (b__law_frame (F__law_frame f)) _ = _
    generalize ws.map PyData.str = WS at *
    generalize names.map PyData.str = NS at *
    unfold b__law_frame HOLE
    simp -implicitDefEqProofs [t1, z1]
  | succ k ih =>
    intro f hf hk x
    obtain ⟨f, rfl⟩ : ∃ g, f = g + 1 := ⟨f - 1, by omega⟩
    have t1 := take_D x 6 (by omega) (by omega)
    have d0 := Int.emod_nonneg x (show (6 : Int) ≠ 0 by decide)
    have d1 := Int.emod_lt_of_pos x (show (0 : Int) < 6 by decide)
    generalize hp : x % 6 = p at *
    obtain ⟨y, v, e, hv⟩ := ih f (by omega) (by omega) (x / 6)
    have e : F__law_frame f [.list [.int (x / 6)], .list (ws.map .str), .list (names.map .str), .int (((k + 1 : Nat) : Int) - 1)] = some ((v, false), [.list [.int y]]) := by
      rw [show ((k + 1 : Nat) : Int) - 1 = (k : Int) by omega]
      exact e
    generalize x / 6 = y0 at *
    have hk0 : ¬ (((k + 1 : Nat) : Int) = 0) := by omega
    show ∃ (x' : Int) (v : D), fnOf 7 [.r, .v, .v, .v] (b__law_frame (F__law_frame f)) _ = _ ∧ _
    have wk : wF k ≤ 400 := by rcases (by omega : k = 0 ∨ k = 1 ∨ k = 2) with rfl | rfl | rfl <;> decide
    have wks : wF (k + 1) = wF k + 130 := rfl
    have cks : cF (k + 1) = 2 * cF k + 1 := rfl
    have c4 := cF_4 k
    have hw := hv.q.wgt
    by_cases h1 : p < 2
    · have hl : 0 < ws.length := List.length_pos_iff.mpr gw.1
      have hl2 := gw.2.1
      have t2 := take_D y ws.length (by omega) (by omega)
      obtain ⟨w, hw', ew⟩ := gw.draw y
      obtain ⟨k1, k2, k3⟩ := gw.2.2 w hw'
      have hlen : (ws.map PyData.str).length = ws.length := List.length_map _
      have ok := okV_cons (k := "hold") (ds := [.str w, v]) (n := k + 2) (wt := wF (k + 1)) o4 (by
          intro d hd
          simp only [List.mem_cons, List.not_mem_nil, or_false] at hd
          rcases hd with rfl | rfl
          · exact ⟨.ofB k1, by simp [PyData.depth]⟩
          · exact ⟨hv.q.ok, hv.q.dep⟩) (by omega) (by simp only [PyData.weightAll]; omega) (by omega)
      refine ⟨y / ws.length, .tuple [.str "hold", .str w, v], ?_, ⟨⟨PQ.node (c := cF k) (ms := [v]) (by simp [formB, nameD, k2]) (by simpa using hv.q.parts) (by simp; omega) (by simpa [nameOf] using hw') (by simp [nameOf]), ok.1, ok.2.1, ok.2.2⟩, ?_⟩⟩
      · generalize ws.map PyData.str = WS at *
        generalize names.map PyData.str = NS at *
        generalize ((k + 1 : Nat) : Int) = K at *
        unfold b__law_frame
        simp -implicitDefEqProofs [t1, t2, e, hk0, h1, hlen, ew, z3]
      · rw [cnt_node ok.1 (pre := [.str "hold", .str w]) (ks := [v]) (by simp [kidsD])]
        simp [sumN, hv.c]
    · by_cases h2 : p = 2
      · have ok := okV_cons (k := "loop") (ds := [v]) (n := k + 2) (wt := wF (k + 1)) o5 (by
            intro d hd
            rw [List.mem_singleton.mp hd]
            exact ⟨hv.q.ok, hv.q.dep⟩) (by omega) (by simp only [PyData.weightAll]; omega) (by omega)
        refine ⟨y, .tuple [.str "loop", v], ?_, ⟨⟨PQ.node (c := cF k) (ms := [v]) (by simp [formB]) (by simpa using hv.q.parts) (by simp; omega) (nm2 (by decide) v) (nm2 (by decide) v), ok.1, ok.2.1, ok.2.2⟩, ?_⟩⟩
        · subst h2
          generalize ws.map PyData.str = WS at *
          generalize names.map PyData.str = NS at *
          generalize ((k + 1 : Nat) : Int) = K at *
          unfold b__law_frame
          simp -implicitDefEqProofs [t1, e, hk0, z2]
        · rw [cnt_node ok.1 (pre := [.str "loop"]) (ks := [v]) (by simp [kidsD])]
          simp [sumN, hv.c]
      · obtain ⟨y2, b, eb, hb⟩ := body_Q [] ws names gw gn 1 45 (by omega) (by omega) y
        have eb : F__law_body 45 [.list [.int y], .list (ws.map .str), .list (names.map .str), .int 1] = _ := eb
        have t3 := take_D y2 2 (by omega) (by omega)
        obtain ⟨kd, ekd, hkd⟩ : ∃ kd : Str, atI [PyData.str "seq", PyData.str "either"] (p % 2) = some (.str kd) ∧ (kd = "seq" ∨ kd = "either") := by
          rcases (by omega : p % 2 = 0 ∨ p % 2 = 1) with e | e
          · exact ⟨"seq", by rw [e]; rfl, .inl rfl⟩
          · exact ⟨"either", by rw [e]; rfl, .inr rfl⟩
        have okk : okVB (.str kd) = true := by
          rcases hkd with rfl | rfl
          · exact o6
          · exact o7
        have wkk : (PyData.str kd).weight ≤ 6 := by rcases hkd with rfl | rfl <;> omega
        have wb := hb.wgt
        have e83 : wtB 1 = 83 := rfl
        have e4 : cB 1 = 4 := rfl
        have hv' : PQ ["hole"] ws names (k + 2) (cF k) v := hv.q.parts
        have hb' : PQ ["hole"] ws names (k + 2) (cF k) b := pq_le (pq_L hb.parts) (by omega) (by omega)
        obtain ⟨pb, epb, _⟩ := hb.parts
        have cb := cnt_body hb.ok epb
        have bd := hb.dep
        -- both orders
        have fin : ∀ vs : List D, (vs = [v, b] ∨ vs = [b, v]) → FQ ws names (k + 1) (.tuple (.str kd :: vs)) := fun vs hvs => by
          have mem : ∀ d ∈ vs, d = v ∨ d = b := fun d hd => by
            rcases hvs with rfl | rfl
            · simpa using hd
            · simpa [or_comm] using hd
          have len : vs.length = 2 := by rcases hvs with rfl | rfl <;> rfl
          have wt : PyData.weightAll vs ≤ wF k + 1 + 84 := by rcases hvs with rfl | rfl <;> simp only [PyData.weightAll] <;> omega
          have ok := okV_cons (k := kd) (ds := vs) (n := k + 2) (wt := wF (k + 1)) okk (fun d hd => by
            rcases mem d hd with rfl | rfl
            · exact ⟨hv.q.ok, hv.q.dep⟩
            · exact ⟨hb.ok, by omega⟩) (by omega) (by simp only [PyData.weightAll]; omega) (by omega)
          have fm : formB ["hole"] (.tuple (.str kd :: vs)) = some vs := by
            have : 2 ≤ vs.length := by omega
            rcases hkd with rfl | rfl <;> simp [formB, this]
          refine ⟨⟨PQ.node (c := cF k) fm (fun d hd => by
            rcases mem d hd with rfl | rfl
            · exact hv'
            · exact hb') (by rw [len]; omega) (nm3 (by rcases hkd with rfl | rfl <;> decide) vs) (nm3 (by rcases hkd with rfl | rfl <;> decide) vs), ok.1, ok.2.1, ok.2.2⟩, ?_⟩
          rw [cnt_node ok.1 (pre := [.str kd]) (ks := vs) (by rcases hkd with rfl | rfl <;> simp [kidsD])]
          rcases hvs with rfl | rfl <;> simp [sumN, hv.c, cb]
        by_cases h3 : y2 % 2 = 0
        · refine ⟨y2 / 2, .tuple (.str kd :: [b, v]), ?_, fin _ (.inr rfl)⟩
          generalize ws.map PyData.str = WS at *
          generalize names.map PyData.str = NS at *
          generalize ((k + 1 : Nat) : Int) = K at *
          unfold b__law_frame
          simp -implicitDefEqProofs [t1, e, hk0, h1, h2, eb, t3, h3, ekd, z1, z2, z3]
        · refine ⟨y2 / 2, .tuple (.str kd :: [v, b]), ?_, fin _ (.inl rfl)⟩
          generalize ws.map PyData.str = WS at *
          generalize names.map PyData.str = NS at *
          generalize ((k + 1 : Nat) : Int) = K at *
          unfold b__law_frame
          simp -implicitDefEqProofs [t1, e, hk0, h1, h2, eb, t3, h3, ekd, z1, z2, z3]
end Pv.K62
end
section
set_option Elab.async false
set_option linter.all false
set_option autoImplicit false
set_option maxRecDepth 100000
set_option maxHeartbeats 2000000
/-! K62r: bent values. -/
namespace Pv.K62
open PySem L2 PySem.W Pv Pv.Pg Pv.Lw Pv.Ev
def Pz (d : D) : Prop := OkV d ∧ d.depth ≤ 10 ∧ d.weight ≤ 1000
def ODD8 (b : D) : List D := [.tuple [.str "hole", .str "a"], .tuple [.str "hole", .tuple []], .list [.str "hole"], .tuple [.str "holes"], .tuple [.str "skip"], .tuple [.str "hole"], .none, b, .tuple [.str "seq", .tuple [.str "hole"], .tuple [.str "hole"]]]
theorem odd_ok {b : D} (hb : Pz b) : ∀ d ∈ ODD8 b, Pz d := by
  have k : ∀ d : D, (okVB d && (decide (d.depth ≤ 10) && decide (d.weight ≤ 1000))) = true → Pz d := fun d h => by
    simp only [Bool.and_eq_true, decide_eq_true_eq] at h
    exact ⟨.ofB h.1, h.2⟩
  intro d hd
  simp only [ODD8, List.mem_cons, List.not_mem_nil, or_false] at hd
  rcases hd with rfl | rfl | rfl | rfl | rfl | rfl | rfl | rfl | rfl
  · exact k _ (by decide +kernel)
  · exact k _ (by decide +kernel)
  · exact k _ (by decide +kernel)
  · exact k _ (by decide +kernel)
  · exact k _ (by decide +kernel)
  · exact k _ (by decide +kernel)
  · exact k _ (by decide +kernel)
  · exact hb
  · exact k _ (by decide +kernel)
def bents (v o : D) (vs : List D) : List D := [o, .tuple [.str "seq", v, o], .tuple [.str "either", o, v], .tuple [.str "hold", .str "A", v], .tuple [.str "loop", o], .tuple [.str "loop", v, v], .list vs, .tuple [.str "hold", .str "a", o], .tuple [.str "seq", v]]
theorem tup_pz {ds : List D} (h : ∀ d ∈ ds, Pz d) (hl : ds.length ≤ 3) : OkV (.tuple ds) ∧ (PyData.tuple ds).depth ≤ 44 := by
  refine ⟨OkV.mk_ (k := 1000) (fun d hd => ⟨(h d hd).1, Nat.le_trans (h d hd).2.1 (by decide), (h d hd).2.2⟩) (by omega), ?_⟩
  simp only [PyData.depth]
  have := depthAll_iff (k := 10) |>.mpr fun d hd => (h d hd).2.1
  omega
theorem bents_ok {o : D} {vs : List D} (hv : Pz (.tuple vs)) (ho : Pz o) : ∀ w ∈ bents (.tuple vs) o vs, OkV w ∧ w.depth ≤ 44 := by
  have s : ∀ x : Str, (okVB (.str x) && (decide ((PyData.str x).depth ≤ 10) && decide ((PyData.str x).weight ≤ 1000))) = true → Pz (.str x) := fun x h => by
    simp only [Bool.and_eq_true, decide_eq_true_eq] at h
    exact ⟨.ofB h.1, h.2⟩
  have s1 := s "seq" (by decide +kernel)
  have s2 := s "either" (by decide +kernel)
  have s3 := s "hold" (by decide +kernel)
  have s4 := s "loop" (by decide +kernel)
  have s5 := s "A" (by decide +kernel)
  have s6 := s "a" (by decide +kernel)
  have t3 : ∀ a b c : D, Pz a → Pz b → Pz c → OkV (.tuple [a, b, c]) ∧ (PyData.tuple [a, b, c]).depth ≤ 44 := fun a b c ha hb hc => tup_pz (fun d hd => by
    simp only [List.mem_cons, List.not_mem_nil, or_false] at hd
    rcases hd with rfl | rfl | rfl
    · exact ha
    · exact hb
    · exact hc) (by simp)
  have t2 : ∀ a b : D, Pz a → Pz b → OkV (.tuple [a, b]) ∧ (PyData.tuple [a, b]).depth ≤ 44 := fun a b ha hb => tup_pz (fun d hd => by
    simp only [List.mem_cons, List.not_mem_nil, or_false] at hd
    rcases hd with rfl | rfl
    · exact ha
    · exact hb) (by simp)
  intro w hw
  simp only [bents, List.mem_cons, List.not_mem_nil, or_false] at hw
  rcases hw with rfl | rfl | rfl | rfl | rfl | rfl | rfl | rfl | rfl
  · exact ⟨ho.1, by have := ho.2.1; omega⟩
  · exact t3 _ _ _ s1 hv ho
  · exact t3 _ _ _ s2 ho hv
  · exact t3 _ _ _ s3 s5 hv
  · exact t2 _ _ s4 ho
  · exact t3 _ _ _ s4 hv hv
  · exact ⟨hv.1.mkL, by have := hv.2.1; simp only [PyData.depth] at this ⊢; omega⟩
  · exact t3 _ _ _ s3 s6 ho
  · exact t2 _ _ s1 hv
theorem bent_D (x : Int) (vs : List D) (b : D) (hv : Pz (.tuple vs)) (hb : Pz b) : ∃ (x' : Int) (w : D), F__law_bent [.list [.int x], .tuple vs, b] = some ((w, false), [.list [.int x']]) ∧ OkV w ∧ w.depth ≤ 44 := by
  have t1 := take_D x 9 (by decide) (by decide)
  obtain ⟨k, hk, ek⟩ : ∃ k : Nat, k ≤ 8 ∧ x % 9 = k := ⟨(x % 9).toNat, by omega, by omega⟩
  rw [ek] at t1
  have hl : k < (ODD8 b).length := by show k < 9; omega
  have eo : atI (ODD8 b) (k : Int) = some (ODD8 b)[k] := atI_nat (List.getElem?_eq_getElem hl) rfl
  have po := odd_ok hb _ (List.getElem_mem hl)
  generalize (ODD8 b)[k] = o at *
  have t2 := take_D (x / 9) 9 (by decide) (by decide)
  obtain ⟨j, hj, ej⟩ : ∃ j : Nat, j ≤ 8 ∧ (x / 9) % 9 = j := ⟨((x / 9) % 9).toNat, by omega, by omega⟩
  rw [ej] at t2
  have hjl : j < (bents (.tuple vs) o vs).length := by show j < 9; omega
  have ix : atI (bents (.tuple vs) o vs) (j : Int) = some (bents (.tuple vs) o vs)[j] := atI_nat (List.getElem?_eq_getElem hjl) rfl
  have ok := bents_ok hv po _ (List.getElem_mem hjl)
  generalize (bents (.tuple vs) o vs)[j] = w at *
  have z0 : ∀ n, n ≤ 1000 → n ≤ sizeLine := fun n hn => Nat.le_trans hn (by decide)
  have s0 := z0 0 (by omega)
  have s1 := z0 1 (by omega)
  have s2 := z0 2 (by omega)
  have s3 := z0 3 (by omega)
  have s4 := z0 4 (by omega)
  have s6 := z0 6 (by omega)
  have s8 := z0 8 (by omega)
  have s9 := z0 9 (by omega)
  unfold bents at ix
  unfold ODD8 at eo
  refine ⟨x / 9 / 9, w, ?_, ok⟩
  unfold F__law_bent b__law_bent
  simp -implicitDefEqProofs [t1, t2, eo, ix, s0, s1, s2, s3, s4, s6, s8, s9]
end Pv.K62
end
section
set_option Elab.async false
set_option linter.all false
set_option autoImplicit false
set_option maxRecDepth 100000
set_option maxHeartbeats 2000000
/-! PwN: monotony, more of it. -/
namespace Pv
open PySem
theorem le_seq2 {f f' g g' : SemS} (k : LeO f f') (h : LeO g g') : LeO (sSeq f g) (sSeq f' g') := fun ρ o e => by
  simp only [sSeq, Option.bind_eq_some_iff] at e ⊢
  obtain ⟨o1, e1, e2⟩ := e
  refine ⟨o1, k _ _ e1, ?_⟩
  cases o1 with
  | nx ρ1 => exact h _ _ e2
  | rt r ρ1 => exact e2
  | bk ρ1 => exact e2
  | ct ρ1 => exact e2
theorem le_ifS {t t' : SemT} {a b : SemS} (h : LeO t t') : LeO (sIfS t a b) (sIfS t' a b) := fun ρ z e => by
  simp only [sIfS, Option.bind_eq_some_iff] at e ⊢
  obtain ⟨x, e1, e2⟩ := e
  exact ⟨x, h _ _ e1, e2⟩
theorem le_not {t t' : SemT} (h : LeO t t') : LeO (sNot t) (sNot t') := fun ρ z e => by
  simp only [sNot, Option.bind_eq_some_iff, Option.map_eq_some_iff] at e ⊢
  obtain ⟨x, e1, e2⟩ := e
  exact ⟨x, h _ _ e1, e2⟩
theorem le_truth {f f' : SemE} (h : LeO f f') : LeO (sTruth f) (sTruth f') := fun ρ z e => by
  simp only [sTruth, Option.bind_eq_some_iff] at e ⊢
  obtain ⟨x, e1, e2⟩ := e
  exact ⟨x, h _ _ e1, e2⟩
theorem le_or2 {t u u' : SemT} (h : LeO u u') : LeO (sOr t u) (sOr t u') := fun ρ z e => by
  simp only [sOr, Option.bind_eq_some_iff] at e ⊢
  obtain ⟨x, e1, e2⟩ := e
  refine ⟨x, e1, ?_⟩
  obtain ⟨b, ρ1⟩ := x
  simp only at e2 ⊢
  split
  · next hb => rw [if_pos hb] at e2; exact e2
  · next hb => rw [if_neg hb] at e2; exact h _ _ e2
theorem le_forL {g : SemG} {b b' : SemS} (h : LeO b b') : ∀ (ds : List D) (ρ : Ro) (o : Out), forL g b ds ρ = some o → forL g b' ds ρ = some o
  | [], _, _, e => e
  | d :: ds, ρ, o, e => by
    simp only [forL, Option.bind_eq_some_iff] at e ⊢
    obtain ⟨ρ1, e1, o1, e2, e3⟩ := e
    refine ⟨ρ1, e1, o1, h _ _ e2, ?_⟩
    cases o1 with
    | nx ρ2 => exact le_forL h ds _ _ e3
    | ct ρ2 => exact le_forL h ds _ _ e3
    | bk ρ2 => exact e3
    | rt r ρ2 => exact e3
theorem le_for {it : SemI} {g : SemG} {b b' : SemS} (h : LeO b b') : LeO (sFor it g b) (sFor it g b') := fun ρ z e => by
  simp only [sFor, Option.bind_eq_some_iff] at e ⊢
  obtain ⟨x, e1, e2⟩ := e
  exact ⟨x, e1, le_forL h _ _ _ e2⟩
theorem le_lcS {g : SemG} {t : SemT} {el el' : SemE} {vs : List Nat} {it : SemI} (h : LeO el el') : LeO (sLcS g t el vs it) (sLcS g t el' vs it) := fun ρ z e => by
  simp only [sLcS] at e ⊢
  split
  · next hc =>
    rw [if_pos hc] at e
    simp only [Option.bind_eq_some_iff] at e ⊢
    obtain ⟨x, e1, e2⟩ := e
    exact ⟨x, le_lc h _ _ e1, e2⟩
  · next hc => rw [if_neg hc] at e; exact e
theorem le_and2 {t t' u u' : SemT} (k : LeO t t') (h : LeO u u') : LeO (sAnd t u) (sAnd t' u') := fun ρ z e => by
  simp only [sAnd, Option.bind_eq_some_iff] at e ⊢
  obtain ⟨x, e1, e2⟩ := e
  refine ⟨x, k _ _ e1, ?_⟩
  obtain ⟨b, ρ1⟩ := x
  simp only at e2 ⊢
  split
  · next hb => rw [if_pos hb] at e2; exact h _ _ e2
  · next hb => rw [if_neg hb] at e2; exact e2
theorem le_orB {t t' u u' : SemT} (k : LeO t t') (h : LeO u u') : LeO (sOr t u) (sOr t' u') := fun ρ z e => by
  simp only [sOr, Option.bind_eq_some_iff] at e ⊢
  obtain ⟨x, e1, e2⟩ := e
  refine ⟨x, k _ _ e1, ?_⟩
  obtain ⟨b, ρ1⟩ := x
  simp only at e2 ⊢
  split
  · next hb => rw [if_pos hb] at e2; exact e2
  · next hb => rw [if_neg hb] at e2; exact h _ _ e2
theorem le_set {i : Nat} {f f' : SemE} (h : LeO f f') : LeO (sSet i f) (sSet i f') := fun ρ z e => by
  simp only [sSet, Option.bind_eq_some_iff] at e ⊢
  obtain ⟨x, e1, e2⟩ := e
  exact ⟨x, h _ _ e1, e2⟩
theorem le_op {o : Op2} {f f' g g' : SemE} (h : LeO f f') (k : LeO g g') : LeO (sOp o f g) (sOp o f' g') := fun ρ z e => by
  simp only [sOp, Option.bind_eq_some_iff] at e ⊢
  obtain ⟨x, e1, y, e2, e3⟩ := e
  exact ⟨x, h _ _ e1, y, k _ _ e2, e3⟩
theorem le_notV {f f' : SemE} (h : LeO f f') : LeO (sNotV f) (sNotV f') := fun ρ z e => by
  simp only [sNotV, Option.bind_eq_some_iff] at e ⊢
  obtain ⟨x, e1, e2⟩ := e
  exact ⟨x, le_test h _ _ e1, e2⟩
theorem le_orV {f f' g g' : SemE} (h : LeO f f') (k : LeO g g') : LeO (sOrV f g) (sOrV f' g') := fun ρ o e => by
  simp only [sOrV, Option.bind_eq_some_iff] at e ⊢
  obtain ⟨x, e1, e2⟩ := e
  refine ⟨x, le_test h _ _ e1, ?_⟩
  obtain ⟨b, ρ1⟩ := x
  simp only at e2 ⊢
  split
  · next hb => rw [if_pos hb] at e2; exact e2
  · next hb => rw [if_neg hb] at e2; exact k _ _ e2
theorem le_sIf {t t' : SemT} {f f' g g' : SemE} (h : LeO t t') (k : LeO f f') (l : LeO g g') : LeO (sIf t f g) (sIf t' f' g') := fun ρ o e => by
  simp only [sIf, Option.bind_eq_some_iff] at e ⊢
  obtain ⟨x, e1, e2⟩ := e
  refine ⟨x, h _ _ e1, ?_⟩
  obtain ⟨b, ρ1⟩ := x
  simp only at e2 ⊢
  split
  · next hb => rw [if_pos hb] at e2; exact k _ _ e2
  · next hb => rw [if_neg hb] at e2; exact l _ _ e2
theorem le_fz {i : Nat} {f f' : SemE} (h : LeO f f') : LeO (sFz i f) (sFz i f') := fun ρ o e => h _ _ e
theorem le_fzS {i : Nat} {f f' : SemS} (h : LeO f f') : LeO (sFzS i f) (sFzS i f') := fun ρ o e => h _ _ e
theorem le_ifS3 {t t' : SemT} {a a' b b' : SemS} (h : LeO t t') (k : LeO a a') (l : LeO b b') : LeO (sIfS t a b) (sIfS t' a' b') := fun ρ z e => by
  simp only [sIfS, Option.bind_eq_some_iff] at e ⊢
  obtain ⟨x, e1, e2⟩ := e
  refine ⟨x, h _ _ e1, ?_⟩
  obtain ⟨b, ρ1⟩ := x
  simp only at e2 ⊢
  split
  · next hb => rw [if_pos hb] at e2; exact k _ _ e2
  · next hb => rw [if_neg hb] at e2; exact l _ _ e2
end Pv
end
section
set_option Elab.async false
set_option linter.all false
set_option autoImplicit false
set_option maxRecDepth 1000000
set_option maxHeartbeats 4000000
/-! K62p: the fixed ones. -/
namespace Pv.K62
open PySem L2 PySem.W Pv Pv.Pg Pv.Lw Pv.Ev
def bf_ (G M : Fn) : SemS := (sSeq (sAsg (sTup (sCons (sTup (sCons (sC (.str "hole")) sNil)) (sCons (sTup (sCons (sC (.str "do")) (sCons (sC (.str "x")) sNil))) sNil))) (gT 2 (gsCons (gN 0) (gsCons (gN 1) gsNil)))) (sSeq (sSet 2 (sVar 0)) (sSeq (sFor (iR1 (pCons (sC (.int 39)) pNil)) (gN 3) L1__law_fixed_good) (sSeq (sSet 4 (sOp addF (sTup (sCons (sC (.str "seq")) (sCons (sVar 0) sNil))) (sOp mulF (sTup (sCons (sVar 1) sNil)) (sC (.int 58))))) (sSeq (sSet 5 (sLst (sCons (sVar 0) (sCons (sVar 2) (sCons (sTup (sCons (sC (.str "loop")) (sCons (sVar 2) sNil))) (sCons (sVar 4) (sCons (sOp addF (sVar 4) (sTup (sCons (sVar 1) sNil))) (sCons (sTup (sCons (sC (.str "seq")) (sCons (sVar 0) (sCons (sVar 0) sNil)))) (sCons (sVar 1) sNil))))))))) (sSeq (sSet 5 (sOp addF (sVar 5) (sLst (sCons (sTup (sCons (sC (.str "do")) (sCons (sC (.str "hole")) sNil))) (sCons (sTup (sCons (sC (.str "hold")) (sCons (sC (.str "hole")) (sCons (sVar 0) sNil)))) sNil))))) (sSeq (sSet 5 (sOp addF (sVar 5) (sLst (sCons (sC .none) (sCons (sC (.bool true)) (sCons (sC (.int 0)) (sCons (sC (.str "hole")) (sCons (sTup sNil) (sCons (sLst sNil) (sCons sDct0 (sCons (sTup (sCons (sC (.str "seq")) (sCons (sTup (sCons (sC (.str "loop")) (sCons (sVar 0) sNil))) (sCons (sVar 1) sNil)))) sNil))))))))))) (sSeq (sSet 5 (sOp addF (sVar 5) (sLst (sCons (sTup (sCons (sC (.str "seq")) (sCons (sTup (sCons (sC (.str "loop")) (sCons (sVar 0) sNil))) (sCons (sVar 0) sNil)))) (sCons (sTup (sCons (sC (.str "seq")) (sCons (sVar 0) (sCons (sTup (sCons (sC (.str "call")) (sCons (sC (.str "a")) sNil))) sNil)))) (sCons (sTup (sCons (sC (.str "call")) (sCons (sC (.str "a")) sNil))) sNil)))))) (sSeq (sSet 5 (sOp addF (sVar 5) (sLst (sCons (sTup (sCons (sC (.str "seq")) (sCons (sVar 0) (sCons (sTup (sCons (sC (.str "par")) (sCons (sVar 1) (sCons (sVar 1) sNil)))) sNil)))) (sCons (sTup (sCons (sC (.str "hold")) (sCons (sC (.str "a")) (sCons (sVar 2) sNil)))) (sCons (sTup (sCons (sC (.str "either")) (sCons (sVar 2) (sCons (sVar 1) sNil)))) sNil)))))) (sSeq (sSet 6 (sCB tupleF2 (pCons (sLcS (gN 3) sYes (sTup (sCons (sC (.str "do")) (sCons (sOp mulF (sC (.str "y")) (sOp addF (sVar 3) (sC (.int 1)))) sNil))) [3] (iR1 (pCons (sC (.int 7)) pNil))) pNil))) (sSeq (sSet 5 (sOp addF (sVar 5) (sLst (sCons (sOp addF (sTup (sCons (sC (.str "seq")) (sCons (sVar 0) sNil))) (sVar 6)) (sCons (sOp addF (sTup (sCons (sC (.str "seq")) (sCons (sVar 0) sNil))) (sSl slF (sVar 6) (oSome (sC (.int 1))) oNone)) sNil))))) (sSeq (sSet 7 (sVar 0)) (sSeq (sFor (iR1 (pCons (sC (.int 6)) pNil)) (gN 3) L2__law_fixed_good) (sSeq (sIfS (sNot (sTruth (sCB allF (pCons (sLc (gN 12) sYes (sCall [.v] G (mV (sVar 12) mNil)) [12] (iOf walkOf (sOp addF (sVar 5) (sLst (sCons (sVar 7) (sCons (sOp ixG (sVar 7) (sC (.int 2))) sNil)))))) pNil)))) (sRet (sC (.bool false))) sNx) (sSeq (sSet 8 (sLst (sCons (sTup (sCons (sVar 0) (sCons (sVar 1) sNil))) (sCons (sTup (sCons (sVar 2) (sCons (sVar 1) sNil))) (sCons (sTup (sCons (sVar 2) (sCons (sTup (sCons (sC (.str "loop")) (sCons (sVar 1) sNil))) sNil))) (sCons (sTup (sCons (sVar 4) (sCons (sVar 1) sNil))) (sCons (sTup (sCons (sVar 4) (sCons (sTup (sCons (sC (.str "loop")) (sCons (sVar 1) sNil))) sNil))) sNil))))))) (sSeq (sSet 8 (sOp addF (sVar 8) (sLst (sCons (sTup (sCons (sOp ixG (sVar 7) (sC (.int 2))) (sCons (sTup (sCons (sC (.str "hold")) (sCons (sC (.str "l")) (sCons (sVar 1) sNil)))) sNil))) sNil)))) (sSeq (sSet 8 (sOp addF (sVar 8) (sLst (sCons (sTup (sCons (sOp ixG (sVar 7) (sC (.int 2))) (sCons (sTup (sCons (sC (.str "hold")) (sCons (sC (.str "zz")) (sCons (sVar 1) sNil)))) sNil))) (sCons (sTup (sCons (sOp addF (sTup (sCons (sC (.str "seq")) (sCons (sVar 0) sNil))) (sOp mulF (sTup (sCons (sVar 1) sNil)) (sC (.int 28)))) (sCons (sOp addF (sTup (sCons (sC (.str "seq")) sNil)) (sOp mulF (sTup (sCons (sVar 1) sNil)) (sC (.int 30)))) sNil))) sNil))))) (sSeq (sExpr (sMut "list" 8 appendM (sCons (sTup (sCons (sOp addF (sTup (sCons (sC (.str "seq")) (sCons (sVar 0) sNil))) (sOp mulF (sTup (sCons (sVar 1) sNil)) (sC (.int 28)))) (sCons (sOp addF (sTup (sCons (sC (.str "seq")) sNil)) (sOp mulF (sTup (sCons (sVar 1) sNil)) (sC (.int 31)))) sNil))) sNil))) (sSeq (sSet 8 (sOp addF (sVar 8) (sLst (sCons (sTup (sCons (sTup (sCons (sC (.str "seq")) (sCons (sTup (sCons (sC (.str "do")) (sCons (sC (.str "hole")) sNil))) (sCons (sVar 0) sNil)))) (sCons (sVar 1) sNil))) sNil)))) (sSeq (sSet 8 (sOp addF (sVar 8) (sLst (sCons (sTup (sCons (sTup (sCons (sC (.str "seq")) (sCons (sVar 0) (sCons (sTup (sCons (sC (.str "do")) (sCons (sC (.str "hole")) sNil))) sNil)))) (sCons (sTup (sCons (sC (.str "hold")) (sCons (sC (.str "hole")) (sCons (sVar 1) sNil)))) sNil))) sNil)))) (sSeq (sSet 8 (sOp addF (sVar 8) (sLst (sCons (sTup (sCons (sTup (sCons (sC (.str "hold")) (sCons (sC (.str "hole")) (sCons (sTup (sCons (sC (.str "seq")) (sCons (sTup (sCons (sC (.str "do")) (sCons (sC (.str "hole")) sNil))) (sCons (sVar 0) sNil)))) sNil)))) (sCons (sTup (sCons (sC (.str "do")) (sCons (sC (.str "hole")) sNil))) sNil))) sNil)))) (sSeq (sSet 8 (sOp addF (sVar 8) (sLst (sCons (sTup (sCons (sTup (sCons (sC (.str "seq")) (sCons (sVar 1) (sCons (sVar 1) (sCons (sVar 1) (sCons (sVar 0) (sCons (sVar 1) sNil))))))) (sCons (sVar 1) sNil))) sNil)))) (sSeq (sSet 9 (sLcS (gN 3) sYes (sTup (sCons (sC (.str "do")) (sCons (sOp mulF (sC (.str "y")) (sOp addF (sVar 3) (sC (.int 1)))) sNil))) [3] (iR1 (pCons (sC (.int 6)) pNil)))) (sSeq (sSet 8 (sOp addF (sVar 8) (sLst (sCons (sTup (sCons (sOp addF (sTup (sCons (sC (.str "seq")) (sCons (sVar 0) sNil))) (sCB tupleF2 (pCons (sVar 9) pNil))) (sCons (sTup (sCons (sC (.str "do")) (sCons (sC (.str "yy")) sNil))) sNil))) (sCons (sTup (sCons (sOp addF (sTup (sCons (sC (.str "seq")) (sCons (sVar 0) sNil))) (sCB tupleF2 (pCons (sVar 9) pNil))) (sCons (sVar 1) sNil))) sNil))))) (sRet (sCB allF (pCons (sLc (gT 2 (gsCons (gN 10) (gsCons (gN 11) gsNil))) sYes (sCall [.v, .v] M (mV (sVar 10) (mV (sVar 11) mNil))) [10, 11] (iOf walkOf (sVar 8))) pNil)))))))))))))))))))))))))))
theorem fixed_eq : b__law_fixed_good = bf_ F__law_good F__law_fill_good := rfl
theorem le_fixed {G G' M M' : Fn} (h0 : LeO G G') (h1 : LeO M M') : LeO (bf_ G M) (bf_ G' M') := by
  unfold bf_
  repeat (first | with_reducible exact le_rfl_ _ | exact h0 | exact h1 | apply le_seq2 | apply le_ret | apply le_ifS3 | apply le_set | apply le_and2 | apply le_orB | apply le_not | apply le_truth | apply le_test | apply le_for | apply le_andV | apply le_orV | apply le_notV | apply le_op | apply le_sIf | apply le_fz | apply le_fzS | apply le_cb | apply le_pCons | apply le_lcS | apply le_lc | apply le_call)
def okG (ds : List D) : Bool := match ds with
  | [v] => okVB v && decide (v.depth ≤ 44)
  | _ => false
def okM (ds : List D) : Bool := match ds with
  | [v, b] => (okVB v && frameB v) && ((okVB b && bodyB [] b) && okVB (fill v b))
  | _ => false
/-- a test in the place of a call, where it holds -/
def fnOr (p : List D → Bool) (F : Fn) : Fn := fun ds => if p ds = true then some ((.bool true, false), []) else F ds
theorem le_fnOr {p : List D → Bool} {F : Fn} (h : ∀ ds, p ds = true → F ds = some ((.bool true, false), [])) : LeO (fnOr p F) F := fun ds z e => by
  unfold fnOr at e
  split at e
  · next hp => rw [h ds hp]; exact e
  · exact e
theorem le_G : LeO (fnOr okG F__law_good) F__law_good := le_fnOr fun ds h => by
  unfold okG at h
  split at h
  · simp only [Bool.and_eq_true, decide_eq_true_eq] at h
    have ok := OkV.ofB h.1
    exact good_D _ ok h.2 (swap_ok ok)
  · cases h
theorem le_M : LeO (fnTest okM) F__law_fill_good := le_fnTest fun ds h => by
  unfold okM at h
  split at h
  · simp only [Bool.and_eq_true] at h
    exact fill_good_D _ _ (.ofB h.1.1) h.1.2 (.ofB h.2.1.1) h.2.1.2 (.ofB h.2.2)
  · cases h
theorem fixed_dict : isTr (F__law_good [.dict []]) = true := by decide +kernel
theorem fixed_kernel : isTr (fnOf 13 [] (bf_ (fnOr okG F__law_good) (fnTest okM)) []) = true := by decide +kernel
theorem fixed_good : F__law_fixed_good [] = some ((.bool true, false), []) := by
  have e : F__law_fixed_good = fnOf 13 [] (bf_ F__law_good F__law_fill_good) := rfl
  rw [e]
  exact le_fn (le_fixed le_G le_M) _ _ (isTr_eq fixed_kernel)
end Pv.K62
end
section
set_option Elab.async false
set_option linter.all false
set_option autoImplicit false
set_option maxRecDepth 100000
set_option maxHeartbeats 1000000
/-! PyB: loops by relations; comprehensions that draw; comprehensions of two clauses, of dicts. -/
namespace Pv.Ev
open PySem L2 Pv
section
variable {g : SemG} {b : SemS} {α σ : Type} {k : α → D}
/-- one pass of a loop -/
def foP (g : SemG) (b : SemS) (d : D) (ρ : Ro) : Option Out := bd (g d ρ) b
@[scoped simp] theorem foP_u (g : SemG) (b : SemS) (d : D) (ρ : Ro) : foP g b d ρ = bd (g d ρ) b := rfl
theorem foP_some {d : D} {ρ : Ro} {o : Out} (h : foP g b d ρ = some o) : ∃ ρ1, g d ρ = some ρ1 ∧ b ρ1 = some o := bd_eq.mp h
theorem foP_gN {i : Nat} {d : D} {ρ : Ro} (h : slotC ρ[i]? = true) : foP (gN i) b d ρ = b (ρ.set i (some (.val d))) := by
  rw [foP_u, gN_u, store_v, if_pos h]
  rfl
theorem for_rel (R : σ → Ro → Prop) (st : σ → α → σ) : ∀ (xs : List α) (s : σ) (ρ : Ro), R s ρ → (∀ x ∈ xs, ∀ s ρ, R s ρ → ∃ ρ', foP g b (k x) ρ = some (.nx ρ') ∧ R (st s x) ρ') →
    ∃ ρ', forL g b (xs.map k) ρ = some (.nx ρ') ∧ R (xs.foldl st s) ρ'
  | [], s, ρ, r, _ => ⟨ρ, rfl, r⟩
  | x :: xs, s, ρ, r, H => by
    obtain ⟨ρ1, e, r1⟩ := H x List.mem_cons_self s ρ r
    obtain ⟨ρ2, e1, e2⟩ := foP_some e
    simp only [List.map_cons, forL, e1, e2, Option.bind_some]
    exact for_rel R st xs _ ρ1 r1 fun y hy => H y (List.mem_cons_of_mem _ hy)
theorem for_pre (R : List α → Ro → Prop) (xs : List α) (ρ : Ro) (r : R [] ρ) (H : ∀ pre x post, xs = pre ++ x :: post → ∀ ρ, R pre ρ → ∃ ρ', foP g b (k x) ρ = some (.nx ρ') ∧ R (pre ++ [x]) ρ') :
    ∃ ρ', forL g b (xs.map k) ρ = some (.nx ρ') ∧ R xs ρ' := by
  have key : ∀ (post pre : List α) (ρ : Ro), xs = pre ++ post → R pre ρ → ∃ ρ', forL g b (post.map k) ρ = some (.nx ρ') ∧ R xs ρ' := by
    intro post
    induction post with
    | nil => intro pre ρ e r; rw [List.append_nil] at e; exact ⟨ρ, rfl, by rw [e]; exact r⟩
    | cons x post ih =>
      intro pre ρ e r
      obtain ⟨ρ1, e1, r1⟩ := H pre x post e ρ r
      obtain ⟨ρ2, e2, e3⟩ := foP_some e1
      simp only [List.map_cons, forL, e2, e3, Option.bind_some]
      exact ih (pre ++ [x]) ρ1 (by rw [e]; simp) r1
  exact key xs [] ρ rfl r
/-- a loop over what may end early -/
theorem for_end (I : List α → Ro → Prop) (B : List α → α → Prop) (R' : Ro → Prop) (z : Rv) (xs : List α) (ρ : Ro) (r : I [] ρ) (H : ∀ pre x post, xs = pre ++ x :: post → ∀ ρ, I pre ρ → (∃ ρ', foP g b (k x) ρ = some (.nx ρ') ∧ I (pre ++ [x]) ρ') ∨ (B pre x ∧ ∃ ρ', foP g b (k x) ρ = some (.rt z ρ') ∧ R' ρ')) :
    (∃ ρ', forL g b (xs.map k) ρ = some (.nx ρ') ∧ I xs ρ') ∨ ∃ pre x post ρ', xs = pre ++ x :: post ∧ B pre x ∧ forL g b (xs.map k) ρ = some (.rt z ρ') ∧ R' ρ' := by
  have key : ∀ (post pre : List α) (ρ : Ro), xs = pre ++ post → I pre ρ → (∃ ρ', forL g b (post.map k) ρ = some (.nx ρ') ∧ I xs ρ') ∨ ∃ pre x post' ρ', xs = pre ++ x :: post' ∧ B pre x ∧ forL g b (post.map k) ρ = some (.rt z ρ') ∧ R' ρ' := by
    intro post
    induction post with
    | nil => intro pre ρ e r; rw [List.append_nil] at e; exact .inl ⟨ρ, rfl, by rw [e]; exact r⟩
    | cons x post ih =>
      intro pre ρ e r
      rcases H pre x post e ρ r with ⟨ρ1, e1, r1⟩ | ⟨hb, ρ1, e1, r1⟩
      · obtain ⟨ρ2, e2, e3⟩ := foP_some e1
        simp only [List.map_cons, forL, e2, e3, Option.bind_some]
        exact ih (pre ++ [x]) ρ1 (by rw [e]; simp) r1
      · obtain ⟨ρ2, e2, e3⟩ := foP_some e1
        simp only [List.map_cons, forL, e2, e3, Option.bind_some]
        exact .inr ⟨pre, x, post, ρ1, e, hb, rfl, r1⟩
  exact key xs [] ρ rfl r
/-- .. with what it ends -/
theorem for_endz (I : List α → Ro → Prop) (B : List α → α → Prop) (R' : Ro → Prop) (z : List α → α → Rv) (xs : List α) (ρ : Ro) (r : I [] ρ) (H : ∀ pre x post, xs = pre ++ x :: post → ∀ ρ, I pre ρ → (∃ ρ', foP g b (k x) ρ = some (.nx ρ') ∧ I (pre ++ [x]) ρ') ∨ (B pre x ∧ ∃ ρ', foP g b (k x) ρ = some (.rt (z pre x) ρ') ∧ R' ρ')) :
    (∃ ρ', forL g b (xs.map k) ρ = some (.nx ρ') ∧ I xs ρ') ∨ ∃ pre x post ρ', xs = pre ++ x :: post ∧ B pre x ∧ forL g b (xs.map k) ρ = some (.rt (z pre x) ρ') ∧ R' ρ' := by
  have key : ∀ (post pre : List α) (ρ : Ro), xs = pre ++ post → I pre ρ → (∃ ρ', forL g b (post.map k) ρ = some (.nx ρ') ∧ I xs ρ') ∨ ∃ pre x post' ρ', xs = pre ++ x :: post' ∧ B pre x ∧ forL g b (post.map k) ρ = some (.rt (z pre x) ρ') ∧ R' ρ' := by
    intro post
    induction post with
    | nil => intro pre ρ e r; rw [List.append_nil] at e; exact .inl ⟨ρ, rfl, by rw [e]; exact r⟩
    | cons x post ih =>
      intro pre ρ e r
      rcases H pre x post e ρ r with ⟨ρ1, e1, r1⟩ | ⟨hb, ρ1, e1, r1⟩
      · obtain ⟨ρ2, e2, e3⟩ := foP_some e1
        simp only [List.map_cons, forL, e2, e3, Option.bind_some]
        exact ih (pre ++ [x]) ρ1 (by rw [e]; simp) r1
      · obtain ⟨ρ2, e2, e3⟩ := foP_some e1
        simp only [List.map_cons, forL, e2, e3, Option.bind_some]
        exact .inr ⟨pre, x, post, ρ1, e, hb, rfl, r1⟩
  exact key xs [] ρ rfl r
theorem for_inv (R : Ro → Prop) (xs : List α) (ρ : Ro) (r : R ρ) (H : ∀ x ∈ xs, ∀ ρ, R ρ → ∃ ρ', foP g b (k x) ρ = some (.nx ρ') ∧ R ρ') :
    ∃ ρ', forL g b (xs.map k) ρ = some (.nx ρ') ∧ R ρ' := for_rel (σ := Unit) (fun _ => R) (fun s _ => s) xs () ρ r fun x hx _ ρ r => H x hx ρ r
/-- a loop that ends at the first one that is not ok -/
theorem for_try (R R' : Ro → Prop) (ok : α → Bool) (z : Rv) : ∀ (xs : List α) (ρ : Ro), R ρ → (∀ x ∈ xs, ∀ ρ, R ρ → (ok x = true → ∃ ρ', foP g b (k x) ρ = some (.nx ρ') ∧ R ρ') ∧ (ok x = false → ∃ ρ', foP g b (k x) ρ = some (.rt z ρ') ∧ R' ρ')) →
    (xs.all ok = true → ∃ ρ', forL g b (xs.map k) ρ = some (.nx ρ') ∧ R ρ') ∧ (xs.all ok = false → ∃ ρ', forL g b (xs.map k) ρ = some (.rt z ρ') ∧ R' ρ')
  | [], ρ, r, _ => ⟨fun _ => ⟨ρ, rfl, r⟩, fun h => by cases h⟩
  | x :: xs, ρ, r, H => by
    obtain ⟨h1, h2⟩ := H x List.mem_cons_self ρ r
    simp only [List.map_cons, forL, List.all_cons]
    cases hk : ok x with
    | true =>
      obtain ⟨ρ1, e, r1⟩ := h1 hk
      obtain ⟨ρ2, e1, e2⟩ := foP_some e
      simp only [e1, e2, Option.bind_some, Bool.true_and]
      exact for_try R R' ok z xs ρ1 r1 fun y hy => H y (List.mem_cons_of_mem _ hy)
    | false =>
      obtain ⟨ρ1, e, r1⟩ := h2 hk
      obtain ⟨ρ2, e1, e2⟩ := foP_some e
      simp only [e1, e2, Option.bind_some, Bool.false_and]
      exact ⟨fun h => absurd h Bool.false_ne_true, fun _ => ⟨ρ1, rfl, r1⟩⟩
/-- a loop that may end at any one: what it ends with -/
theorem for_any (R : σ → Ro → Prop) (Z : Rv → Prop) : ∀ (xs : List α) (s : σ) (ρ : Ro), R s ρ → (∀ x ∈ xs, ∀ s ρ, R s ρ → (∃ ρ' s', foP g b (k x) ρ = some (.nx ρ') ∧ R s' ρ') ∨ ∃ z ρ', foP g b (k x) ρ = some (.rt z ρ') ∧ Z z) →
    (∃ ρ' s', forL g b (xs.map k) ρ = some (.nx ρ') ∧ R s' ρ') ∨ ∃ z ρ', forL g b (xs.map k) ρ = some (.rt z ρ') ∧ Z z
  | [], s, ρ, r, _ => .inl ⟨ρ, s, rfl, r⟩
  | x :: xs, s, ρ, r, H => by
    rcases H x List.mem_cons_self s ρ r with ⟨ρ1, s1, e, r1⟩ | ⟨z, ρ1, e, r1⟩
    · obtain ⟨ρ2, e1, e2⟩ := foP_some e
      simp only [List.map_cons, forL, e1, e2, Option.bind_some]
      exact for_any R Z xs s1 ρ1 r1 fun y hy => H y (List.mem_cons_of_mem _ hy)
    · obtain ⟨ρ2, e1, e2⟩ := foP_some e
      simp only [List.map_cons, forL, e1, e2, Option.bind_some]
      exact .inr ⟨z, ρ1, rfl, r1⟩
end
section
variable {g : SemG} {el : SemE} {vs : List Nat} {α β : Type} {k : α → D} {f : β → D}
/-- a comprehension each pass of which draws something -/
theorem lc_draw (R : Ro → Prop) (Q : β → Prop) : ∀ (xs : List α) (n : Nat) (ρ : Ro), R ρ → n + xs.length ≤ sizeLine → (∀ x ∈ xs, ∀ ρ, R ρ → ∃ ρ' y, lcQ g el vs (k x) ρ = some (f y, ρ') ∧ R ρ' ∧ Q y) →
    ∃ (ρ' : Ro) (ys : List β), lcL g sYes el vs (xs.map k) n ρ = some (ys.map f, ρ') ∧ R ρ' ∧ ys.length = xs.length ∧ ∀ y ∈ ys, Q y
  | [], n, ρ, r, _, _ => ⟨ρ, [], rfl, r, rfl, fun y h => by cases h⟩
  | x :: xs, n, ρ, r, hz, H => by
    obtain ⟨ρ1, y, e, r1, q⟩ := H x List.mem_cons_self ρ r
    rw [lcQ_u, bd_eq] at e
    obtain ⟨ρa, e1, e⟩ := e
    rw [bd_eq] at e
    obtain ⟨⟨r, ρb⟩, e2, e⟩ := e
    rw [bd_eq] at e
    obtain ⟨⟨z, ρc⟩, e3, e⟩ := e
    simp only [Option.some.injEq, Prod.mk.injEq] at e
    obtain ⟨rfl, e4⟩ := e
    simp only [List.length_cons] at hz
    have lt : n < sizeLine := by omega
    obtain ⟨ρ2, ys, e5, r2, hl, hq⟩ := lc_draw R Q xs (n + 1) ρ1 r1 (by omega) fun y hy => H y (List.mem_cons_of_mem _ hy)
    simp only at e2 e3 e4
    refine ⟨ρ2, y :: ys, ?_, r2, by simp [hl], fun w hw => ?_⟩
    · simp only [List.map_cons, lcL, e1, Option.bind_some, sYes, e2, e3, e4, lt, if_true, e5]
    · rcases List.mem_cons.mp hw with rfl | hw
      · exact q
      · exact hq w hw
/-- a comprehension of one's own that hands something on -/
theorem lc_rel {σ : Type} (R : σ → Ro → Prop) (st : σ → α → σ) (out : σ → α → D) : ∀ (xs : List α) (n : Nat) (s : σ) (ρ : Ro), R s ρ → n + xs.length ≤ sizeLine → (∀ x ∈ xs, ∀ s ρ, R s ρ → ∃ ρ', lcQ g el vs (k x) ρ = some (out s x, ρ') ∧ R (st s x) ρ') →
    ∃ (ρ' : Ro) (zs : List D), lcL g sYes el vs (xs.map k) n ρ = some (zs, ρ') ∧ R (xs.foldl st s) ρ' ∧ zs.length = xs.length
  | [], n, s, ρ, r, _, _ => ⟨ρ, [], rfl, r, rfl⟩
  | x :: xs, n, s, ρ, r, hz, H => by
    obtain ⟨ρ1, e, r1⟩ := H x List.mem_cons_self s ρ r
    rw [lcQ_u, bd_eq] at e
    obtain ⟨ρa, e1, e⟩ := e
    rw [bd_eq] at e
    obtain ⟨⟨r, ρb⟩, e2, e⟩ := e
    rw [bd_eq] at e
    obtain ⟨⟨z, ρc⟩, e3, e⟩ := e
    simp only [Option.some.injEq, Prod.mk.injEq] at e
    obtain ⟨rfl, e4⟩ := e
    simp only [List.length_cons] at hz
    have lt : n < sizeLine := by omega
    obtain ⟨ρ2, zs, e5, r2, hl⟩ := lc_rel R st out xs (n + 1) _ ρ1 r1 (by omega) fun y hy => H y (List.mem_cons_of_mem _ hy)
    simp only at e2 e3 e4
    refine ⟨ρ2, out s x :: zs, ?_, r2, by simp [hl]⟩
    simp only [List.map_cons, lcL, e1, Option.bind_some, sYes, e2, e3, e4, lt, if_true, e5]
end
/-! two clauses -/
section
variable {g g1 : SemG} {t t1 : SemT} {it1 : SemI} {el : SemE} {vs vs1 : List Nat} {ρ : Ro} {α : Type}
/-- one pass of the outer clause -/
def lcI (g : SemG) (it1 : SemI) (g1 : SemG) (t1 : SemT) (el : SemE) (vs vs1 : List Nat) (n : Nat) (d : D) (ρ : Ro) : Option (List D × Ro) :=
  bd (g d ρ) fun ρ1 => bd (it1 ρ1) fun x => if clearAt x.2 vs1 = true then bd (lcL g1 t1 el vs1 x.1 n x.2) fun y => some (y.1, wipeR y.2 vs) else none
@[scoped simp] theorem lcI_u (n : Nat) (d : D) : lcI g it1 g1 t1 el vs vs1 n d ρ = bd (g d ρ) fun ρ1 => bd (it1 ρ1) fun x => if clearAt x.2 vs1 = true then bd (lcL g1 t1 el vs1 x.1 n x.2) fun y => some (y.1, wipeR y.2 vs) else none := rfl
theorem lc_i {k : α → D} {h : α → List D} : ∀ {xs : List α} {n : Nat}, (∀ x ∈ xs, ∀ m, m + (h x).length ≤ sizeLine → lcI g it1 g1 t1 el vs vs1 m (k x) ρ = some (h x, ρ)) → n + (xs.flatMap h).length ≤ sizeLine → lc2L g sYes it1 g1 t1 el vs vs1 (xs.map k) n ρ = some (xs.flatMap h, ρ)
  | [], _, _, _ => rfl
  | x :: xs, n, H, hz => by
    simp only [List.flatMap_cons, List.length_append] at hz
    have e := H x List.mem_cons_self n (by omega)
    rw [lcI_u, bd_eq] at e
    obtain ⟨ρ1, e1, e⟩ := e
    rw [bd_eq] at e
    obtain ⟨⟨ds, ρ2⟩, e2, e⟩ := e
    split at e
    · next hc =>
      rw [bd_eq] at e
      obtain ⟨⟨zs, ρ3⟩, e3, e⟩ := e
      simp only [Option.some.injEq, Prod.mk.injEq] at e
      obtain ⟨rfl, e4⟩ := e
      have ih := lc_i (fun y hy => H y (List.mem_cons_of_mem _ hy)) (n := n + (h x).length) (by omega)
      simp only at e2 e3 e4 hc
      have ey : ∀ ρ, sYes ρ = some (true, ρ) := fun _ => rfl
      simp only [List.map_cons, lc2L, e1, Option.bind_some, ey, e2, hc, e3, e4, if_true, ih, List.flatMap_cons]
    · cases e
end
end Pv.Ev
end
section
set_option Elab.async false
set_option linter.all false
set_option autoImplicit false
set_option maxRecDepth 100000
set_option maxHeartbeats 2000000
/-! K62z: the law k62, plain. -/
namespace Pv.K62
open PySem L2 PySem.W Pv Pv.Pg Pv.Lw Pv.Ev
def XY : List Str := ["x", "y"]
theorem gXY : GW XY := ⟨by decide, by decide, by
  intro w hw
  have : XY.all (fun w => okVB (.str w) && nameB w && decide ((PyData.str w).weight ≤ 8)) = true := by decide +kernel
  have := List.all_eq_true.mp this w hw
  simp only [Bool.and_eq_true, decide_eq_true_eq] at this
  exact ⟨this.1.1, this.1.2, this.2⟩⟩
theorem cellD (ns : List Int) (k : Nat) (hk : k < 1000) : ∃ c : Int, F__law_cell [.list (ns.map .int), .int k] = some ((.int c, false), []) := Lw.cell_D ns k hk
theorem six_loop (c0 c1 c3 : Option Cell) (x : Int) (vs : List D) (b : D) (hv : Pz (.tuple vs)) (hb : Pz b) :
    ∃ x' : Int, lcL (gN 6) sYes (sCall [.v] F__law_good (mV (sCall [.r, .v, .v] F__law_bent (mR (sVar 2) (mV (sVar 4) (mV (sVar 5) mNil)))) mNil)) [6] (rng 0 6) 0 [c0, c1, some (.own (.list [.int x])), c3, some (.val (.tuple vs)), some (.val b), none] =
      some (List.replicate 6 (.bool true), [c0, c1, some (.own (.list [.int x'])), c3, some (.val (.tuple vs)), some (.val b), none]) := by
  obtain ⟨ρ', ys, L, ⟨x', rfl⟩, hl, hy⟩ := lc_draw (g := gN 6) (el := sCall [.v] F__law_good (mV (sCall [.r, .v, .v] F__law_bent (mR (sVar 2) (mV (sVar 4) (mV (sVar 5) mNil)))) mNil)) (vs := [6]) (k := fun i : Nat => PyData.int ((0 : Int) + i)) (f := fun d : D => d) (fun ρ => ∃ y : Int, ρ = [c0, c1, some (.own (.list [.int y])), c3, some (.val (.tuple vs)), some (.val b), none]) (fun d => d = .bool true) (List.range 6) 0 [c0, c1, some (.own (.list [.int x])), c3, some (.val (.tuple vs)), some (.val b), none] ⟨x, rfl⟩ (by decide) (fun i hi ρ hρ => by
    obtain ⟨y, rfl⟩ := hρ
    obtain ⟨y', w, e, ok, dep⟩ := bent_D y vs b hv hb
    have gd := good_D w ok dep (swap_ok ok)
    refine ⟨[c0, c1, some (.own (.list [.int y'])), c3, some (.val (.tuple vs)), some (.val b), none], .bool true, ?_, ⟨y', rfl⟩, rfl⟩
    simp -implicitDefEqProofs [e, gd])
  rw [List.length_range] at hl
  have ey : ys = List.replicate 6 (.bool true) := List.eq_replicate_iff.mpr ⟨hl, hy⟩
  rw [ey, List.map_id'] at L
  exact ⟨x', L⟩
theorem turn_step (ns : List Int) (k : Nat) (hk : k < 1000) (c1 c2 c3 c4 c5 : Option D) (h3 : True) :
    ∃ (d1 d2 d3 d4 d5 : Option D), foP (gN 1) L1_law (.int (k : Nat)) [some (.scr (ns.map .int)), c1.map .val, c2.map .own, c3.map .val, c4.map .val, c5.map .val, none] =
      some (.nx [some (.scr (ns.map .int)), d1.map .val, d2.map .own, d3.map .val, d4.map .val, d5.map .val, none]) := by
  obtain ⟨x, hx⟩ := cellD ns k hk
  obtain ⟨x1, ws, w1, w2, w3, w4⟩ := words_D x 3 (by omega)
  have w1 : F__law_words [.list [.int x], .int 3] = _ := w1
  have gw : GW ws := .of (by intro e; rw [e] at w2; cases w2) (by omega) w4
  have t4 := take_D x1 4 (by decide) (by decide)
  obtain ⟨m, hm, em⟩ : ∃ m : Nat, m ≤ 3 ∧ x1 % 4 = m := ⟨(x1 % 4).toNat, by omega, by omega⟩
  rw [em] at t4
  obtain ⟨x2, v, fe, fv⟩ := frame_D ws XY gw gXY m 45 (by omega) hm (x1 / 4)
  obtain ⟨x3, b, be, bv⟩ := body_Q [] ws XY gw gXY 2 45 (by omega) (by omega) x2
  have fe : F__law_frame 45 [.list [.int (x1 / 4)], .list (ws.map .str), .list [.str "x", .str "y"], .int (m : Nat)] = _ := fe
  have be : F__law_body 45 [.list [.int x2], .list (ws.map .str), .list [.str "x", .str "y"], .int 2] = _ := be
  have wm : wF m ≤ 480 := by rcases (by omega : m = 0 ∨ m = 1 ∨ m = 2 ∨ m = 3) with rfl | rfl | rfl | rfl <;> decide
  have cm : cF m ≤ 39 := by rcases (by omega : m = 0 ∨ m = 1 ∨ m = 2 ∨ m = 3) with rfl | rfl | rfl | rfl <;> decide
  have e272 : wtB 2 = 272 := rfl
  have e13 : cB 2 = 13 := rfl
  have fd := fv.q.dep
  have fw := fv.q.wgt
  have bd := bv.dep
  have bw := bv.wgt
  have pv : Pz v := ⟨fv.q.ok, by omega, by omega⟩
  have pb : Pz b := ⟨bv.ok, by omega, by omega⟩
  have xl : XY.length = 2 := rfl
  have fr : frameB v = true := by
    unfold frameB
    rw [body_of fv.q.parts (by omega) (by omega) (by omega) (by omega), fv.c]
    rfl
  have bb : bodyB [] b = true := body_of bv.parts (by omega) (by omega) (by omega) (by omega)
  have g1 := good_D v fv.q.ok (by omega) (swap_ok fv.q.ok)
  have g2 := good_D b bv.ok (by omega) (swap_ok bv.ok)
  have g3 := fill_good_D v b fv.q.ok fr bv.ok bb (fill_ok fv.q.ok bv.ok fv.c (by omega) (by omega))
  obtain ⟨vs, rfl⟩ : ∃ vs, v = .tuple vs := by
    obtain ⟨ps, e, _⟩ := fv.q.parts
    obtain ⟨ms, _, p, _⟩ := parts_ok e
    obtain ⟨ds, e, _⟩ := p.sub
    exact ⟨ds, e⟩
  obtain ⟨x4, L⟩ := six_loop (some (.scr (ns.map .int))) (some (.val (.int (k : Nat)))) (some (.val (.list (ws.map .str)))) x3 vs b pv pb
  have al : asBls [PyData.bool true, .bool true, .bool true, .bool true, .bool true, .bool true] = some [true, true, true, true, true, true] := rfl
  have z1 : (1 : Nat) ≤ sizeLine := by decide
  have z2 : (2 : Nat) ≤ sizeLine := by decide
  have s6 : small62 (6 : Int) = true := by decide
  refine ⟨some (.int (k : Nat)), some (.list [.int x4]), some (.list (ws.map .str)), some (.tuple vs), some b, ?_⟩
  unfold L1_law
  generalize ws.map PyData.str = WS at *
  generalize ns.map PyData.int = NS at *
  generalize PyData.tuple vs = V at *
  simp -implicitDefEqProofs [hx, w1, t4, fe, be, g1, g2, g3, ↓L, al, z1, z2, s6]
theorem turns (ns : List Int) : ∃ N : Nat, (if (1 : Int) > (if (5 : Int) < ns.length then 5 else (ns.length : Int)) then 1 else (if (5 : Int) < ns.length then 5 else (ns.length : Int))) = N ∧ N ≤ 5 := by
  by_cases h1 : (5 : Int) < ns.length
  · exact ⟨5, by simp [h1], by omega⟩
  · by_cases h2 : (1 : Int) > ns.length
    · exact ⟨1, by simp [h1, h2], by omega⟩
    · exact ⟨ns.length, by simp only [h1, if_false, h2], by omega⟩
theorem plain_law : ∀ ns : List Int, ns.length ≤ 63 → (∀ z ∈ ns, Builtin.Int.intBits z ≤ 1048576) → F_law [.list (ns.map PyData.int)] = some ((.bool true, false), []) := by
  intro ns hns _
  obtain ⟨N, eN, hN⟩ := turns ns
  have sN : small62 (N : Int) = true := small_of N (by omega)
  obtain ⟨ρ', L, c1, c2, c3, c4, c5, rfl⟩ := for_inv (g := gN 1) (b := L1_law) (k := fun i : Nat => PyData.int ((0 : Int) + i)) (fun ρ => ∃ (c1 c2 c3 c4 c5 : Option D), ρ = [some (.scr (ns.map .int)), c1.map .val, c2.map .own, c3.map .val, c4.map .val, c5.map .val, none])
    (List.range N) [some (.scr (ns.map .int)), none, none, none, none, none, none] ⟨none, none, none, none, none, rfl⟩ (fun i hi ρ hρ => by
      obtain ⟨c1, c2, c3, c4, c5, rfl⟩ := hρ
      have hi := List.mem_range.mp hi
      obtain ⟨d1, d2, d3, d4, d5, st⟩ := turn_step ns i (by omega) c1 c2 c3 c4 c5 trivial
      rw [Int.zero_add]
      exact ⟨_, st, d1, d2, d3, d4, d5, rfl⟩)
  have L : forL (gN 1) L1_law (rng 0 N) _ = _ := L
  have fx := fixed_good
  have bk : ∀ c : Option Cell, ∀ ρ, backsOf [Md.s] (c :: ρ) = some [] := fun _ _ => rfl
  unfold F_law b_law
  simp -implicitDefEqProofs [eN, sN, ↓L, fx, bk]
end Pv.K62
end
section
set_option Elab.async false
set_option linter.all false
set_option maxRecDepth 100000
namespace Pv.K62
open PySem PySem.Spec PyProof.Rows L2 PySem.W Pv Pv.Pg Pv.Lw
theorem tops {K : Fr'} {h : Heap} {mg : Str → Option Value} (X : K.In h) (G : h.Ns mainGlobals mg)
    {f1 : Addr} {od1 an1 : Option Addr} {sl1 : Array (Option Value)} {oc1 kV1 dc1 pm1 cd1 ct1 : Value} (a1 : PySem.W.nsIn K mainGlobals "is_name" = some (some (.ref f1)))
    (l1 : K.lookup f1 = some ⟨oc1, od1, .func (PySem.W.fnOf "is_name" "is_name" (defArgs (top 12)) (defBody (top 12)) (defScope (top 12)) .none kV1 dc1 pm1 an1 cd1 ct1), sl1⟩) (c1 : PySem.W.codeIn K cd1 "is_name" = true) (k1 : PySem.W.keepIn K (.ref f1) = true)
    {f2 : Addr} {od2 an2 : Option Addr} {sl2 : Array (Option Value)} {oc2 kV2 dc2 pm2 cd2 ct2 : Value} (a2 : PySem.W.nsIn K mainGlobals "has_form" = some (some (.ref f2)))
    (l2 : K.lookup f2 = some ⟨oc2, od2, .func (PySem.W.fnOf "has_form" "has_form" (defArgs (top 13)) (defBody (top 13)) (defScope (top 13)) .none kV2 dc2 pm2 an2 cd2 ct2), sl2⟩) (c2 : PySem.W.codeIn K cd2 "has_form" = true) (k2 : PySem.W.keepIn K (.ref f2) = true)
    {f3 : Addr} {od3 an3 : Option Addr} {sl3 : Array (Option Value)} {oc3 kV3 dc3 pm3 cd3 ct3 : Value} (a3 : PySem.W.nsIn K mainGlobals "members" = some (some (.ref f3)))
    (l3 : K.lookup f3 = some ⟨oc3, od3, .func (PySem.W.fnOf "members" "members" (defArgs (top 14)) (defBody (top 14)) (defScope (top 14)) .none kV3 dc3 pm3 an3 cd3 ct3), sl3⟩) (c3 : PySem.W.codeIn K cd3 "members" = true) (k3 : PySem.W.keepIn K (.ref f3) = true)
    {f4 : Addr} {od4 an4 : Option Addr} {sl4 : Array (Option Value)} {oc4 kV4 dc4 pm4 cd4 ct4 : Value} (a4 : PySem.W.nsIn K mainGlobals "with_members" = some (some (.ref f4)))
    (l4 : K.lookup f4 = some ⟨oc4, od4, .func (PySem.W.fnOf "with_members" "with_members" (defArgs (top 15)) (defBody (top 15)) (defScope (top 15)) .none kV4 dc4 pm4 an4 cd4 ct4), sl4⟩) (c4 : PySem.W.codeIn K cd4 "with_members" = true) (k4 : PySem.W.keepIn K (.ref f4) = true)
    {f5 : Addr} {od5 an5 : Option Addr} {sl5 : Array (Option Value)} {oc5 kV5 dc5 pm5 cd5 ct5 : Value} (a5 : PySem.W.nsIn K mainGlobals "parts_in" = some (some (.ref f5)))
    (l5 : K.lookup f5 = some ⟨oc5, od5, .func (PySem.W.fnOf "parts_in" "parts_in" (defArgs (top 16)) (defBody (top 16)) (defScope (top 16)) .none kV5 dc5 pm5 an5 cd5 ct5), sl5⟩) (c5 : PySem.W.codeIn K cd5 "parts_in" = true) (k5 : PySem.W.keepIn K (.ref f5) = true)
    {f6 : Addr} {od6 an6 : Option Addr} {sl6 : Array (Option Value)} {oc6 kV6 dc6 pm6 cd6 ct6 : Value} (a6 : PySem.W.nsIn K mainGlobals "named_in" = some (some (.ref f6)))
    (l6 : K.lookup f6 = some ⟨oc6, od6, .func (PySem.W.fnOf "named_in" "named_in" (defArgs (top 17)) (defBody (top 17)) (defScope (top 17)) .none kV6 dc6 pm6 an6 cd6 ct6), sl6⟩) (c6 : PySem.W.codeIn K cd6 "named_in" = true) (k6 : PySem.W.keepIn K (.ref f6) = true)
    {f7 : Addr} {od7 an7 : Option Addr} {sl7 : Array (Option Value)} {oc7 kV7 dc7 pm7 cd7 ct7 : Value} (a7 : PySem.W.nsIn K mainGlobals "set_of" = some (some (.ref f7)))
    (l7 : K.lookup f7 = some ⟨oc7, od7, .func (PySem.W.fnOf "set_of" "set_of" (defArgs (top 18)) (defBody (top 18)) (defScope (top 18)) .none kV7 dc7 pm7 an7 cd7 ct7), sl7⟩) (c7 : PySem.W.codeIn K cd7 "set_of" = true) (k7 : PySem.W.keepIn K (.ref f7) = true)
    {f8 : Addr} {od8 an8 : Option Addr} {sl8 : Array (Option Value)} {oc8 kV8 dc8 pm8 cd8 ct8 : Value} (a8 : PySem.W.nsIn K mainGlobals "is_formed" = some (some (.ref f8)))
    (l8 : K.lookup f8 = some ⟨oc8, od8, .func (PySem.W.fnOf "is_formed" "is_formed" (defArgs (top 19)) (defBody (top 19)) (defScope (top 19)) .none kV8 dc8 pm8 an8 cd8 ct8), sl8⟩) (c8 : PySem.W.codeIn K cd8 "is_formed" = true) (k8 : PySem.W.keepIn K (.ref f8) = true)
    {f9 : Addr} {od9 an9 : Option Addr} {sl9 : Array (Option Value)} {oc9 kV9 dc9 pm9 cd9 ct9 : Value} (a9 : PySem.W.nsIn K mainGlobals "is_body" = some (some (.ref f9)))
    (l9 : K.lookup f9 = some ⟨oc9, od9, .func (PySem.W.fnOf "is_body" "is_body" (defArgs (top 20)) (defBody (top 20)) (defScope (top 20)) .none kV9 dc9 pm9 an9 cd9 ct9), sl9⟩) (c9 : PySem.W.codeIn K cd9 "is_body" = true) (k9 : PySem.W.keepIn K (.ref f9) = true)
    {f10 : Addr} {od10 an10 : Option Addr} {sl10 : Array (Option Value)} {oc10 kV10 dc10 pm10 cd10 ct10 : Value} (a10 : PySem.W.nsIn K mainGlobals "check_body" = some (some (.ref f10)))
    (l10 : K.lookup f10 = some ⟨oc10, od10, .func (PySem.W.fnOf "check_body" "check_body" (defArgs (top 21)) (defBody (top 21)) (defScope (top 21)) .none kV10 dc10 pm10 an10 cd10 ct10), sl10⟩) (c10 : PySem.W.codeIn K cd10 "check_body" = true) (k10 : PySem.W.keepIn K (.ref f10) = true)
    {f11 : Addr} {od11 an11 : Option Addr} {sl11 : Array (Option Value)} {oc11 kV11 dc11 pm11 cd11 ct11 : Value} (a11 : PySem.W.nsIn K mainGlobals "holes_in" = some (some (.ref f11)))
    (l11 : K.lookup f11 = some ⟨oc11, od11, .func (PySem.W.fnOf "holes_in" "holes_in" (defArgs (top 24)) (defBody (top 24)) (defScope (top 24)) .none kV11 dc11 pm11 an11 cd11 ct11), sl11⟩) (c11 : PySem.W.codeIn K cd11 "holes_in" = true) (k11 : PySem.W.keepIn K (.ref f11) = true)
    {f12 : Addr} {od12 an12 : Option Addr} {sl12 : Array (Option Value)} {oc12 kV12 dc12 pm12 cd12 ct12 : Value} (a12 : PySem.W.nsIn K mainGlobals "is_frame" = some (some (.ref f12)))
    (l12 : K.lookup f12 = some ⟨oc12, od12, .func (PySem.W.fnOf "is_frame" "is_frame" (defArgs (top 25)) (defBody (top 25)) (defScope (top 25)) .none kV12 dc12 pm12 an12 cd12 ct12), sl12⟩) (c12 : PySem.W.codeIn K cd12 "is_frame" = true) (k12 : PySem.W.keepIn K (.ref f12) = true)
    {f13 : Addr} {od13 an13 : Option Addr} {sl13 : Array (Option Value)} {oc13 kV13 dc13 pm13 cd13 ct13 : Value} (a13 : PySem.W.nsIn K mainGlobals "put_in" = some (some (.ref f13)))
    (l13 : K.lookup f13 = some ⟨oc13, od13, .func (PySem.W.fnOf "put_in" "put_in" (defArgs (top 26)) (defBody (top 26)) (defScope (top 26)) .none kV13 dc13 pm13 an13 cd13 ct13), sl13⟩) (c13 : PySem.W.codeIn K cd13 "put_in" = true) (k13 : PySem.W.keepIn K (.ref f13) = true)
    {f14 : Addr} {od14 an14 : Option Addr} {sl14 : Array (Option Value)} {oc14 kV14 dc14 pm14 cd14 ct14 : Value} (a14 : PySem.W.nsIn K mainGlobals "filled" = some (some (.ref f14)))
    (l14 : K.lookup f14 = some ⟨oc14, od14, .func (PySem.W.fnOf "filled" "filled" (defArgs (top 27)) (defBody (top 27)) (defScope (top 27)) .none kV14 dc14 pm14 an14 cd14 ct14), sl14⟩) (c14 : PySem.W.codeIn K cd14 "filled" = true) (k14 : PySem.W.keepIn K (.ref f14) = true)
    {f15 : Addr} {od15 an15 : Option Addr} {sl15 : Array (Option Value)} {oc15 kV15 dc15 pm15 cd15 ct15 : Value} (a15 : PySem.W.nsIn K mainGlobals "_law_mixed" = some (some (.ref f15)))
    (l15 : K.lookup f15 = some ⟨oc15, od15, .func (PySem.W.fnOf "_law_mixed" "_law_mixed" (defArgs (top 29)) (defBody (top 29)) (defScope (top 29)) .none kV15 dc15 pm15 an15 cd15 ct15), sl15⟩) (c15 : PySem.W.codeIn K cd15 "_law_mixed" = true) (k15 : PySem.W.keepIn K (.ref f15) = true)
    {f16 : Addr} {od16 an16 : Option Addr} {sl16 : Array (Option Value)} {oc16 kV16 dc16 pm16 cd16 ct16 : Value} (a16 : PySem.W.nsIn K mainGlobals "_law_cell" = some (some (.ref f16)))
    (l16 : K.lookup f16 = some ⟨oc16, od16, .func (PySem.W.fnOf "_law_cell" "_law_cell" (defArgs (top 30)) (defBody (top 30)) (defScope (top 30)) .none kV16 dc16 pm16 an16 cd16 ct16), sl16⟩) (c16 : PySem.W.codeIn K cd16 "_law_cell" = true) (k16 : PySem.W.keepIn K (.ref f16) = true)
    {f17 : Addr} {od17 an17 : Option Addr} {sl17 : Array (Option Value)} {oc17 kV17 dc17 pm17 cd17 ct17 : Value} (a17 : PySem.W.nsIn K mainGlobals "_law_take" = some (some (.ref f17)))
    (l17 : K.lookup f17 = some ⟨oc17, od17, .func (PySem.W.fnOf "_law_take" "_law_take" (defArgs (top 31)) (defBody (top 31)) (defScope (top 31)) .none kV17 dc17 pm17 an17 cd17 ct17), sl17⟩) (c17 : PySem.W.codeIn K cd17 "_law_take" = true) (k17 : PySem.W.keepIn K (.ref f17) = true)
    {f18 : Addr} {od18 an18 : Option Addr} {sl18 : Array (Option Value)} {oc18 kV18 dc18 pm18 cd18 ct18 : Value} (a18 : PySem.W.nsIn K mainGlobals "_law_words" = some (some (.ref f18)))
    (l18 : K.lookup f18 = some ⟨oc18, od18, .func (PySem.W.fnOf "_law_words" "_law_words" (defArgs (top 32)) (defBody (top 32)) (defScope (top 32)) .none kV18 dc18 pm18 an18 cd18 ct18), sl18⟩) (c18 : PySem.W.codeIn K cd18 "_law_words" = true) (k18 : PySem.W.keepIn K (.ref f18) = true)
    {f19 : Addr} {od19 an19 : Option Addr} {sl19 : Array (Option Value)} {oc19 kV19 dc19 pm19 cd19 ct19 : Value} (a19 : PySem.W.nsIn K mainGlobals "_law_leaf" = some (some (.ref f19)))
    (l19 : K.lookup f19 = some ⟨oc19, od19, .func (PySem.W.fnOf "_law_leaf" "_law_leaf" (defArgs (top 33)) (defBody (top 33)) (defScope (top 33)) .none kV19 dc19 pm19 an19 cd19 ct19), sl19⟩) (c19 : PySem.W.codeIn K cd19 "_law_leaf" = true) (k19 : PySem.W.keepIn K (.ref f19) = true)
    {f20 : Addr} {od20 an20 : Option Addr} {sl20 : Array (Option Value)} {oc20 kV20 dc20 pm20 cd20 ct20 : Value} (a20 : PySem.W.nsIn K mainGlobals "_law_body" = some (some (.ref f20)))
    (l20 : K.lookup f20 = some ⟨oc20, od20, .func (PySem.W.fnOf "_law_body" "_law_body" (defArgs (top 34)) (defBody (top 34)) (defScope (top 34)) .none kV20 dc20 pm20 an20 cd20 ct20), sl20⟩) (c20 : PySem.W.codeIn K cd20 "_law_body" = true) (k20 : PySem.W.keepIn K (.ref f20) = true)
    {f21 : Addr} {od21 an21 : Option Addr} {sl21 : Array (Option Value)} {oc21 kV21 dc21 pm21 cd21 ct21 : Value} (a21 : PySem.W.nsIn K mainGlobals "_law_frame" = some (some (.ref f21)))
    (l21 : K.lookup f21 = some ⟨oc21, od21, .func (PySem.W.fnOf "_law_frame" "_law_frame" (defArgs (top 35)) (defBody (top 35)) (defScope (top 35)) .none kV21 dc21 pm21 an21 cd21 ct21), sl21⟩) (c21 : PySem.W.codeIn K cd21 "_law_frame" = true) (k21 : PySem.W.keepIn K (.ref f21) = true)
    {f22 : Addr} {od22 an22 : Option Addr} {sl22 : Array (Option Value)} {oc22 kV22 dc22 pm22 cd22 ct22 : Value} (a22 : PySem.W.nsIn K mainGlobals "_law_filled" = some (some (.ref f22)))
    (l22 : K.lookup f22 = some ⟨oc22, od22, .func (PySem.W.fnOf "_law_filled" "_law_filled" (defArgs (top 36)) (defBody (top 36)) (defScope (top 36)) .none kV22 dc22 pm22 an22 cd22 ct22), sl22⟩) (c22 : PySem.W.codeIn K cd22 "_law_filled" = true) (k22 : PySem.W.keepIn K (.ref f22) = true)
    {f23 : Addr} {od23 an23 : Option Addr} {sl23 : Array (Option Value)} {oc23 kV23 dc23 pm23 cd23 ct23 : Value} (a23 : PySem.W.nsIn K mainGlobals "_law_parts" = some (some (.ref f23)))
    (l23 : K.lookup f23 = some ⟨oc23, od23, .func (PySem.W.fnOf "_law_parts" "_law_parts" (defArgs (top 37)) (defBody (top 37)) (defScope (top 37)) .none kV23 dc23 pm23 an23 cd23 ct23), sl23⟩) (c23 : PySem.W.codeIn K cd23 "_law_parts" = true) (k23 : PySem.W.keepIn K (.ref f23) = true)
    {f24 : Addr} {od24 an24 : Option Addr} {sl24 : Array (Option Value)} {oc24 kV24 dc24 pm24 cd24 ct24 : Value} (a24 : PySem.W.nsIn K mainGlobals "_law_swapped" = some (some (.ref f24)))
    (l24 : K.lookup f24 = some ⟨oc24, od24, .func (PySem.W.fnOf "_law_swapped" "_law_swapped" (defArgs (top 38)) (defBody (top 38)) (defScope (top 38)) .none kV24 dc24 pm24 an24 cd24 ct24), sl24⟩) (c24 : PySem.W.codeIn K cd24 "_law_swapped" = true) (k24 : PySem.W.keepIn K (.ref f24) = true)
    {f25 : Addr} {od25 an25 : Option Addr} {sl25 : Array (Option Value)} {oc25 kV25 dc25 pm25 cd25 ct25 : Value} (a25 : PySem.W.nsIn K mainGlobals "_law_good" = some (some (.ref f25)))
    (l25 : K.lookup f25 = some ⟨oc25, od25, .func (PySem.W.fnOf "_law_good" "_law_good" (defArgs (top 39)) (defBody (top 39)) (defScope (top 39)) .none kV25 dc25 pm25 an25 cd25 ct25), sl25⟩) (c25 : PySem.W.codeIn K cd25 "_law_good" = true) (k25 : PySem.W.keepIn K (.ref f25) = true)
    {f26 : Addr} {od26 an26 : Option Addr} {sl26 : Array (Option Value)} {oc26 kV26 dc26 pm26 cd26 ct26 : Value} (a26 : PySem.W.nsIn K mainGlobals "_law_fill_good" = some (some (.ref f26)))
    (l26 : K.lookup f26 = some ⟨oc26, od26, .func (PySem.W.fnOf "_law_fill_good" "_law_fill_good" (defArgs (top 40)) (defBody (top 40)) (defScope (top 40)) .none kV26 dc26 pm26 an26 cd26 ct26), sl26⟩) (c26 : PySem.W.codeIn K cd26 "_law_fill_good" = true) (k26 : PySem.W.keepIn K (.ref f26) = true)
    {f27 : Addr} {od27 an27 : Option Addr} {sl27 : Array (Option Value)} {oc27 kV27 dc27 pm27 cd27 ct27 : Value} (a27 : PySem.W.nsIn K mainGlobals "_law_bent" = some (some (.ref f27)))
    (l27 : K.lookup f27 = some ⟨oc27, od27, .func (PySem.W.fnOf "_law_bent" "_law_bent" (defArgs (top 41)) (defBody (top 41)) (defScope (top 41)) .none kV27 dc27 pm27 an27 cd27 ct27), sl27⟩) (c27 : PySem.W.codeIn K cd27 "_law_bent" = true) (k27 : PySem.W.keepIn K (.ref f27) = true)
    {f28 : Addr} {od28 an28 : Option Addr} {sl28 : Array (Option Value)} {oc28 kV28 dc28 pm28 cd28 ct28 : Value} (a28 : PySem.W.nsIn K mainGlobals "_law_fixed_good" = some (some (.ref f28)))
    (l28 : K.lookup f28 = some ⟨oc28, od28, .func (PySem.W.fnOf "_law_fixed_good" "_law_fixed_good" (defArgs (top 42)) (defBody (top 42)) (defScope (top 42)) .none kV28 dc28 pm28 an28 cd28 ct28), sl28⟩) (c28 : PySem.W.codeIn K cd28 "_law_fixed_good" = true) (k28 : PySem.W.keepIn K (.ref f28) = true)
    {f29 : Addr} {od29 an29 : Option Addr} {sl29 : Array (Option Value)} {oc29 kV29 dc29 pm29 cd29 ct29 : Value} (a29 : PySem.W.nsIn K mainGlobals "law" = some (some (.ref f29)))
    (l29 : K.lookup f29 = some ⟨oc29, od29, .func (PySem.W.fnOf "law" "law" (defArgs (top 43)) (defBody (top 43)) (defScope (top 43)) .none kV29 dc29 pm29 an29 cd29 ct29), sl29⟩) (c29 : PySem.W.codeIn K cd29 "law" = true) (k29 : PySem.W.keepIn K (.ref f29) = true)
    (z_all : PySem.W.nsIn K mainGlobals "all" = some none)
    (z_bool : PySem.W.nsIn K mainGlobals "bool" = some none)
    (z_int : PySem.W.nsIn K mainGlobals "int" = some none)
    (z_isinstance : PySem.W.nsIn K mainGlobals "isinstance" = some none)
    (z_len : PySem.W.nsIn K mainGlobals "len" = some none)
    (z_list : PySem.W.nsIn K mainGlobals "list" = some none)
    (z_max : PySem.W.nsIn K mainGlobals "max" = some none)
    (z_min : PySem.W.nsIn K mainGlobals "min" = some none)
    (z_range : PySem.W.nsIn K mainGlobals "range" = some none)
    (z_set : PySem.W.nsIn K mainGlobals "set" = some none)
    (z_sorted : PySem.W.nsIn K mainGlobals "sorted" = some none)
    (z_str : PySem.W.nsIn K mainGlobals "str" = some none)
    (z_sum : PySem.W.nsIn K mainGlobals "sum" = some none)
    (z_tuple : PySem.W.nsIn K mainGlobals "tuple" = some none)
    {t_DEEPEST : Tok} (g_DEEPEST : PySem.W.nsIn K mainGlobals "DEEPEST" = some (some (.int 40 t_DEEPEST)))
    {a_HOLE : Addr} {d_HOLE : Option Addr} {n_HOLE : Nat} {sl_HOLE : Array (Option Value)} {t0_HOLE : Tok} (g_HOLE : PySem.W.nsIn K mainGlobals "HOLE" = some (some (.ref a_HOLE))) (gl_HOLE : K.lookup a_HOLE = some ⟨.type "tuple", d_HOLE, .seq #[.str "hole" t0_HOLE] n_HOLE, sl_HOLE⟩)
    {t_LETTERS : Tok} (g_LETTERS : PySem.W.nsIn K mainGlobals "LETTERS" = some (some (.str "abcdefghijklmnopqrstuvwxyz" t_LETTERS)))
    {t_LONGEST : Tok} (g_LONGEST : PySem.W.nsIn K mainGlobals "LONGEST" = some (some (.int 8 t_LONGEST)))
    {t_MOST_ACTIONS : Tok} (g_MOST_ACTIONS : PySem.W.nsIn K mainGlobals "MOST_ACTIONS" = some (some (.int 6 t_MOST_ACTIONS)))
    {t_MOST_LOCKS : Tok} (g_MOST_LOCKS : PySem.W.nsIn K mainGlobals "MOST_LOCKS" = some (some (.int 5 t_MOST_LOCKS)))
    {t_MOST_PARTS : Tok} (g_MOST_PARTS : PySem.W.nsIn K mainGlobals "MOST_PARTS" = some (some (.int 60 t_MOST_PARTS)))
    {C_InvalidFrame : Addr} (e1_InvalidFrame : PySem.W.nsIn K mainGlobals "InvalidFrame" = some (some (.ref C_InvalidFrame))) (e2_InvalidFrame : PySem.W.excIn K C_InvalidFrame [.type "ValueError", .type "Exception", .type "BaseException", .type "object"] "ValueError.__new__" = true) (e3_InvalidFrame : PySem.W.keepIn K (.ref C_InvalidFrame) = true)
    (e4_InvalidFrame : PySem.W.subIn K (.ref C_InvalidFrame) (.type "BaseException") = some true) (e5_InvalidFrame : PySem.W.isClsIn K C_InvalidFrame = true) (e6_InvalidFrame : PySem.W.typeIn K (.ref C_InvalidFrame) = some (.type "type")) (e7_InvalidFrame : PySem.W.subIn K (.ref C_InvalidFrame) (.ref C_InvalidFrame) = some true)
    {C_TooLarge : Addr} (e1_TooLarge : PySem.W.nsIn K mainGlobals "TooLarge" = some (some (.ref C_TooLarge))) (e2_TooLarge : PySem.W.excIn K C_TooLarge [.type "ValueError", .type "Exception", .type "BaseException", .type "object"] "ValueError.__new__" = true) (e3_TooLarge : PySem.W.keepIn K (.ref C_TooLarge) = true)
    (e4_TooLarge : PySem.W.subIn K (.ref C_TooLarge) (.type "BaseException") = some true) (e5_TooLarge : PySem.W.isClsIn K C_TooLarge = true) (e6_TooLarge : PySem.W.typeIn K (.ref C_TooLarge) = some (.type "type")) (e7_TooLarge : PySem.W.subIn K (.ref C_TooLarge) (.ref C_TooLarge) = some true) : Tops K mg :=
  ⟨Here.mk_ X G a1 l1 c1 k1, Here.mk_ X G a2 l2 c2 k2, Here.mk_ X G a3 l3 c3 k3, Here.mk_ X G a4 l4 c4 k4, Here.mk_ X G a5 l5 c5 k5, Here.mk_ X G a6 l6 c6 k6, Here.mk_ X G a7 l7 c7 k7, Here.mk_ X G a8 l8 c8 k8, Here.mk_ X G a9 l9 c9 k9, Here.mk_ X G a10 l10 c10 k10, Here.mk_ X G a11 l11 c11 k11, Here.mk_ X G a12 l12 c12 k12, Here.mk_ X G a13 l13 c13 k13, Here.mk_ X G a14 l14 c14 k14, Here.mk_ X G a15 l15 c15 k15, Here.mk_ X G a16 l16 c16 k16, Here.mk_ X G a17 l17 c17 k17, Here.mk_ X G a18 l18 c18 k18, Here.mk_ X G a19 l19 c19 k19, Here.mk_ X G a20 l20 c20 k20, Here.mk_ X G a21 l21 c21 k21, Here.mk_ X G a22 l22 c22 k22, Here.mk_ X G a23 l23 c23 k23, Here.mk_ X G a24 l24 c24 k24, Here.mk_ X G a25 l25 c25 k25, Here.mk_ X G a26 l26 c26 k26, Here.mk_ X G a27 l27 c27 k27, Here.mk_ X G a28 l28 c28 k28, Here.mk_ X G a29 l29 c29 k29, PySem.W.mg_none_of X G z_all, PySem.W.mg_none_of X G z_bool, PySem.W.mg_none_of X G z_int, PySem.W.mg_none_of X G z_isinstance, PySem.W.mg_none_of X G z_len, PySem.W.mg_none_of X G z_list, PySem.W.mg_none_of X G z_max, PySem.W.mg_none_of X G z_min, PySem.W.mg_none_of X G z_range, PySem.W.mg_none_of X G z_set, PySem.W.mg_none_of X G z_sorted, PySem.W.mg_none_of X G z_str, PySem.W.mg_none_of X G z_sum, PySem.W.mg_none_of X G z_tuple, ⟨_, PySem.W.mg_of X G g_DEEPEST⟩, ⟨_, _, _, _, PySem.W.mg_of X G g_HOLE, gl_HOLE, rfl, rfl, Nat.le_of_ble_eq_true rfl, (.cons ⟨_, rfl⟩ .nil)⟩, ⟨_, PySem.W.mg_of X G g_LETTERS⟩, ⟨_, PySem.W.mg_of X G g_LONGEST⟩, ⟨_, PySem.W.mg_of X G g_MOST_ACTIONS⟩, ⟨_, PySem.W.mg_of X G g_MOST_LOCKS⟩, ⟨_, PySem.W.mg_of X G g_MOST_PARTS⟩, ClsF.mk_ X G e1_InvalidFrame e2_InvalidFrame e3_InvalidFrame e4_InvalidFrame e5_InvalidFrame e6_InvalidFrame e7_InvalidFrame, ClsF.mk_ X G e1_TooLarge e2_TooLarge e3_TooLarge e4_TooLarge e5_TooLarge e6_TooLarge e7_TooLarge⟩
theorem walk_law {l : PySem.W.OpenLaw} {q : Program} {loose : List Str} {XP : (Str → Option Value) → Heap → Prop} {YP : World → Heap → Prop} {d : DefRec} {K : Params → PySem.W.Frag} (hn : l.most = some 63) (hdf : d.params.defaults = []) (hd : d.name = "law") (hY : ∀ (w : World) (h : Heap), YP w h → (K w.params).In h)
    (F : ∀ (w : World) (mg : Str → Option Value) (h : Heap), (K w.params).In h → h.Ns mainGlobals mg → Tops (K w.params) mg)
    (hfn : ∀ ns : List Int, ns.length ≤ 63 → (∀ z ∈ ns, Builtin.Int.intBits z ≤ 1048576) → F_law [.list (ns.map PyData.int)] = some ((.bool true, false), [])) : PySem.W.WalkO q loose XP YP l.row.toRowW d [] (fun f vs => PySem.call f vs) :=
  walk_ofG (n := 63) (k := 93) (x := "_law_script") hn (by decide) hdf ⟨rfl, by decide, by decide⟩ hY (fun w mg h KX G base _ _ => by rw [hd]; exact c_law (F w mg h KX G)) hfn
end Pv.K62
open PySem PySem.W PyProof.Rows
set_option maxRecDepth 100000 in
set_option maxHeartbeats 0 in
theorem PySem.Challenge.cw_nestedholds_k62_frames_are_recognized_holds : PySem.Challenge.rw_nestedholds_k62_frames_are_recognized.Holds := by
  w_on; o_law; k_head; (case hw => w_witness2)
  k_fill
  refine Pv.K62.walk_law (l := PySem.Challenge.rw_nestedholds_k62_frames_are_recognized) rfl rfl rfl (fun w h Y => PySem.W.kIn_of Y) ?F Pv.K62.plain_law
  case F =>
    intro w mg h KX G
    refine' Pv.K62.tops KX G ?a1 ?l1 ?c1 ?k1 ?a2 ?l2 ?c2 ?k2 ?a3 ?l3 ?c3 ?k3 ?a4 ?l4 ?c4 ?k4 ?a5 ?l5 ?c5 ?k5 ?a6 ?l6 ?c6 ?k6 ?a7 ?l7 ?c7 ?k7 ?a8 ?l8 ?c8 ?k8 ?a9 ?l9 ?c9 ?k9 ?a10 ?l10 ?c10 ?k10 ?a11 ?l11 ?c11 ?k11 ?a12 ?l12 ?c12 ?k12 ?a13 ?l13 ?c13 ?k13 ?a14 ?l14 ?c14 ?k14 ?a15 ?l15 ?c15 ?k15 ?a16 ?l16 ?c16 ?k16 ?a17 ?l17 ?c17 ?k17 ?a18 ?l18 ?c18 ?k18 ?a19 ?l19 ?c19 ?k19 ?a20 ?l20 ?c20 ?k20 ?a21 ?l21 ?c21 ?k21 ?a22 ?l22 ?c22 ?k22 ?a23 ?l23 ?c23 ?k23 ?a24 ?l24 ?c24 ?k24 ?a25 ?l25 ?c25 ?k25 ?a26 ?l26 ?c26 ?k26 ?a27 ?l27 ?c27 ?k27 ?a28 ?l28 ?c28 ?k28 ?a29 ?l29 ?c29 ?k29 ?z_all ?z_bool ?z_int ?z_isinstance ?z_len ?z_list ?z_max ?z_min ?z_range ?z_set ?z_sorted ?z_str ?z_sum ?z_tuple ?g_DEEPEST ?g_HOLE ?gl_HOLE ?g_LETTERS ?g_LONGEST ?g_MOST_ACTIONS ?g_MOST_LOCKS ?g_MOST_PARTS ?e1_InvalidFrame ?e2_InvalidFrame ?e3_InvalidFrame ?e4_InvalidFrame ?e5_InvalidFrame ?e6_InvalidFrame ?e7_InvalidFrame ?e1_TooLarge ?e2_TooLarge ?e3_TooLarge ?e4_TooLarge ?e5_TooLarge ?e6_TooLarge ?e7_TooLarge
    (case a1 => k_is)
    (case l1 => k_is)
    (case c1 => k_is)
    (case k1 => k_is)
    (case a2 => k_is)
    (case l2 => k_is)
    (case c2 => k_is)
    (case k2 => k_is)
    (case a3 => k_is)
    (case l3 => k_is)
    (case c3 => k_is)
    (case k3 => k_is)
    (case a4 => k_is)
    (case l4 => k_is)
    (case c4 => k_is)
    (case k4 => k_is)
    (case a5 => k_is)
    (case l5 => k_is)
    (case c5 => k_is)
    (case k5 => k_is)
    (case a6 => k_is)
    (case l6 => k_is)
    (case c6 => k_is)
    (case k6 => k_is)
    (case a7 => k_is)
    (case l7 => k_is)
    (case c7 => k_is)
    (case k7 => k_is)
    (case a8 => k_is)
    (case l8 => k_is)
    (case c8 => k_is)
    (case k8 => k_is)
    (case a9 => k_is)
    (case l9 => k_is)
    (case c9 => k_is)
    (case k9 => k_is)
    (case a10 => k_is)
    (case l10 => k_is)
    (case c10 => k_is)
    (case k10 => k_is)
    (case a11 => k_is)
    (case l11 => k_is)
    (case c11 => k_is)
    (case k11 => k_is)
    (case a12 => k_is)
    (case l12 => k_is)
    (case c12 => k_is)
    (case k12 => k_is)
    (case a13 => k_is)
    (case l13 => k_is)
    (case c13 => k_is)
    (case k13 => k_is)
    (case a14 => k_is)
    (case l14 => k_is)
    (case c14 => k_is)
    (case k14 => k_is)
    (case a15 => k_is)
    (case l15 => k_is)
    (case c15 => k_is)
    (case k15 => k_is)
    (case a16 => k_is)
    (case l16 => k_is)
    (case c16 => k_is)
    (case k16 => k_is)
    (case a17 => k_is)
    (case l17 => k_is)
    (case c17 => k_is)
    (case k17 => k_is)
    (case a18 => k_is)
    (case l18 => k_is)
    (case c18 => k_is)
    (case k18 => k_is)
    (case a19 => k_is)
    (case l19 => k_is)
    (case c19 => k_is)
    (case k19 => k_is)
    (case a20 => k_is)
    (case l20 => k_is)
    (case c20 => k_is)
    (case k20 => k_is)
    (case a21 => k_is)
    (case l21 => k_is)
    (case c21 => k_is)
    (case k21 => k_is)
    (case a22 => k_is)
    (case l22 => k_is)
    (case c22 => k_is)
    (case k22 => k_is)
    (case a23 => k_is)
    (case l23 => k_is)
    (case c23 => k_is)
    (case k23 => k_is)
    (case a24 => k_is)
    (case l24 => k_is)
    (case c24 => k_is)
    (case k24 => k_is)
    (case a25 => k_is)
    (case l25 => k_is)
    (case c25 => k_is)
    (case k25 => k_is)
    (case a26 => k_is)
    (case l26 => k_is)
    (case c26 => k_is)
    (case k26 => k_is)
    (case a27 => k_is)
    (case l27 => k_is)
    (case c27 => k_is)
    (case k27 => k_is)
    (case a28 => k_is)
    (case l28 => k_is)
    (case c28 => k_is)
    (case k28 => k_is)
    (case a29 => k_is)
    (case l29 => k_is)
    (case c29 => k_is)
    (case k29 => k_is)
    (case z_all => k_is)
    (case z_bool => k_is)
    (case z_int => k_is)
    (case z_isinstance => k_is)
    (case z_len => k_is)
    (case z_list => k_is)
    (case z_max => k_is)
    (case z_min => k_is)
    (case z_range => k_is)
    (case z_set => k_is)
    (case z_sorted => k_is)
    (case z_str => k_is)
    (case z_sum => k_is)
    (case z_tuple => k_is)
    (case g_DEEPEST => k_is)
    (case g_HOLE => k_is)
    (case gl_HOLE => k_is)
    (case g_LETTERS => k_is)
    (case g_LONGEST => k_is)
    (case g_MOST_ACTIONS => k_is)
    (case g_MOST_LOCKS => k_is)
    (case g_MOST_PARTS => k_is)
    (case e1_InvalidFrame => k_is)
    (case e2_InvalidFrame => k_exc)
    (case e3_InvalidFrame => k_is)
    (case e4_InvalidFrame => k_is)
    (case e5_InvalidFrame => k_is)
    (case e6_InvalidFrame => k_is)
    (case e7_InvalidFrame => first | rfl | k_is)
    (case e1_TooLarge => k_is)
    (case e2_TooLarge => k_exc)
    (case e3_TooLarge => k_is)
    (case e4_TooLarge => k_is)
    (case e5_TooLarge => k_is)
    (case e6_TooLarge => k_is)
    (case e7_TooLarge => first | rfl | k_is)
end
